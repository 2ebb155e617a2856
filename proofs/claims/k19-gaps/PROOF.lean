import PyProof.Rows.All
import Wide.All
import OpenK.AllK
import Wide.FinOn
import HandS.ForMost
import HandS.ForExc
import HandS.IsInst
import HandS.Wide
import HandS.Evl
import HandS.Flow
import HandS.More
import HandS.Style
import HandS.Deep
import HandS.TupAny
import HandS.HotCalls
import HandS.ExcIs
import HandS.Set
import HandS.Strs
import HandS.Zip
import PyProof.Rows.SortShellSt
import HandS.SortInts
import HandS.SortRule
import HandS.SortKw
import HandS.EndBits
import PySem.Challenge.RW_latchtown_k19_gaps_between_pages
set_option Elab.async false
set_option linter.all false
set_option maxRecDepth 100000
set_option maxHeartbeats 4000000
namespace LK
open PySem L2 Evl PyProof.Rows
/-! # data: what a value is worth, its lists tracked -/
mutual
inductive Da (K : PySem.W.Frag) (H : Hp) : V → PyData → Prop
  | non : Da K H .non .none
  | bl (b : Bool) : Da K H (.bl b) (.bool b)
  | int (i : Int) : Da K H (.int i) (.int i)
  | str (x : Str) : Da K H (.str x) (.str x)
  | lst {a : Addr} {xs : List V} {ds : List PyData} (h : H a = some (.lst xs)) (r : DaL K H xs ds) : Da K H (.ref a) (.list ds)
  | tup {a : Addr} {xs : List V} {ds : List PyData} (h : SqT K H a xs) (r : DaL K H xs ds) : Da K H (.ref a) (.tuple ds)
inductive DaL (K : PySem.W.Frag) (H : Hp) : List V → List PyData → Prop
  | nil : DaL K H [] []
  | cons {v : V} {d : PyData} {vs : List V} {ds : List PyData} (h : Da K H v d) (r : DaL K H vs ds) : DaL K H (v :: vs) (d :: ds)
end
section
variable {K : PySem.W.Frag} {H H' : Hp}
mutual
theorem Da.mono (e : Ex H H') : ∀ {v : V} {d : PyData}, Da K H v d → Da K H' v d
  | _, _, .non => .non
  | _, _, .bl b => .bl b
  | _, _, .int i => .int i
  | _, _, .str x => .str x
  | _, _, .lst h r => .lst (e _ _ h) (DaL.mono e r)
  | _, _, .tup h r => .tup (ex_t e h) (DaL.mono e r)
theorem DaL.mono (e : Ex H H') : ∀ {vs : List V} {ds : List PyData}, DaL K H vs ds → DaL K H' vs ds
  | _, _, .nil => .nil
  | _, _, .cons h r => .cons (Da.mono e h) (DaL.mono e r)
end
mutual
theorem Da.dp : ∀ {v : V} {d : PyData}, Da K H v d → Dp K H v d
  | _, _, .non => .non
  | _, _, .bl b => .bl b
  | _, _, .int i => .int i
  | _, _, .str x => .str x
  | _, _, .lst h r => .lst (SqL.of h) (DaL.dp r)
  | _, _, .tup h r => .tup h (DaL.dp r)
theorem DaL.dp : ∀ {vs : List V} {ds : List PyData}, DaL K H vs ds → DpAll K H vs ds
  | _, _, .nil => .nil
  | _, _, .cons h r => .cons (Da.dp h) (DaL.dp r)
end
theorem Da.int_eq {v : V} {i : Int} (h : Da K H v (.int i)) : v = .int i := by cases h; rfl
theorem Da.bl_eq {v : V} {b : Bool} (h : Da K H v (.bool b)) : v = .bl b := by cases h; rfl
theorem Da.str_eq {v : V} {x : Str} (h : Da K H v (.str x)) : v = .str x := by cases h; rfl
theorem Da.non_eq {v : V} (h : Da K H v .none) : v = .non := by cases h; rfl
theorem DaL.len : ∀ {vs : List V} {ds : List PyData}, DaL K H vs ds → vs.length = ds.length
  | _, _, .nil => rfl
  | _, _, .cons _ r => congrArg (· + 1) (DaL.len r)
theorem DaL.get : ∀ {vs : List V} {ds : List PyData} {i : Nat} {d : PyData}, DaL K H vs ds → ds[i]? = some d → ∃ v, vs[i]? = some v ∧ Da K H v d
  | _, _, _, _, .nil, e => by simp at e
  | _, _, 0, _, .cons h _, e => ⟨_, rfl, by have q := Option.some.inj e; rw [← q]; exact h⟩
  | _, _, i + 1, d, .cons _ r, e => DaL.get (i := i) (d := d) r e
theorem DaL.getV : ∀ {vs : List V} {ds : List PyData} {i : Nat} {v : V}, DaL K H vs ds → vs[i]? = some v → ∃ d, ds[i]? = some d ∧ Da K H v d
  | _, _, _, _, .nil, e => by simp at e
  | _, _, 0, _, .cons h _, e => ⟨_, rfl, by have q := Option.some.inj e; rw [← q]; exact h⟩
  | _, _, i + 1, v, .cons _ r, e => DaL.getV (i := i) (v := v) r e
theorem DaL.app : ∀ {vs ws : List V} {ds es : List PyData}, DaL K H vs ds → DaL K H ws es → DaL K H (vs ++ ws) (ds ++ es)
  | _, _, _, _, .nil, q => q
  | _, _, _, _, .cons h r, q => .cons h (DaL.app r q)
theorem DaL.take : ∀ {vs : List V} {ds : List PyData} (n : Nat), DaL K H vs ds → DaL K H (vs.take n) (ds.take n)
  | _, _, 0, _ => .nil
  | _, _, _ + 1, .nil => .nil
  | _, _, n + 1, .cons h r => .cons h (DaL.take n r)
theorem DaL.drop : ∀ {vs : List V} {ds : List PyData} (n : Nat), DaL K H vs ds → DaL K H (vs.drop n) (ds.drop n)
  | _, _, 0, r => r
  | _, _, _ + 1, .nil => .nil
  | _, _, n + 1, .cons _ r => DaL.drop n r
theorem DaL.one {v : V} {d : PyData} (h : Da K H v d) : DaL K H [v] [d] := .cons h .nil
theorem DaL.strs : ∀ {vs : List V} {ss : List Str}, DaL K H vs (ss.map .str) → vs = ss.map V.str
  | _, [], h => by cases h; rfl
  | _, s :: r, h => by
    cases h with
    | cons a b => rw [a.str_eq, DaL.strs b]; rfl
theorem DaL.ints : ∀ {vs : List V} {ss : List Int}, DaL K H vs (ss.map .int) → vs = ss.map V.int
  | _, [], h => by cases h; rfl
  | _, s :: r, h => by
    cases h with
    | cons a b => rw [a.int_eq, DaL.ints b]; rfl
theorem DaL.bools : ∀ {vs : List V} {ss : List Bool}, DaL K H vs (ss.map .bool) → vs = ss.map V.bl
  | _, [], h => by cases h; rfl
  | _, s :: r, h => by
    cases h with
    | cons a b => rw [a.bl_eq, DaL.bools b]; rfl
theorem DaL.ofStrs : ∀ (ss : List Str), DaL K H (ss.map V.str) (ss.map .str)
  | [] => .nil
  | _ :: r => .cons (.str _) (DaL.ofStrs r)
theorem DaL.ofInts : ∀ (ss : List Int), DaL K H (ss.map V.int) (ss.map .int)
  | [] => .nil
  | _ :: r => .cons (.int _) (DaL.ofInts r)
theorem DaL.ofBools : ∀ (ss : List Bool), DaL K H (ss.map V.bl) (ss.map .bool)
  | [] => .nil
  | _ :: r => .cons (.bl _) (DaL.ofBools r)
end
/-! # what grows: G the settled part, H all that is tracked, ms what may be written -/
structure Grow (ms : List Addr) (G H G' H' : Hp) : Prop where
  gg : Ex G G'
  gh : Ex G' H'
  fr : ∀ a o, H a = some o → a ∉ ms → H' a = some o
  fg : ∀ a, H a ≠ none → G a = none → G' a = none
  dm : ∀ a, H a ≠ none → H' a ≠ none
theorem ex_dom {H H' : Hp} (e : Ex H H') : ∀ a, H a ≠ none → H' a ≠ none := fun a h => by
  cases q : H a with
  | none => exact absurd q h
  | some o => rw [e a o q]; exact fun z => nomatch z
theorem Grow.refl {G H : Hp} (e : Ex G H) : Grow [] G H G H := ⟨Ex.refl G, e, fun _ _ h _ => h, fun _ _ h => h, fun _ h => h⟩
theorem Grow.of_ex {G H H' : Hp} (e : Ex G H) (x : Ex H H') : Grow [] G H G H' := ⟨Ex.refl G, e.trans x, fun a o h _ => x a o h, fun _ _ h => h, ex_dom x⟩
theorem Grow.hh {G H G' H' : Hp} (g : Grow [] G H G' H') : Ex H H' := fun a o h => g.fr a o h (by simp)
theorem Grow.trans {ms : List Addr} {G H G1 H1 G2 H2 : Hp} (a : Grow ms G H G1 H1) (b : Grow ms G1 H1 G2 H2) : Grow ms G H G2 H2 :=
  ⟨a.gg.trans b.gg, b.gh, fun x o h n => b.fr x o (a.fr x o h n) n, fun x h n => b.fg x (a.dm x h) (a.fg x h n), fun x h => b.dm x (a.dm x h)⟩
theorem Grow.mono {ms ns : List Addr} {G H G1 H1 : Hp} (a : Grow ms G H G1 H1) (h : ∀ x ∈ ms, x ∈ ns) : Grow ns G H G1 H1 :=
  ⟨a.gg, a.gh, fun x o q n => a.fr x o q fun z => n (h x z), a.fg, a.dm⟩
theorem Grow.up {ms : List Addr} {G H G1 H1 : Hp} (a : Grow [] G H G1 H1) : Grow ms G H G1 H1 := a.mono fun _ h => nomatch h
/-- a new settled object -/
theorem ex_both {G H : Hp} {p : Addr} {o : HO} (e : Ex G H) : Ex (upd G p o) (upd H p o) := fun a u h => by
  by_cases q : a = p
  · subst q; rw [upd_same] at h ⊢; exact h
  · rw [upd_ne q] at h ⊢; exact e a u h
theorem Grow.new {G H : Hp} {p : Addr} {o : HO} (e : Ex G H) (n : H p = none) : Grow [] G H (upd G p o) (upd H p o) :=
  ⟨Ex.new (fresh_back e n), ex_both e, fun a u h _ => by rw [upd_ne (ne_of_none h n)]; exact h,
    fun a h g => by
      have : a ≠ p := fun z => h (by rw [z]; exact n)
      rw [upd_ne this]; exact g,
    ex_dom (Ex.new n)⟩
/-! # evaluating to data -/
def EvD (K : PySem.W.Frag) (te : TE) (σ : L2.St) (G : Hp) (d : PyData) : Prop :=
  ∀ G1 H, Ex G G1 → Ex G1 H → ∀ Q : VK, (∀ v G' H', Grow [] G1 H G' H' → Da K G' v d → Q v H') → te σ H Q
def EvT (tt : TT) (σ : L2.St) (G : Hp) (b : Bool) : Prop :=
  ∀ H, Ex G H → ∀ Q : Bool → Hp → Prop, (∀ H', Ex H H' → Q b H') → tt σ H Q
def EvA (K : PySem.W.Frag) (ta : TA) (σ : L2.St) (G : Hp) (ds : List PyData) : Prop :=
  ∀ G1 H, Ex G G1 → Ex G1 H → ∀ Q : List V → Hp → Prop, (∀ vs G' H', Grow [] G1 H G' H' → DaL K G' vs ds → Q vs H') → ta σ H Q
/-- an operation on two values, on one, on a list of them, by data -/
def RD2 (K : PySem.W.Frag) (r : R2) (G : Hp) (a b d : PyData) : Prop :=
  ∀ G1 H, Ex G G1 → Ex G1 H → ∀ x y, Da K G1 x a → Da K G1 y b → ∀ Q : VK, (∀ v G' H', Grow [] G1 H G' H' → Da K G' v d → Q v H') → r x y H Q
def RD1 (K : PySem.W.Frag) (r : V → Hp → VK → Prop) (G : Hp) (a d : PyData) : Prop :=
  ∀ G1 H, Ex G G1 → Ex G1 H → ∀ x, Da K G1 x a → ∀ Q : VK, (∀ v G' H', Grow [] G1 H G' H' → Da K G' v d → Q v H') → r x H Q
def RDA (K : PySem.W.Frag) (r : List V → Hp → VK → Prop) (G : Hp) (as : List PyData) (d : PyData) : Prop :=
  ∀ G1 H, Ex G G1 → Ex G1 H → ∀ xs, DaL K G1 xs as → ∀ Q : VK, (∀ v G' H', Grow [] G1 H G' H' → Da K G' v d → Q v H') → r xs H Q
section
variable {K : PySem.W.Frag} {σ : L2.St} {G G' : Hp} {te ta tb : TE} {tt tu : TT} {a b d : PyData} {ds : List PyData} {r : R2}
theorem EvD.mono (e : Ex G G') (h : EvD K te σ G d) : EvD K te σ G' d := fun G1 H x y Q q => h G1 H (e.trans x) y Q q
theorem EvA.mono {ta : TA} (e : Ex G G') (h : EvA K ta σ G ds) : EvA K ta σ G' ds := fun G1 H x y Q q => h G1 H (e.trans x) y Q q
theorem EvT.mono {b : Bool} (e : Ex G G') (h : EvT tt σ G b) : EvT tt σ G' b := fun H x Q q => h H (e.trans x) Q q
theorem RD2.mono (e : Ex G G') (h : RD2 K r G a b d) : RD2 K r G' a b d := fun G1 H x y => h G1 H (e.trans x) y
theorem ev_var {i : Nat} {v : V} (h : σ[i]? = some (some v)) (hd : Da K G v d) : EvD K (tVar i) σ G d := fun G1 H x y Q q => ⟨v, h, q v G1 H (Grow.refl y) (hd.mono x)⟩
theorem ev_int {i : Int} : EvD K (tC (.int i)) σ G (.int i) := fun G1 H x y Q q => q _ G1 H (Grow.refl y) (.int i)
theorem ev_bl {i : Bool} : EvD K (tC (.bl i)) σ G (.bool i) := fun G1 H x y Q q => q _ G1 H (Grow.refl y) (.bl i)
theorem ev_str {i : Str} : EvD K (tC (.str i)) σ G (.str i) := fun G1 H x y Q q => q _ G1 H (Grow.refl y) (.str i)
theorem ev_non : EvD K (tC .non) σ G .none := fun G1 H x y Q q => q _ G1 H (Grow.refl y) .non
theorem ev_is {d' : PyData} (h : EvD K te σ G d) (e : d = d') : EvD K te σ G d' := e ▸ h
theorem et_is {b b' : Bool} (h : EvT tt σ G b) (e : b = b') : EvT tt σ G b' := e ▸ h
theorem ev_op (ha : EvD K ta σ G a) (hb : EvD K tb σ G b) (hr : RD2 K r G a b d) : EvD K (tOp r ta tb) σ G d := fun G1 H x y Q q =>
  ha G1 H x y _ fun v1 G2 H2 g2 d2 => hb G2 H2 (x.trans g2.gg) g2.gh _ fun v2 G3 H3 g3 d3 =>
    hr G3 H3 ((x.trans g2.gg).trans g3.gg) g3.gh v1 v2 (d2.mono g3.gg) d3 Q fun v G4 H4 g4 d4 => q v G4 H4 ((g2.trans g3).trans g4) d4
theorem ev_un {r : V → Hp → VK → Prop} (ha : EvD K ta σ G a) (hr : RD1 K r G a d) : EvD K (tUn r ta) σ G d := fun G1 H x y Q q =>
  ha G1 H x y _ fun v1 G2 H2 g2 d2 => hr G2 H2 (x.trans g2.gg) g2.gh v1 d2 Q fun v G4 H4 g4 d4 => q v G4 H4 (g2.trans g4) d4
/-- a bool's evaluation as a test -/
theorem et_test {c : Bool} (h : EvD K te σ G (.bool c)) : EvT (tTest te) σ G c := fun H x Q q =>
  h G H (Ex.refl G) x _ fun v G2 H2 g2 d2 => ⟨c, d2.bl_eq, q H2 g2.hh⟩
theorem et_B {c : Bool} (h : EvD K te σ G (.bool c)) : EvT (tB te) σ G c := fun H x Q q =>
  h G H (Ex.refl G) x _ fun v G2 H2 g2 d2 => ⟨c, d2.bl_eq, q H2 g2.hh⟩
theorem et_and {x y : Bool} (h1 : EvT tt σ G x) (h2 : x = true → EvT tu σ G y) : EvT (tAnd tt tu) σ G (x && y) := fun H e Q q => h1 H e _ fun H2 e2 => by
  cases x with
  | true => exact h2 rfl H2 (e.trans e2) Q fun H3 e3 => q H3 (e2.trans e3)
  | false => exact q H2 e2
theorem et_or {x y : Bool} (h1 : EvT tt σ G x) (h2 : x = false → EvT tu σ G y) : EvT (tOr tt tu) σ G (x || y) := fun H e Q q => h1 H e _ fun H2 e2 => by
  cases x with
  | true => exact q H2 e2
  | false => exact h2 rfl H2 (e.trans e2) Q fun H3 e3 => q H3 (e2.trans e3)
theorem et_not {x : Bool} (h1 : EvT tt σ G x) : EvT (tNot tt) σ G (!x) := fun H e _ q => h1 H e _ fun H2 e2 => q H2 e2
theorem ev_andV {x : Bool} {y : PyData} (h1 : EvD K ta σ G (.bool x)) (h2 : x = true → EvD K tb σ G y) : EvD K (tAndV ta tb) σ G (if x = true then y else .bool false) := fun G1 H e e' Q q =>
  h1 G1 H e e' _ fun v G2 H2 g2 d2 => ⟨x, d2.bl_eq, by
    cases x with
    | true => exact h2 rfl G2 H2 (e.trans g2.gg) g2.gh Q fun v G3 H3 g3 d3 => q v G3 H3 (g2.trans g3) d3
    | false => exact q _ G2 H2 g2 (.bl false)⟩
theorem ev_orV {x : Bool} {y : PyData} (h1 : EvD K ta σ G (.bool x)) (h2 : x = false → EvD K tb σ G y) : EvD K (tOrV ta tb) σ G (if x = true then .bool true else y) := fun G1 H e e' Q q =>
  h1 G1 H e e' _ fun v G2 H2 g2 d2 => ⟨x, d2.bl_eq, by
    cases x with
    | true => exact q _ G2 H2 g2 (.bl true)
    | false => exact h2 rfl G2 H2 (e.trans g2.gg) g2.gh Q fun v G3 H3 g3 d3 => q v G3 H3 (g2.trans g3) d3⟩
theorem ev_and {x y : Bool} (h1 : EvD K ta σ G (.bool x)) (h2 : x = true → EvD K tb σ G (.bool y)) : EvD K (tAndV ta tb) σ G (.bool (x && y)) :=
  ev_is (ev_andV h1 h2) (by cases x <;> rfl)
theorem ev_or {x y : Bool} (h1 : EvD K ta σ G (.bool x)) (h2 : x = false → EvD K tb σ G (.bool y)) : EvD K (tOrV ta tb) σ G (.bool (x || y)) :=
  ev_is (ev_orV h1 h2) (by cases x <;> rfl)
theorem ev_not {x : Bool} (h1 : EvD K ta σ G (.bool x)) : EvD K (tNotV ta) σ G (.bool (!x)) := fun G1 H e e' Q q =>
  h1 G1 H e e' _ fun v G2 H2 g2 d2 => ⟨x, d2.bl_eq, q _ G2 H2 g2 (.bl _)⟩
theorem ev_if {x : Bool} (h : EvT tt σ G x) (h1 : x = true → EvD K ta σ G a) (h2 : x = false → EvD K tb σ G b) : EvD K (tIf tt ta tb) σ G (if x = true then a else b) := fun G1 H e e' Q q =>
  h H (e.trans e') _ fun H2 e2 => by
    cases x with
    | true => exact h1 rfl G1 H2 e (e'.trans e2) Q fun v G3 H3 g3 d3 => q v G3 H3 ((Grow.of_ex e' e2).trans g3) d3
    | false => exact h2 rfl G1 H2 e (e'.trans e2) Q fun v G3 H3 g3 d3 => q v G3 H3 ((Grow.of_ex e' e2).trans g3) d3
theorem ea_nil : EvA K tNil σ G [] := fun G1 H x y Q q => q [] G1 H (Grow.refl y) .nil
theorem ea_cons {tr : TA} (ha : EvD K ta σ G a) (hr : EvA K tr σ G ds) : EvA K (tCons ta tr) σ G (a :: ds) := fun G1 H x y Q q =>
  ha G1 H x y _ fun v1 G2 H2 g2 d2 => hr G2 H2 (x.trans g2.gg) g2.gh _ fun vs G3 H3 g3 d3 => q (v1 :: vs) G3 H3 (g2.trans g3) (.cons (d2.mono g3.gg) d3)
theorem ev_tup {ta : TA} (h : EvA K ta σ G ds) (hl : ds.length ≤ 100000) : EvD K (tTup ta) σ G (.tuple ds) := fun G1 H x y Q q =>
  h G1 H x y _ fun vs G2 H2 g2 d2 => ⟨by rw [d2.len]; exact sz_of hl, fun p hp =>
    q _ _ _ (g2.trans (Grow.new g2.gh hp)) (.tup (SqT.of upd_same) (d2.mono (Ex.new (fresh_back g2.gh hp))))⟩
theorem ev_lst {ta : TA} (h : EvA K ta σ G ds) (hl : ds.length ≤ 100000) : EvD K (tLst ta) σ G (.list ds) := fun G1 H x y Q q =>
  h G1 H x y _ fun vs G2 H2 g2 d2 => ⟨by rw [d2.len]; exact sz_of hl, fun p hp =>
    q _ _ _ (g2.trans (Grow.new g2.gh hp)) (.lst upd_same (d2.mono (Ex.new (fresh_back g2.gh hp))))⟩
theorem ev_cb {r : List V → Hp → VK → Prop} {ta : TA} (h : EvA K ta σ G ds) (hr : RDA K r G ds d) : EvD K (tCB r ta) σ G d := fun G1 H x y Q q =>
  h G1 H x y _ fun vs G2 H2 g2 d2 => hr G2 H2 (x.trans g2.gg) g2.gh vs d2 Q fun v G4 H4 g4 d4 => q v G4 H4 (g2.trans g4) d4
/-- a plain result -/
theorem ok1 {G1 H : Hp} {Q : VK} {v : V} {d : PyData} (y : Ex G1 H) (q : ∀ v G' H', Grow [] G1 H G' H' → Da K G' v d → Q v H') (h : Da K G1 v d) : Q v H := q v G1 H (Grow.refl y) h
end
/-! # operators: one reading for all kinds -/
abbrev rI2 (g : Int → Int → Int) : R2 := rI0 fun i j => V.int (g i j)
def kAdd (K : PySem.W.Frag) : R2 := fun x y H Q => rI0 (fun i j => V.int (i + j)) x y H Q ∨
  (∃ i j, x = .str i ∧ y = .str j ∧ i.length + j.length ≤ sizeLine ∧ Q (.str (i ++ j)) H) ∨ rCat x y H Q ∨ rCatA K x y H Q
def kSub : R2 := rI0 fun i j => V.int (i - j)
def kMul : R2 := fun x y H Q => rI CMulW (fun i j => V.int (i * j)) x y H Q ∨ rRep x y H Q
def kDiv : R2 := rI CDivW fun i j => V.int (i / j)
def kMod : R2 := rI (fun _ j => 0 < j) fun i j => V.int (i % j)
def kPow : R2 := rI CPow fun i j => V.int (i ^ j.toNat)
def kEq (K : PySem.W.Frag) : R2 := fun x y H Q => rEq x y H Q ∨ rEqD K x y H Q
def kNe (K : PySem.W.Frag) : R2 := fun x y H Q => rNe x y H Q ∨ rNeD K x y H Q
def kLt (K : PySem.W.Frag) : R2 := fun x y H Q => rI0 (fun i j => .bl (decide (i < j))) x y H Q ∨
  (∃ i j, x = .str i ∧ y = .str j ∧ Q (.bl (decide (i.cps.toList < j.cps.toList))) H) ∨ rLtT K x y H Q
def kLe : R2 := rI0 fun i j => .bl (decide (i ≤ j))
def kGt : R2 := rI0 fun i j => .bl (decide (j < i))
def kGe : R2 := rI0 fun i j => .bl (decide (j ≤ i))
def kIn (K : PySem.W.Frag) : R2 := fun x y H Q => rIn K false x y H Q ∨ ∃ (c : Nat) (z : Str), x = .str ⟨#[c]⟩ ∧ y = .str z ∧ Q (.bl (decide (c ∈ z.cps.toList))) H
def kNotIn (K : PySem.W.Frag) : R2 := fun x y H Q => rIn K true x y H Q ∨ ∃ (c : Nat) (z : Str), x = .str ⟨#[c]⟩ ∧ y = .str z ∧ Q (.bl (!decide (c ∈ z.cps.toList))) H
def kIsN : R2 := fun x y H Q => y = .non ∧ Q (.bl (decide (x = .non))) H
def kNotN : R2 := fun x y H Q => y = .non ∧ Q (.bl (!decide (x = .non))) H
section
variable {X : Cx}
theorem op_kAdd : OpR X (binaryOp .Add) (kAdd X.K) := op_add.or (op_add_str.or (op_cat.or op_catA))
theorem op_kSub : OpR X (binaryOp .Sub) kSub := op_sub
theorem op_kMul : OpR X (binaryOp .Mult) kMul := op_mulW.or op_rep
theorem op_kDiv : OpR X (binaryOp .FloorDiv) kDiv := op_fdivW
theorem op_kMod : OpR X (binaryOp .Mod) kMod := op_mod
theorem op_kPow : OpR X (binaryOp .Pow) kPow := op_pow
theorem op_kEq {k : Nat} (hr : Room k X.A) : OpR X (compareOp .Eq) (kEq X.K) := op_eq.or (op_eqD hr.units)
theorem op_kNe {k : Nat} (hr : Room k X.A) : OpR X (compareOp .NotEq) (kNe X.K) := op_ne.or (op_neD hr.units)
theorem op_kLt {k : Nat} (hr : Room k X.A) : OpR X (compareOp .Lt) (kLt X.K) := op_lt.or (op_lt_str.or (op_ltT hr.units0))
theorem op_kLe : OpR X (compareOp .LtE) kLe := op_le
theorem op_kGt : OpR X (compareOp .Gt) kGt := op_gt
theorem op_kGe : OpR X (compareOp .GtE) kGe := op_ge
theorem op_kIn : OpR X (compareOp .In) (kIn X.K) := op_in_seq.or op_in_sign
theorem op_kNotIn : OpR X (compareOp .NotIn) (kNotIn X.K) := op_notIn_seq.or op_notIn_sign
theorem op_kIsN : OpR X (compareOp .Is) kIsN := op_isN
theorem op_kNotN : OpR X (compareOp .IsNot) kNotN := op_notN
end
/-! # shapes -/
def Sh (n : Nat) (d : PyData) : Prop := d.canLay0 = true ∧ d.depth ≤ n
theorem Sh.ok {n : Nat} {d : PyData} (h : Sh n d) (hn : n ≤ 64) : SeqAt.shaped d = true := by
  unfold SeqAt.shaped
  rw [h.1, decide_eq_true (Nat.le_trans h.2 hn)]
  rfl
theorem sh_int {n : Nat} {i : Int} : Sh n (.int i) := ⟨rfl, Nat.zero_le _⟩
theorem sh_bool {n : Nat} {i : Bool} : Sh n (.bool i) := ⟨rfl, Nat.zero_le _⟩
theorem sh_none {n : Nat} : Sh n .none := ⟨rfl, Nat.zero_le _⟩
theorem sh_str {n : Nat} {x : Str} (h : PyData.canLay0 (.str x) = true) : Sh n (.str x) := ⟨h, Nat.zero_le _⟩
theorem sh_all {n : Nat} : ∀ {ds : List PyData}, (∀ d ∈ ds, Sh n d) → PyData.canLayAll0 ds = true ∧ PyData.depthAll ds ≤ n
  | [], _ => ⟨rfl, Nat.zero_le _⟩
  | x :: r, h => by
    have h1 := h x List.mem_cons_self
    have h2 := sh_all (ds := r) fun d hd => h d (List.mem_cons_of_mem _ hd)
    refine ⟨?_, ?_⟩
    · show (x.canLay0 && PyData.canLayAll0 r) = true
      rw [h1.1, h2.1]; rfl
    · show max x.depth (PyData.depthAll r) ≤ n
      exact Nat.max_le.mpr ⟨h1.2, h2.2⟩
theorem sh_list {n : Nat} {ds : List PyData} (h : ∀ d ∈ ds, Sh n d) : Sh (n + 1) (.list ds) := by
  obtain ⟨a, b⟩ := sh_all h
  exact ⟨a, Nat.succ_le_succ b⟩
theorem sh_tuple {n : Nat} {ds : List PyData} (h : ∀ d ∈ ds, Sh n d) : Sh (n + 1) (.tuple ds) := by
  obtain ⟨a, b⟩ := sh_all h
  exact ⟨a, Nat.succ_le_succ b⟩
theorem Sh.mono {n m : Nat} {d : PyData} (h : Sh n d) (e : n ≤ m) : Sh m d := ⟨h.1, Nat.le_trans h.2 e⟩
theorem sh_nil {n : Nat} : ∀ d ∈ ([] : List PyData), Sh n d := fun _ h => nomatch h
theorem sh_cons {n : Nat} {x : PyData} {r : List PyData} (h : Sh n x) (k : ∀ d ∈ r, Sh n d) : ∀ d ∈ x :: r, Sh n d := fun d hd => by
  rcases List.mem_cons.mp hd with e | e
  · rw [e]; exact h
  · exact k d e
theorem sh_map {α : Type} {n : Nat} {f : α → PyData} {xs : List α} (h : ∀ x ∈ xs, Sh n (f x)) : ∀ d ∈ xs.map f, Sh n d := fun d hd => by
  obtain ⟨x, hx, e⟩ := List.mem_map.mp hd
  rw [← e]; exact h x hx
/-! # what they give, by data -/
section
variable {K : PySem.W.Frag} {G : Hp} {i j : Int} {x y : Str}
theorem rd_I0 {g : Int → Int → V} {d : PyData} (h : ∀ G1, Da K G1 (g i j) d) : RD2 K (rI0 g) G (.int i) (.int j) d := fun G1 H e e' v w hv hw Q q => by
  obtain rfl := hv.int_eq
  obtain rfl := hw.int_eq
  exact ⟨i, j, rfl, rfl, ok1 e' q (h G1)⟩
theorem rd_I {C : Int → Int → Prop} {g : Int → Int → V} {d : PyData} (hc : C i j) (h : ∀ G1, Da K G1 (g i j) d) : RD2 K (rI C g) G (.int i) (.int j) d := fun G1 H e e' v w hv hw Q q => by
  obtain rfl := hv.int_eq
  obtain rfl := hw.int_eq
  exact ⟨i, j, rfl, rfl, hc, ok1 e' q (h G1)⟩
theorem rd_or1 {r s : R2} {a b d : PyData} (h : RD2 K r G a b d) : RD2 K (fun x y H Q => r x y H Q ∨ s x y H Q) G a b d := fun G1 H e e' v w hv hw Q q => .inl (h G1 H e e' v w hv hw Q q)
theorem rd_or2 {r s : R2} {a b d : PyData} (h : RD2 K s G a b d) : RD2 K (fun x y H Q => r x y H Q ∨ s x y H Q) G a b d := fun G1 H e e' v w hv hw Q q => .inr (h G1 H e e' v w hv hw Q q)
theorem rd_add : RD2 K (kAdd K) G (.int i) (.int j) (.int (i + j)) := rd_or1 (rd_I0 fun _ => .int _)
theorem rd_sub : RD2 K kSub G (.int i) (.int j) (.int (i - j)) := rd_I0 fun _ => .int _
theorem rd_mul (h : CMulW i j) : RD2 K kMul G (.int i) (.int j) (.int (i * j)) := rd_or1 (rd_I h fun _ => .int _)
theorem rd_div (h : CDivW i j) : RD2 K kDiv G (.int i) (.int j) (.int (i / j)) := rd_I h fun _ => .int _
theorem rd_mod (h : 0 < j) : RD2 K kMod G (.int i) (.int j) (.int (i % j)) := rd_I h fun _ => .int _
theorem rd_pow (h : CPow i j) : RD2 K kPow G (.int i) (.int j) (.int (i ^ j.toNat)) := rd_I h fun _ => .int _
theorem rd_lt : RD2 K (kLt K) G (.int i) (.int j) (.bool (decide (i < j))) := rd_or1 (rd_I0 fun _ => .bl _)
theorem rd_le : RD2 K kLe G (.int i) (.int j) (.bool (decide (i ≤ j))) := rd_I0 fun _ => .bl _
theorem rd_gt : RD2 K kGt G (.int i) (.int j) (.bool (decide (j < i))) := rd_I0 fun _ => .bl _
theorem rd_ge : RD2 K kGe G (.int i) (.int j) (.bool (decide (j ≤ i))) := rd_I0 fun _ => .bl _
theorem rd_ltS : RD2 K (kLt K) G (.str x) (.str y) (.bool (decide (x.cps.toList < y.cps.toList))) := rd_or2 (rd_or1 fun G1 H e e' v w hv hw Q q => by
  obtain rfl := hv.str_eq
  obtain rfl := hw.str_eq
  exact ⟨x, y, rfl, rfl, ok1 e' q (.bl _)⟩)
theorem rd_addS (h : x.length + y.length ≤ 100000) : RD2 K (kAdd K) G (.str x) (.str y) (.str (x ++ y)) := rd_or2 (rd_or1 fun G1 H e e' v w hv hw Q q => by
  obtain rfl := hv.str_eq
  obtain rfl := hw.str_eq
  exact ⟨x, y, rfl, rfl, sz_of h, ok1 e' q (.str _)⟩)
theorem rd_addL {as bs : List PyData} (h : as.length + bs.length ≤ 100000) : RD2 K (kAdd K) G (.list as) (.list bs) (.list (as ++ bs)) := rd_or2 (rd_or2 (rd_or1 fun G1 H e e' v w hv hw Q q => by
  cases hv with
  | lst h1 r1 =>
    cases hw with
    | lst h2 r2 =>
      refine ⟨_, _, _, _, rfl, rfl, e' _ _ h1, e' _ _ h2, by rw [r1.len, r2.len]; exact sz_of h, fun p hp => ?_⟩
      exact q _ _ _ (Grow.new e' hp) (.lst upd_same ((r1.app r2).mono (Ex.new (fresh_back e' hp))))))
theorem rd_addT {as bs : List PyData} (h : as.length + bs.length ≤ 100000) : RD2 K (kAdd K) G (.tuple as) (.tuple bs) (.tuple (as ++ bs)) := rd_or2 (rd_or2 (rd_or2 fun G1 H e e' v w hv hw Q q => by
  cases hv with
  | tup h1 r1 =>
    cases hw with
    | tup h2 r2 =>
      refine ⟨_, _, _, _, rfl, rfl, ex_t e' h1, ex_t e' h2, by rw [r1.len, r2.len]; exact sz_of h, fun z => ?_, fun _ z => ?_, fun _ z p hp => ?_⟩
      · subst z; cases r1
        exact q _ _ _ (Grow.refl e') (.tup h2 r2)
      · subst z; cases r2
        exact q _ _ _ (Grow.refl e') (.tup h1 (by rw [List.append_nil]; exact r1))
      · exact q _ _ _ (Grow.new e' hp) (.tup (SqT.of upd_same) ((r1.app r2).mono (Ex.new (fresh_back e' hp))))))
theorem scal_int : scal (.int i) (.int j) = true := rfl
theorem rd_eqI : RD2 K (kEq K) G (.int i) (.int j) (.bool (decide (i = j))) := rd_or1 fun G1 H e e' v w hv hw Q q => by
  obtain rfl := hv.int_eq
  obtain rfl := hw.int_eq
  refine ⟨rfl, ok1 e' q ?_⟩
  rw [dec_int, ← Bool.beq_eq_decide_eq]; exact .bl _
theorem rd_neI : RD2 K (kNe K) G (.int i) (.int j) (.bool (!decide (i = j))) := rd_or1 fun G1 H e e' v w hv hw Q q => by
  obtain rfl := hv.int_eq
  obtain rfl := hw.int_eq
  refine ⟨rfl, ok1 e' q ?_⟩
  rw [dec_int, ← Bool.beq_eq_decide_eq]; exact .bl _
theorem rd_eqS : RD2 K (kEq K) G (.str x) (.str y) (.bool (decide (x = y))) := rd_or1 fun G1 H e e' v w hv hw Q q => by
  obtain rfl := hv.str_eq
  obtain rfl := hw.str_eq
  refine ⟨rfl, ok1 e' q ?_⟩
  rw [dec_str, ← Bool.beq_eq_decide_eq]; exact .bl _
theorem rd_neS : RD2 K (kNe K) G (.str x) (.str y) (.bool (!decide (x = y))) := rd_or1 fun G1 H e e' v w hv hw Q q => by
  obtain rfl := hv.str_eq
  obtain rfl := hw.str_eq
  refine ⟨rfl, ok1 e' q ?_⟩
  rw [dec_str, ← Bool.beq_eq_decide_eq]; exact .bl _
theorem rd_eqB {i j : Bool} : RD2 K (kEq K) G (.bool i) (.bool j) (.bool (i == j)) := rd_or1 fun G1 H e e' v w hv hw Q q => by
  obtain rfl := hv.bl_eq
  obtain rfl := hw.bl_eq
  refine ⟨rfl, ok1 e' q ?_⟩
  rw [dec_bl]; exact .bl _
theorem rd_neB {i j : Bool} : RD2 K (kNe K) G (.bool i) (.bool j) (.bool (!(i == j))) := rd_or1 fun G1 H e e' v w hv hw Q q => by
  obtain rfl := hv.bl_eq
  obtain rfl := hw.bl_eq
  refine ⟨rfl, ok1 e' q ?_⟩
  rw [dec_bl]; exact .bl _
theorem rd_eqD {a b : PyData} (ha : Sh 64 a) (hb : Sh 64 b) : RD2 K (kEq K) G a b (.bool (PyData.eqv a b)) := rd_or2 fun G1 H e e' v w hv hw Q q =>
  ⟨a, b, (hv.mono e').dp, (hw.mono e').dp, ha.ok (Nat.le_refl _), hb.ok (Nat.le_refl _), ok1 e' q (.bl _)⟩
theorem rd_neD {a b : PyData} (ha : Sh 64 a) (hb : Sh 64 b) : RD2 K (kNe K) G a b (.bool (!PyData.eqv a b)) := rd_or2 fun G1 H e e' v w hv hw Q q =>
  ⟨a, b, (hv.mono e').dp, (hw.mono e').dp, ha.ok (Nat.le_refl _), hb.ok (Nat.le_refl _), ok1 e' q (.bl _)⟩
def isN : PyData → Bool
  | .none => true
  | _ => false
theorem Da.isN {K : PySem.W.Frag} {H : Hp} {v : V} {d : PyData} (h : Da K H v d) : decide (v = .non) = LK.isN d := by
  cases h <;> rfl
theorem rd_isN {a : PyData} : RD2 K kIsN G a .none (.bool (isN a)) := fun G1 H e e' v w hv hw Q q => by
  refine ⟨hw.non_eq, ?_⟩
  rw [hv.isN]
  exact ok1 e' q (.bl _)
theorem rd_notN {a : PyData} : RD2 K kNotN G a .none (.bool (!isN a)) := fun G1 H e e' v w hv hw Q q => by
  refine ⟨hw.non_eq, ?_⟩
  rw [hv.isN]
  exact ok1 e' q (.bl _)
theorem rd_inC {c : Nat} : RD2 K (kIn K) G (.str ⟨#[c]⟩) (.str y) (.bool (decide (c ∈ y.cps.toList))) := rd_or2 fun G1 H e e' v w hv hw Q q => by
  obtain rfl := hv.str_eq
  obtain rfl := hw.str_eq
  exact ⟨c, y, rfl, rfl, ok1 e' q (.bl _)⟩
theorem rd_notInC {c : Nat} : RD2 K (kNotIn K) G (.str ⟨#[c]⟩) (.str y) (.bool (!decide (c ∈ y.cps.toList))) := rd_or2 fun G1 H e e' v w hv hw Q q => by
  obtain rfl := hv.str_eq
  obtain rfl := hw.str_eq
  exact ⟨c, y, rfl, rfl, ok1 e' q (.bl _)⟩
/-- x in a list or tuple of texts, of ints -/
theorem flat_strs : ∀ ss : List Str, (ss.map V.str).all flatV = true
  | [] => rfl
  | _ :: r => by rw [List.map_cons, List.all_cons, flat_strs r]; rfl
theorem flat_ints : ∀ ss : List Int, (ss.map V.int).all flatV = true
  | [] => rfl
  | _ :: r => by rw [List.map_cons, List.all_cons, flat_ints r]; rfl
theorem inV_strs (x : Str) : ∀ ss : List Str, inV (.str x) (ss.map V.str) = decide (x ∈ ss)
  | [] => rfl
  | s :: r => by
    have ih := inV_strs x r
    unfold inV at ih ⊢
    rw [List.map_cons, List.any_cons, ih]
    by_cases h : s = x
    · subst h
      have e : eqV (.str s) (.str s) = true := by simp [eqV]
      rw [e]; simp
    · have e : eqV (.str s) (.str x) = false := by simp [eqV, h]
      rw [e, Bool.false_or]
      simp only [List.mem_cons, decide_eq_decide]
      exact ⟨fun z => .inr z, fun z => z.elim (fun w => absurd w.symm h) id⟩
theorem inV_ints (x : Int) : ∀ ss : List Int, inV (.int x) (ss.map V.int) = decide (x ∈ ss)
  | [] => rfl
  | s :: r => by
    have ih := inV_ints x r
    unfold inV at ih ⊢
    rw [List.map_cons, List.any_cons, ih]
    by_cases h : s = x
    · subst h
      have e : eqV (.int s) (.int s) = true := by simp [eqV]
      rw [e]; simp
    · have e : eqV (.int s) (.int x) = false := by simp [eqV, h]
      rw [e, Bool.false_or]
      simp only [List.mem_cons, decide_eq_decide]
      exact ⟨fun z => .inr z, fun z => z.elim (fun w => absurd w.symm h) id⟩
theorem rd_inLS {ss : List Str} : RD2 K (kIn K) G (.str x) (.list (ss.map .str)) (.bool (decide (x ∈ ss))) := rd_or1 fun G1 H e e' v w hv hw Q q => by
  obtain rfl := hv.str_eq
  cases hw with
  | lst h r =>
    have er := r.strs
    subst er
    refine ⟨_, _, rfl, .inl (SqL.of (e' _ _ h)), rfl, flat_strs ss, ?_⟩
    show Q (.bl (inV (.str x) (ss.map V.str))) H
    rw [inV_strs]; exact ok1 e' q (.bl _)
theorem rd_notInLS {ss : List Str} : RD2 K (kNotIn K) G (.str x) (.list (ss.map .str)) (.bool (!decide (x ∈ ss))) := rd_or1 fun G1 H e e' v w hv hw Q q => by
  obtain rfl := hv.str_eq
  cases hw with
  | lst h r =>
    have er := r.strs
    subst er
    refine ⟨_, _, rfl, .inl (SqL.of (e' _ _ h)), rfl, flat_strs ss, ?_⟩
    show Q (.bl (!inV (.str x) (ss.map V.str))) H
    rw [inV_strs]; exact ok1 e' q (.bl _)
theorem rd_inTS {ss : List Str} : RD2 K (kIn K) G (.str x) (.tuple (ss.map .str)) (.bool (decide (x ∈ ss))) := rd_or1 fun G1 H e e' v w hv hw Q q => by
  obtain rfl := hv.str_eq
  cases hw with
  | tup h r =>
    have er := r.strs
    subst er
    refine ⟨_, _, rfl, .inr (ex_t e' h), rfl, flat_strs ss, ?_⟩
    show Q (.bl (inV (.str x) (ss.map V.str))) H
    rw [inV_strs]; exact ok1 e' q (.bl _)
theorem rd_notInTS {ss : List Str} : RD2 K (kNotIn K) G (.str x) (.tuple (ss.map .str)) (.bool (!decide (x ∈ ss))) := rd_or1 fun G1 H e e' v w hv hw Q q => by
  obtain rfl := hv.str_eq
  cases hw with
  | tup h r =>
    have er := r.strs
    subst er
    refine ⟨_, _, rfl, .inr (ex_t e' h), rfl, flat_strs ss, ?_⟩
    show Q (.bl (!inV (.str x) (ss.map V.str))) H
    rw [inV_strs]; exact ok1 e' q (.bl _)
theorem rd_inLI {ss : List Int} : RD2 K (kIn K) G (.int i) (.list (ss.map .int)) (.bool (decide (i ∈ ss))) := rd_or1 fun G1 H e e' v w hv hw Q q => by
  obtain rfl := hv.int_eq
  cases hw with
  | lst h r =>
    have er := r.ints
    subst er
    refine ⟨_, _, rfl, .inl (SqL.of (e' _ _ h)), rfl, flat_ints ss, ?_⟩
    show Q (.bl (inV (.int i) (ss.map V.int))) H
    rw [inV_ints]; exact ok1 e' q (.bl _)
/-- an item by its place -/
theorem atI_da {vs : List V} {ds : List PyData} {G1 : Hp} {d : PyData} (r : DaL K G1 vs ds) (h : atI ds i = some d) : ∃ v, atI vs i = some v ∧ Da K G1 v d := by
  unfold atI at h ⊢
  rw [r.len]
  cases e : ixN ds.length i with
  | none => rw [e] at h; cases h
  | some k =>
    rw [e] at h
    exact r.get h
theorem rd_ixL {ds : List PyData} {d : PyData} (h : atI ds i = some d) : RD2 K (rIx K) G (.list ds) (.int i) d := fun G1 H e e' v w hv hw Q q => by
  obtain rfl := hw.int_eq
  cases hv with
  | lst h1 r1 =>
    obtain ⟨v, h2, h3⟩ := atI_da r1 h
    exact .inl ⟨_, _, i, v, rfl, rfl, SqL.of (e' _ _ h1), h2, ok1 e' q h3⟩
theorem rd_ixT {ds : List PyData} {d : PyData} (h : atI ds i = some d) : RD2 K (rIx K) G (.tuple ds) (.int i) d := fun G1 H e e' v w hv hw Q q => by
  obtain rfl := hw.int_eq
  cases hv with
  | tup h1 r1 =>
    obtain ⟨v, h2, h3⟩ := atI_da r1 h
    exact .inr (.inl ⟨_, _, i, v, rfl, rfl, ex_t e' h1, h2, ok1 e' q h3⟩)
theorem rd_ixS {c : Nat} (hl : x.length ≤ 100000) (h : atI x.cps.toList i = some c) : RD2 K (rIx K) G (.str x) (.int i) (.str ⟨#[c]⟩) := fun G1 H e e' v w hv hw Q q => by
  obtain rfl := hv.str_eq
  obtain rfl := hw.int_eq
  exact .inr (.inr ⟨x, i, c, rfl, rfl, sz_of hl, h, ok1 e' q (.str _)⟩)
end
/-! # built-in functions -/
def kLen (K : PySem.W.Frag) : List V → Hp → VK → Prop := fun xs H Q => (∃ p ys, xs = [.ref p] ∧ (SqL K H p ys ∨ SqT K H p ys) ∧ Q (.int ys.length) H) ∨ ∃ z, xs = [.str z] ∧ z.length ≤ sizeLine ∧ Q (.int z.length) H
theorem call_kLen {X : Cx} : CallR X (.builtin "len") (kLen X.K) := call_len_seq.or call_len_str
def kTuple (K : PySem.W.Frag) : List V → Hp → VK → Prop := fun xs H Q => ∃ p ys, xs = [.ref p] ∧ ((SqL K H p ys ∧ ∀ l, H l = none → Q (.ref l) (upd H l (.tup ys))) ∨ (SqT K H p ys ∧ Q (.ref p) H))
theorem call_kTuple {X : Cx} : CallR X (.type "tuple") (kTuple X.K) := call_tuple_of
def kList (K : PySem.W.Frag) : List V → Hp → VK → Prop := fun xs H Q => ∃ p ys, xs = [.ref p] ∧ (SqL K H p ys ∨ SqT K H p ys) ∧ ∀ l, H l = none → Q (.ref l) (upd H l (.lst ys))
theorem call_kList {X : Cx} : CallR X (.type "list") (kList X.K) := call_list_of
def kMax2 : List V → Hp → VK → Prop := fun xs H Q => ∃ i j, xs = [.int i, .int j] ∧ Q (.int (if j > i then j else i)) H
theorem call_kMax2 {X : Cx} (hc : X.calm = true) : CallR X (.builtin "max") kMax2 := call_max2 hc
def kMin2 : List V → Hp → VK → Prop := fun xs H Q => ∃ i j, xs = [.int i, .int j] ∧ Q (.int (if j < i then j else i)) H
theorem call_kMin2 {X : Cx} (hc : X.calm = true) : CallR X (.builtin "min") kMin2 := call_min2 hc
def kInt : List V → Hp → VK → Prop := fun xs H Q => (∃ i, xs = [.int i] ∧ Q (.int i) H) ∨ ∃ k, xs = [.bl k] ∧ Q (.int (if k then 1 else 0)) H
theorem call_kInt {X : Cx} : CallR X (.type "int") kInt := call_int1
def kDivmod : List V → Hp → VK → Prop := fun xs H Q => ∃ i j, xs = [.int i, .int j] ∧ CDiv i j ∧ ∀ p, H p = none → Q (.ref p) (upd H p (.tup [.int (i / j), .int (i % j)]))
theorem call_kDivmod {X : Cx} : CallR X (.builtin "divmod") kDivmod := call_divmod
section
variable {K : PySem.W.Frag} {G : Hp} {i j : Int} {x : Str} {ds : List PyData}
theorem DaL.one_inv {H : Hp} {vs : List V} {d : PyData} (h : DaL K H vs [d]) : ∃ v, vs = [v] ∧ Da K H v d := by
  cases h with
  | cons a b => cases b; exact ⟨_, rfl, a⟩
theorem DaL.two_inv {H : Hp} {vs : List V} {d e : PyData} (h : DaL K H vs [d, e]) : ∃ v w, vs = [v, w] ∧ Da K H v d ∧ Da K H w e := by
  cases h with
  | cons a b =>
    obtain ⟨w, rfl, c⟩ := b.one_inv
    exact ⟨_, w, rfl, a, c⟩
theorem ra_lenL : RDA K (kLen K) G [.list ds] (.int ds.length) := fun G1 H e e' xs hx Q q => by
  obtain ⟨v, rfl, h⟩ := hx.one_inv
  cases h with
  | lst h r => exact .inl ⟨_, _, rfl, .inl (SqL.of (e' _ _ h)), ok1 e' q (by rw [r.len]; exact .int _)⟩
theorem ra_lenT : RDA K (kLen K) G [.tuple ds] (.int ds.length) := fun G1 H e e' xs hx Q q => by
  obtain ⟨v, rfl, h⟩ := hx.one_inv
  cases h with
  | tup h r => exact .inl ⟨_, _, rfl, .inr (ex_t e' h), ok1 e' q (by rw [r.len]; exact .int _)⟩
theorem ra_lenS (hl : x.length ≤ 100000) : RDA K (kLen K) G [.str x] (.int x.length) := fun G1 H e e' xs hx Q q => by
  obtain ⟨v, rfl, h⟩ := hx.one_inv
  obtain rfl := h.str_eq
  exact .inr ⟨x, rfl, sz_of hl, ok1 e' q (.int _)⟩
theorem ra_tupleL : RDA K (kTuple K) G [.list ds] (.tuple ds) := fun G1 H e e' xs hx Q q => by
  obtain ⟨v, rfl, h⟩ := hx.one_inv
  cases h with
  | lst h r => exact ⟨_, _, rfl, .inl ⟨SqL.of (e' _ _ h), fun p hp => q _ _ _ (Grow.new e' hp) (.tup (SqT.of upd_same) (r.mono (Ex.new (fresh_back e' hp))))⟩⟩
theorem ra_tupleT : RDA K (kTuple K) G [.tuple ds] (.tuple ds) := fun G1 H e e' xs hx Q q => by
  obtain ⟨v, rfl, h⟩ := hx.one_inv
  cases h with
  | tup h r => exact ⟨_, _, rfl, .inr ⟨ex_t e' h, ok1 e' q (.tup h r)⟩⟩
theorem ra_listL : RDA K (kList K) G [.list ds] (.list ds) := fun G1 H e e' xs hx Q q => by
  obtain ⟨v, rfl, h⟩ := hx.one_inv
  cases h with
  | lst h r => exact ⟨_, _, rfl, .inl (SqL.of (e' _ _ h)), fun p hp => q _ _ _ (Grow.new e' hp) (.lst upd_same (r.mono (Ex.new (fresh_back e' hp))))⟩
theorem ra_listT : RDA K (kList K) G [.tuple ds] (.list ds) := fun G1 H e e' xs hx Q q => by
  obtain ⟨v, rfl, h⟩ := hx.one_inv
  cases h with
  | tup h r => exact ⟨_, _, rfl, .inr (ex_t e' h), fun p hp => q _ _ _ (Grow.new e' hp) (.lst upd_same (r.mono (Ex.new (fresh_back e' hp))))⟩
theorem ra_max2 : RDA K kMax2 G [.int i, .int j] (.int (max i j)) := fun G1 H e e' xs hx Q q => by
  obtain ⟨v, w, rfl, h1, h2⟩ := hx.two_inv
  obtain rfl := h1.int_eq
  obtain rfl := h2.int_eq
  refine ⟨i, j, rfl, ok1 e' q ?_⟩
  rw [show (if j > i then j else i) = max i j by split <;> omega]; exact .int _
theorem ra_min2 : RDA K kMin2 G [.int i, .int j] (.int (min i j)) := fun G1 H e e' xs hx Q q => by
  obtain ⟨v, w, rfl, h1, h2⟩ := hx.two_inv
  obtain rfl := h1.int_eq
  obtain rfl := h2.int_eq
  refine ⟨i, j, rfl, ok1 e' q ?_⟩
  rw [show (if j < i then j else i) = min i j by split <;> omega]; exact .int _
theorem ra_intI : RDA K kInt G [.int i] (.int i) := fun G1 H e e' xs hx Q q => by
  obtain ⟨v, rfl, h⟩ := hx.one_inv
  obtain rfl := h.int_eq
  exact .inl ⟨i, rfl, ok1 e' q (.int _)⟩
theorem ra_intB {b : Bool} : RDA K kInt G [.bool b] (.int (if b then 1 else 0)) := fun G1 H e e' xs hx Q q => by
  obtain ⟨v, rfl, h⟩ := hx.one_inv
  obtain rfl := h.bl_eq
  exact .inr ⟨b, rfl, ok1 e' q (.int _)⟩
theorem ra_divmod (h0 : 0 < j) (h1 : j < 1073741824) : RDA K kDivmod G [.int i, .int j] (.tuple [.int (i / j), .int (i % j)]) := fun G1 H e e' xs hx Q q => by
  obtain ⟨v, w, rfl, h3, h4⟩ := hx.two_inv
  obtain rfl := h3.int_eq
  obtain rfl := h4.int_eq
  exact ⟨i, j, rfl, ⟨h0, h1⟩, fun p hp => q _ _ _ (Grow.new e' hp) (.tup (SqT.of upd_same) (.cons (.int _) (.cons (.int _) .nil)))⟩
theorem ra_all {bs : List Bool} : RDA K (rAll K) G [.list (bs.map .bool)] (.bool (bs.all id)) := fun G1 H e e' xs hx Q q => by
  obtain ⟨v, rfl, h⟩ := hx.one_inv
  cases h with
  | lst h r =>
    have er := r.bools
    subst er
    exact ⟨_, bs, rfl, SqL.of (e' _ _ h), ok1 e' q (.bl _)⟩
theorem ra_any {bs : List Bool} : RDA K (rAny K) G [.list (bs.map .bool)] (.bool (bs.any id)) := fun G1 H e e' xs hx Q q => by
  obtain ⟨v, rfl, h⟩ := hx.one_inv
  cases h with
  | lst h r =>
    have er := r.bools
    subst er
    exact ⟨_, bs, rfl, SqL.of (e' _ _ h), ok1 e' q (.bl _)⟩
theorem ra_sum {ns : List Int} : RDA K (rSum K) G [.list (ns.map .int)] (.int ns.sum) := fun G1 H e e' xs hx Q q => by
  obtain ⟨v, rfl, h⟩ := hx.one_inv
  cases h with
  | lst h r =>
    have er := r.ints
    subst er
    exact ⟨_, ns, rfl, SqL.of (e' _ _ h), ok1 e' q (.int _)⟩
end
/-! # isinstance -/
def tyOfD : PyData → String
  | .none => "NoneType"
  | .bool _ => "bool"
  | .int _ => "int"
  | .str _ => "str"
  | .list _ => "list"
  | .tuple _ => "tuple"
  | .dict _ => "dict"
def isD (T : String) (d : PyData) : Bool := match T, d with
  | "int", .int _ => true
  | "int", .bool _ => true
  | "bool", .bool _ => true
  | "str", .str _ => true
  | "list", .list _ => true
  | "tuple", .tuple _ => true
  | _, _ => false
def tIsi (K : PySem.W.Frag) (ta : TE) (T : String) : TE := tCB (rIsi K) (tCons ta (tCons (tC (.ty T)) tNil))
theorem Da.tyx {K : PySem.W.Frag} {H : Hp} {v : V} {d : PyData} (h : Da K H v d) : TyX K H v (.type (tyOfD d)) := by
  cases h with
  | non => exact .base .non
  | bl b => exact .base (.bl b)
  | int i => exact .base (.int i)
  | str x => exact .base (.str x)
  | lst h r => exact .base (.lst h)
  | tup h r =>
    rcases h with (h | ⟨o, h⟩) | ⟨o, its, n, hk, hc, _⟩
    · exact .base (.tup h)
    · exact .fTuple h
    · exact .kTuple hk hc
theorem ev_isi {K : PySem.W.Frag} {σ : L2.St} {G : Hp} {ta : TE} {a : PyData} {T : String} {b : Bool} (h : EvD K ta σ G a) (hk : kitB (tyOfD a) T = some b) : EvD K (tIsi K ta T) σ G (.bool b) := fun G1 H x y Q q =>
  h G1 H x y _ fun v G2 H2 g2 d2 => ⟨v, .ty T, _, _, b, rfl, .ty T, (d2.mono g2.gh).tyx, kit_ty hk, q _ G2 H2 g2 (.bl b)⟩
/-! # the world of a running def: W its entry, G what is settled, M what it may write -/
abbrev Mem := List (Addr × HO)
structure Ent where
  G0 : Hp
  H0 : Hp
  ms : List Addr
structure World (W : Ent) (G : Hp) (M : Mem) (H : Hp) : Prop where
  gr : Grow W.ms W.G0 W.H0 G H
  own : ∀ p o, (p, o) ∈ M → H p = some o
  sep : ∀ p o, (p, o) ∈ M → G p = none
  nd : (M.map Prod.fst).Nodup
  fm : ∀ p o, (p, o) ∈ M → p ∈ W.ms ∨ W.H0 p = none
section
variable {W : Ent} {G G' H H' : Hp} {M : Mem} {p : Addr} {o o' : HO} {k : Nat}
theorem World.gh (w : World W G M H) : Ex G H := w.gr.gh
theorem World.grow (w : World W G M H) (g : Grow [] G H G' H') : World W G' M H' :=
  ⟨w.gr.trans g.up, fun p o h => g.hh p o (w.own p o h), fun p o h => g.fg p (by rw [w.own p o h]; exact fun z => nomatch z) (w.sep p o h), w.nd, w.fm⟩
theorem World.ext (w : World W G M H) (e : Ex H H') : World W G M H' := w.grow (Grow.of_ex w.gh e)
theorem World.new (w : World W G M H) (n : H p = none) : World W G ((p, o) :: M) (upd H p o) := by
  have n0 : W.H0 p = none := by
    cases q : W.H0 p with
    | none => rfl
    | some u => exact absurd n (w.gr.dm p (by rw [q]; exact fun z => nomatch z))
  have hw := w.ext (Ex.new (o := o) n)
  refine ⟨hw.gr, fun q u h => ?_, fun q u h => ?_, ?_, fun q u h => ?_⟩
  · rcases List.mem_cons.mp h with e | e
    · cases e; exact upd_same
    · exact hw.own q u e
  · rcases List.mem_cons.mp h with e | e
    · cases e; exact fresh_back w.gh n
    · exact w.sep q u e
  · rw [List.map_cons, List.nodup_cons]
    refine ⟨fun z => ?_, w.nd⟩
    obtain ⟨⟨q, u⟩, hq, e⟩ := List.mem_map.mp z
    have e : q = p := e
    subst e
    rw [w.own q u hq] at n; cases n
  · rcases List.mem_cons.mp h with e | e
    · cases e; exact .inr n0
    · exact w.fm q u e
theorem World.new0 (w : World W G M H) (n : H p = none) : W.H0 p = none := by
  cases q : W.H0 p with
  | none => rfl
  | some u => exact absurd n (w.gr.dm p (by rw [q]; exact fun z => nomatch z))
theorem nodup_at {M : Mem} (nd : (M.map Prod.fst).Nodup) {i j : Nat} {p : Addr} {o u : HO} (h1 : M[i]? = some (p, o)) (h2 : M[j]? = some (p, u)) : i = j := by
  have a : (M.map Prod.fst)[i]? = some p := by rw [List.getElem?_map, h1]; rfl
  have b : (M.map Prod.fst)[j]? = some p := by rw [List.getElem?_map, h2]; rfl
  exact nd_ix nd a b
theorem set_keys {M : Mem} {k : Nat} {p : Addr} {o o' : HO} (h : M[k]? = some (p, o)) : (M.set k (p, o')).map Prod.fst = M.map Prod.fst := by
  apply List.ext_getElem?
  intro i
  rw [List.getElem?_map, List.getElem?_map, List.getElem?_set]
  by_cases e : k = i
  · subst e
    have hk := (List.getElem?_eq_some_iff.mp h).1
    rw [if_pos rfl, if_pos hk, h]; rfl
  · rw [if_neg e]
theorem World.set (w : World W G M H) (h : M[k]? = some (p, o)) : World W G (M.set k (p, o')) (upd H p o') := by
  have hm : (p, o) ∈ M := List.mem_of_getElem? h
  have hp := w.own p o hm
  have hg := w.sep p o hm
  have other : ∀ q u, (q, u) ∈ M.set k (p, o') → (q = p ∧ u = o') ∨ ((q, u) ∈ M ∧ q ≠ p) := fun q u hq => by
    obtain ⟨i, hi⟩ := List.mem_iff_getElem?.mp hq
    rw [List.getElem?_set] at hi
    by_cases e : k = i
    · rw [if_pos e] at hi
      split at hi
      · cases hi; exact .inl ⟨rfl, rfl⟩
      · cases hi
    · rw [if_neg e] at hi
      refine .inr ⟨List.mem_of_getElem? hi, fun z => e ?_⟩
      subst z
      exact nodup_at w.nd h hi
  refine ⟨⟨w.gr.gg, fun a u z => ?_, fun a u z n => ?_, w.gr.fg, fun a z => ?_⟩, fun q u hq => ?_, fun q u hq => ?_, ?_, fun q u hq => ?_⟩
  · rw [upd_ne (ne_of_none z hg)]; exact w.gh a u z
  · have ne : a ≠ p := fun e => by
      subst e
      rcases w.fm a o hm with x | x
      · exact n x
      · rw [z] at x; cases x
    rw [upd_ne ne]; exact w.gr.fr a u z n
  · by_cases e : a = p
    · rw [e, upd_same]; exact fun z => nomatch z
    · rw [upd_ne e]; exact w.gr.dm a z
  · rcases other q u hq with ⟨e1, e2⟩ | ⟨e1, e2⟩
    · rw [e1, e2]; exact upd_same
    · rw [upd_ne e2]; exact w.own q u e1
  · rcases other q u hq with ⟨e1, e2⟩ | ⟨e1, e2⟩
    · rw [e1]; exact hg
    · exact w.sep q u e1
  · rw [set_keys h]; exact w.nd
  · rcases other q u hq with ⟨e1, e2⟩ | ⟨e1, e2⟩
    · rw [e1]; exact w.fm p o hm
    · exact w.fm q u e1
theorem erase_mem {M : Mem} (k : Nat) {x : Addr × HO} (h : x ∈ M.eraseIdx k) : x ∈ M := (List.eraseIdx_sublist M k).subset h
theorem erase_nd {M : Mem} (nd : (M.map Prod.fst).Nodup) (k : Nat) : ((M.eraseIdx k).map Prod.fst).Nodup := nd.sublist ((List.eraseIdx_sublist M k).map _)
theorem erase_ne {M : Mem} (nd : (M.map Prod.fst).Nodup) {k : Nat} {p q : Addr} {o u : HO} (h : M[k]? = some (p, o)) (hq : (q, u) ∈ M.eraseIdx k) : q ≠ p := fun e => by
  subst e
  obtain ⟨i, hi⟩ := List.mem_iff_getElem?.mp hq
  rw [List.getElem?_eraseIdx] at hi
  split at hi
  · have := nodup_at nd h hi; omega
  · have := nodup_at nd h hi; omega
theorem World.drop (w : World W G M H) (k : Nat) : World W G (M.eraseIdx k) H :=
  ⟨w.gr, fun p o h => w.own p o (erase_mem k h), fun p o h => w.sep p o (erase_mem k h), erase_nd w.nd k, fun p o h => w.fm p o (erase_mem k h)⟩
/-- what was made here is settled -/
theorem World.settle (w : World W G M H) (h : M[k]? = some (p, o)) (n0 : W.H0 p = none) : World W (upd G p o) (M.eraseIdx k) H := by
  have hm : (p, o) ∈ M := List.mem_of_getElem? h
  have hp := w.own p o hm
  have hg := w.sep p o hm
  refine ⟨⟨w.gr.gg.trans (Ex.new hg), fun a u z => ?_, w.gr.fr, fun a z n => ?_, w.gr.dm⟩, fun q u hq => w.own q u (erase_mem k hq), fun q u hq => ?_, erase_nd w.nd k, fun q u hq => w.fm q u (erase_mem k hq)⟩
  · by_cases e : a = p
    · subst e; rw [upd_same] at z; rw [← z]; exact hp
    · rw [upd_ne e] at z; exact w.gh a u z
  · rw [upd_ne (fun e => by subst e; exact z n0)]; exact w.gr.fg a z n
  · rw [upd_ne (erase_ne w.nd h hq)]; exact w.sep q u (erase_mem k hq)
end
/-! # statements, expressions with what they do -/
def Sx (W : Ent) (t : TS) (D : Ends) (σ : L2.St) (G : Hp) (M : Mem) : Prop := ∀ H, World W G M H → t D σ H
def Nx (W : Ent) (D : Ends) (σ : L2.St) (G : Hp) (M : Mem) : Prop := ∀ H, World W G M H → D.nx σ H
def Sw (W : Ent) (te : TE) (σ : L2.St) (G : Hp) (M : Mem) (C : V → Hp → Mem → Prop) : Prop := ∀ H, World W G M H → ∀ Q : VK, (∀ v G' M' H', World W G' M' H' → C v G' M' → Q v H') → te σ H Q
def Swt (W : Ent) (tt : TT) (σ : L2.St) (G : Hp) (M : Mem) (C : Bool → Hp → Mem → Prop) : Prop := ∀ H, World W G M H → ∀ Q : Bool → Hp → Prop, (∀ b G' M' H', World W G' M' H' → C b G' M' → Q b H') → tt σ H Q
def Swa (W : Ent) (ta : TA) (σ : L2.St) (G : Hp) (M : Mem) (C : List V → Hp → Mem → Prop) : Prop := ∀ H, World W G M H → ∀ Q : List V → Hp → Prop, (∀ vs G' M' H', World W G' M' H' → C vs G' M' → Q vs H') → ta σ H Q
def Rw2 (W : Ent) (r : R2) (x y : V) (G : Hp) (M : Mem) (C : V → Hp → Mem → Prop) : Prop := ∀ H, World W G M H → ∀ Q : VK, (∀ v G' M' H', World W G' M' H' → C v G' M' → Q v H') → r x y H Q
def Rwa (W : Ent) (r : List V → Hp → VK → Prop) (xs : List V) (G : Hp) (M : Mem) (C : V → Hp → Mem → Prop) : Prop := ∀ H, World W G M H → ∀ Q : VK, (∀ v G' M' H', World W G' M' H' → C v G' M' → Q v H') → r xs H Q
/-- what a return is to reach -/
def Ret (W : Ent) (D : Ends) (R : V → Hp → Mem → Prop) : Prop := ∀ v G' M' H', World W G' M' H' → R v G' M' → D.rt v H'
/-- a word between statements -/
def At (W : Ent) (P : L2.St → Hp → Mem → Prop) : L2.St → Hp → Prop := fun σ H => ∃ G M, World W G M H ∧ P σ G M
section
variable {W : Ent} {D : Ends} {σ : L2.St} {G : Hp} {M : Mem} {K : PySem.W.Frag} {te ta tb : TE} {tt tu : TT} {t u tz : TS} {d : PyData} {C : V → Hp → Mem → Prop} {i j k : Nat}
theorem sx_seq (h : Sx W t { D with nx := u D } σ G M) : Sx W (tSeq t u) D σ G M := h
theorem sx_next (h : Nx W D σ G M) : Sx W tNext D σ G M := h
/-- plain evaluation -/
theorem sw_ev (h : EvD K te σ G d) (c : ∀ v G', Ex G G' → Da K G' v d → C v G' M) : Sw W te σ G M C := fun H w Q q =>
  h G H (Ex.refl G) w.gh _ fun v G' H' g dv => q v G' M H' (w.grow g) (c v G' g.gg dv)
/-- .. to a plain value: G stays -/
theorem sw_int {n : Int} (h : EvD K te σ G (.int n)) (c : C (.int n) G M) : Sw W te σ G M C := fun H w Q q =>
  h G H (Ex.refl G) w.gh _ fun v G' H' g dv => q v G M H' (w.ext g.hh) (by rw [dv.int_eq]; exact c)
theorem sw_bool {b : Bool} (h : EvD K te σ G (.bool b)) (c : C (.bl b) G M) : Sw W te σ G M C := fun H w Q q =>
  h G H (Ex.refl G) w.gh _ fun v G' H' g dv => q v G M H' (w.ext g.hh) (by rw [dv.bl_eq]; exact c)
theorem sw_str {x : Str} (h : EvD K te σ G (.str x)) (c : C (.str x) G M) : Sw W te σ G M C := fun H w Q q =>
  h G H (Ex.refl G) w.gh _ fun v G' H' g dv => q v G M H' (w.ext g.hh) (by rw [dv.str_eq]; exact c)
theorem sw_non (h : EvD K te σ G .none) (c : C .non G M) : Sw W te σ G M C := fun H w Q q =>
  h G H (Ex.refl G) w.gh _ fun v G' H' g dv => q v G M H' (w.ext g.hh) (by rw [dv.non_eq]; exact c)
/-- a name, whatever it holds -/
theorem sw_var {v : V} (h : σ[i]? = some (some v)) (c : C v G M) : Sw W (tVar i) σ G M C := fun H w Q q => ⟨v, h, q v G M H w c⟩
theorem sw_op {r : R2} (h : Sw W ta σ G M fun x G1 M1 => Sw W tb σ G1 M1 fun y G2 M2 => Rw2 W r x y G2 M2 C) : Sw W (tOp r ta tb) σ G M C := fun H w Q q =>
  h H w _ fun x G1 M1 H1 w1 h1 => h1 H1 w1 _ fun y G2 M2 H2 w2 h2 => h2 H2 w2 Q q
theorem rw_rd {r : R2} {x y : V} {a b : PyData} (h : RD2 K r G a b d) (hx : Da K G x a) (hy : Da K G y b) (c : ∀ v G', Ex G G' → Da K G' v d → C v G' M) : Rw2 W r x y G M C := fun H w Q q =>
  h G H (Ex.refl G) w.gh x y hx hy Q fun v G' H' g dv => q v G' M H' (w.grow g) (c v G' g.gg dv)
theorem rw_int {r : R2} {x y : V} {a b : PyData} {n : Int} (h : RD2 K r G a b (.int n)) (hx : Da K G x a) (hy : Da K G y b) (c : C (.int n) G M) : Rw2 W r x y G M C := fun H w Q q =>
  h G H (Ex.refl G) w.gh x y hx hy Q fun v G' H' g dv => q v G M H' (w.ext g.hh) (by rw [dv.int_eq]; exact c)
theorem rw_bool {r : R2} {x y : V} {a b : PyData} {n : Bool} (h : RD2 K r G a b (.bool n)) (hx : Da K G x a) (hy : Da K G y b) (c : C (.bl n) G M) : Rw2 W r x y G M C := fun H w Q q =>
  h G H (Ex.refl G) w.gh x y hx hy Q fun v G' H' g dv => q v G M H' (w.ext g.hh) (by rw [dv.bl_eq]; exact c)
theorem swa_nil {C : List V → Hp → Mem → Prop} (c : C [] G M) : Swa W tNil σ G M C := fun H w Q q => q [] G M H w c
theorem swa_cons {C : List V → Hp → Mem → Prop} {tr : TA} (h : Sw W ta σ G M fun x G1 M1 => Swa W tr σ G1 M1 fun xs G2 M2 => C (x :: xs) G2 M2) : Swa W (tCons ta tr) σ G M C := fun H w Q q =>
  h H w _ fun x G1 M1 H1 w1 h1 => h1 H1 w1 _ fun xs G2 M2 H2 w2 h2 => q (x :: xs) G2 M2 H2 w2 h2
theorem sw_cb {r : List V → Hp → VK → Prop} {ta : TA} (h : Swa W ta σ G M fun xs G1 M1 => Rwa W r xs G1 M1 C) : Sw W (tCB r ta) σ G M C := fun H w Q q =>
  h H w _ fun xs G1 M1 H1 w1 h1 => h1 H1 w1 Q q
theorem rwa_rd {r : List V → Hp → VK → Prop} {xs : List V} {as : List PyData} (h : RDA K r G as d) (hx : DaL K G xs as) (c : ∀ v G', Ex G G' → Da K G' v d → C v G' M) : Rwa W r xs G M C := fun H w Q q =>
  h G H (Ex.refl G) w.gh xs hx Q fun v G' H' g dv => q v G' M H' (w.grow g) (c v G' g.gg dv)
/-- a new tuple, a new list that is settled at once, or may be written -/
theorem sw_tup {ta : TA} (h : Swa W ta σ G M fun vs G1 M1 => ∃ ds, DaL K G1 vs ds ∧ ds.length ≤ 100000 ∧ ∀ v G', Ex G1 G' → Da K G' v (.tuple ds) → C v G' M1) : Sw W (tTup ta) σ G M C := fun H w Q q =>
  h H w _ fun vs G1 M1 H1 w1 ⟨ds, h1, hl, c⟩ => ⟨by rw [h1.len]; exact sz_of hl, fun p hp =>
    q _ _ M1 _ (w1.grow (Grow.new w1.gh hp)) (c _ _ (Ex.new (fresh_back w1.gh hp)) (.tup (SqT.of upd_same) (h1.mono (Ex.new (fresh_back w1.gh hp)))))⟩
theorem sw_lst {ta : TA} (h : Swa W ta σ G M fun vs G1 M1 => ∃ ds, DaL K G1 vs ds ∧ ds.length ≤ 100000 ∧ ∀ v G', Ex G1 G' → Da K G' v (.list ds) → C v G' M1) : Sw W (tLst ta) σ G M C := fun H w Q q =>
  h H w _ fun vs G1 M1 H1 w1 ⟨ds, h1, hl, c⟩ => ⟨by rw [h1.len]; exact sz_of hl, fun p hp =>
    q _ _ M1 _ (w1.grow (Grow.new w1.gh hp)) (c _ _ (Ex.new (fresh_back w1.gh hp)) (.lst upd_same (h1.mono (Ex.new (fresh_back w1.gh hp)))))⟩
theorem sw_lstO {ta : TA} (h : Swa W ta σ G M fun vs G1 M1 => vs.length ≤ 100000 ∧ ∀ p, W.H0 p = none → C (.ref p) G1 ((p, .lst vs) :: M1)) : Sw W (tLst ta) σ G M C := fun H w Q q =>
  h H w _ fun vs G1 M1 H1 w1 ⟨hl, c⟩ => ⟨sz_of hl, fun p hp => q _ _ _ _ (w1.new hp) (c p (w1.new0 hp))⟩
/-- tests -/
theorem swt_ev {b : Bool} {C : Bool → Hp → Mem → Prop} (h : EvT tt σ G b) (c : C b G M) : Swt W tt σ G M C := fun H w Q q => h H w.gh Q fun H' e => q b G M H' (w.ext e) c
theorem swt_test {C : Bool → Hp → Mem → Prop} (h : Sw W te σ G M fun v G' M' => ∃ b, v = .bl b ∧ C b G' M') : Swt W (tTest te) σ G M C := fun H w Q q =>
  h H w _ fun v G' M' H' w' ⟨b, e, c⟩ => ⟨b, e, q b G' M' H' w' c⟩
theorem swt_B {C : Bool → Hp → Mem → Prop} (h : Sw W te σ G M fun v G' M' => ∃ b, v = .bl b ∧ C b G' M') : Swt W (tB te) σ G M C := fun H w Q q =>
  h H w _ fun v G' M' H' w' ⟨b, e, c⟩ => ⟨b, e, q b G' M' H' w' c⟩
theorem swt_not {C : Bool → Hp → Mem → Prop} (h : Swt W tt σ G M fun b G' M' => C (!b) G' M') : Swt W (tNot tt) σ G M C := fun H w Q q => h H w _ fun b G' M' H' w' c => q _ G' M' H' w' c
theorem swt_and {C : Bool → Hp → Mem → Prop} (h : Swt W tt σ G M fun b G' M' => (b = true → Swt W tu σ G' M' C) ∧ (b = false → C false G' M')) : Swt W (tAnd tt tu) σ G M C := fun H w Q q => h H w _ fun b G' M' H' w' c => by
  cases b with
  | true => exact c.1 rfl H' w' Q q
  | false => exact q _ G' M' H' w' (c.2 rfl)
theorem swt_or {C : Bool → Hp → Mem → Prop} (h : Swt W tt σ G M fun b G' M' => (b = false → Swt W tu σ G' M' C) ∧ (b = true → C true G' M')) : Swt W (tOr tt tu) σ G M C := fun H w Q q => h H w _ fun b G' M' H' w' c => by
  cases b with
  | true => exact q _ G' M' H' w' (c.2 rfl)
  | false => exact c.1 rfl H' w' Q q
/-! ## statements -/
theorem sx_asgW (h : Sw W te σ G M fun v G' M' => Nx W D (σ.set i (some v)) G' M') : Sx W (tAsg te (gName i)) D σ G M := fun H w =>
  h H w _ fun v G' M' H' w' c => c H' w'
theorem q_asgW (h : Sw W te σ G M fun v G' M' => Sx W tz D (σ.set i (some v)) G' M') : Sx W (tSeq (tAsg te (gName i)) tz) D σ G M := sx_asgW (D := { D with nx := tz D }) h
theorem sx_dropW (h : Sw W te σ G M fun v G' M' => Nx W D σ G' M') : Sx W (tDrop te) D σ G M := fun H w => h H w _ fun v G' M' H' w' c => c H' w'
theorem q_dropW (h : Sw W te σ G M fun v G' M' => Sx W tz D σ G' M') : Sx W (tSeq (tDrop te) tz) D σ G M := sx_dropW (D := { D with nx := tz D }) h
theorem sx_retW {R : V → Hp → Mem → Prop} (hr : Ret W D R) (h : Sw W te σ G M R) : Sx W (tRet te) D σ G M := fun H w => h H w _ fun v G' M' H' w' c => hr v G' M' H' w' c
theorem q_retW {R : V → Hp → Mem → Prop} (hr : Ret W D R) (h : Sw W te σ G M R) : Sx W (tSeq (tRet te) tz) D σ G M := sx_retW (D := { D with nx := tz D }) hr h
theorem sx_ret {R : V → Hp → Mem → Prop} (hr : Ret W D R) (h : EvD K te σ G d) (c : ∀ v G', Ex G G' → Da K G' v d → R v G' M) : Sx W (tRet te) D σ G M := sx_retW hr (sw_ev h c)
theorem sx_ifW (h : Swt W tt σ G M fun b G' M' => (b = true → Sx W t D σ G' M') ∧ (b = false → Sx W u D σ G' M')) : Sx W (tIfS tt t u) D σ G M := fun H w => h H w _ fun b G' M' H' w' c => by
  cases b with
  | true => exact c.1 rfl H' w'
  | false => exact c.2 rfl H' w'
theorem q_ifW (h : Swt W tt σ G M fun b G' M' => (b = true → Sx W t { D with nx := tz D } σ G' M') ∧ (b = false → Sx W u { D with nx := tz D } σ G' M')) : Sx W (tSeq (tIfS tt t u) tz) D σ G M := sx_ifW (D := { D with nx := tz D }) h
theorem sx_if {b : Bool} (h : EvT tt σ G b) (h1 : b = true → Sx W t D σ G M) (h2 : b = false → Sx W u D σ G M) : Sx W (tIfS tt t u) D σ G M := sx_ifW (swt_ev h ⟨h1, h2⟩)
theorem q_if {b : Bool} (h : EvT tt σ G b) (h1 : b = true → Sx W t { D with nx := tz D } σ G M) (h2 : b = false → Sx W u { D with nx := tz D } σ G M) : Sx W (tSeq (tIfS tt t u) tz) D σ G M := q_ifW (swt_ev h ⟨h1, h2⟩)
/-- an if without else -/
theorem q_when {b : Bool} (h : EvT tt σ G b) (h1 : b = true → Sx W t { D with nx := tz D } σ G M) (h2 : b = false → Sx W tz D σ G M) : Sx W (tSeq (tIfS tt t tNext) tz) D σ G M := q_ifW (swt_ev h ⟨h1, h2⟩)
theorem q_whenW (h : Swt W tt σ G M fun b G' M' => (b = true → Sx W t { D with nx := tz D } σ G' M') ∧ (b = false → Sx W tz D σ G' M')) : Sx W (tSeq (tIfS tt t tNext) tz) D σ G M := q_ifW (u := tNext) h
theorem q_asg (h : EvD K te σ G d) (c : ∀ v G', Ex G G' → Da K G' v d → Sx W tz D (σ.set i (some v)) G' M) : Sx W (tSeq (tAsg te (gName i)) tz) D σ G M := q_asgW (sw_ev h c)
theorem q_asgI {n : Int} (h : EvD K te σ G (.int n)) (c : Sx W tz D (σ.set i (some (.int n))) G M) : Sx W (tSeq (tAsg te (gName i)) tz) D σ G M := q_asgW (sw_int h c)
theorem q_asgB {n : Bool} (h : EvD K te σ G (.bool n)) (c : Sx W tz D (σ.set i (some (.bl n))) G M) : Sx W (tSeq (tAsg te (gName i)) tz) D σ G M := q_asgW (sw_bool h c)
theorem q_asgS {n : Str} (h : EvD K te σ G (.str n)) (c : Sx W tz D (σ.set i (some (.str n))) G M) : Sx W (tSeq (tAsg te (gName i)) tz) D σ G M := q_asgW (sw_str h c)
theorem q_drop (h : EvD K te σ G d) (c : Sx W tz D σ G M) : Sx W (tSeq (tDrop te) tz) D σ G M := fun H w => h G H (Ex.refl G) w.gh _ fun v G' H' g dv => c H' (w.ext g.hh)
/-- a new list that may be written -/
theorem q_lstO {ta : TA} {ds : List PyData} (h : EvA K ta σ G ds) (hl : ds.length ≤ 100000) (c : ∀ p vs G', W.H0 p = none → Ex G G' → DaL K G' vs ds → Sx W tz D (σ.set i (some (.ref p))) G' ((p, .lst vs) :: M)) : Sx W (tSeq (tAsg (tLst ta) (gName i)) tz) D σ G M := fun H w =>
  h G H (Ex.refl G) w.gh _ fun vs G' H' g dv => ⟨by rw [dv.len]; exact sz_of hl, fun p hp => c p vs G' ((w.grow g).new0 hp) g.gg dv _ ((w.grow g).new hp)⟩
/-- xs.append(e) -/
theorem sx_app {tr : TE} {p : Addr} {xs : List V} (ho : σ[i]? = some (some (.ref p))) (hm : ∀ G1 M1 v, C v G1 M1 → ∃ k, M1[k]? = some (p, .lst xs) ∧ xs.length < 100000 ∧ Nx W D σ G1 (M1.set k (p, .lst (xs ++ [v])))) (hp : ∃ o, (p, .lst o) ∈ M) (h : Sw W tr σ G M C) :
    Sx W (tDrop (tBM K "list" rAppend (tVar i) (tCons tr tNil))) D σ G M := fun H w => by
  obtain ⟨o, hp⟩ := hp
  refine ⟨.ref p, ho, .inl ⟨rfl, _, SqL.of (w.own p _ hp)⟩, h H w _ fun v G1 M1 H1 w1 c => ?_⟩
  obtain ⟨k, hk, hl, n⟩ := hm G1 M1 v c
  exact ⟨p, xs, v, rfl, rfl, w1.own p _ (List.mem_of_getElem? hk), sz_lt hl, n _ (w1.set hk)⟩
end
/-! # what is walked, by data -/
structure Steps (K : PySem.W.Frag) (J : It) (G : Hp) (ds : List PyData) : Prop where
  go : ∀ i H, Ex G H → i < ds.length → J.go i H
  yld : ∀ i d G2 H x H', ds[i]? = some d → Ex G G2 → Ex G2 H → J.yld i H x H' → ∃ G3, Grow [] G2 H G3 H' ∧ Da K G3 x d
  stop : ∀ i H, Ex G H → ds.length ≤ i → J.stop i H
def IterD (K : PySem.W.Frag) (wi : TI) (σ : L2.St) (G : Hp) (ds : List PyData) : Prop :=
  ∀ G1 H, Ex G G1 → Ex G1 H → ∀ R : It → Hp → Prop, (∀ J G' H', Grow [] G1 H G' H' → Steps K J G' ds → R J H') → wi σ H R
/-- the same with what is done on the way -/
def IterW (K : PySem.W.Frag) (W : Ent) (wi : TI) (σ : L2.St) (G : Hp) (M : Mem) (C : List PyData → Hp → Mem → Prop) : Prop :=
  ∀ H, World W G M H → ∀ R : It → Hp → Prop, (∀ J ds G' M' H', World W G' M' H' → Steps K J G' ds → C ds G' M' → R J H') → wi σ H R
section
variable {K : PySem.W.Frag} {W : Ent} {σ : L2.St} {G : Hp} {M : Mem} {tl : TE} {ds : List PyData} {a : Addr} {xs : List V}
theorem steps_list (h : G a = some (.lst xs)) (r : DaL K G xs ds) : Steps K (Itl K a) G ds where
  go := fun i H e hi => by
    have hx : i < xs.length := by rw [r.len]; exact hi
    exact ⟨xs, xs[i], SqL.of (e a _ h), List.getElem?_eq_getElem hx⟩
  yld := fun i d G2 H x H' hd e e2 hy => by
    obtain ⟨rfl, hy⟩ := hy
    have hx := hy xs (SqL.of (e2 a _ (e a _ h)))
    obtain ⟨d', hd', q⟩ := r.getV hx
    rw [hd] at hd'; cases hd'
    exact ⟨G2, Grow.refl e2, q.mono e⟩
  stop := fun i H e hi => ⟨xs, SqL.of (e a _ h), by rw [r.len]; exact hi⟩
theorem steps_tup (h : SqT K G a xs) (r : DaL K G xs ds) : Steps K (Itt K a) G ds where
  go := fun i H e hi => by
    have hx : i < xs.length := by rw [r.len]; exact hi
    exact ⟨xs, xs[i], ex_t e h, List.getElem?_eq_getElem hx⟩
  yld := fun i d G2 H x H' hd e e2 hy => by
    obtain ⟨rfl, hy⟩ := hy
    have hx := hy xs (ex_t e2 (ex_t e h))
    obtain ⟨d', hd', q⟩ := r.getV hx
    rw [hd] at hd'; cases hd'
    exact ⟨G2, Grow.refl e2, q.mono e⟩
  stop := fun i H e hi => ⟨xs, ex_t e h, by rw [r.len]; exact hi⟩
/-- lo, lo + 1, .. -/
def rngD (lo : Int) (n : Nat) : List PyData := (List.range n).map fun i : Nat => PyData.int (lo + (i : Int))
theorem rngD_len (lo : Int) (n : Nat) : (rngD lo n).length = n := by unfold rngD; rw [List.length_map, List.length_range]
theorem rngD_get {lo : Int} {n i : Nat} {d : PyData} (h : (rngD lo n)[i]? = some d) : i < n ∧ d = .int (lo + (i : Int)) := by
  unfold rngD at h
  rw [List.getElem?_map] at h
  by_cases hi : i < n
  · rw [List.getElem?_range hi] at h
    exact ⟨hi, (Option.some.inj h).symm⟩
  · rw [List.getElem?_eq_none (by rw [List.length_range]; omega)] at h
    cases h
theorem steps_rng (lo : Int) (n : Nat) : Steps K (Itr lo n) G (rngD lo n) where
  go := fun i H e hi => by rw [rngD_len] at hi; exact hi
  yld := fun i d G2 H x H' hd e e2 hy => by
    obtain ⟨rfl, rfl⟩ := hy
    obtain ⟨_, rfl⟩ := rngD_get hd
    exact ⟨G2, Grow.refl e2, .int _⟩
  stop := fun i H e hi => by rw [rngD_len] at hi; exact hi
def chrD (x : Str) : List PyData := x.cps.toList.map fun c => PyData.str ⟨#[c]⟩
theorem steps_str (x : Str) : Steps K (Its x) G (chrD x) where
  go := fun i H e hi => by
    unfold chrD at hi
    rw [List.length_map, Array.length_toList] at hi
    exact hi
  yld := fun i d G2 H v H' hd e e2 hy => by
    obtain ⟨rfl, c, hc, rfl⟩ := hy
    unfold chrD at hd
    rw [List.getElem?_map, Array.getElem?_toList, hc] at hd
    cases hd
    exact ⟨G2, Grow.refl e2, .str _⟩
  stop := fun i H e hi => by
    unfold chrD at hi
    rw [List.length_map, Array.length_toList] at hi
    exact hi
def zipD (as bs : List PyData) : List PyData := (as.zip bs).map fun p => PyData.tuple [p.1, p.2]
theorem zip_get {as bs : List PyData} {i : Nat} {d : PyData} (h : (zipD as bs)[i]? = some d) : ∃ x y, as[i]? = some x ∧ bs[i]? = some y ∧ d = .tuple [x, y] := by
  unfold zipD at h
  rw [List.getElem?_map] at h
  cases e : (as.zip bs)[i]? with
  | none => rw [e] at h; cases h
  | some p =>
    rw [e] at h
    obtain ⟨h1, h2⟩ := List.getElem?_zip_eq_some.mp e
    exact ⟨p.1, p.2, h1, h2, (Option.some.inj h).symm⟩
theorem zipD_len (as bs : List PyData) : (zipD as bs).length = min as.length bs.length := by unfold zipD; rw [List.length_map, List.length_zip]
theorem steps_zip {b : Addr} {ys : List V} {es : List PyData} (h : G a = some (.lst xs)) (r : DaL K G xs ds) (h' : G b = some (.lst ys)) (r' : DaL K G ys es) : Steps K (Itz K a b) G (zipD ds es) where
  go := fun i H e hi => by
    rw [zipD_len] at hi
    have hx : i < xs.length := by rw [r.len]; omega
    have hy : i < ys.length := by rw [r'.len]; omega
    exact ⟨xs, ys, xs[i], ys[i], SqL.of (e a _ h), SqL.of (e b _ h'), List.getElem?_eq_getElem hx, List.getElem?_eq_getElem hy⟩
  yld := fun i d G2 H v H' hd e e2 hy => by
    obtain ⟨T, x, y, rfl, hT, rfl, h1, h2⟩ := hy
    obtain ⟨dx, dy, g1, g2, rfl⟩ := zip_get hd
    have k1 := h1 xs (SqL.of (e2 a _ (e a _ h)))
    have k2 := h2 ys (SqL.of (e2 b _ (e b _ h')))
    obtain ⟨d1, z1, q1⟩ := r.getV k1
    obtain ⟨d2, z2, q2⟩ := r'.getV k2
    rw [g1] at z1; cases z1
    rw [g2] at z2; cases z2
    have en := Ex.new (o := HO.tup [x, y]) (fresh_back e2 hT)
    exact ⟨_, Grow.new e2 hT, .tup (SqT.of upd_same) (.cons ((q1.mono e).mono en) (.cons ((q2.mono e).mono en) .nil))⟩
  stop := fun i H e hi => by
    rw [zipD_len] at hi
    refine ⟨xs, ys, SqL.of (e a _ h), SqL.of (e b _ h'), ?_⟩
    rw [r.len, r'.len]; omega
def enumD (ds : List PyData) : List PyData := (List.range ds.length).zipWith (fun (i : Nat) d => PyData.tuple [.int (i : Int), d]) ds
theorem enumD_get {i : Nat} {d : PyData} (h : (enumD ds)[i]? = some d) : ∃ x, ds[i]? = some x ∧ d = .tuple [.int (i : Int), x] := by
  unfold enumD at h
  rw [List.getElem?_zipWith] at h
  cases e1 : (List.range ds.length)[i]? with
  | none => rw [e1] at h; simp at h
  | some k =>
    cases e2 : ds[i]? with
    | none => rw [e1, e2] at h; simp at h
    | some x =>
      rw [e1, e2] at h
      have hk : k = i := by
        have := List.getElem?_eq_some_iff.mp e1
        obtain ⟨h1, h2⟩ := this
        rw [List.getElem_range] at h2
        exact h2.symm
      subst hk
      exact ⟨x, rfl, (Option.some.inj h).symm⟩
theorem enumD_len : (enumD ds).length = ds.length := by unfold enumD; rw [List.length_zipWith, List.length_range, Nat.min_self]
theorem steps_enum (h : G a = some (.lst xs)) (r : DaL K G xs ds) : Steps K (Ite K a) G (enumD ds) where
  go := fun i H e hi => by
    rw [enumD_len] at hi
    have hx : i < xs.length := by rw [r.len]; exact hi
    exact ⟨xs, xs[i], SqL.of (e a _ h), List.getElem?_eq_getElem hx⟩
  yld := fun i d G2 H v H' hd e e2 hy => by
    obtain ⟨T, x, rfl, hT, rfl, h1⟩ := hy
    obtain ⟨dx, g1, rfl⟩ := enumD_get hd
    have k1 := h1 xs (SqL.of (e2 a _ (e a _ h)))
    obtain ⟨d1, z1, q1⟩ := r.getV k1
    rw [g1] at z1; cases z1
    have en := Ex.new (o := HO.tup [.int (i : Nat), x]) (fresh_back e2 hT)
    exact ⟨_, Grow.new e2 hT, .tup (SqT.of upd_same) (.cons (.int _) (.cons ((q1.mono e).mono en) .nil))⟩
  stop := fun i H e hi => by
    rw [enumD_len] at hi
    exact ⟨xs, SqL.of (e a _ h), by rw [r.len]; exact hi⟩
/-- a list, a tuple or a text -/
def iSeq (K : PySem.W.Frag) (tl : TE) : TI := fun σ H R => iList K tl σ H R ∨ iTup K tl σ H R ∨ iStr tl σ H R
theorem pi_seq {X : Cx} {tg l : Expr} {tl : TE} (hl : PE X l tl) : PI X tg l (iSeq X.K tl) := ⟨fun pins s σ H R I h => by
  rcases h with h | h | h
  · exact (pi_list hl).run pins s σ H R I h
  · exact (pi_tup hl).run pins s σ H R I h
  · exact (pi_str hl).run pins s σ H R I h⟩
theorem it_list (h : EvD K tl σ G (.list ds)) : IterD K (iSeq K tl) σ G ds := fun G1 H e e2 R q =>
  .inl (h G1 H e e2 _ fun v G' H' g dv => by
    cases dv with
    | lst h r => exact ⟨_, rfl, ⟨_, SqL.of (g.gh _ _ h)⟩, q _ G' H' g (steps_list h r)⟩)
theorem it_tup (h : EvD K tl σ G (.tuple ds)) : IterD K (iSeq K tl) σ G ds := fun G1 H e e2 R q =>
  .inr (.inl (h G1 H e e2 _ fun v G' H' g dv => by
    cases dv with
    | tup h r => exact ⟨_, rfl, ⟨_, ex_t g.gh h⟩, q _ G' H' g (steps_tup h r)⟩))
theorem it_str {x : Str} (h : EvD K tl σ G (.str x)) : IterD K (iSeq K tl) σ G (chrD x) := fun G1 H e e2 R q =>
  .inr (.inr (h G1 H e e2 _ fun v G' H' g dv => ⟨x, dv.str_eq, q _ G' H' g (steps_str x)⟩))
theorem it_rng1 {ta : TA} {n : Int} (h : EvA K ta σ G [.int n]) (h1 : -(2 ^ 62) ≤ n) (h2 : n < 2 ^ 62) : IterD K (iRng1 ta) σ G (rngD 0 n.toNat) := fun G1 H e e2 R q =>
  h G1 H e e2 _ fun vs G' H' g dv => by
    obtain ⟨v, rfl, hv⟩ := dv.one_inv
    obtain rfl := hv.int_eq
    exact ⟨n, rfl, h1, h2, q _ G' H' g (steps_rng 0 _)⟩
theorem it_rng2 {ta : TA} {m n : Int} (h : EvA K ta σ G [.int m, .int n]) (h1 : -(2 ^ 62) ≤ m) (h2 : m < 2 ^ 62) (h3 : -(2 ^ 62) ≤ n) (h4 : n < 2 ^ 62) : IterD K (iRng2 ta) σ G (rngD m (n - m).toNat) := fun G1 H e e2 R q =>
  h G1 H e e2 _ fun vs G' H' g dv => by
    obtain ⟨v, w, rfl, hv, hw⟩ := dv.two_inv
    obtain rfl := hv.int_eq
    obtain rfl := hw.int_eq
    exact ⟨m, n, rfl, ⟨h1, h2, h3, h4⟩, q _ G' H' g (steps_rng m _)⟩
theorem it_zip {ta : TA} {as bs : List PyData} (h : EvA K ta σ G [.list as, .list bs]) : IterD K (iZip K ta) σ G (zipD as bs) := fun G1 H e e2 R q =>
  h G1 H e e2 _ fun vs G' H' g dv => by
    obtain ⟨v, w, rfl, hv, hw⟩ := dv.two_inv
    cases hv with
    | lst h r =>
      cases hw with
      | lst h' r' => exact ⟨_, _, _, _, rfl, SqL.of (g.gh _ _ h), SqL.of (g.gh _ _ h'), q _ G' H' g (steps_zip h r h' r')⟩
theorem it_enum {ta : TA} (h : EvA K ta σ G [.list ds]) : IterD K (iEnum K ta) σ G (enumD ds) := fun G1 H e e2 R q =>
  h G1 H e e2 _ fun vs G' H' g dv => by
    obtain ⟨v, rfl, hv⟩ := dv.one_inv
    cases hv with
    | lst h r => exact ⟨_, _, rfl, SqL.of (g.gh _ _ h), q _ G' H' g (steps_enum h r)⟩
theorem itw_d {wi : TI} {C : List PyData → Hp → Mem → Prop} (h : IterD K wi σ G ds) (c : ∀ G', Ex G G' → C ds G' M) : IterW K W wi σ G M C := fun H w R q =>
  h G H (Ex.refl G) w.gh R fun J G' H' g s => q J ds G' M H' (w.grow g) s (c G' g.gg)
/-- an iterable that is reckoned with deeds on the way -/
theorem itw_list {C : List PyData → Hp → Mem → Prop} (h : Sw W tl σ G M fun v G' M' => ∃ ds, Da K G' v (.list ds) ∧ C ds G' M') : IterW K W (iSeq K tl) σ G M C := fun H w R q =>
  .inl (h H w _ fun v G' M' H' w' ⟨ds, dv, c⟩ => by
    cases dv with
    | lst h r => exact ⟨_, rfl, ⟨_, SqL.of (w'.gh _ _ h)⟩, q _ ds G' M' H' w' (steps_list h r) c⟩)
theorem itw_tup {C : List PyData → Hp → Mem → Prop} (h : Sw W tl σ G M fun v G' M' => ∃ ds, Da K G' v (.tuple ds) ∧ C ds G' M') : IterW K W (iSeq K tl) σ G M C := fun H w R q =>
  .inr (.inl (h H w _ fun v G' M' H' w' ⟨ds, dv, c⟩ => by
    cases dv with
    | tup h r => exact ⟨_, rfl, ⟨_, ex_t w'.gh h⟩, q _ ds G' M' H' w' (steps_tup h r) c⟩))
theorem itw_rng1 {ta : TA} {C : List PyData → Hp → Mem → Prop} (h : Swa W ta σ G M fun vs G' M' => ∃ n : Int, vs = [.int n] ∧ -(2 ^ 62) ≤ n ∧ n < 2 ^ 62 ∧ C (rngD 0 n.toNat) G' M') : IterW K W (iRng1 ta) σ G M C := fun H w R q =>
  h H w _ fun vs G' M' H' w' ⟨n, e, h1, h2, c⟩ => ⟨n, e, h1, h2, q _ _ G' M' H' w' (steps_rng 0 _) c⟩
end
/-! # targets -/
def Gx (W : Ent) (g : TG) (v : V) (σ : L2.St) (G : Hp) (M : Mem) (C : L2.St → Prop) : Prop := ∀ H, World W G M H → ∀ Q : L2.St → Hp → Prop, (∀ σ', C σ' → Q σ' H) → g v σ H Q
section
variable {K : PySem.W.Frag} {W : Ent} {σ : L2.St} {G : Hp} {M : Mem} {v : V} {C : L2.St → Prop} {i j k l m : Nat}
theorem gx_name (c : C (σ.set i (some v))) : Gx W (gName i) v σ G M C := fun H w Q q => q _ c
theorem gx_tup2 {a b : PyData} (h : Da K G v (.tuple [a, b])) (c : ∀ x y, Da K G x a → Da K G y b → C ((σ.set i (some x)).set j (some y))) : Gx W (gTup K 2 (gCons (gName i) (gCons (gName j) gNil))) v σ G M C := fun H w Q q => by
  cases h with
  | tup h r =>
    obtain ⟨x, y, rfl, hx, hy⟩ := r.two_inv
    exact ⟨_, [x, y], rfl, ex_t w.gh h, rfl, x, [y], rfl, y, [], rfl, rfl, q _ (c x y hx hy)⟩
theorem DaL.three_inv {H : Hp} {vs : List V} {d e f : PyData} (h : DaL K H vs [d, e, f]) : ∃ v w x, vs = [v, w, x] ∧ Da K H v d ∧ Da K H w e ∧ Da K H x f := by
  cases h with
  | cons a b =>
    obtain ⟨w, x, rfl, c, d⟩ := b.two_inv
    exact ⟨_, w, x, rfl, a, c, d⟩
theorem gx_tup3 {a b d : PyData} (h : Da K G v (.tuple [a, b, d])) (c : ∀ x y z, Da K G x a → Da K G y b → Da K G z d → C (((σ.set i (some x)).set j (some y)).set k (some z))) : Gx W (gTup K 3 (gCons (gName i) (gCons (gName j) (gCons (gName k) gNil)))) v σ G M C := fun H w Q q => by
  cases h with
  | tup h r =>
    obtain ⟨x, y, z, rfl, hx, hy, hz⟩ := r.three_inv
    exact ⟨_, [x, y, z], rfl, ex_t w.gh h, rfl, x, _, rfl, y, _, rfl, z, [], rfl, rfl, q _ (c x y z hx hy hz)⟩
theorem DaL.cons_inv {H : Hp} {vs : List V} {d : PyData} {ds : List PyData} (h : DaL K H vs (d :: ds)) : ∃ v ws, vs = v :: ws ∧ Da K H v d ∧ DaL K H ws ds := by
  cases h with
  | cons a b => exact ⟨_, _, rfl, a, b⟩
theorem DaL.nil_inv {H : Hp} {vs : List V} (h : DaL K H vs []) : vs = [] := by cases h; rfl
theorem gx_tup4 {a b d e : PyData} (h : Da K G v (.tuple [a, b, d, e])) (c : ∀ x y z u, Da K G x a → Da K G y b → Da K G z d → Da K G u e → C ((((σ.set i (some x)).set j (some y)).set k (some z)).set l (some u))) : Gx W (gTup K 4 (gCons (gName i) (gCons (gName j) (gCons (gName k) (gCons (gName l) gNil))))) v σ G M C := fun H w Q q => by
  cases h with
  | tup h r =>
    obtain ⟨x, _, rfl, hx, r⟩ := r.cons_inv
    obtain ⟨y, z, u, rfl, hy, hz, hu⟩ := r.three_inv
    exact ⟨_, [x, y, z, u], rfl, ex_t w.gh h, rfl, x, _, rfl, y, _, rfl, z, _, rfl, u, [], rfl, rfl, q _ (c x y z u hx hy hz hu)⟩
theorem gx_tup5 {a b d e f : PyData} (h : Da K G v (.tuple [a, b, d, e, f])) (c : ∀ x y z u t, Da K G x a → Da K G y b → Da K G z d → Da K G u e → Da K G t f → C (((((σ.set i (some x)).set j (some y)).set k (some z)).set l (some u)).set m (some t))) : Gx W (gTup K 5 (gCons (gName i) (gCons (gName j) (gCons (gName k) (gCons (gName l) (gCons (gName m) gNil)))))) v σ G M C := fun H w Q q => by
  cases h with
  | tup h r =>
    obtain ⟨x, _, rfl, hx, r⟩ := r.cons_inv
    obtain ⟨y, _, rfl, hy, r⟩ := r.cons_inv
    obtain ⟨z, u, t, rfl, hz, hu, ht⟩ := r.three_inv
    exact ⟨_, [x, y, z, u, t], rfl, ex_t w.gh h, rfl, x, _, rfl, y, _, rfl, z, _, rfl, u, _, rfl, t, [], rfl, rfl, q _ (c x y z u t hx hy hz hu ht)⟩
end
/-! # loops -/
/-- the ends of a loop's turn that began at G -/
abbrev Turn (W : Ent) (D : Ends) (G : Hp) (P : L2.St → Hp → Mem → Prop) : Ends := { D with nx := At W fun σ G' M' => Ex G G' ∧ P σ G' M', ct := At W fun σ G' M' => Ex G G' ∧ P σ G' M', bk := D.nx }
section
variable {K : PySem.W.Frag} {W : Ent} {D : Ends} {σ : L2.St} {G : Hp} {M : Mem} {tb tz : TS} {g : TG} {wi : TI} {ds : List PyData}
theorem nx_turn {G0 : Hp} {P : L2.St → Hp → Mem → Prop} (e : Ex G0 G) (h : P σ G M) : Nx W (Turn W D G0 P) σ G M := fun H w => ⟨G, M, w, e, h⟩
theorem sx_forW (C : List PyData → Hp → Mem → Prop) (h : IterW K W wi σ G M C)
    (c : ∀ ds G1 M1, C ds G1 M1 → ∃ Pv : Nat → L2.St → Hp → Mem → Prop, Pv 0 σ G1 M1 ∧
      (∀ i d v σ' Ga G' M', ds[i]? = some d → Ex G1 Ga → Pv i σ' Ga M' → Ex Ga G' → Da K G' v d → Gx W g v σ' G' M' fun σ2 => Sx W tb (Turn W D Ga (Pv (i + 1))) σ2 G' M') ∧
      ∀ σ' G' M', Ex G1 G' → Pv ds.length σ' G' M' → Nx W D σ' G' M') : Sx W (tFor wi g tb) D σ G M := fun H w =>
  h H w _ fun J ds G1 M1 H1 w1 s hc => by
    obtain ⟨Pv, h0, hs, hd⟩ := c ds G1 M1 hc
    refine ⟨fun i m σ' H' => m = ds.length - i ∧ i ≤ ds.length ∧ ∃ G' M', World W G' M' H' ∧ Ex G1 G' ∧ Pv i σ' G' M', ⟨ds.length, by simp, Nat.zero_le _, G1, M1, w1, Ex.refl G1, h0⟩, ?_⟩
    rintro i m σ' H' ⟨rfl, hi, Ga, M', w', e, p⟩
    have ge := w'.gh
    by_cases hlt : i < ds.length
    · refine .inr ⟨s.go i H' (e.trans ge) hlt, fun σ2 H2 => ∃ G2 M2, World W G2 M2 H2 ∧ Ex Ga G2 ∧ Pv (i + 1) σ2 G2 M2, fun σ2 H2 ⟨G2, M2, w2, e2, p2⟩ => ⟨ds.length - (i + 1), by omega, rfl, hlt, G2, M2, w2, e.trans e2, p2⟩, fun x H2 y => ?_⟩
      obtain ⟨G', g3, dx⟩ := s.yld i ds[i] Ga H' x H2 (List.getElem?_eq_getElem hlt) e ge y
      exact hs i ds[i] x σ' Ga G' M' (List.getElem?_eq_getElem hlt) e p g3.gg dx H2 (w'.grow g3) _ fun σ2 b => b H2 (w'.grow g3)
    · have e0 : i = ds.length := by omega
      subst e0
      exact .inl ⟨s.stop _ H' (e.trans ge) (Nat.le_refl _), hd σ' Ga M' e p H' w'⟩
theorem q_forW (C : List PyData → Hp → Mem → Prop) (h : IterW K W wi σ G M C)
    (c : ∀ ds G1 M1, C ds G1 M1 → ∃ Pv : Nat → L2.St → Hp → Mem → Prop, Pv 0 σ G1 M1 ∧
      (∀ i d v σ' Ga G' M', ds[i]? = some d → Ex G1 Ga → Pv i σ' Ga M' → Ex Ga G' → Da K G' v d → Gx W g v σ' G' M' fun σ2 => Sx W tb (Turn W { D with nx := tz D } Ga (Pv (i + 1))) σ2 G' M') ∧
      ∀ σ' G' M', Ex G1 G' → Pv ds.length σ' G' M' → Sx W tz D σ' G' M') : Sx W (tSeq (tFor wi g tb) tz) D σ G M := sx_forW (D := { D with nx := tz D }) C h c
/-- a plain iterable, a name for target -/
theorem q_for {j : Nat} (h : IterD K wi σ G ds) (Pv : Nat → L2.St → Hp → Mem → Prop) (h0 : ∀ G', Ex G G' → Pv 0 σ G' M)
    (hs : ∀ i d v σ' Ga G' M', ds[i]? = some d → Ex G Ga → Pv i σ' Ga M' → Ex Ga G' → Da K G' v d → Sx W tb (Turn W { D with nx := tz D } Ga (Pv (i + 1))) (σ'.set j (some v)) G' M')
    (hd : ∀ σ' G' M', Ex G G' → Pv ds.length σ' G' M' → Sx W tz D σ' G' M') : Sx W (tSeq (tFor wi (gName j) tb) tz) D σ G M :=
  q_forW (fun es G1 M1 => es = ds ∧ Ex G G1 ∧ M1 = M) (itw_d h fun G' e => ⟨rfl, e, rfl⟩) fun es G1 M1 hc => by
    obtain ⟨rfl, e, rfl⟩ := hc
    exact ⟨Pv, h0 G1 e, fun i d v σ' Ga G' M' h1 h2 h3 h4 h5 => gx_name (hs i d v σ' Ga G' M' h1 (e.trans h2) h3 h4 h5), fun σ' G' M' h1 h2 => hd σ' G' M' (e.trans h1) h2⟩
/-- while -/
theorem sx_while {tt : TT} (Pv : Nat → L2.St → Hp → Mem → Prop) (m0 : Nat) (h0 : Pv m0 σ G M)
    (hs : ∀ m σ' G' M', Pv m σ' G' M' → Swt W tt σ' G' M' fun b G2 M2 => (b = true → Sx W tb (Turn W D G2 fun σ3 G3 M3 => ∃ m', m' < m ∧ Pv m' σ3 G3 M3) σ' G2 M2) ∧ (b = false → Nx W D σ' G2 M2)) : Sx W (tWhile tt tb) D σ G M := fun H w => by
  refine ⟨fun m σ' H' => ∃ G' M', World W G' M' H' ∧ Pv m σ' G' M', ⟨m0, G, M, w, h0⟩, ?_⟩
  rintro m σ' H' ⟨G', M', w', p⟩
  refine hs m σ' G' M' p H' w' _ fun b G2 M2 H2 w2 hc => ?_
  cases b with
  | true =>
    refine ⟨_, ?_, hc.1 rfl H2 w2⟩
    rintro σ3 H3 ⟨G3, M3, w3, _, m', hm, p3⟩
    exact ⟨m', hm, G3, M3, w3, p3⟩
  | false => exact hc.2 rfl H2 w2
/-- the two ways behind an if meet -/
theorem sx_cut (Mid : L2.St → Hp → Mem → Prop) (h : Sx W tb { D with nx := At W fun σ G' M' => Ex G G' ∧ Mid σ G' M' } σ G M) (k : ∀ σ' G' M', Ex G G' → Mid σ' G' M' → Sx W tz D σ' G' M') : Sx W (tCut tb tz) D σ G M := fun H w =>
  ⟨_, h H w, fun σ' H' ⟨G', M', w', e, m⟩ => k σ' G' M' e m H' w'⟩
theorem nx_at {P : L2.St → Hp → Mem → Prop} {G0 : Hp} (e : Ex G0 G) (h : P σ G M) : Nx W { D with nx := At W fun σ G' M' => Ex G0 G' ∧ P σ G' M' } σ G M := fun H w => ⟨G, M, w, e, h⟩
end
/-! # comprehensions -/
section
variable {K : PySem.W.Frag} {W : Ent} {σ : L2.St} {G : Hp} {M : Mem} {tt : TT} {te : TE} {g : TG} {wi : TI} {ds : List PyData} {vs : List Nat}
/-- the plain one: over xs, told by e; kept where f, as r tells -/
theorem ev_lcG {α : Type} (xs : List α) (e : α → PyData) (f : α → Bool) (r : α → PyData) (h : IterD K wi σ G (xs.map e)) (hl : xs.length ≤ 50000)
    (hs : ∀ x ∈ xs, ∀ v G', Ex G G' → Da K G' v (e x) → ∀ H, Ex G' H → ∀ Q : L2.St → Hp → Prop, (∀ σ2, wipe σ2 vs = wipe σ vs → EvT tt σ2 G' (f x) → (f x = true → EvD K te σ2 G' (r x)) → Q σ2 H) → g v (wipe σ vs) H Q) :
    EvD K (tLc wi g tt te vs) σ G (.list ((xs.filter f).map r)) := fun G1 H e1 e2 Q q =>
  h G1 H e1 e2 _ fun J G2 H2 g2 s Dl hD => by
    refine ⟨fun i m H3 => m = xs.length - i ∧ i ≤ xs.length ∧ ∃ G3 acc, Grow [] G2 H2 G3 H3 ∧ H3 Dl = some (.lst acc) ∧ G3 Dl = none ∧ acc.length ≤ i ∧ DaL K G3 acc (((xs.take i).filter f).map r), ⟨xs.length, by simp, Nat.zero_le _, G2, [], Grow.of_ex g2.gh (Ex.new hD), upd_same, fresh_back g2.gh hD, Nat.zero_le _, .nil⟩, ?_⟩
    rintro i m H3 ⟨rfl, hi, G3, acc, g3, hA, hG, hc, da⟩
    have hlen : (xs.map e).length = xs.length := List.length_map _
    by_cases hlt : i < xs.length
    · refine .inr ⟨s.go i H3 (g3.gg.trans g3.gh) (by rw [hlen]; exact hlt), fun H4 => ∃ G4 acc4, Grow [] G2 H2 G4 H4 ∧ H4 Dl = some (.lst acc4) ∧ G4 Dl = none ∧ acc4.length ≤ i + 1 ∧ DaL K G4 acc4 (((xs.take (i + 1)).filter f).map r), fun H4 hN => ?_, fun x H4 y => ?_⟩
      · exact ⟨xs.length - (i + 1), by omega, rfl, hlt, hN⟩
      · have hget : (xs.map e)[i]? = some (e xs[i]) := by rw [List.getElem?_map, List.getElem?_eq_getElem hlt]; rfl
        obtain ⟨G4, g4, dx⟩ := s.yld i _ G3 H3 x H4 hget g3.gg g3.gh y
        have e4 : Ex G G4 := ((e1.trans g2.gg).trans g3.gg).trans g4.gg
        have hA4 := g4.hh _ _ hA
        have hG4 : G4 Dl = none := g4.fg Dl (by rw [hA]; exact fun z => nomatch z) hG
        have htk : xs.take (i + 1) = xs.take i ++ [xs[i]] := by rw [List.take_add_one, List.getElem?_eq_getElem hlt]; rfl
        refine hs xs[i] (List.getElem_mem hlt) x G4 e4 dx H4 g4.gh _ fun σ2 hw ht he => ⟨hw, ht H4 g4.gh _ fun H5 e5 => ?_⟩
        have g5 : Grow [] G2 H2 G4 H5 := (g3.trans g4).trans (Grow.of_ex g4.gh e5)
        cases hf : f xs[i] with
        | true =>
          refine he hf G4 H5 (Ex.refl G4) (g4.gh.trans e5) _ fun v G6 H6 g6 dv => ?_
          have hA6 := g6.hh _ _ (e5 _ _ hA4)
          have hG6 : G6 Dl = none := g6.fg Dl (by rw [e5 _ _ hA4]; exact fun z => nomatch z) hG4
          refine ⟨acc, hA6, sz_lt (by omega), G6, acc ++ [v], ?_, upd_same, hG6, by rw [List.length_append]; show _ + 1 ≤ _; omega, ?_⟩
          · have g7 := g5.trans g6
            refine ⟨g7.gg, fun a o z => ?_, fun a o z _ => ?_, g7.fg, fun a z => ?_⟩
            · rw [upd_ne (ne_of_none z hG6)]; exact g7.gh a o z
            · rw [upd_ne (ne_of_none z hD)]; exact g7.hh a o z
            · by_cases ea : a = Dl
              · rw [ea, upd_same]; exact fun z => nomatch z
              · rw [upd_ne ea]; exact g7.dm a z
          · rw [htk, List.filter_append, List.map_append]
            have e9 : List.filter f [xs[i]] = [xs[i]] := by rw [List.filter_cons, if_pos hf]; rfl
            rw [e9]
            exact ((da.mono g4.gg).mono g6.gg).app (DaL.one dv)
        | false =>
          refine ⟨G4, acc, g5, e5 _ _ hA4, hG4, by omega, ?_⟩
          rw [htk, List.filter_append, List.map_append]
          have e9 : List.filter f [xs[i]] = [] := by rw [List.filter_cons, if_neg (by rw [hf]; decide)]; rfl
          rw [e9, List.map_nil, List.append_nil]
          exact da.mono g4.gg
    · have e0 : i = xs.length := by omega
      subst e0
      rw [List.take_length] at da
      refine .inl ⟨s.stop _ H3 (g3.gg.trans g3.gh) (by rw [hlen]; exact Nat.le_refl _), ?_⟩
      refine q _ (upd G3 Dl (.lst acc)) H3 ⟨(g2.trans g3).gg.trans (Ex.new hG), fun a o z => ?_, (g2.trans g3).fr, fun a z n => ?_, (g2.trans g3).dm⟩ (.lst upd_same (da.mono (Ex.new hG)))
      · by_cases ea : a = Dl
        · subst ea; rw [upd_same] at z; rw [← z]; exact hA
        · rw [upd_ne ea] at z; exact g3.gh a o z
      · have ne : a ≠ Dl := fun ea => by
          subst ea
          exact g2.dm a z hD
        rw [upd_ne ne]; exact (g2.trans g3).fg a z n
/-- a name for target, no test -/
theorem ev_lcN {α : Type} {j : Nat} (xs : List α) (e : α → PyData) (r : α → PyData) (h : IterD K wi σ G (xs.map e)) (hl : xs.length ≤ 50000) (hw : ∀ x, wipe ((wipe σ vs).set j (some x)) vs = wipe σ vs)
    (he : ∀ x ∈ xs, ∀ v G', Ex G G' → Da K G' v (e x) → EvD K te ((wipe σ vs).set j (some v)) G' (r x)) : EvD K (tLc wi (gName j) tYes te vs) σ G (.list (xs.map r)) := by
  have q := ev_lcG (K := K) (g := gName j) (tt := tYes) (te := te) (vs := vs) xs e (fun _ => true) r h hl fun x hx v G' e1 d1 H e2 Q q => q _ (hw v) (fun H e Q q => q H (Ex.refl H)) fun _ => he x hx v G' e1 d1
  rwa [List.filter_eq_self.mpr (fun _ _ => rfl)] at q
/-- .. with a test -/
theorem ev_lcF {α : Type} {j : Nat} (xs : List α) (e : α → PyData) (f : α → Bool) (r : α → PyData) (h : IterD K wi σ G (xs.map e)) (hl : xs.length ≤ 50000) (hw : ∀ x, wipe ((wipe σ vs).set j (some x)) vs = wipe σ vs)
    (ht : ∀ x ∈ xs, ∀ v G', Ex G G' → Da K G' v (e x) → EvT tt ((wipe σ vs).set j (some v)) G' (f x))
    (he : ∀ x ∈ xs, ∀ v G', Ex G G' → Da K G' v (e x) → f x = true → EvD K te ((wipe σ vs).set j (some v)) G' (r x)) : EvD K (tLc wi (gName j) tt te vs) σ G (.list ((xs.filter f).map r)) :=
  ev_lcG xs e f r h hl fun x hx v G' e1 d1 H e2 Q q => q _ (hw v) (ht x hx v G' e1 d1) (he x hx v G' e1 d1)
end
section
variable {K : PySem.W.Frag} {W : Ent} {D : Ends} {σ : L2.St} {G : Hp} {M : Mem} {te ta tb tc : TE} {tt : TT} {t tz : TS} {a b c d : PyData} {ds : List PyData} {C : V → Hp → Mem → Prop} {i j k : Nat} {p : Addr}
/-! # a chain of two comparisons -/
theorem ev_chain {r r' : R2} {x y : Bool} (ha : EvD K ta σ G a) (hb : EvD K tb σ G b) (hr : RD2 K r G a b (.bool x)) (hc : x = true → EvD K tc σ G c) (hr' : x = true → RD2 K r' G b c (.bool y)) : EvD K (tChain r r' ta tb tc) σ G (.bool (x && y)) := fun G1 H e e2 Q q =>
  ha G1 H e e2 _ fun v1 G2 H2 g2 d2 => hb G2 H2 (e.trans g2.gg) g2.gh _ fun v2 G3 H3 g3 d3 =>
    hr G3 H3 ((e.trans g2.gg).trans g3.gg) g3.gh v1 v2 (d2.mono g3.gg) d3 _ fun v G4 H4 g4 d4 => ⟨x, d4.bl_eq, by
      cases x with
      | true =>
        refine hc rfl G4 H4 (((e.trans g2.gg).trans g3.gg).trans g4.gg) g4.gh _ fun v5 G5 H5 g5 d5 => ?_
        exact hr' rfl G5 H5 ((((e.trans g2.gg).trans g3.gg).trans g4.gg).trans g5.gg) g5.gh v2 v5 ((d3.mono g4.gg).mono g5.gg) d5 Q fun v G6 H6 g6 d6 => q v G6 H6 ((((g2.trans g3).trans g4).trans g5).trans g6) d6
      | false => exact q _ G4 H4 ((g2.trans g3).trans g4) (.bl false)⟩
theorem r1_neg {n : Int} : RD1 K (rU fun i => .int (-i)) G (.int n) (.int (-n)) := fun G1 H e e2 x hx Q q => by
  obtain rfl := hx.int_eq
  exact ⟨n, rfl, ok1 e2 q (.int _)⟩
/-! # slices -/
def cutG {α : Type} (xs : List α) (lo hi : Option Int) : List α := (xs.drop (HT.sIx xs.length 0 lo)).take (HT.sIx xs.length xs.length hi - HT.sIx xs.length 0 lo)
theorem DaL.cut {H : Hp} {vs : List V} (h : DaL K H vs ds) (lo hi : Option Int) : DaL K H (cutV vs lo hi) (cutG ds lo hi) := by
  unfold cutV cutG
  rw [h.len]
  exact (h.drop _).take _
def EvP (to : TO) (σ : L2.St) (G : Hp) (o : Option Int) : Prop := ∀ H, Ex G H → ∀ Q : Option Int → Hp → Prop, (∀ H', Ex H H' → Q o H') → to σ H Q
theorem ep_none : EvP tNoPart σ G none := fun H e Q q => q H (Ex.refl H)
theorem ep_some {n : Int} (h : EvD K te σ G (.int n)) : EvP (tPart te) σ G (some n) := fun H e Q q => h G H (Ex.refl G) e _ fun v G2 H2 g2 d2 => ⟨n, d2.int_eq, q H2 g2.hh⟩
def kSl (K : PySem.W.Frag) : V → Option Int → Option Int → Hp → VK → Prop := fun x lo hi H Q => rSlL K x lo hi H Q ∨ rSlA K x lo hi H Q
theorem sl_k {X : Cx} : SlR X (kSl X.K) := sl_list.or sl_tupA
theorem ev_slL {tl th : TO} {lo hi : Option Int} (h : EvD K te σ G (.list ds)) (hl : EvP tl σ G lo) (hh : EvP th σ G hi) : EvD K (tSl (kSl K) te tl th) σ G (.list (cutG ds lo hi)) := fun G1 H e e2 Q q =>
  h G1 H e e2 _ fun v G2 H2 g2 d2 => hl H2 ((e.trans g2.gg).trans g2.gh) _ fun H3 e3 => hh H3 (((e.trans g2.gg).trans g2.gh).trans e3) _ fun H4 e4 => by
    cases d2 with
    | lst h r =>
      have g4 : Grow [] G1 H G2 H4 := g2.trans (Grow.of_ex g2.gh (e3.trans e4))
      exact .inl ⟨_, _, rfl, SqL.of (g4.gh _ _ h), fun p hp => q _ _ _ (g4.trans (Grow.new g4.gh hp)) (.lst upd_same ((r.cut lo hi).mono (Ex.new (fresh_back g4.gh hp))))⟩
/-! # calls of plain defs -/
def spR (K : PySem.W.Frag) (R : List PyData → PyData → Prop) : Sp := fun vs H Q _ => ∃ G ds d, Ex G H ∧ DaL K G vs ds ∧ R ds d ∧ ∀ v G' H', Grow [] G H G' H' → Da K G' v d → Q v H'
theorem ev_call {R : List PyData → PyData → Prop} {ta : TA} {E : XK} (h : EvA K ta σ G ds) (hr : R ds d) : EvD K (tCall (spR K R) [] E ta) σ G d := fun G1 H e e2 Q q =>
  h G1 H e e2 _ fun vs G2 H2 g2 d2 => by
    rw [List.append_nil]
    exact ⟨G2, ds, d, g2.gh, d2, hr, fun v G' H' g dv => q v G' H' (g2.trans g) dv⟩
theorem world0 {G H : Hp} (e : Ex G H) : World ⟨G, H, []⟩ G [] H := ⟨Grow.refl e, (fun _ _ h => nomatch h), (fun _ _ h => nomatch h), List.nodup_nil, (fun _ _ h => nomatch h)⟩
/-- from the promise to the walk -/
theorem pure_in {R : List PyData → PyData → Prop} {N : List Str} (h : ∀ vs ds d (W : Ent) G D, DaL K G vs ds → R ds d → Ret W D (fun v G' _ => Da K G' v d) → (d = .none → ∀ σ G' M', Nx W D σ G' M') → Sx W t D (L2.start N vs) G []) :
    ∀ vs H Q E, spR K R vs H Q E → t { nx := fun _ H' => Q .non H', rt := Q } (L2.start N vs) H := fun vs H Q E ⟨G, ds, d, e, da, hr, q⟩ =>
  h vs ds d ⟨G, H, []⟩ G _ da hr (fun v G' M' H' w dv => q v G' H' w.gr dv) (fun hd σ G' M' H' w => q .non G' H' w.gr (by rw [hd]; exact .non)) H (world0 e)
theorem spR_len {R : List PyData → PyData → Prop} {n : Nat} (h : ∀ ds d, R ds d → ds.length = n) : ∀ vs H Q E, spR K R vs H Q E → vs.length = n := fun vs H Q E ⟨G, ds, d, e, da, hr, q⟩ => by rw [da.len]; exact h ds d hr
/-! # the bag -/
def P61 : Int := 2305843009213693951
def BagOk (n : Nat) (b : List V) : Prop := ∃ a x c : Int, b = [.int a, .int x, .int c] ∧ 0 ≤ x ∧ x < P61 ∧ 0 ≤ c ∧ c ≤ n
theorem BagOk.mono {n m : Nat} {b : List V} (h : BagOk n b) (e : n ≤ m) : BagOk m b := by
  obtain ⟨a, x, c, h1, h2, h3, h4, h5⟩ := h
  exact ⟨a, x, c, h1, h2, h3, h4, by omega⟩
def bagMax : Nat := 1000000000000
def spB (K : PySem.W.Frag) (cost : Nat) (Pre : List PyData → Prop) (Post : List PyData → PyData → Prop) : Sp := fun vs H Q _ => ∃ p b n G ds ws, vs = .ref p :: ws ∧ H p = some (.lst b) ∧ BagOk n b ∧ n + cost ≤ bagMax ∧ Ex G H ∧ G p = none ∧ DaL K G ws ds ∧ Pre ds ∧
  ∀ v d b' G' H', Post ds d → BagOk (n + cost) b' → Grow [p] G H G' H' → H' p = some (.lst b') → Da K G' v d → Q v H'
theorem spB_len {cost : Nat} {Pre : List PyData → Prop} {Post : List PyData → PyData → Prop} {n : Nat} (h : ∀ ds, Pre ds → ds.length = n) : ∀ vs H Q E, spB K cost Pre Post vs H Q E → vs.length = n + 1 := fun vs H Q E ⟨p, b, m, G, ds, ws, e, _, _, _, _, _, da, hp, _⟩ => by
  rw [e, List.length_cons, da.len, h ds hp]
/-- behind a call that wrote at p -/
theorem World.call {G' H H' : Hp} {o o' : HO} (w : World W G M H) (h : M[k]? = some (p, o)) (g : Grow [p] G H G' H') (hp : H' p = some o') : World W G' (M.set k (p, o')) H' := by
  have hm : (p, o) ∈ M := List.mem_of_getElem? h
  have hp0 := w.own p o hm
  have hg0 := w.sep p o hm
  have other : ∀ q u, (q, u) ∈ M.set k (p, o') → (q = p ∧ u = o') ∨ ((q, u) ∈ M ∧ q ≠ p) := fun q u hq => by
    obtain ⟨i, hi⟩ := List.mem_iff_getElem?.mp hq
    rw [List.getElem?_set] at hi
    by_cases e : k = i
    · rw [if_pos e] at hi
      split at hi
      · cases hi; exact .inl ⟨rfl, rfl⟩
      · cases hi
    · rw [if_neg e] at hi
      refine .inr ⟨List.mem_of_getElem? hi, fun z => e ?_⟩
      subst z
      exact nodup_at w.nd h hi
  refine ⟨⟨w.gr.gg.trans g.gg, g.gh, fun a u z n => ?_, fun a z n => g.fg a (w.gr.dm a z) (w.gr.fg a z n), fun a z => g.dm a (w.gr.dm a z)⟩, fun q u hq => ?_, fun q u hq => ?_, ?_, fun q u hq => ?_⟩
  · refine g.fr a u (w.gr.fr a u z n) fun e => ?_
    have e : a = p := by simpa using e
    subst e
    rcases w.fm a o hm with x | x
    · exact n x
    · rw [z] at x; cases x
  · rcases other q u hq with ⟨e1, e2⟩ | ⟨e1, e2⟩
    · rw [e1, e2]; exact hp
    · exact g.fr q u (w.own q u e1) (by simpa using e2)
  · have hq0 : ∀ u', (q, u') ∈ M → G' q = none := fun u' z => g.fg q (by rw [w.own q u' z]; exact fun z => nomatch z) (w.sep q u' z)
    rcases other q u hq with ⟨e1, e2⟩ | ⟨e1, e2⟩
    · rw [e1]; exact g.fg p (by rw [hp0]; exact fun z => nomatch z) hg0
    · exact hq0 u e1
  · rw [set_keys h]; exact w.nd
  · rcases other q u hq with ⟨e1, e2⟩ | ⟨e1, e2⟩
    · rw [e1]; exact w.fm p o hm
    · exact w.fm q u e1
theorem sw_callB {cost n : Nat} {Pre : List PyData → Prop} {Post : List PyData → PyData → Prop} {ta : TA} {E : XK} {b : List V} (k : Nat) (hv : σ[i]? = some (some (.ref p))) (ha : EvA K ta σ G ds) (hm : M[k]? = some (p, .lst b)) (hb : BagOk n b) (hn : n + cost ≤ bagMax) (hp : Pre ds)
    (c : ∀ v d b' G', Post ds d → BagOk (n + cost) b' → Ex G G' → Da K G' v d → C v G' (M.set k (p, .lst b'))) : Sw W (tCall (spB K cost Pre Post) [] E (tCons (tVar i) ta)) σ G M C := fun H w Q q =>
  ⟨.ref p, hv, ha G H (Ex.refl G) w.gh _ fun ws G1 H1 g1 d1 => by
    show spB K cost Pre Post ((.ref p :: ws) ++ []) H1 Q E
    rw [List.append_nil]
    have w1 := w.grow g1
    refine ⟨p, b, n, G1, ds, ws, rfl, w1.own p _ (List.mem_of_getElem? hm), hb, hn, w1.gh, w1.sep p _ (List.mem_of_getElem? hm), d1, hp, fun v d b' G' H' h1 h2 g h3 dv => ?_⟩
    exact q v G' _ H' (w1.call hm g h3) (c v d b' G' h1 h2 (g1.gg.trans g.gg) dv)⟩
theorem worldB {G H : Hp} {o : HO} (e : Ex G H) (h : H p = some o) (hg : G p = none) : World ⟨G, H, [p]⟩ G [(p, o)] H := by
  refine ⟨⟨Ex.refl G, e, fun _ _ h _ => h, fun _ _ h => h, fun _ h => h⟩, fun q u hq => ?_, fun q u hq => ?_, by simp, fun q u hq => ?_⟩
  · have e : (q, u) = (p, o) := by simpa using hq
    cases e; exact h
  · have e : (q, u) = (p, o) := by simpa using hq
    cases e; exact hg
  · have e : (q, u) = (p, o) := by simpa using hq
    cases e; exact .inl (by simp)
theorem bag_in {cost : Nat} {Pre : List PyData → Prop} {Post : List PyData → PyData → Prop} {N : List Str} (h : ∀ p b n ws ds (W : Ent) G D, BagOk n b → n + cost ≤ bagMax → DaL K G ws ds → Pre ds →
      Ret W D (fun v G' M' => ∃ d b', Post ds d ∧ BagOk (n + cost) b' ∧ (p, HO.lst b') ∈ M' ∧ Da K G' v d) → Sx W t D (L2.start N (.ref p :: ws)) G [(p, .lst b)]) :
    ∀ vs H Q E, spB K cost Pre Post vs H Q E → t { nx := fun _ H' => Q .non H', rt := Q } (L2.start N vs) H := fun vs H Q E ⟨p, b, n, G, ds, ws, ev, hp, hb, hn, e, hg, da, pre, q⟩ => by
  subst ev
  refine h p b n ws ds ⟨G, H, [p]⟩ G _ hb hn da pre (fun v G' M' H' w ⟨d, b', h1, h2, h3, h4⟩ => ?_) H (worldB e hp hg)
  exact q v d b' G' H' h1 h2 w.gr (w.own p _ h3) h4
/-! # lists that may be written -/
/-- .. read as data, the result a plain value -/
theorem sw_intM {n : Int} {xs : List V} (k : Nat) (hm : M[k]? = some (p, .lst xs)) (h : EvD K te σ (upd G p (.lst xs)) (.int n)) (c : C (.int n) G M) : Sw W te σ G M C := fun H w Q q => by
  have hp := w.own p _ (List.mem_of_getElem? hm)
  refine h (upd G p (.lst xs)) H (Ex.refl _) (fun a o z => ?_) Q fun v G' H' g dv => q v G M H' (w.ext g.hh) (by rw [dv.int_eq]; exact c)
  by_cases e : a = p
  · subst e; rw [upd_same] at z; rw [← z]; exact hp
  · rw [upd_ne e] at z; exact w.gh a o z
theorem swt_M {b : Bool} {xs : List V} {C : Bool → Hp → Mem → Prop} (k : Nat) (hm : M[k]? = some (p, .lst xs)) (h : EvT tt σ (upd G p (.lst xs)) b) (c : C b G M) : Swt W tt σ G M C := fun H w Q q => by
  have hp := w.own p _ (List.mem_of_getElem? hm)
  refine h H (fun a o z => ?_) Q fun H' e => q b G M H' (w.ext e) c
  by_cases e : a = p
  · subst e; rw [upd_same] at z; rw [← z]; exact hp
  · rw [upd_ne e] at z; exact w.gh a o z
/-- .. settled -/
theorem sx_settle {o : HO} (k : Nat) (hm : M[k]? = some (p, o)) (n0 : W.H0 p = none) (h : Sx W t D σ (upd G p o) (M.eraseIdx k)) : Sx W t D σ G M := fun H w => h H (w.settle hm n0)
theorem sw_settle {o : HO} (k : Nat) (hm : M[k]? = some (p, o)) (n0 : W.H0 p = none) (h : Sw W te σ (upd G p o) (M.eraseIdx k) C) : Sw W te σ G M C := fun H w Q q => h H (w.settle hm n0) Q q
theorem World.gnone {H : Hp} {o : HO} (w : World W G M H) (hm : M[k]? = some (p, o)) : G p = none := w.sep p o (List.mem_of_getElem? hm)
/-- what is owned is not settled: for the walk -/
theorem sx_fresh {o : HO} (k : Nat) (hm : M[k]? = some (p, o)) (h : G p = none → Sx W t D σ G M) : Sx W t D σ G M := fun H w => h (w.gnone hm) H w
theorem sw_fresh {o : HO} (k : Nat) (hm : M[k]? = some (p, o)) (h : G p = none → Sw W te σ G M C) : Sw W te σ G M C := fun H w => h (w.gnone hm) H w
/-- xs.append(e), e plain -/
theorem q_app {xs : List V} (k : Nat) (ho : σ[i]? = some (some (.ref p))) (hm : M[k]? = some (p, .lst xs)) (hl : xs.length < 100000) (h : EvD K te σ G d) (c : ∀ v G', Ex G G' → Da K G' v d → Sx W tz D σ G' (M.set k (p, .lst (xs ++ [v])))) :
    Sx W (tSeq (tDrop (tBM K "list" rAppend (tVar i) (tCons te tNil))) tz) D σ G M :=
  sx_app (D := { D with nx := tz D }) ho (fun G1 M1 v hc => ⟨k, hc.1, hl, hc.2⟩) ⟨xs, List.mem_of_getElem? hm⟩ (C := fun v G1 M1 => M1[k]? = some (p, .lst xs) ∧ Sx W tz D σ G1 (M1.set k (p, .lst (xs ++ [v])))) (sw_ev h fun v G' e dv => ⟨hm, c v G' e dv⟩)
theorem sx_appD {xs : List V} (k : Nat) (ho : σ[i]? = some (some (.ref p))) (hm : M[k]? = some (p, .lst xs)) (hl : xs.length < 100000) (h : EvD K te σ G d) (c : ∀ v G', Ex G G' → Da K G' v d → Nx W D σ G' (M.set k (p, .lst (xs ++ [v])))) :
    Sx W (tDrop (tBM K "list" rAppend (tVar i) (tCons te tNil))) D σ G M :=
  sx_app (D := D) ho (fun G1 M1 v hc => ⟨k, hc.1, hl, hc.2⟩) ⟨xs, List.mem_of_getElem? hm⟩ (C := fun v G1 M1 => M1[k]? = some (p, .lst xs) ∧ Nx W D σ G1 (M1.set k (p, .lst (xs ++ [v])))) (sw_ev h fun v G' e dv => ⟨hm, c v G' e dv⟩)
/-! # comprehensions with deeds -/
theorem sw_lc {g : TG} {wi : TI} {vs : List Nat} (C0 : List PyData → Hp → Mem → Prop) (h : IterW K W wi σ G M C0)
    (c : ∀ ds G1 M1, C0 ds G1 M1 → ∃ Pv : Nat → List V → Hp → Mem → Prop, Pv 0 [] G1 M1 ∧
      (∀ i d v acc Ga G' M' Dl, ds[i]? = some d → Ex G1 Ga → Pv i acc Ga M' → Ex Ga G' → Da K G' v d → W.H0 Dl = none →
        Gx W g v (wipe σ vs) G' ((Dl, .lst acc) :: M') fun σ2 => wipe σ2 vs = wipe σ vs ∧ Swt W tt σ2 G' ((Dl, .lst acc) :: M') fun b G2 M2 =>
          (b = true → Sw W te σ2 G2 M2 fun y G3 M3 => ∃ M4, M3 = (Dl, .lst acc) :: M4 ∧ acc.length < 100000 ∧ Ex Ga G3 ∧ Pv (i + 1) (acc ++ [y]) G3 M4) ∧
          (b = false → ∃ M4, M2 = (Dl, .lst acc) :: M4 ∧ Ex Ga G2 ∧ Pv (i + 1) acc G2 M4)) ∧
      ∀ acc G' M' p, Ex G1 G' → Pv ds.length acc G' M' → W.H0 p = none → C (.ref p) G' ((p, .lst acc) :: M')) : Sw W (tLc wi g tt te vs) σ G M C := fun H w Q q =>
  h H w _ fun J ds G1 M1 H1 w1 s hc Dl hD => by
    obtain ⟨Pv, h0, hs, hd⟩ := c ds G1 M1 hc
    have n0 := w1.new0 hD
    refine ⟨fun i m H3 => m = ds.length - i ∧ i ≤ ds.length ∧ ∃ G3 acc M3, World W G3 ((Dl, .lst acc) :: M3) H3 ∧ Ex G1 G3 ∧ Pv i acc G3 M3, ⟨ds.length, by simp, Nat.zero_le _, G1, [], M1, w1.new hD, Ex.refl G1, h0⟩, ?_⟩
    rintro i m H3 ⟨rfl, hi, Ga, acc, M', w', e, p⟩
    have ge := w'.gh
    by_cases hlt : i < ds.length
    · refine .inr ⟨s.go i H3 (e.trans ge) hlt, fun H4 => ∃ G4 acc4 M4, World W G4 ((Dl, .lst acc4) :: M4) H4 ∧ Ex Ga G4 ∧ Pv (i + 1) acc4 G4 M4, fun H4 ⟨G4, acc4, M4, w4, e4, p4⟩ => ⟨ds.length - (i + 1), by omega, rfl, hlt, G4, acc4, M4, w4, e.trans e4, p4⟩, fun x H4 y => ?_⟩
      obtain ⟨G', g3, dx⟩ := s.yld i ds[i] Ga H3 x H4 (List.getElem?_eq_getElem hlt) e ge y
      refine hs i ds[i] x acc Ga G' M' Dl (List.getElem?_eq_getElem hlt) e p g3.gg dx n0 H4 (w'.grow g3) _ fun σ2 ⟨hw, hb⟩ => ⟨hw, hb H4 (w'.grow g3) _ fun b G2 M2 H5 w5 hb2 => ?_⟩
      cases b with
      | true =>
        refine hb2.1 rfl H5 w5 _ fun y G3 M3 H6 w6 ⟨M4, e3, hl, e4, p4⟩ => ?_
        subst e3
        exact ⟨acc, w6.own Dl _ List.mem_cons_self, sz_lt hl, G3, acc ++ [y], M4, w6.set (k := 0) rfl, e4, p4⟩
      | false =>
        obtain ⟨M4, e3, e4, p4⟩ := hb2.2 rfl
        subst e3
        exact ⟨G2, acc, M4, w5, e4, p4⟩
    · have e0 : i = ds.length := by omega
      subst e0
      exact .inl ⟨s.stop _ H3 (e.trans ge) (Nat.le_refl _), q _ Ga _ H3 w' (hd acc Ga M' Dl e p n0)⟩
end
/-! # built-in names -/
theorem bt_len : bootBuiltins "len" = some (.builtin "len") := by decide +kernel
theorem bt_isinstance : bootBuiltins "isinstance" = some (.builtin "isinstance") := by decide +kernel
theorem bt_all : bootBuiltins "all" = some (.builtin "all") := by decide +kernel
theorem bt_any : bootBuiltins "any" = some (.builtin "any") := by decide +kernel
theorem bt_sum : bootBuiltins "sum" = some (.builtin "sum") := by decide +kernel
theorem bt_min : bootBuiltins "min" = some (.builtin "min") := by decide +kernel
theorem bt_max : bootBuiltins "max" = some (.builtin "max") := by decide +kernel
theorem bt_abs : bootBuiltins "abs" = some (.builtin "abs") := by decide +kernel
theorem bt_divmod : bootBuiltins "divmod" = some (.builtin "divmod") := by decide +kernel
theorem bt_sorted : bootBuiltins "sorted" = some (.builtin "sorted") := by decide +kernel
theorem bt_int : bootBuiltins "int" = some (.type "int") := by decide +kernel
theorem bt_bool : bootBuiltins "bool" = some (.type "bool") := by decide +kernel
theorem bt_str : bootBuiltins "str" = some (.type "str") := by decide +kernel
theorem bt_list : bootBuiltins "list" = some (.type "list") := by decide +kernel
theorem bt_tuple : bootBuiltins "tuple" = some (.type "tuple") := by decide +kernel
theorem bt_dict : bootBuiltins "dict" = some (.type "dict") := by decide +kernel
theorem bt_set : bootBuiltins "set" = some (.type "set") := by decide +kernel
theorem bt_ValueError : bootBuiltins "ValueError" = some (.type "ValueError") := by decide +kernel
/-! # the errors' classes -/
structure Er where
  TownError : Addr
  NoTown : Addr
  NoGate : Addr
  NoHour : Addr
  NoPass : Addr
  NoToll : Addr
  NoWord : Addr
  NoName : Addr
  Within : Addr
  Without : Addr
  NoCart : Addr
  Shut : Addr
  NothingLeft : Addr
  NoPages : Addr
  NoPage : Addr
  NoBook : Addr
  NoInns : Addr
  NoWay : Addr
  NoWalks : Addr
  NoRounds : Addr
  NoText : Addr
  NoRow : Addr
/-- raise X('..') -/
def tRaise (C : Addr) (E : XK) : TS := fun _ _ H => E (.ref C) none H
/-! # texts joined, sorted, places -/
def kJoin (K : PySem.W.Frag) : V → List V → Hp → VK → Prop := fun x xs H Q => ∃ a p, ∃ ys : List Str, x = .str a ∧ xs = [.ref p] ∧ (SqL K H p (ys.map V.str) ∨ SqT K H p (ys.map V.str)) ∧
      (ys.map (·.length)).sum + ys.length * a.length ≤ 16777216 ∧ Q (.str (Txt.join a ys)) H
def rSortedD : List V → Hp → VK → Prop := fun xs H Q => ∃ (a : Addr) (kvs : List (Key × V)) (ks : List Str), xs = [.ref a] ∧ Rd H a (.dK kvs) ∧ kvs.map (·.1) = ks.map Sum.inr ∧ ks.length < 64 ∧
    ∀ ys p, ys.Perm ks → PyProof.Rows.sortedS ys = true → H p = none → Q (.ref p) (upd H p (.lst (ys.map V.str)))
def kSorted (K : PySem.W.Frag) : List V → Hp → VK → Prop := fun xs H Q => rSortedD xs H Q ∨ rSortedS K xs H Q ∨ rSorted K xs H Q
theorem call_kSorted {X : Cx} (hc : X.calm = true) : CallR X (.builtin "sorted") (kSorted X.K) := (call_sortedD hc).or (cr_sortedS.or cr_sorted)
section
variable {K : PySem.W.Frag} {W : Ent} {D : Ends} {σ : L2.St} {G : Hp} {M : Mem} {te to : TE} {ta : TA} {ds : List PyData} {C : V → Hp → Mem → Prop}
theorem ev_join {a : Str} {ys : List Str} (ho : EvD K to σ G (.str a)) (he : EvD K te σ G (.list (ys.map .str))) (hl : (ys.map (·.length)).sum + ys.length * a.length ≤ 16777216) : EvD K (tM1 (kJoin K) to te) σ G (.str (Txt.join a ys)) := fun G1 H e e2 Q q =>
  ho G1 H e e2 _ fun v G2 H2 g2 d2 => ⟨⟨a, d2.str_eq⟩, he G2 H2 (e.trans g2.gg) g2.gh _ fun w G3 H3 g3 d3 => by
    cases d3 with
    | lst h r =>
      have er := r.strs
      subst er
      exact ⟨a, _, ys, d2.str_eq, rfl, .inl (SqL.of (g3.gh _ _ h)), hl, q _ G3 H3 (g2.trans g3) (.str _)⟩⟩
theorem ev_indexS {ss : List Str} {x : Str} {j : Nat} (ho : EvD K to σ G (.list (ss.map .str))) (ha : EvD K te σ G (.str x)) (hj : ss[j]? = some x) (h0 : ∀ m y, m < j → ss[m]? = some y → y ≠ x) : EvD K (tBM K "list" (rIndex K) to (tCons te tNil)) σ G (.int (j : Int)) := fun G1 H e e2 Q q =>
  ho G1 H e e2 _ fun v G2 H2 g2 d2 => by
    cases d2 with
    | lst h r =>
      have er := r.strs
      subst er
      refine ⟨.inl ⟨rfl, _, SqL.of (g2.gh _ _ h)⟩, ha G2 H2 (e.trans g2.gg) g2.gh _ fun w G3 H3 g3 d3 => ?_⟩
      have ew := d3.str_eq
      subst ew
      refine ⟨_, ss.map V.str, .str x, j, .str x, rfl, rfl, SqL.of (g3.gh _ _ (g3.gg _ _ h)), rfl, flat_strs ss, by rw [List.getElem?_map, hj]; rfl, by simp [eqV], fun m z hm hz => ?_, q _ G3 H3 (g2.trans g3) (.int _)⟩
      rw [List.getElem?_map] at hz
      cases e4 : ss[m]? with
      | none => rw [e4] at hz; cases hz
      | some y =>
        rw [e4] at hz
        cases hz
        have := h0 m y hm e4
        simp [eqV, this]
end
/-! # data: bounds, kinds -/
mutual
def sm : PyData → Bool
  | .str x => decide (x.length ≤ 100000)
  | .list xs => decide (xs.length ≤ 50000) && smL xs
  | .tuple xs => decide (xs.length ≤ 50000) && smL xs
  | .none | .bool _ | .int _ | .dict _ => true
def smL : List PyData → Bool
  | [] => true
  | x :: xs => sm x && smL xs
end
theorem smL_mem : ∀ {xs : List PyData} {x : PyData}, smL xs = true → x ∈ xs → sm x = true
  | [], _, _, h => nomatch h
  | y :: r, x, h, hm => by
    have h2 : (sm y && smL r) = true := h
    rw [Bool.and_eq_true] at h2
    rcases List.mem_cons.mp hm with e | e
    · rw [e]; exact h2.1
    · exact smL_mem h2.2 e
theorem smL_of : ∀ {xs : List PyData}, (∀ x ∈ xs, sm x = true) → smL xs = true
  | [], _ => rfl
  | y :: r, h => by
    show (sm y && smL r) = true
    rw [h y List.mem_cons_self, smL_of fun x hx => h x (List.mem_cons_of_mem _ hx)]; rfl
theorem sm_str {x : Str} (h : sm (.str x) = true) : x.length ≤ 100000 := of_decide_eq_true h
theorem sm_tup {ds : List PyData} (h : sm (.tuple ds) = true) : ds.length ≤ 50000 ∧ smL ds = true := by
  have h2 : (decide (ds.length ≤ 50000) && smL ds) = true := h
  rw [Bool.and_eq_true] at h2
  exact ⟨of_decide_eq_true h2.1, h2.2⟩
theorem sm_lst {ds : List PyData} (h : sm (.list ds) = true) : ds.length ≤ 50000 ∧ smL ds = true := by
  have h2 : (decide (ds.length ≤ 50000) && smL ds) = true := h
  rw [Bool.and_eq_true] at h2
  exact ⟨of_decide_eq_true h2.1, h2.2⟩
theorem sm_mkT {ds : List PyData} (h : ds.length ≤ 50000) (h2 : smL ds = true) : sm (.tuple ds) = true := by
  show (decide (ds.length ≤ 50000) && smL ds) = true
  rw [decide_eq_true h, h2]; rfl
theorem sm_mkL {ds : List PyData} (h : ds.length ≤ 50000) (h2 : smL ds = true) : sm (.list ds) = true := by
  show (decide (ds.length ≤ 50000) && smL ds) = true
  rw [decide_eq_true h, h2]; rfl
def isInt : PyData → Bool
  | .int _ => true
  | .bool _ => true
  | _ => false
def isBool : PyData → Bool
  | .bool _ => true
  | _ => false
def isStr : PyData → Bool
  | .str _ => true
  | _ => false
def isTup : PyData → Bool
  | .tuple _ => true
  | _ => false
def isLst : PyData → Bool
  | .list _ => true
  | _ => false
def intOf : PyData → Int
  | .int i => i
  | _ => 0
def strOf : PyData → Str
  | .str x => x
  | _ => Str.empty
def itemsOf : PyData → List PyData
  | .tuple ds => ds
  | .list ds => ds
  | _ => []
section
variable {K : PySem.W.Frag} {σ : L2.St} {G : Hp} {ta : TE} {a : PyData}
def noDict : PyData → Bool
  | .dict _ => false
  | _ => true
theorem Da.nod {H : Hp} {v : V} {d : PyData} (h : Da K H v d) : noDict d = true := by cases h <;> rfl
theorem kit_int : ∀ a : PyData, noDict a = true → kitB (tyOfD a) "int" = some (isInt a)
  | .none, _ => by decide +kernel
  | .bool _, _ => (by decide +kernel : kitB "bool" "int" = some true)
  | .int _, _ => (by decide +kernel : kitB "int" "int" = some true)
  | .str _, _ => (by decide +kernel : kitB "str" "int" = some false)
  | .list _, _ => (by decide +kernel : kitB "list" "int" = some false)
  | .tuple _, _ => (by decide +kernel : kitB "tuple" "int" = some false)
theorem kit_bool : ∀ a : PyData, noDict a = true → kitB (tyOfD a) "bool" = some (isBool a)
  | .none, _ => by decide +kernel
  | .bool _, _ => (by decide +kernel : kitB "bool" "bool" = some true)
  | .int _, _ => (by decide +kernel : kitB "int" "bool" = some false)
  | .str _, _ => (by decide +kernel : kitB "str" "bool" = some false)
  | .list _, _ => (by decide +kernel : kitB "list" "bool" = some false)
  | .tuple _, _ => (by decide +kernel : kitB "tuple" "bool" = some false)
theorem kit_str : ∀ a : PyData, noDict a = true → kitB (tyOfD a) "str" = some (isStr a)
  | .none, _ => by decide +kernel
  | .bool _, _ => (by decide +kernel : kitB "bool" "str" = some false)
  | .int _, _ => (by decide +kernel : kitB "int" "str" = some false)
  | .str _, _ => (by decide +kernel : kitB "str" "str" = some true)
  | .list _, _ => (by decide +kernel : kitB "list" "str" = some false)
  | .tuple _, _ => (by decide +kernel : kitB "tuple" "str" = some false)
theorem kit_tuple : ∀ a : PyData, noDict a = true → kitB (tyOfD a) "tuple" = some (isTup a)
  | .none, _ => by decide +kernel
  | .bool _, _ => (by decide +kernel : kitB "bool" "tuple" = some false)
  | .int _, _ => (by decide +kernel : kitB "int" "tuple" = some false)
  | .str _, _ => (by decide +kernel : kitB "str" "tuple" = some false)
  | .list _, _ => (by decide +kernel : kitB "list" "tuple" = some false)
  | .tuple _, _ => (by decide +kernel : kitB "tuple" "tuple" = some true)
theorem kit_list : ∀ a : PyData, noDict a = true → kitB (tyOfD a) "list" = some (isLst a)
  | .none, _ => by decide +kernel
  | .bool _, _ => (by decide +kernel : kitB "bool" "list" = some false)
  | .int _, _ => (by decide +kernel : kitB "int" "list" = some false)
  | .str _, _ => (by decide +kernel : kitB "str" "list" = some false)
  | .list _, _ => (by decide +kernel : kitB "list" "list" = some true)
  | .tuple _, _ => (by decide +kernel : kitB "tuple" "list" = some false)
/-- isinstance of anything -/
theorem ev_isiG {T : String} {f : PyData → Bool} (hk : ∀ a : PyData, noDict a = true → kitB (tyOfD a) T = some (f a)) (h : EvD K ta σ G a) : EvD K (tIsi K ta T) σ G (.bool (f a)) := fun G1 H x y Q q =>
  h G1 H x y _ fun v G2 H2 g2 d2 => ⟨v, .ty T, _, _, f a, rfl, .ty T, (d2.mono g2.gh).tyx, kit_ty (hk a d2.nod), q _ G2 H2 g2 (.bl _)⟩
theorem ev_isiI (h : EvD K ta σ G a) : EvD K (tIsi K ta "int") σ G (.bool (isInt a)) := ev_isiG kit_int h
theorem ev_isiB (h : EvD K ta σ G a) : EvD K (tIsi K ta "bool") σ G (.bool (isBool a)) := ev_isiG kit_bool h
theorem ev_isiS (h : EvD K ta σ G a) : EvD K (tIsi K ta "str") σ G (.bool (isStr a)) := ev_isiG kit_str h
theorem ev_isiT (h : EvD K ta σ G a) : EvD K (tIsi K ta "tuple") σ G (.bool (isTup a)) := ev_isiG kit_tuple h
theorem ev_isiL (h : EvD K ta σ G a) : EvD K (tIsi K ta "list") σ G (.bool (isLst a)) := ev_isiG kit_list h
end
/-! # defs that may raise -/
inductive Res where
  | ok (d : PyData)
  | err (C : Addr)
  | errP (C : Addr) (n : Int)
def spX (K : PySem.W.Frag) (R : List PyData → Res → Prop) : Sp := fun vs H Q E => ∃ G ds r, Ex G H ∧ DaL K G vs ds ∧ R ds r ∧ match r with
  | .ok d => ∀ v G' H', Grow [] G H G' H' → Da K G' v d → Q v H'
  | .err C => ∀ H', Ex H H' → E (.ref C) none H'
  | .errP C n => ∀ H' p, Ex H H' → H' p = some (.xd [("place", .int n)]) → H p = none → E (.ref C) (some p) H'
section
variable {K : PySem.W.Frag} {W : Ent} {D : Ends} {σ : L2.St} {G : Hp} {M : Mem} {te : TE} {t tz : TS} {ta : TA} {d : PyData} {ds : List PyData} {R : List PyData → Res → Prop} {E : XK} {C : V → Hp → Mem → Prop} {i : Nat}
theorem ev_callX (h : EvA K ta σ G ds) (hr : R ds (.ok d)) : EvD K (tCall (spX K R) [] E ta) σ G d := fun G1 H e e2 Q q =>
  h G1 H e e2 _ fun vs G2 H2 g2 d2 => by
    rw [List.append_nil]
    exact ⟨G2, ds, .ok d, g2.gh, d2, hr, fun v G' H' g dv => q v G' H' (g2.trans g) dv⟩
/-- a call that raises: what follows is never reached -/
theorem sw_fail {Cl : Addr} (h : EvA K ta σ G ds) (hr : R ds (.err Cl)) (he : ∀ H', World W G M H' → E (.ref Cl) none H') : Sw W (tCall (spX K R) [] E ta) σ G M C := fun H w Q q =>
  h G H (Ex.refl G) w.gh _ fun vs G2 H2 g2 d2 => by
    rw [List.append_nil]
    exact ⟨G2, ds, .err Cl, g2.gh, d2, hr, fun H' e => he H' (w.ext (g2.hh.trans e))⟩
theorem purX_in {N : List Str} {T : XK → TS} (h : ∀ vs ds r (W : Ent) G D E, DaL K G vs ds → R ds r → (∀ d, r = .ok d → Ret W D (fun v G' _ => Da K G' v d)) → (r = .ok .none → ∀ σ G' M', Nx W D σ G' M') → (∀ Cl, r = .err Cl → ∀ G' M' H', World W G' M' H' → E (.ref Cl) none H') → Sx W (T E) D (L2.start N vs) G []) :
    ∀ vs H Q E, spX K R vs H Q E → T E { nx := fun _ H' => Q .non H', rt := Q } (L2.start N vs) H := fun vs H Q E ⟨G, ds, r, e, da, hr, q⟩ => by
  refine h vs ds r ⟨G, H, []⟩ G _ E da hr (fun d hd v G' M' H' w dv => ?_) (fun hd σ G' M' H' w => ?_) (fun Cl hc G' M' H' w => ?_) H (world0 e)
  · subst hd; exact q v G' H' w.gr dv
  · subst hd; exact q .non G' H' w.gr .non
  · subst hc; exact q H' w.gr.hh
theorem spX_len {n : Nat} (h : ∀ ds r, R ds r → ds.length = n) : ∀ vs H Q E, spX K R vs H Q E → vs.length = n := fun vs H Q E ⟨G, ds, r, e, da, hr, q⟩ => by rw [da.len]; exact h ds r hr
/-- statements that call such defs -/
theorem q_dropX {x : Res} (h : EvA K ta σ G ds) (hr : R ds x) (h1 : ∀ d, x = .ok d → Sx W tz D σ G M) (h2 : ∀ Cl, x = .err Cl → ∀ H', World W G M H' → E (.ref Cl) none H') (h3 : ∀ Cl n, x ≠ .errP Cl n) : Sx W (tSeq (tDrop (tCall (spX K R) [] E ta)) tz) D σ G M := by
  cases x with
  | ok d => exact q_drop (ev_callX h hr) (h1 d rfl)
  | err Cl => exact q_dropW (sw_fail h hr (h2 Cl rfl))
  | errP Cl n => exact absurd rfl (h3 Cl n)
theorem q_asgX {x : Res} (h : EvA K ta σ G ds) (hr : R ds x) (h1 : ∀ d, x = .ok d → ∀ v G', Ex G G' → Da K G' v d → Sx W tz D (σ.set i (some v)) G' M) (h2 : ∀ Cl, x = .err Cl → ∀ H', World W G M H' → E (.ref Cl) none H') (h3 : ∀ Cl n, x ≠ .errP Cl n) : Sx W (tSeq (tAsg (tCall (spX K R) [] E ta) (gName i)) tz) D σ G M := by
  cases x with
  | ok d => exact q_asg (ev_callX h hr) (h1 d rfl)
  | err Cl => exact q_asgW (sw_fail h hr (h2 Cl rfl))
  | errP Cl n => exact absurd rfl (h3 Cl n)
theorem sx_raise {Cl : Addr} (he : ∀ H', World W G M H' → E (.ref Cl) none H') : Sx W (tRaise Cl E) D σ G M := fun H w => he H w
/-! # more about lists, by data -/
theorem ra_allF {α : Type} {xs : List α} {f : α → Bool} : RDA K (rAll K) G [.list (xs.map fun a => .bool (f a))] (.bool (xs.all f)) := by
  have q := ra_all (K := K) (G := G) (bs := xs.map f)
  rw [List.map_map, List.all_map] at q
  exact q
theorem ra_anyF {α : Type} {xs : List α} {f : α → Bool} : RDA K (rAny K) G [.list (xs.map fun a => .bool (f a))] (.bool (xs.any f)) := by
  have q := ra_any (K := K) (G := G) (bs := xs.map f)
  rw [List.map_map, List.any_map] at q
  exact q
theorem atI_getD {n : Nat} (h : n < ds.length) : atI ds (n : Int) = some (ds.getD n .none) := by
  refine atI_nat ?_
  rw [List.getD_eq_getElem?_getD, List.getElem?_eq_getElem h]; rfl
theorem rd_ixTg {n : Nat} (h : n < ds.length) : RD2 K (rIx K) G (.tuple ds) (.int (n : Int)) (ds.getD n .none) := rd_ixT (atI_getD h)
theorem rd_ixLg {n : Nat} (h : n < ds.length) : RD2 K (rIx K) G (.list ds) (.int (n : Int)) (ds.getD n .none) := rd_ixL (atI_getD h)
theorem cutG_from {α : Type} (xs : List α) (n : Nat) : cutG xs (some (n : Int)) none = xs.drop n := by
  unfold cutG
  rw [HT.sIx_nat, HT.sIx_none]
  by_cases h : n ≤ xs.length
  · rw [Nat.min_eq_left h, List.take_of_length_le (by rw [List.length_drop]; exact Nat.le_refl _)]
  · rw [Nat.min_eq_right (by omega), List.drop_of_length_le (Nat.le_refl _), List.drop_of_length_le (by omega), List.take_nil]
theorem cutG_to {α : Type} (xs : List α) (n : Nat) : cutG xs none (some (n : Int)) = xs.take n := by
  unfold cutG
  rw [HT.sIx_nat, HT.sIx_none, List.drop_zero, Nat.sub_zero]
  by_cases h : n ≤ xs.length
  · rw [Nat.min_eq_left h]
  · rw [Nat.min_eq_right (by omega), List.take_of_length_le (Nat.le_refl _), List.take_of_length_le (by omega)]
theorem sw_is {te' : TE} (h : Sw W te σ G M C) (e : te = te') : Sw W te' σ G M C := e ▸ h
/-- a, b = e -/
theorem sx_asgG {g : TG} (h : Sw W te σ G M fun v G' M' => Gx W g v σ G' M' fun σ' => Nx W D σ' G' M') : Sx W (tAsg te g) D σ G M := fun H w =>
  h H w _ fun v G' M' H' w' c => c H' w' _ fun σ' n => n H' w'
theorem q_asgG {g : TG} (h : Sw W te σ G M fun v G' M' => Gx W g v σ G' M' fun σ' => Sx W tz D σ' G' M') : Sx W (tSeq (tAsg te g) tz) D σ G M := sx_asgG (D := { D with nx := tz D }) h
end
/-! # a def called within an except suite, the caught error pinned at p -/
structure FnE (P : Program) (w : PySem.World) (K : PySem.W.Frag) (mg : Str → Option Value) (base : Heap) (k : Nat) (f : Addr) (fd : FuncData) (ps : List Str) (sp : Addr → Value → Option Addr → Sp) : Prop where
  len : ∀ a cls d vs H Q E, sp a cls d vs H Q E → vs.length = ps.length
  run : ∀ (p : Addr × Obj) (cls : Value) (d : Option Addr) (A : Around) (outer : List Env) (s : Shared) (H : Hp) (args : Args) (us : List Value) (vs : List V) (Q : VK) (E : XK), Zc cls d p.2 → (∃ vs, p.2.data = .fields vs) → L2H.RoomH k A → L2H.PinOk outer H s p → Env0 P w K mg base A outer s H → BindsTo s fd args (ps.zip us) → Vals vs us → sp p.1 cls d vs H Q E →
    codeAny (model P w) A (.call (.ref f) args) (CR CX0 outer P w H s Q E) s
theorem Fun.okE {P : Program} {w : PySem.World} {K : PySem.W.Frag} {mg : Str → Option Value} {base : Heap} {x qual : Str} {st : Stmt} {f : Addr} {fd : FuncData} {N ps : List Str} {k : Nat} {sp : Addr → Value → Option Addr → Sp} (F : Fun K x qual st f fd) (S : FnScope N ps (defScope st)) (ln : ∀ a cls d vs H Q E, sp a cls d vs H Q E → vs.length = ps.length)
    (body : ∀ (cdv : Value) (A : Around) (outer : List Env) (s : Shared) (H : Hp) (vs : List V) (Q : VK) (E : XK) (p : Addr × Obj) (cls : Value) (d : Option Addr), Zc cls d p.2 → (∃ vs, p.2.data = .fields vs) → sp p.1 cls d vs H Q E →
      ∃ t, PSs (L2H.cxH CX0 P w K mg base N qual (defScope st) f cdv A outer s H E p) (defBody st) t ∧ t { nx := fun _ H' => Q .non H', rt := Q } (L2.start N vs) H) : FnE P w K mg base (k + 1) f fd ps sp := by
  obtain ⟨oc, od, kV, doc, pm, an, cdv, ct, osl, rfl, lk, hcd⟩ := F.ex
  refine ⟨ln, fun p cls d A outer s H args us vs Q E hz hf hr hpin e0 hb r hsp => ?_⟩
  have KI : K.In s.heap := e0.mod.kin.keeps (fun b o z => (e0.bs b o z).1)
  have lm : s.heap.NoLimit := e0.mod.nolimit.keeps (fun b o z => (e0.bs b o z).1)
  refine codeAny_call_function (hr.depth) (KI _ _ lk) rfl S.co S.gen rfl (PySem.W.codeRec_of KI hcd) (hb _ _ _ _ (wpAny_newFunctionEnv_cells S.kind (fun ⟨n, v⟩ hy => (S.par n (List.of_mem_zip hy).1).elim (fun q => .inl q) (fun q => .inr ⟨q, PySem.W.cellsFrom_some _ _ _ (.inl q)⟩)) fun env he s1 z => ?_))
  cases he
  refine ⟨lm.keeps z.toInCall.keep, codeAny_func ?_⟩
  obtain ⟨t, ht, hq⟩ := body cdv A outer s H vs Q E p cls d hz hf hsp
  have J0 := L2H.inv_startH (CX := CX0) (E := E) S hpin e0 (ln _ _ _ _ _ _ _ hsp) r z
  refine wpAny_mono (ht.run [] s1 (L2.start N vs) H _ J0 hq) (fun fl s' hs => ?_) (fun e s' hs => hs)
  cases fl with
  | ret u => obtain ⟨v, σ', H', J, rv, q⟩ := hs; exact ⟨v, H', J.os, J.bare, J.base, J.hok, rv, q⟩
  | next => obtain ⟨σ', H', J, q⟩ := hs; exact ⟨.non, H', J.os, J.bare, J.base, J.hok, rfl, q⟩
  | brk => obtain ⟨_, _, _, q⟩ := hs; exact q.elim
  | cont => obtain ⟨_, _, _, q⟩ := hs; exact q.elim
/-- f(e, ..) in the suite that holds the error p -/
theorem pe_callE {X : Cx} {k : Nat} {f : Addr} {fd : FuncData} {ps : List Str} {sp : Addr → Value → Option Addr → Sp} {x : Str} {q pos : Pos} {e : Expr} {es : List Expr} {t : TA} {p : Addr × Obj} {cls : Value} {d : Option Addr} (hz : Zc cls d p.2) (hf : ∃ vs, p.2.data = .fields vs) (F : FnE X.prog X.w X.K X.mg X.base k f fd ps sp) (hr : L2H.RoomH k X.A) (hp : p ∈ X.pn) (hg : Gl X x) (hm : X.mg x = some (.ref f))
    (hk : PySem.W.keepIn X.K (.ref f) = true) (hb : Binds X.K fd ps []) (ha : PA X (e :: es) t) (hdb : (x == ("__debug__" : Str)) = false := by decide)
    (he : starEach (e :: es) X.env = (false, eval e X.env) :: starEach es X.env := by rfl) (hpl : (backTo pos (starEach es X.env)).any (·.1) = false := by rfl) : PE X (.Call (.Name x q) (e :: es) [] pos) (tCallS (sp p.1 cls d) (fun _ => E0) t) := by
  refine ⟨fun pins s σ H Q I h => wpAny_Call_Name_kw (ld_glob I hg hm ?_ hdb)⟩
  refine PySem.W.callWith_K (h₀ := X.base) I.ok.mod.kin hk (thn (ha.run pos pins s σ H _ I h) fun us s1 ⟨vs, H1, I1, r, hs⟩ => ⟨I1.kIn, ?_⟩) he hpl
  have hl : us.length = ps.length := by rw [← r.length]; exact F.len _ _ _ _ _ _ _ hs
  have b := hb s1 us I1.kIn (by rw [List.append_nil]; exact hl)
  rw [List.append_nil] at b
  have P1 := I1.pin p (List.mem_append_left _ hp)
  have po : L2H.PinOk X.stack H1 s1 p := ⟨P1.1, P1.2.1, fun z => (List.mem_cons.mp (I1.stkSub p.1 z)).elim P1.2.2.1 P1.2.2.2.1, P1.2.2.2.2⟩
  refine wpAny_call (codeAny_mono (F.run p cls d X.A X.stack s1 H1 ⟨us, []⟩ us vs Q E0 hz hf hr po I1.env0 b r hs) fun rr s' hq => ?_)
  cases rr with
  | error e => exact hq.elim
  | ok fl =>
    cases fl with
    | ret u => exact I1.after hq
    | next => exact False.elim hq
    | brk => exact False.elim hq
    | cont => exact False.elim hq
/-! # what is told of an error's class -/
/-- D's chain of classes: itself, TownError at T, ValueError .. -/
structure ErrC (K : PySem.W.Frag) (T D : Addr) : Prop where
  ex : ExcC K D
  mro : (PySem.W.clsIn K D).map (·.mro) = some [.ref D, .ref T, .type "ValueError", .type "Exception", .type "BaseException", .type "object"]
  ty : PySem.W.typeIn K (.ref D) = some (.type "type")
theorem sub_mro {K : PySem.W.Frag} {D : Addr} {l : List Value} {b : Value} (h : (PySem.W.clsIn K D).map (·.mro) = some l) (hl : l.isEmpty = false) : PySem.W.subIn K (.ref D) b = some (l.contains b) := by
  obtain ⟨cd, h1, h2⟩ := Option.map_eq_some_iff.mp h
  show (PySem.W.clsIn K D).bind _ = _
  rw [h1, Option.bind_some]
  subst h2
  rw [if_neg (by rw [hl]; decide)]
/-- a class that is asked of -/
structure AskC (K : PySem.W.Frag) (T C : Addr) : Prop where
  is : PySem.W.isClsIn K C = true
  ty : PySem.W.typeIn K (.ref C) = some (.type "type")
  ne : C ≠ T
theorem kit_err {K : PySem.W.Frag} {T D C : Addr} (d : ErrC K T D) (c : AskC K T C) : PySem.W.kitOne K (.ref D) (.ref C) = some (decide (D = C)) := by
  have hc : (PySem.W.clsIn K C).isSome = true := c.is
  unfold PySem.W.kitOne
  by_cases e : D = C
  · subst e; rw [if_pos (by simp)]; simp
  · rw [if_neg (by simpa using e)]
    show (if ((PySem.W.clsIn K C).isSome && PySem.W.typeIn K (.ref C) == some (.type "type")) = true then PySem.W.subIn K (.ref D) (.ref C) else none) = _
    rw [if_pos (by rw [hc, c.ty]; rfl), sub_mro d.mro rfl]
    have e1 : (Value.ref C == Value.ref D) = false := by simpa using fun z => e z.symm
    have e2 : (Value.ref C == Value.ref T) = false := by simpa using c.ne
    have e3 : ∀ s : String, (Value.ref C == Value.type s) = false := fun s => by simp
    simp only [List.contains_cons, List.contains_nil, e1, e2, e3, Bool.or_false, decide_eq_false e]
theorem kit_VE {K : PySem.W.Frag} {T D : Addr} (d : ErrC K T D) : PySem.W.kitOne K (.ref D) (.type "ValueError") = some true := by
  unfold PySem.W.kitOne
  rw [if_neg (by simp)]
  show (if PySem.W.kitMeta "ValueError" = true then PySem.W.subIn K (.ref D) (.type "ValueError") else none) = _
  rw [if_pos (by decide +kernel), sub_mro d.mro rfl]
  rfl
theorem exm_town {K : PySem.W.Frag} {T D : Addr} (d : ErrC K T D) (h1 : PySem.W.subIn K (.ref T) (.type "BaseException") = some true) (hd : PySem.W.hasDictIn K T = true) (ht : PySem.W.typeIn K (.ref T) = some (.type "type")) : PySem.W.exmOne K (.ref D) (.ref T) = some true :=
  PySem.W.exm_ref h1 hd ht (by rw [sub_mro d.mro rfl]; simp)
/-- isinstance(e, c) where the error e is pinned -/
theorem call_isP {X : Cx} {a D : Addr} {oe : Obj} (C : ExcC X.K D) (hp : (a, oe) ∈ X.pn) (hz : Zc (.ref D) none oe) (hf : ∃ vs, oe.data = .fields vs) : CallR X (.builtin "isinstance") (rIsE X.K D a) := by
  rintro pins s σ H xs us Q I r ⟨c, cv, b, rfl, hcv, e, q⟩
  obtain ⟨u1, u2, rfl, r1, r2⟩ := vals2 r
  cases r1
  cases hcv _ r2
  have hget := (I.pin (a, oe) (List.mem_append_left _ hp)).1
  obtain ⟨vs, hv⟩ := hf
  obtain ⟨oc, od, oda, osl⟩ := oe
  obtain ⟨z1, z2⟩ := hz
  dsimp only at z1 z2 hv
  subst z1 z2 hv
  exact PySem.W.kia_one (PySem.W.handS_kitx_exc C.hg C.hk C.hs C.hd C.ha C.hn C.ht C.hm) I.kIn (show PySem.W.InstAt s.heap a _ D none from ⟨hget, rfl, rfl, trivial⟩) e (fun z => nomatch z) fun tk => ⟨.bl b, H, I.kept (t' := tk) fun _ _ z => z, rfl, q⟩
/-- try: .. except c as n: .. -/
def tTryAs (K : PySem.W.Frag) (c : Value) (i : Nat) (tb : WX → TS) (ts : Addr → Value → Option Addr → TS) (Wout : WX) : TS := fun D σ H => tb (wAs K c i ts Wout D) D σ H
/-- the classes that _law_kinds asks of, in its order -/
def Er.kinds (Z : Er) : List Addr := [Z.NoTown, Z.NoGate, Z.NoHour, Z.NoPass, Z.NoToll, Z.NoWord, Z.NoName, Z.Within, Z.Without, Z.NoCart, Z.Shut, Z.NothingLeft, Z.NoPages, Z.NoPage, Z.NoBook, Z.NoInns, Z.NoWay, Z.NoWalks, Z.NoRounds, Z.NoText, Z.NoRow]
structure EF (K : PySem.W.Frag) (Z : Er) (rs : List Addr) : Prop where
  ask : ∀ C ∈ Z.kinds, AskC K Z.TownError C
  err : ∀ C ∈ rs, ErrC K Z.TownError C
  nd : Z.kinds.Nodup
  tb : PySem.W.subIn K (.ref Z.TownError) (.type "BaseException") = some true
  td : PySem.W.hasDictIn K Z.TownError = true
  tt : PySem.W.typeIn K (.ref Z.TownError) = some (.type "type")
theorem mro_of {K : PySem.W.Frag} {C N : Addr} {nm q : Str} {bs bm : List Value} {hx : Bool} {sn : List Str} {sub : List Value} {ab : Bool} {col : Option Bool} {dd : Option Addr} {m0 m1 m2 m3 m5 : Option Value} {nid : String} (h : K.lookup C = some (excClassObj nm q C N bs bm hx sn sub ab col dd m0 m1 m2 m3 m5 nid)) : (PySem.W.clsIn K C).map (·.mro) = some (.ref C :: bm) := by
  unfold PySem.W.clsIn
  rw [h]
  rfl
theorem ask_all {K : PySem.W.Frag} {T : Addr} {l : List Addr} (h1 : ∀ C ∈ l, PySem.W.isClsIn K C = true) (h2 : ∀ C ∈ l, PySem.W.typeIn K (.ref C) = some (.type "type")) (h3 : T ∉ l) : ∀ C ∈ l, AskC K T C := fun C h => ⟨h1 C h, h2 C h, fun e => h3 (e ▸ h)⟩
theorem all_nil {P : Addr → Prop} : ∀ C ∈ ([] : List Addr), P C := fun _ h => nomatch h
theorem all_cons {P : Addr → Prop} {c : Addr} {l : List Addr} (h : P c) (k : ∀ C ∈ l, P C) : ∀ C ∈ c :: l, P C := fun C hC => (List.mem_cons.mp hC).elim (fun e => e ▸ h) (k C)
section
variable {K : PySem.W.Frag} {W : Ent} {D : Ends} {σ : L2.St} {G : Hp} {M : Mem} {te ti : TE} {t tz : TS} {ta : TA} {d : PyData} {ds : List PyData} {E : XK} {C : V → Hp → Mem → Prop} {i : Nat} {p : Addr}
/-! # defs that hand back a new list which the caller may write -/
def spO (K : PySem.W.Frag) (Pre : List PyData → Prop) (Post : List PyData → List V → Hp → Prop) : Sp := fun vs H Q _ => ∃ G ds, Ex G H ∧ DaL K G vs ds ∧ Pre ds ∧
  ∀ p xs G' H', Grow [] G H G' H' → H p = none → G' p = none → H' p = some (.lst xs) → Post ds xs G' → Q (.ref p) H'
theorem spO_len {Pre : List PyData → Prop} {Post : List PyData → List V → Hp → Prop} {n : Nat} (h : ∀ ds, Pre ds → ds.length = n) : ∀ vs H Q E, spO K Pre Post vs H Q E → vs.length = n := fun vs H Q E ⟨G, ds, e, da, hp, q⟩ => by rw [da.len]; exact h ds hp
theorem World.newEx {G' H H' : Hp} {o : HO} (w : World W G M H) (g : Grow [] G H G' H') (n : H p = none) (n2 : G' p = none) (h : H' p = some o) : World W G' ((p, o) :: M) H' := by
  have w1 := w.grow g
  refine ⟨w1.gr, fun q u hq => ?_, fun q u hq => ?_, ?_, fun q u hq => ?_⟩
  · rcases List.mem_cons.mp hq with e | e
    · cases e; exact h
    · exact w1.own q u e
  · rcases List.mem_cons.mp hq with e | e
    · cases e; exact n2
    · exact w1.sep q u e
  · rw [List.map_cons, List.nodup_cons]
    refine ⟨fun z => ?_, w.nd⟩
    obtain ⟨⟨q, u⟩, hq, e⟩ := List.mem_map.mp z
    have e : q = p := e
    subst e
    rw [w.own q u hq] at n; cases n
  · rcases List.mem_cons.mp hq with e | e
    · cases e; exact .inr (w.new0 n)
    · exact w.fm q u e
/-- less is settled than might be -/
theorem World.less {G' H H' : Hp} {M' : Mem} (w' : World W G' M' H') (e : Ex G G') (w : World W G M H) : World W G M' H' :=
  ⟨⟨w.gr.gg, e.trans w'.gh, w'.gr.fr, w.gr.fg, w'.gr.dm⟩, w'.own, fun q u hq => fresh_back e (w'.sep q u hq), w'.nd, w'.fm⟩
theorem sw_callO {Pre : List PyData → Prop} {Post : List PyData → List V → Hp → Prop} (ha : EvA K ta σ G ds) (hp : Pre ds) (c : ∀ p xs G', Ex G G' → W.H0 p = none → Post ds xs G' → C (.ref p) G' ((p, .lst xs) :: M)) : Sw W (tCall (spO K Pre Post) [] E ta) σ G M C := fun H w Q q =>
  ha G H (Ex.refl G) w.gh _ fun vs G1 H1 g1 d1 => by
    rw [List.append_nil]
    have w1 := w.grow g1
    refine ⟨G1, ds, w1.gh, d1, hp, fun p xs G' H' g n n2 h po => ?_⟩
    exact q _ G' _ H' (w1.newEx g n n2 h) (c p xs G' (g1.gg.trans g.gg) (w1.new0 n) po)
theorem own_in {Pre : List PyData → Prop} {Post : List PyData → List V → Hp → Prop} {N : List Str} (h : ∀ vs ds (W : Ent) G D, DaL K G vs ds → Pre ds → Ret W D (fun v G' M' => ∃ p xs, v = .ref p ∧ W.H0 p = none ∧ (p, HO.lst xs) ∈ M' ∧ Post ds xs G') → Sx W t D (L2.start N vs) G []) :
    ∀ vs H Q E, spO K Pre Post vs H Q E → t { nx := fun _ H' => Q .non H', rt := Q } (L2.start N vs) H := fun vs H Q E ⟨G, ds, e, da, hp, q⟩ =>
  h vs ds ⟨G, H, []⟩ G _ da hp (fun v G' M' H' w ⟨p, xs, ev, n0, hm, po⟩ => by subst ev; exact q p xs G' H' w.gr n0 (w.sep p _ hm) (w.own p _ hm) po) H (world0 e)
/-- xs[i] = e, the list owned -/
theorem sx_setM (k : Nat) (ho : σ[i]? = some (some (.ref p))) (h : Sw W te σ G M fun v G' M' => ∃ xs n j, M'[k]? = some (p, .lst xs) ∧ EvD K ti σ G' (.int n) ∧ ixN xs.length n = some j ∧ Nx W D σ G' (M'.set k (p, .lst (xs.set j v)))) : Sx W (tAsg te (gSub (tVar i) ti rSetL)) D σ G M := fun H w =>
  h H w _ fun v G' M' H' w' ⟨xs, n, j, hm, hi, hj, c⟩ => ⟨.ref p, ho, hi G' H' (Ex.refl G') w'.gh _ fun u G2 H2 g2 d2 => ⟨p, xs, n, j, rfl, d2.int_eq, (w'.ext g2.hh).own p _ (List.mem_of_getElem? hm), hj, c _ ((w'.ext g2.hh).set hm)⟩⟩
theorem q_setM (k : Nat) (ho : σ[i]? = some (some (.ref p))) (h : Sw W te σ G M fun v G' M' => ∃ xs n j, M'[k]? = some (p, .lst xs) ∧ EvD K ti σ G' (.int n) ∧ ixN xs.length n = some j ∧ Sx W tz D σ G' (M'.set k (p, .lst (xs.set j v)))) : Sx W (tSeq (tAsg te (gSub (tVar i) ti rSetL)) tz) D σ G M := sx_setM (D := { D with nx := tz D }) k ho h
/-! # dicts that may be written -/
theorem q_dict (c : ∀ p, W.H0 p = none → Sx W tz D (σ.set i (some (.ref p))) G ((p, .dK []) :: M)) : Sx W (tSeq (tAsg tDNewK (gName i)) tz) D σ G M := fun H w => fun p hp => c p (w.new0 hp) _ (w.new hp)
/-- d[k] = e, a text for a key, in a turn of a loop; e plain, the key reckoned with deeds -/
theorem sx_dput {tk tv : TE} {kvs : List (Key × V)} {v : V} (hv : ∀ H, tv σ H = fun Q => Q v H) (k : Nat) (ho : σ[i]? = some (some (.ref p))) (hm0 : ∃ o, (p, HO.dK o) ∈ M) (h : Sw W tk σ G M fun x G' M' => ∃ key kvs, x = .str key ∧ M'[k]? = some (p, .dK kvs) ∧ kvs.length < 100000 ∧ Nx W D σ G' (M'.set k (p, .dK (putK kvs (Sum.inr key) v)))) : Sx W (sDPut (tVar i) tk tv) D σ G M := fun H w => by
  show tv σ H _
  rw [hv H]
  refine ⟨.ref p, ho, h H w _ fun x G' M' H' w' ⟨key, kvs, ex, hm, hl, c⟩ => ?_⟩
  subst ex
  exact ⟨p, _, rfl, DPut.k (k := Sum.inr key) (w'.own p _ (List.mem_of_getElem? hm)) (sz_lt hl), c _ (w'.set hm)⟩
end
/-! # texts in order -/
theorem ltCps_eq : ∀ a b : List Nat, PySem.Spec.ltCps a b = decide (a < b)
  | [], [] => rfl
  | [], _ :: _ => rfl
  | _ :: _, [] => rfl
  | a :: r, b :: t => by
    show (decide (a < b) || (a == b && PySem.Spec.ltCps r t)) = decide (a :: r < b :: t)
    rw [ltCps_eq r t, Bool.eq_iff_iff]
    simp only [Bool.or_eq_true, Bool.and_eq_true, decide_eq_true_eq, beq_iff_eq, List.cons_lt_cons_iff]
theorem Str.of_toList {x y : Str} (h : x.cps.toList = y.cps.toList) : x = y := by
  obtain ⟨⟨a⟩⟩ := x
  obtain ⟨⟨b⟩⟩ := y
  cases h; rfl
abbrev ltS (x y : Str) : Bool := decide (x.cps.toList < y.cps.toList)
def risesS (ss : List Str) : Bool := (ss.zip (ss.drop 1)).all fun p => ltS p.1 p.2
theorem rises_cons (x y : Str) (r : List Str) : risesS (x :: y :: r) = (ltS x y && risesS (y :: r)) := rfl
theorem rises_of_sorted : ∀ {ss : List Str}, PyProof.Rows.sortedS ss = true → ss.Nodup → risesS ss = true
  | [], _, _ => rfl
  | [_], _, _ => rfl
  | x :: y :: r, h, hn => by
    have h2 : (!PySem.Spec.ltCps y.cps.toList x.cps.toList && PyProof.Rows.risingS y r) = true := h
    rw [Bool.and_eq_true, Bool.not_eq_true', ltCps_eq, decide_eq_false_iff_not] at h2
    rw [rises_cons, Bool.and_eq_true]
    refine ⟨decide_eq_true ?_, rises_of_sorted (ss := y :: r) h2.2 (List.nodup_cons.mp hn).2⟩
    have hne : x.cps.toList ≠ y.cps.toList := fun e => (List.nodup_cons.mp hn).1 (by rw [Str.of_toList e]; exact List.mem_cons_self)
    exact (List.le_iff_lt_or_eq.mp (List.not_lt.mp h2.1)).resolve_right hne
theorem join_empty : ∀ cs : List Nat, (Txt.join (Str.ofString "") (cs.map fun c => (⟨#[c]⟩ : Str))).cps.toList = cs := fun cs => by
  rw [TL.join_eq]
  have e := TL.tl_join (Str.ofString "") (cs.map fun c => (⟨#[c]⟩ : Str))
  unfold TL.tl at e
  rw [e, List.map_map]
  have e0 : (Str.ofString "").cps.toList = [] := by decide +kernel
  rw [e0]
  have k : ∀ l : List Nat, TL.joinL [] (l.map (TL.tl ∘ fun c => (⟨#[c]⟩ : Str))) = l := by
    intro l
    induction l with
    | nil => rfl
    | cons c r ih =>
      cases r with
      | nil => rfl
      | cons c2 r2 =>
        show [c] ++ ([] ++ TL.joinL [] ((c2 :: r2).map _)) = c :: c2 :: r2
        rw [ih]; rfl
  exact k cs
section
variable {K : PySem.W.Frag} {W : Ent} {σ : L2.St} {G : Hp} {M : Mem} {te : TE} {C : V → Hp → Mem → Prop} {i : Nat} {p : Addr}
theorem sw_join {a : Str} (h : Sw W te σ G M fun v G' M' => ∃ q ys, ∃ k : Nat, v = .ref q ∧ M'[k]? = some (q, .lst (ys.map V.str)) ∧ (ys.map (·.length)).sum + ys.length * a.length ≤ 16777216 ∧ C (.str (Txt.join a ys)) G' M') : Sw W (tM1 (kJoin K) (tC (.str a)) te) σ G M C := fun H w Q q =>
  ⟨⟨a, rfl⟩, h H w _ fun v G' M' H' w' ⟨r, ys, k, ev, hm, hl, c⟩ => ⟨a, r, ys, rfl, by rw [ev], .inl (SqL.of (w'.own r _ (List.mem_of_getElem? hm))), hl, q _ G' M' H' w' c⟩⟩
/-- sorted(d), the keys texts -/
theorem sw_sortedD {kvs : List (Key × V)} {ks : List Str} (k : Nat) (ho : σ[i]? = some (some (.ref p))) (hm : M[k]? = some (p, .dK kvs)) (hk : kvs.map (·.1) = ks.map Sum.inr) (hl : ks.length < 64) (c : ∀ ys v G', ys.Perm ks → PyProof.Rows.sortedS ys = true → Ex G G' → Da K G' v (.list (ys.map .str)) → C v G' M) :
    Sw W (tCB (kSorted K) (tCons (tVar i) tNil)) σ G M C := fun H w Q q =>
  ⟨.ref p, ho, .inl ⟨p, kvs, ks, rfl, .inl (w.own p _ (List.mem_of_getElem? hm)), hk, hl, fun ys r hp hs hr => q _ _ M _ (w.grow (Grow.new w.gh hr)) (c ys _ _ hp hs (Ex.new (fresh_back w.gh hr)) (.lst upd_same (DaL.ofStrs ys)))⟩⟩
end
/-! # the end: the script -/
def sp_script (K : PySem.W.Frag) (n : Nat) : Sp := fun vs H Q _ => ∃ (a : Addr) (ns : List Int), vs = [.ref a] ∧ SqL K H a (ns.map V.int) ∧ ns.length ≤ n ∧ ∀ H', Q (.bl true) H'
/-! # xs[a:c] = ys, the end perhaps beyond -/
theorem bounds_any {a c n : Nat} (h : a ≤ n) : sliceBounds (some (a : Int)) (some (c : Int)) none n = ((a : Int), ((min c n : Nat) : Int), 1) := by
  have n1 : ¬ ((a : Int) < 0) := by omega
  have n2 : ¬ ((c : Int) < 0) := by omega
  simp only [sliceBounds, Option.getD_none, n1, n2, if_false, show (1 : Int) > 0 from by decide, if_true]
  refine Prod.ext ?_ (Prod.ext ?_ rfl)
  · show max 0 (min (a : Int) (n : Int)) = (a : Int); omega
  · show max 0 (min (c : Int) (n : Int)) = ((min c n : Nat) : Int); omega
section
variable {prog : Program} {w : PySem.World} {A : Around} {E : Value → Shared → Prop} {s : Shared}
theorem set_cut {l b sl : Addr} {its new : Array Value} {n m : Nat} {vl vu : Value} {a c : Nat} {Q : Unit → Shared → Prop} (e : s.heap.get? l = some { cls := .type "list", data := .seq its n }) (e2 : s.heap.get? b = some { cls := .type "list", data := .seq new m }) (ne : l ≠ b)
    (hs : s.heap.IsSliceOf sl vl vu .none) (pl : IsPart vl (some (a : Int))) (pu : IsPart vu (some (c : Int))) (hac : a ≤ c) (ha : a ≤ its.size) (hz : its.size + new.size ≤ sizeLine)
    (q : Q () { s with heap := s.heap.update l (Obj.mapSeq fun xs => xs.extract 0 a ++ new ++ xs.extract (min c its.size) xs.size) }) : wpAny (model prog w) A (setItem (.ref l) (.ref sl) (.ref b)) Q E s := by
  have kl := PySem.IsL.isList e
  have kb := PySem.IsL.isList e2
  obtain ⟨os, hos, hcs, hds⟩ := id hs
  have kt : s.TypeIs (.ref sl) "slice" := ⟨os, hos, hcs⟩
  have other : Builtin.List.listSameRef (.ref l) (.ref b) = false := (show ((l : Addr) == b) = false from beq_eq_false_iff_ne.mpr ne)
  have mx : (max (a : Int) ((min c its.size : Nat) : Int)).toNat = min c its.size := by omega
  have z2 : ((fun xs : Array Value => xs.extract 0 a ++ new ++ xs.extract (min c its.size) xs.size) its).size ≤ sizeLine + 1 := by
    simp only [Array.size_append, Array.size_extract]; omega
  unfold setItem
  (try with_reducible refine wpAny_holding ?_); (first | refine wpAny_bind (wpAny_pure ?_) | skip)
  refine wpAny_bind (wpAny_sequenceKey kl.typeIs (by decide) (wpAny_bind (wpAny_callSpecial?_slot (name := Str.ofString "__setitem__") kl.typeIs slot_list_setitem (wpAny_call_entry slot_list_setitem kl.typeIs entry_list_setitem ?_ (args_list_setitem _ _ _)))))
  show wpAny _ _ (Builtin.List.listSubscript? (.ref sl) >>= _) _ _ s
  unfold Builtin.List.listSubscript?
  refine wpAny_bind (wpAny_bind (wpAny_specialOf kt slice_no_index ?_))
  simp only [Option.isNone_none, if_true]
  refine wpAny_pure (show wpAny _ _ (typeOf (.ref sl) >>= _) _ _ s from wpAny_bind (wpAny_typeOf kt ?_))
  (first | rw [if_neg (by decide)] | refine PySem.W.KFB.if_not (by decide) ?_)
  rw [listSliceParts_eq]
  refine wpAny_bind (wpAny_bind (wpAny_field hos hds (x := .none) rfl (wpAny_bind (wpAny_listPart .none ?_))))
  rw [if_neg (show ¬ ((rawPart none == rawInt 0) = true) from Bool.false_ne_true)]
  refine wpAny_bind (wpAny_field hos hds (x := vl) rfl (wpAny_bind (wpAny_listPart pl (wpAny_bind (wpAny_field hos hds (x := vu) rfl (wpAny_bind (wpAny_listPart pu (wpAny_pure ?_))))))))
  (first | simp only [other, Bool.false_eq_true, if_false] | refine PySem.W.KFB.if_not other ?_ | (dsimp only; rw [if_neg (by rw [other]; exact Bool.false_ne_true)]))
  refine wpAny_bind (m := Builtin.List.listAllItems (.ref b) "must assign iterable to extended slice") ?_
  unfold Builtin.List.listAllItems
  refine wpAny_bind (wpAny_typeOf kb.typeIs ?_)
  (first | refine PySem.W.KFB.if_so (by decide) ?_ | rw [if_pos (by decide)] | simp only [beq_self_eq_true, Bool.true_or, if_true])
  unfold Builtin.List.listItems
  refine wpAny_bind (wpAny_seqItems e2 rfl (wpAny_pure (wpAny_bind (wpAny_bind (wpAny_seqItems e rfl (wpAny_pure ?_))))))
  refine wpAny_bind (wpAny_of_eq ((sliceIndices_raw (some (a : Int)) (some (c : Int)) none its.size (by simp)).trans (congrArg (pure : Int × Int × Int → Sem (Int × Int × Int)) (bounds_any ha))) ?_)
  show wpAny _ _ (if ((1 : Int) == 1) = true then _ else _) _ _ s
  rw [if_pos (by decide)]
  refine wpAny_bind (wpAny_rule ?_)
  (first | simp only [notLongL hz, Bool.false_eq_true, if_false] | refine PySem.W.KFB.if_not (notLongL hz) ?_)
  (first | refine wpAny_bind (wpAny_pure ?_) | skip)
  show wpAny _ _ (updateSeq l (fun xs => xs.extract 0 ((a : Int)).toNat ++ new ++ xs.extract (max (a : Int) ((min c its.size : Nat) : Int)).toNat xs.size) >>= _) _ _ s
  rw [mx, Int.toNat_natCast]
  refine wpAny_bind (wpAny_updateSeq (hz := Nat.le_trans (Nat.le_add_right _ _) hz) (_hz' := z2) e rfl (wpAny_bind (wpAny_letGo ?_)))
  (first | exact wpAny_bind (wpAny_pure (wpAny_pure ⟨.none, rfl, wpAny_pure q⟩)) | exact wpAny_pure ⟨.none, rfl, wpAny_pure q⟩)
end
/-- the reading -/
def sCut (to : TE) (tl th : TO) (tv : TE) : TS := fun D σ H => tv σ H fun v H1 => to σ H1 fun o H2 => tl σ H2 fun lo H3 => th σ H3 fun hi H4 => ∃ l b xs ys a c, o = .ref l ∧ v = .ref b ∧ lo = some ((a : Nat) : Int) ∧ hi = some ((c : Nat) : Int) ∧ H4 l = some (.lst xs) ∧ H4 b = some (.lst ys) ∧ l ≠ b ∧ a ≤ c ∧ a ≤ xs.length ∧ xs.length + ys.length ≤ sizeLine ∧
  D.nx σ (upd H4 l (.lst (xs.take a ++ ys ++ xs.drop (min c xs.length))))
section
variable {X : Cx}
theorem ps_cut {o v : Expr} {lo hi : Option Expr} {to tv : TE} {tl th : TO} {p2 pos' pos : Pos} (ho : PE X o to) (hl : PO X lo tl) (hh : PO X hi th) (hv : PE X v tv) (hs : swapsWith v (some (.Subscript o (.Slice lo hi none p2) pos')) pos.line X.env = pure false := by rfl) : PS X (.Assign [.Subscript o (.Slice lo hi none p2) pos'] v pos) (sCut to tl th tv) := by
  refine ⟨fun pins s σ H D I h => wpAny_Assign_Subscript (thn (hv.run pins s σ H _ I h) fun vv s1 ⟨x, H1, I1, r1, q1⟩ => thn (ho.run pins s1 σ H1 _ I1 q1) fun ov s2 ⟨y, H2, I2, r2, q2⟩ => ?_) hs⟩
  refine wpAny_Slice (thn (hl.run pins s2 σ H2 _ I2 q2) fun vl s3 ⟨lo', H3, I3, pl, q3⟩ => thn (hh.run pins s3 σ H3 _ I3 q3) fun vu s4 ⟨hi', H4, I4, pu, q4⟩ => ?_)
  rw [evalPart_none]
  refine wpAny_pure ?_
  obtain ⟨l, b, xs, ys, a, c, rfl, rfl, rfl, rfl, hx, hy, ne, hac, ha, hz, q⟩ := q4
  cases r1
  cases r2
  have I5 : Inv X pins σ H4 { s4 with heap := s4.heap.push { cls := .type "slice", data := .fields #[vl, vu, .none] } } := I4.kept (t' := s4.toks) (fun b o z => Heap.get?_push_of_some _ z)
  obtain ⟨_, its, n, rx, ex, hgx⟩ := I5.lstM hx
  obtain ⟨_, its2, n2, ry, ey, hgy⟩ := I5.lstM hy
  refine set_cut (a := a) (c := c) hgx hgy ne (Heap.IsSliceOf.new ..) pl pu hac (by rw [List.size_toArray]; omega) (by rw [List.size_toArray, List.size_toArray]; omega) ?_
  refine ⟨σ, _, I5.lset (its' := its.take a ++ its2 ++ its.drop (min c xs.length)) (t' := s4.toks) hx hgx ?_ (Vals.append (Vals.append (rx.take _) ry) (rx.drop _)) ?_, q⟩
  · rw [show min c its.toArray.size = min c xs.length by rw [List.size_toArray, ex]]
    exact splice_eq its its2 a (min c xs.length)
  · rw [List.length_append, List.length_append, List.length_take, List.length_drop]; omega
end
/-! # t[::-1], a tuple -/
section
variable {prog : Program} {w : PySem.World} {A : Around} {E : Value → Shared → Prop} {s : Shared}
theorem applied_back {sl : Addr} {vl vu vs : Value} {n : Nat} {Q : Int × Int × Nat → Shared → Prop} (hs : s.heap.IsSliceOf sl vl vu vs) (pl : IsPart vl none) (pu : IsPart vu none) (ps : IsPart vs (some (-1))) (h : Q ((n : Int) - 1, -1, n) s) : wpAny (model prog w) A (Builtin.Slice.sliceApplied (.ref sl) (pure (n : Int))) Q E s := by
  obtain ⟨os, hos, hcs, hds⟩ := id hs
  unfold Builtin.Slice.sliceApplied Builtin.Slice.sliceFields
  refine wpAny_bind (wpAny_bind (wpAny_field hos hds (x := vl) rfl (wpAny_bind (wpAny_field hos hds (x := vu) rfl (wpAny_bind (wpAny_field hos hds (x := vs) rfl (wpAny_pure (wpAny_bind (HT.slicePart_ ps ?_)))))))))
  show wpAny _ _ (if ((-1 : Int) == 0) = true then _ else _) _ _ s
  rw [if_neg (by decide)]
  refine wpAny_bind (HT.slicePart_ pl (wpAny_bind (HT.slicePart_ pu (wpAny_bind (wpAny_pure ?_)))))
  show wpAny _ _ (match Builtin.Slice.sliceAdjust none none (-1) (n : Int) with | (lo, hi) => pure (lo, (-1 : Int), Builtin.Slice.slicePlaces lo hi (-1))) _ _ s
  have e1 : Builtin.Slice.sliceAdjust none none (-1) (n : Int) = ((n : Int) - 1, -1) := by
    unfold Builtin.Slice.sliceAdjust
    simp
  rw [e1]
  show wpAny _ _ (pure ((n : Int) - 1, (-1 : Int), Builtin.Slice.slicePlaces ((n : Int) - 1) (-1) (-1))) _ _ s
  have e2 : Builtin.Slice.slicePlaces ((n : Int) - 1) (-1) (-1) = n := by
    unfold Builtin.Slice.slicePlaces
    simp
    omega
  rw [e2]
  exact wpAny_pure h
end
/-! # e[::-1], a list or a tuple that is not empty -/
theorem fm_congr {α β : Type} {f g : α → Option β} : ∀ {l : List α}, (∀ x ∈ l, f x = g x) → l.filterMap f = l.filterMap g
  | [], _ => rfl
  | a :: r, h => by
    rw [List.filterMap_cons, List.filterMap_cons, h a List.mem_cons_self, fm_congr fun x hx => h x (List.mem_cons_of_mem _ hx)]
theorem pick_back (xs : Array Value) : ((List.range xs.size).filterMap fun (m : Nat) => xs[(((xs.size : Int) - 1) + (m : Int) * (-1)).toNat]?).toArray = xs.toList.reverse.toArray := by
  congr 1
  refine List.ext_getElem? fun i => ?_
  have e : (List.range xs.size).filterMap (fun (m : Nat) => xs[(((xs.size : Int) - 1) + (m : Int) * (-1)).toNat]?) = (List.range xs.size).map fun m => xs.toList.reverse.getD m .none := by
    rw [← List.filterMap_eq_map]
    refine fm_congr fun m hm => ?_
    have hm := List.mem_range.mp hm
    have e2 : (((xs.size : Int) - 1) + (m : Int) * (-1)).toNat = xs.size - 1 - m := by omega
    rw [e2]
    have h1 : xs.size - 1 - m < xs.size := by omega
    rw [Array.getElem?_eq_getElem h1]
    show _ = some (xs.toList.reverse.getD m .none)
    have h2 : m < xs.toList.reverse.length := by rw [List.length_reverse, Array.length_toList]; exact hm
    rw [List.getD_eq_getElem?_getD, List.getElem?_eq_getElem h2]
    show some _ = some _
    congr 1
    rw [List.getElem_reverse, Array.getElem_toList]
    congr 1
  rw [e, List.getElem?_map]
  by_cases hi : i < xs.size
  · rw [List.getElem?_range hi]
    have h2 : i < xs.toList.reverse.length := by rw [List.length_reverse, Array.length_toList]; exact hi
    rw [List.getElem?_eq_getElem h2]
    show some (xs.toList.reverse.getD i .none) = some _
    rw [List.getD_eq_getElem?_getD, List.getElem?_eq_getElem h2]; rfl
  · rw [List.getElem?_eq_none (by rw [List.length_range]; omega), List.getElem?_eq_none (by rw [List.length_reverse, Array.length_toList]; omega)]
    rfl
section
variable {prog : Program} {w : PySem.World} {A : Around} {E : Value → Shared → Prop} {s : Shared}
theorem getItem_tuple_back {t sl : Addr} {items : Array Value} {vl vu vs : Value} {Q : Value → Shared → Prop} (ht : IsTup s.heap t items) (hs : s.heap.IsSliceOf sl vl vu vs) (pl : IsPart vl none) (pu : IsPart vu none) (ps : IsPart vs (some (-1)))
    (h : Q (.ref s.heap.objs.size) { s with heap := s.heap.push { cls := .type "tuple", data := .seq items.toList.reverse.toArray } })
    (hsz : items.size ≤ sizeLine) : wpAny (model prog w) A (getItem (.ref t) (.ref sl)) Q E s := by
  have htake : sizeOk (.seq items.toList.reverse.toArray) := by
    show (items.toList.reverse).toArray.size ≤ sizeLine
    rw [List.size_toArray, List.length_reverse, Array.length_toList]
    omega
  obtain ⟨os, hos, hcs, hds⟩ := id hs
  have hTs : s.TypeIs (.ref sl) "slice" := ⟨os, hos, hcs⟩
  unfold getItem
  try with_reducible refine wpAny_holding ?_
  first | refine wpAny_bind (wpAny_pure ?_) | skip
  refine wpAny_bind (wpAny_sequenceKey ht.typeIs (by decide) ?_)
  refine wpAny_bind (wpAny_callSpecial?_slot (name := Str.ofString "__getitem__") ht.typeIs PyProof.Rows.slot_tuple_getitem
    (wpAny_call_entry PyProof.Rows.slot_tuple_getitem ht.typeIs entry_tuple_getitem ?_ (args_tuple_getitem _ _)))
  show wpAny _ _ (Builtin.Tuple.tupleItemsOf (.ref t) >>= _) _ _ s
  refine wpAny_bind (tupleItemsOf_ ht ?_)
  refine wpAny_bind (wpAny_typeOf hTs ?_)
  rw [if_pos (by decide)]
  refine wpAny_bind (applied_back hs pl pu ps ?_)
  have hno : ¬ ((((items.size : Int) - 1) == 0 && (-1 : Int) == 1 && items.size == items.size) = true) := by
    intro q
    rw [Bool.and_eq_true, Bool.and_eq_true] at q
    exact absurd q.1.2 (by decide)
  show wpAny _ _ (if (((items.size : Int) - 1) == 0 && (-1 : Int) == 1 && items.size == items.size) = true then _ else _) _ _ s
  rw [if_neg hno, pick_back]
  first
    | exact wpAny_bind (m := Builtin.Tuple.tupleExact _) (wpAny_newObj_type (wpAny_pure ⟨_, rfl, wpAny_pure h⟩) htake)
    | exact wpAny_bind (m := Builtin.Tuple.tupleExact _) (wpAny_newObj_type (wpAny_bind (wpAny_pure (wpAny_pure ⟨_, rfl, wpAny_pure h⟩))) htake)
    | exact wpAny_bind (wpAny_bind (m := Builtin.Tuple.tupleExact _) (wpAny_newObj_type (wpAny_pure (wpAny_pure ⟨_, rfl, wpAny_pure h⟩)) htake))
    | exact wpAny_bind (wpAny_bind (m := Builtin.Tuple.tupleExact _) (wpAny_newObj_type (wpAny_pure ⟨_, rfl, wpAny_pure h⟩) htake))
end
def tRevT (K : PySem.W.Frag) (te : TE) : TE := fun σ H Q => te σ H fun x H1 => ∃ a xs, x = .ref a ∧ SqT K H1 a xs ∧ ∀ p, H1 p = none → Q (.ref p) (upd H1 p (.tup xs.reverse))
section
variable {X : Cx}
theorem pe_revT {e : Expr} {te : TE} {k : Nat} {p1 p2 p3 pos : Pos} (he : PE X e te) : PE X (.Subscript e (.Slice none none (some (.UnaryOp .USub (.Constant (.int 1) k p1) p2)) p3) pos) (tRevT X.K te) := by
  refine ⟨fun pins s σ H Q I h => ?_⟩
  refine Subscript_ (thn (he.run pins s σ H _ I h) fun v s1 ⟨x, H1, I1, r1, q1⟩ => ?_)
  obtain ⟨a, xs, ex, hx, q⟩ := q1
  subst ex
  cases r1
  have hst : PO X (some (.UnaryOp .USub (.Constant (.int 1) k p1) p2)) (tPart (tUn (rU fun i => .int (-i)) (tC (.int 1)))) := po_some (pe_un un_neg pe_int)
  refine wpAny_Slice (thn (po_none.run pins s1 σ H1 (fun o H2 => o = none ∧ H2 = H1) I1 ⟨rfl, rfl⟩) fun vl s2 ⟨l, H2, I2, pl, el, e2⟩ => ?_)
  subst el e2
  refine thn (po_none.run pins s2 σ H2 (fun o H3 => o = none ∧ H3 = H2) I2 ⟨rfl, rfl⟩) fun vu s3 ⟨u, H3, I3, pu, eu, e3⟩ => ?_
  subst eu e3
  refine thn (hst.run pins s3 σ H3 (fun o H4 => o = some (-1) ∧ H4 = H3) I3 ⟨1, rfl, -1, rfl, rfl, rfl⟩) fun vs s4 ⟨o, H4, I4, ps, eo, e4⟩ => ?_
  subst eo e4
  have I5 : Inv X pins σ H4 { s4 with heap := s4.heap.push { cls := .type "slice", data := .fields #[vl, vu, vs] } } := I4.kept (t' := s4.toks) fun b ob q => Heap.get?_push_of_some _ q
  obtain ⟨its, r, ht, hz⟩ := I5.tuple hx
  have hlen := r.length
  show wpAny (model X.prog X.w) X.A (subscriptTail e (.Slice none none (some (.UnaryOp .USub (.Constant (.int 1) k p1) p2)) p3) (.ref a) (.ref s4.heap.objs.size)) (EP X pins σ Q) X.xe { s4 with heap := s4.heap.push { cls := .type "slice", data := .fields #[vl, vu, vs] } }
  refine tail_any (ops := [.ref a, .ref s4.heap.objs.size]) ht.typeIs (PyProof.Rows.slot_tuple_getitem.lookup) ?_ (by with_unfolding_all rfl)
  refine getItem_tuple_back ht (Heap.IsSliceOf.new _ vl vu vs) pl pu ps ?_ (by rw [List.size_toArray]; omega)
  refine ⟨.ref _, _, I5.laid (t' := s4.toks) (o := .tup xs.reverse) (fun b ob q => Heap.get?_push_of_some _ q) (Nat.le_refl _) ?_, rfl, q _ (I5.hok.fresh (Nat.le_refl _))⟩
  exact ⟨by rw [List.length_reverse]; exact hz, _, r.reverse, IsTup.new _ _⟩
end
/-! # by data -/
section
variable {K : PySem.W.Frag} {W : Ent} {D : Ends} {σ : L2.St} {G : Hp} {M : Mem} {te ta tb : TE} {ds : List PyData} {C : V → Hp → Mem → Prop} {i j k : Nat} {p : Addr} {xs : List V}
theorem DaL.rev {H : Hp} : ∀ {vs : List V} {ds : List PyData}, DaL K H vs ds → DaL K H vs.reverse ds.reverse
  | _, _, .nil => .nil
  | _, _, .cons h r => by
    rw [List.reverse_cons, List.reverse_cons]
    exact (DaL.rev r).app (.one h)
theorem ev_revT (h : EvD K te σ G (.tuple ds)) : EvD K (tRevT K te) σ G (.tuple ds.reverse) := fun G1 H e e2 Q q =>
  h G1 H e e2 _ fun v G2 H2 g2 d2 => by
    cases d2 with
    | tup h r => exact ⟨_, _, rfl, ex_t g2.gh h, fun p hp => q _ _ _ (g2.trans (Grow.new g2.gh hp)) (.tup (SqT.of upd_same) (r.rev.mono (Ex.new (fresh_back g2.gh hp))))⟩
theorem ev_slT {tl th : TO} {lo hi : Option Int} (h : EvD K te σ G (.tuple ds)) (hl : EvP tl σ G lo) (hh : EvP th σ G hi) : EvD K (tSl (kSl K) te tl th) σ G (.tuple (cutG ds lo hi)) := fun G1 H e e2 Q q =>
  h G1 H e e2 _ fun v G2 H2 g2 d2 => hl H2 ((e.trans g2.gg).trans g2.gh) _ fun H3 e3 => hh H3 (((e.trans g2.gg).trans g2.gh).trans e3) _ fun H4 e4 => by
    cases d2 with
    | tup h r =>
      have g4 : Grow [] G1 H G2 H4 := g2.trans (Grow.of_ex g2.gh (e3.trans e4))
      refine .inr ⟨_, _, rfl, ex_t g4.gh h, fun hw => ?_, fun hw p hp => q _ _ _ (g4.trans (Grow.new g4.gh hp)) (.tup (SqT.of upd_same) ((r.cut lo hi).mono (Ex.new (fresh_back g4.gh hp))))⟩
      refine q _ _ _ g4 ?_
      have e5 : cutG ds lo hi = ds := by
        unfold cutG
        rw [r.len] at hw
        rw [hw.1, hw.2, List.drop_zero, Nat.sub_zero, List.take_length]
      rw [e5]
      exact .tup h r
/-! # lists that may be written -/
/-- list(e), e a tuple or a list -/
theorem sw_listT (h : EvD K te σ G (.tuple ds)) (c : ∀ p vs G', W.H0 p = none → Ex G G' → DaL K G' vs ds → C (.ref p) G' ((p, .lst vs) :: M)) : Sw W (tCB (kList K) (tCons te tNil)) σ G M C := fun H w Q q =>
  h G H (Ex.refl G) w.gh _ fun v G' H' g dv => by
    have w' := w.grow g
    cases dv with
    | tup h r => exact ⟨_, _, rfl, .inr (ex_t g.gh h), fun p hp => q _ _ _ _ (w'.new hp) (c p _ G' (w'.new0 hp) g.gg r)⟩
theorem atI_natV {α : Type} {xs : List α} {j : Nat} {v : α} (h : xs[j]? = some v) : atI xs (j : Int) = some v := atI_nat h
/-- parts[e] -/
theorem sw_ixO {v : V} (k : Nat) (ho : σ[i]? = some (some (.ref p))) (hm : M[k]? = some (p, .lst xs)) (hi : EvD K te σ G (.int (j : Int))) (hj : xs[j]? = some v) (c : C v G M) : Sw W (tOp (rIx K) (tVar i) te) σ G M C := fun H w Q q =>
  ⟨.ref p, ho, hi G H (Ex.refl G) w.gh _ fun u G' H' g du => by
    have w' := w.ext g.hh
    exact .inl ⟨p, xs, (j : Int), v, rfl, du.int_eq, SqL.of (w'.own p _ (List.mem_of_getElem? hm)), atI_natV hj, q v G M H' w' c⟩⟩
theorem seqIx {j n : Nat} (h : j < n) : seqIndex? (j : Int) n = some j := by
  unfold seqIndex?
  have h0 : ¬ ((j : Int) < 0) := by omega
  simp only [h0, if_false]
  rw [if_pos (by rw [Bool.and_eq_true, decide_eq_true_eq, decide_eq_true_eq]; omega), Int.toNat_natCast]
theorem sx_pop (k : Nat) (ho : σ[i]? = some (some (.ref p))) (hm : M[k]? = some (p, .lst xs)) (hi : EvD K te σ G (.int (j : Int))) (hj : j < xs.length) (hl : xs.length ≤ 100000) (c : Nx W D σ G (M.set k (p, .lst (xs.eraseIdx j)))) :
    Sx W (tDrop (tBM K "list" rPopAt (tVar i) (tCons te tNil))) D σ G M := fun H w =>
  ⟨.ref p, ho, .inl ⟨rfl, _, SqL.of (w.own p _ (List.mem_of_getElem? hm))⟩, hi G H (Ex.refl G) w.gh _ fun v G' H' g dv => by
    have w' := w.ext g.hh
    exact ⟨p, xs, (j : Int), j, xs[j], rfl, by rw [dv.int_eq], w'.own p _ (List.mem_of_getElem? hm), by omega, by omega, seqIx hj, List.getElem?_eq_getElem hj, c _ (w'.set hm)⟩⟩
def rInsert : V → List V → Hp → VK → Prop := fun x vs H Q => ∃ (l : Addr) (xs : List V) (i : Int) (y : V), x = .ref l ∧ vs = [.int i, y] ∧ H l = some (.lst xs) ∧ xs.length < sizeLine ∧ 0 ≤ i ∧ i < 2 ^ 63 ∧
    Q .non (upd H l (.lst (xs.take i.toNat ++ [y] ++ xs.drop i.toNat)))
theorem mt_rInsert {X : Cx} : MtR X "list.insert" rInsert := mt_insert
theorem sx_insert {ta : TA} (k : Nat) (ho : σ[i]? = some (some (.ref p))) (hm : M[k]? = some (p, .lst xs)) (hl : xs.length < 100000) (h : Swa W ta σ G M fun vs G' M' => ∃ (j : Nat) (y : V), vs = [.int (j : Int), y] ∧ j ≤ xs.length ∧ M'[k]? = some (p, .lst xs) ∧ Nx W D σ G' (M'.set k (p, .lst (xs.take j ++ [y] ++ xs.drop j)))) :
    Sx W (tDrop (tBM K "list" rInsert (tVar i) ta)) D σ G M := fun H w =>
  ⟨.ref p, ho, .inl ⟨rfl, _, SqL.of (w.own p _ (List.mem_of_getElem? hm))⟩, h H w _ fun vs G' M' H' w' ⟨j, y, ev, hj, hm', c⟩ => by
    exact ⟨p, xs, (j : Int), y, rfl, ev, w'.own p _ (List.mem_of_getElem? hm'), sz_lt hl, by omega, by omega, by rw [Int.toNat_natCast]; exact c _ (w'.set hm')⟩⟩
/-- parts[a:c] = parts[a:c][::-1] -/
theorem sx_swap {a c : Nat} {te' : TE} (k : Nat) (ho : σ[i]? = some (some (.ref p))) (hm : M[k]? = some (p, .lst xs)) (hl : xs.length ≤ 40000) (h1 : EvD K te σ G (.int (a : Int))) (h2 : EvD K te' σ G (.int (c : Int))) (hac : a ≤ c) (ha : a ≤ xs.length)
    (cn : Nx W D σ G (M.set k (p, .lst (xs.take a ++ (cutV xs (some (a : Int)) (some (c : Int))).reverse ++ xs.drop (min c xs.length))))) :
    Sx W (sCut (tVar i) (tPart te) (tPart te') (tRevL K (tSl (kSl K) (tVar i) (tPart te) (tPart te')))) D σ G M := fun H w => by
  have step : ∀ (H1 : Hp), World W G M H1 → ∀ Q : Option Int → Hp → Prop, (∀ H2, World W G M H2 → Ex H1 H2 → Q (some (a : Int)) H2) → tPart te σ H1 Q := fun H1 w1 Q q =>
    h1 G H1 (Ex.refl G) w1.gh _ fun v G' H' g dv => ⟨(a : Int), dv.int_eq, q H' (w1.ext g.hh) g.hh⟩
  have step2 : ∀ (H1 : Hp), World W G M H1 → ∀ Q : Option Int → Hp → Prop, (∀ H2, World W G M H2 → Ex H1 H2 → Q (some (c : Int)) H2) → tPart te' σ H1 Q := fun H1 w1 Q q =>
    h2 G H1 (Ex.refl G) w1.gh _ fun v G' H' g dv => ⟨(c : Int), dv.int_eq, q H' (w1.ext g.hh) g.hh⟩
  have hp := List.mem_of_getElem? hm
  refine ⟨.ref p, ho, step H w _ fun H1 w1 e1 => step2 H1 w1 _ fun H2 w2 e2 => .inl ⟨p, xs, rfl, SqL.of (w2.own p _ hp), fun q1 n1 => ?_⟩⟩
  have w3 := w2.ext (Ex.new (o := HO.lst (cutV xs (some (a : Int)) (some (c : Int)))) n1)
  refine ⟨q1, _, rfl, SqL.of upd_same, fun q2 n2 => ?_⟩
  have w4 := w3.ext (Ex.new (o := HO.lst (cutV xs (some (a : Int)) (some (c : Int))).reverse) n2)
  refine ⟨.ref p, ho, step _ w4 _ fun H5 w5 e5 => step2 H5 w5 _ fun H6 w6 e6 => ?_⟩
  have hlen : (cutV xs (some (a : Int)) (some (c : Int))).length ≤ xs.length := by
    unfold cutV
    rw [List.length_take, List.length_drop]; omega
  refine ⟨p, q2, xs, _, a, c, rfl, rfl, rfl, rfl, w6.own p _ hp, e6 _ _ (e5 _ _ upd_same), fun z => ?_, hac, ha, ?_, cn _ (w6.set hm)⟩
  · subst z
    rw [w3.own p _ hp] at n2; cases n2
  · rw [List.length_reverse]
    exact sz_of (by omega)
theorem cutV_len (lo hi : Option Int) : (cutV xs lo hi).length ≤ xs.length := by
  unfold cutV
  rw [List.length_take, List.length_drop]; omega
theorem cutV_sub {lo hi : Option Int} {v : V} (h : v ∈ cutV xs lo hi) : v ∈ xs := by
  unfold cutV at h
  exact List.mem_of_mem_drop (List.mem_of_mem_take h)
/-- a call that takes the bag, its promise given by a wider one -/
theorem sw_callBi {cost n : Nat} {Pre : List PyData → Prop} {Post : List PyData → PyData → Prop} {sp : Sp} {ta : TA} {E : XK} {b : List V} (imp : ∀ vs H Q E, spB K cost Pre Post vs H Q E → sp vs H Q E) (k : Nat) (hv : σ[i]? = some (some (.ref p))) (ha : EvA K ta σ G ds) (hm : M[k]? = some (p, .lst b)) (hb : BagOk n b) (hn : n + cost ≤ bagMax) (hp : Pre ds)
    (c : ∀ v d b' G', Post ds d → BagOk (n + cost) b' → Ex G G' → Da K G' v d → C v G' (M.set k (p, .lst b'))) : Sw W (tCall sp [] E (tCons (tVar i) ta)) σ G M C := fun H w Q q =>
  ⟨.ref p, hv, ha G H (Ex.refl G) w.gh _ fun ws G1 H1 g1 d1 => by
    show sp ((.ref p :: ws) ++ []) H1 Q E
    rw [List.append_nil]
    have w1 := w.grow g1
    refine imp _ _ _ _ ⟨p, b, n, G1, ds, ws, rfl, w1.own p _ (List.mem_of_getElem? hm), hb, hn, w1.gh, w1.sep p _ (List.mem_of_getElem? hm), d1, hp, fun v d b' G' H' h1 h2 g h3 dv => ?_⟩
    exact q v G' _ H' (w1.call hm g h3) (c v d b' G' h1 h2 (g1.gg.trans g.gg) dv)⟩
end
def spNo : Sp := fun _ _ _ _ => False
theorem fn_no {P : Program} {w : PySem.World} {K : PySem.W.Frag} {mg : Str → Option Value} {base : Heap} {CX : CXT} {k : Nat} {f : Addr} {fd : FuncData} {ps : List Str} : FnOk P w K mg base CX k f fd ps spNo :=
  ⟨fun _ _ _ _ h => h.elim, fun _ _ _ _ _ _ _ _ _ _ _ _ _ h => h.elim⟩
theorem fn_any {P : Program} {w : PySem.World} {K : PySem.W.Frag} {mg : Str → Option Value} {base : Heap} {CX : CXT} {k m : Nat} {f : Addr} {fd : FuncData} {ps : List Str} {sp : Nat → Sp} (h : ∀ n, FnOk P w K mg base CX (n + k) f fd ps (sp n)) : FnOk P w K mg base CX (m + k) f fd ps (fun vs H Q E => ∃ n, n ≤ m ∧ sp n vs H Q E) :=
  ⟨fun vs H Q E ⟨n, hn, q⟩ => (h n).len vs H Q E q, fun A outer s H args us vs Q E hr he hb hv ⟨n, hn, q⟩ => (h n).run A outer s H args us vs Q E (hr.mono (by omega)) he hb hv q⟩
/-! # data of bounded size -/
def Flat (n : Nat) (d : PyData) : Prop := d = .none ∨ (∃ b, d = .bool b) ∨ (∃ i, d = .int i) ∨ ∃ x : Str, d = .str x ∧ x.length ≤ n ∧ PyData.canLay0 (.str x) = true
def Fit (n : Nat) : Nat → PyData → Prop
  | 0, d => Flat n d
  | k + 1, d => Flat n d ∨ ∃ xs, (d = .list xs ∨ d = .tuple xs) ∧ xs.length ≤ n ∧ ∀ x ∈ xs, Fit n k x
theorem Flat.fit {n : Nat} {d : PyData} (h : Flat n d) : ∀ k, Fit n k d
  | 0 => h
  | _ + 1 => .inl h
theorem Flat.mono {n m : Nat} {d : PyData} (h : Flat n d) (e : n ≤ m) : Flat m d := by
  rcases h with h | h | h | ⟨x, h1, h2, h3⟩
  · exact .inl h
  · exact .inr (.inl h)
  · exact .inr (.inr (.inl h))
  · exact .inr (.inr (.inr ⟨x, h1, by omega, h3⟩))
theorem Fit.mono {n m : Nat} (e : n ≤ m) : ∀ {k l : Nat} {d : PyData}, k ≤ l → Fit n k d → Fit m l d
  | 0, l, d, _, h => (Flat.mono h e).fit l
  | k + 1, 0, d, hl, h => absurd hl (by omega)
  | k + 1, l + 1, d, hl, h => by
    rcases h with h | ⟨xs, h1, h2, h3⟩
    · exact .inl (h.mono e)
    · exact .inr ⟨xs, h1, by omega, fun x hx => Fit.mono e (by omega) (h3 x hx)⟩
theorem fit_int {n k : Nat} {i : Int} : Fit n k (.int i) := Flat.fit (.inr (.inr (.inl ⟨i, rfl⟩))) k
theorem fit_bool {n k : Nat} {i : Bool} : Fit n k (.bool i) := Flat.fit (.inr (.inl ⟨i, rfl⟩)) k
theorem fit_none {n k : Nat} : Fit n k .none := Flat.fit (.inl rfl) k
theorem fit_str {n k : Nat} {x : Str} (h : x.length ≤ n) (h2 : PyData.canLay0 (.str x) = true) : Fit n k (.str x) := Flat.fit (.inr (.inr (.inr ⟨x, rfl, h, h2⟩))) k
theorem fit_list {n k : Nat} {xs : List PyData} (h : xs.length ≤ n) (h2 : ∀ x ∈ xs, Fit n k x) : Fit n (k + 1) (.list xs) := .inr ⟨xs, .inl rfl, h, h2⟩
theorem fit_tup {n k : Nat} {xs : List PyData} (h : xs.length ≤ n) (h2 : ∀ x ∈ xs, Fit n k x) : Fit n (k + 1) (.tuple xs) := .inr ⟨xs, .inr rfl, h, h2⟩
theorem not_flatL {n : Nat} {xs : List PyData} : ¬ Flat n (.list xs) := by
  rintro (h | ⟨b, h⟩ | ⟨b, h⟩ | ⟨x, h, _⟩) <;> cases h
theorem not_flatT {n : Nat} {xs : List PyData} : ¬ Flat n (.tuple xs) := by
  rintro (h | ⟨b, h⟩ | ⟨b, h⟩ | ⟨x, h, _⟩) <;> cases h
theorem Fit.tup {n k : Nat} {xs : List PyData} (h : Fit n (k + 1) (.tuple xs)) : xs.length ≤ n ∧ ∀ x ∈ xs, Fit n k x := by
  rcases h with h | ⟨ys, h | h, h1, h2⟩
  · exact absurd h not_flatT
  · cases h
  · cases h; exact ⟨h1, h2⟩
theorem Fit.str {n k : Nat} {x : Str} (h : Fit n k (.str x)) : x.length ≤ n ∧ PyData.canLay0 (.str x) = true := by
  have f : Flat n (.str x) := by
    cases k with
    | zero => exact h
    | succ k =>
      rcases h with h | ⟨ys, h | h, _⟩
      · exact h
      · cases h
      · cases h
  rcases f with h | ⟨b, h⟩ | ⟨b, h⟩ | ⟨y, h, h1, h2⟩
  · cases h
  · cases h
  · cases h
  · cases h; exact ⟨h1, h2⟩
theorem Fit.sh {n : Nat} : ∀ {k : Nat} {d : PyData}, Fit n k d → Sh k d
  | 0, d, h => by
    rcases h with rfl | ⟨b, rfl⟩ | ⟨b, rfl⟩ | ⟨x, rfl, h1, h2⟩
    · exact sh_none
    · exact sh_bool
    · exact sh_int
    · exact sh_str h2
  | k + 1, d, h => by
    rcases h with h | ⟨xs, h | h, h1, h2⟩
    · rcases h with rfl | ⟨b, rfl⟩ | ⟨b, rfl⟩ | ⟨x, rfl, h1, h2⟩
      · exact sh_none
      · exact sh_bool
      · exact sh_int
      · exact sh_str h2
    · subst h; exact sh_list fun x hx => (h2 x hx).sh
    · subst h; exact sh_tuple fun x hx => (h2 x hx).sh
theorem Flat.sm {n : Nat} (hn : n ≤ 50000) {d : PyData} (h : Flat n d) : sm d = true := by
  rcases h with rfl | ⟨b, rfl⟩ | ⟨b, rfl⟩ | ⟨x, rfl, h1, h2⟩
  · rfl
  · rfl
  · rfl
  · exact decide_eq_true (by omega)
theorem Fit.sm {n : Nat} (hn : n ≤ 50000) : ∀ {k : Nat} {d : PyData}, Fit n k d → LK.sm d = true
  | 0, d, h => Flat.sm hn h
  | k + 1, d, h => by
    rcases h with h | ⟨xs, h | h, h1, h2⟩
    · exact h.sm hn
    · subst h; exact sm_mkL (by omega) (smL_of fun x hx => (h2 x hx).sm hn)
    · subst h; exact sm_mkT (by omega) (smL_of fun x hx => (h2 x hx).sm hn)
theorem eqv_nil (ds : List PyData) : PyData.eqv (.list ds) (.list []) = ds.isEmpty := by
  cases ds with
  | nil => rfl
  | cons a r => rfl
section
variable {K : PySem.W.Frag} {W : Ent} {σ : L2.St} {G : Hp} {M : Mem} {C : V → Hp → Mem → Prop} {i : Nat} {p : Addr}
/-- .. its arguments reckoned with deeds -/
theorem sw_callBW {cost : Nat} {Pre : List PyData → Prop} {Post : List PyData → PyData → Prop} {sp : Sp} {ta : TA} {E : XK} (imp : ∀ vs H Q E, spB K cost Pre Post vs H Q E → sp vs H Q E) (k : Nat) (hv : σ[i]? = some (some (.ref p)))
    (h : Swa W ta σ G M fun ws G1 M1 => ∃ ds b n, DaL K G1 ws ds ∧ M1[k]? = some (p, .lst b) ∧ BagOk n b ∧ n + cost ≤ bagMax ∧ Pre ds ∧ ∀ v d b' G', Post ds d → BagOk (n + cost) b' → Ex G1 G' → Da K G' v d → C v G' (M1.set k (p, .lst b'))) : Sw W (tCall sp [] E (tCons (tVar i) ta)) σ G M C := fun H w Q q =>
  ⟨.ref p, hv, h H w _ fun ws G1 M1 H1 w1 ⟨ds, b, n, d1, hm, hb, hn, hp, c⟩ => by
    show sp ((.ref p :: ws) ++ []) H1 Q E
    rw [List.append_nil]
    refine imp _ _ _ _ ⟨p, b, n, G1, ds, ws, rfl, w1.own p _ (List.mem_of_getElem? hm), hb, hn, w1.gh, w1.sep p _ (List.mem_of_getElem? hm), d1, hp, fun v d b' G' H' h1 h2 g h3 dv => ?_⟩
    exact q v G' _ H' (w1.call hm g h3) (c v d b' G' h1 h2 g.gg dv)⟩
theorem DaL.set {H : Hp} : ∀ {vs : List V} {ds : List PyData} (j : Nat) {v : V} {d : PyData}, DaL K H vs ds → Da K H v d → DaL K H (vs.set j v) (ds.set j d)
  | _, _, _, _, _, .nil, _ => .nil
  | _, _, 0, _, _, .cons _ r, h => .cons h r
  | _, _, j + 1, _, _, .cons a r, h => .cons a (DaL.set j r h)
theorem DaL.erase {H : Hp} : ∀ {vs : List V} {ds : List PyData} (j : Nat), DaL K H vs ds → DaL K H (vs.eraseIdx j) (ds.eraseIdx j)
  | _, _, _, .nil => .nil
  | _, _, 0, .cons _ r => r
  | _, _, j + 1, .cons a r => .cons a (DaL.erase j r)
theorem ixN_nat {n j : Nat} (h : j < n) : ixN n (j : Int) = some j := by
  unfold ixN
  rw [if_pos (by omega), if_pos (by omega), Int.toNat_natCast]
end
/-! # sets of ints or of texts: set(xs), sorted(set(xs)) -/
structure Kd (P : Program) (w : PySem.World) (κ : Type) [DecidableEq κ] where
  knd : PySem.KeyKind P w κ
  val : κ → Tok → Value
  key : Value → κ
  hk : ∀ k t, key (val k t) = k
  his : ∀ k k0 t, knd.is k (val k0 t) = true ↔ k0 = k
  hsc : ∀ k t, (val k t).scannable = true
def kdS (P : Program) (w : PySem.World) : Kd P w Str where
  knd := PySem.strKind P w
  val := fun k t => .str k t
  key := fun v => match v with | .str x _ => x | _ => Str.empty
  hk := fun _ _ => rfl
  his := fun k k0 t => by
    show ((k0 == k) = true) ↔ k0 = k
    exact beq_iff_eq
  hsc := fun _ _ => rfl
def kdI (P : Program) (w : PySem.World) : Kd P w Int where
  knd := PySem.intKind P w
  val := fun k t => .int k t
  key := fun v => match v with | .int x _ => x | _ => 0
  hk := fun _ _ => rfl
  his := fun k k0 t => by
    show ((k0 == k) = true) ↔ k0 = k
    exact beq_iff_eq
  hsc := fun _ _ => rfl
section
variable {P : Program} {w : PySem.World} {κ : Type} [DecidableEq κ] (D : Kd P w κ)
def Kd.keys (es : Array (Int × Value)) : List κ := es.toList.map fun e => D.key e.2
/-- the set at a holds ks -/
structure SetG (h : Heap) (a : Addr) (ks : List κ) (o : Obj) (es : Array (Int × Value)) (ep : Nat) (t : SetTable) : Prop where
  ob : h.get? a = some o
  ex : o.ExactSet
  dt : o.data = .set es ep t
  el : ∀ e ∈ es.toList, ∃ k tk, e.2 = D.val k tk ∧ e.1 = D.knd.hash k
  pm : (D.keys es).Perm ks
  nd : ks.Nodup
  lt : ks.length < scanBound
  ft : t.fits es.size = true
  rs : Ris t.place.toList
  ld : w.params.followText "set-order" = true ∨ t.led = true
def SetGx (h : Heap) (a : Addr) (ks : List κ) : Prop := ∃ o es ep t, SetG D h a ks o es ep t
variable {D} {h h' : Heap} {a : Addr} {ks : List κ} {o : Obj} {es : Array (Int × Value)} {ep : Nat} {t : SetTable}
theorem SetG.sz (R : SetG D h a ks o es ep t) : es.size = ks.length := by
  rw [← R.pm.length_eq]
  unfold Kd.keys
  rw [List.length_map, Array.length_toList]
theorem SetG.elems (R : SetG D h a ks o es ep t) : ElemsOf D.knd es.toList := fun e he => by
  obtain ⟨k, tk, h1, h2⟩ := R.el e he
  exact ⟨⟨k, by rw [h1]; exact (D.his k k tk).2 rfl, h2⟩, by rw [h1]; exact D.hsc k tk⟩
theorem SetG.mem (R : SetG D h a ks o es ep t) (k : κ) : k ∈ ks ↔ ∃ e ∈ es.toList, D.knd.is k e.2 = true := by
  rw [← R.pm.mem_iff]
  unfold Kd.keys
  rw [List.mem_map]
  constructor
  · rintro ⟨e, he, q⟩
    obtain ⟨k0, tk, h1, _⟩ := R.el e he
    refine ⟨e, he, ?_⟩
    rw [h1] at q ⊢
    rw [D.hk] at q
    exact (D.his _ _ _).2 q
  · rintro ⟨e, he, q⟩
    obtain ⟨k0, tk, h1, _⟩ := R.el e he
    refine ⟨e, he, ?_⟩
    rw [h1] at q ⊢
    rw [D.hk]
    exact (D.his _ _ _).1 q
theorem SetGx.at (R : SetGx D h a ks) (k : ∀ o, h.get? a = some o → h'.get? a = some o) : SetGx D h' a ks := by
  obtain ⟨o, es, ep, t, r⟩ := R
  exact ⟨o, es, ep, t, { r with ob := k o r.ob }⟩
variable {A : Around} {E : Value → Shared → Prop} {s : Shared}
def grownBy (ks : List κ) (k : κ) : List κ := if k ∈ ks then ks else k :: ks
theorem setG_tail {g : Bool → Sem Unit} (hg : ∀ (b : Bool) (s₁ : Shared) (Q' : Unit → Shared → Prop), Q' () s₁ → wpAny (model P w) A (g b) Q' E s₁)
    (ho : s.heap.get? a = some o) (hex : o.ExactSet) (hd : o.data = .set es ep t) {es1 : Array (Int × Value)} {t2 : SetTable} {js : List κ}
    (g1 : ∀ e ∈ es1.toList, ∃ k tk, e.2 = D.val k tk ∧ e.1 = D.knd.hash k) (p1 : (D.keys es1).Perm js) (nd1 : js.Nodup) (hb1 : js.length < scanBound) (hf2 : t2.fits es1.size = true) (hr : Ris t2.place.toList)
    (hl : w.params.followText "set-order" = true ∨ t2.led = true) {wasDummy : Bool} {R : Option Bool → Shared → Prop}
    (hR : ∀ h', Heap.SameBut a s.heap h' → SetGx D h' a js → R (some true) { s with heap := h' }) :
    wpAny (model P w) A (do
        storeSet a es1 t2
        if (!wasDummy && t2.tooFull) = true then do
            g (relayAll t2 es1 (SetTable.grown es1.size)).2.2
            storeSet a (relayAll t2 es1 (SetTable.grown es1.size)).1 (relayAll t2 es1 (SetTable.grown es1.size)).2.1
            pure (some true)
          else pure (some true)) R E s := by
  have z1 : es1.size = js.length := by
    rw [← p1.length_eq]; unfold Kd.keys; rw [List.length_map, Array.length_toList]
  have b1 : es1.size < scanBound := by omega
  refine wpAny_bind (wpAny_storeSet_of ho hd ?_ (fits_of_scanBound b1))
  have o1 := store_at (es' := es1) (t' := t2) ho hd
  have same := Heap.SameBut.update s.heap a (Obj.putSet es1 t2)
  split
  · have pm := relayAll_perm t2 es1 (SetTable.grown es1.size)
    have f3 := relayAll_fits t2 es1 (SetTable.grown es1.size)
    have r3 := relayAll_ris t2 es1 (SetTable.grown es1.size)
    have l3 := relayAll_led t2 es1 (SetTable.grown es1.size)
    generalize relayAll t2 es1 (SetTable.grown es1.size) = Z at pm f3 r3 l3 ⊢
    obtain ⟨es2, t3, gave⟩ := Z
    dsimp only at pm f3 r3 l3 ⊢
    have z2 : es2.size = es1.size := by rw [← Array.length_toList, pm.length_eq, Array.length_toList]
    refine wpAny_bind (hg _ _ _ (wpAny_bind (wpAny_storeSet_of o1 rfl ?_ (fits_of_scanBound (by omega)))))
    have o2 := store_at (es' := es2) (t' := t3) o1 rfl
    refine wpAny_pure (hR _ (same.trans (Heap.SameBut.update _ a _)) ⟨_, es2, _, t3, o2, hex, rfl, fun e he => g1 e (pm.mem_iff.mp he), (pm.map _).trans p1, nd1, hb1, f3, r3, ?_⟩)
    rcases hl with z | z
    · exact .inl z
    · exact .inr (by rw [l3]; exact z)
  · exact wpAny_pure (hR _ same ⟨_, es1, _, t2, o1, hex, rfl, g1, p1, nd1, hb1, hf2, hr, hl⟩)
theorem setG_add {k : κ} {tk : Tok} {Q : Bool → Shared → Prop} (R : SetGx D s.heap a ks) (room : ks.length + 1 < scanBound)
    (hQ : ∀ b h', Heap.SameBut a s.heap h' → SetGx D h' a (grownBy ks k) → Q b { s with heap := h' }) :
    wpAny (model P w) A (setAddHashed a (D.val k tk) (D.knd.hash k)) Q E s := by
  obtain ⟨o, es, ep, t, R⟩ := R
  have hkey : D.knd.is k (D.val k tk) = true := (D.his k k tk).2 rfl
  have hsc := D.hsc k tk
  have hel := R.elems
  have hb : es.size < scanBound := by rw [R.sz]; exact R.lt
  unfold setAddHashed setAddHashedIn
  refine wpAny_holding (wpAny_bind (wpAny_setState_of R.ob R.dt R.ft ?_))
  dsimp only
  rw [byScan_of hsc hb hel]
  simp only [↓reduceIte]
  unfold setAddByScan
  refine wpAny_bind (wpAny_bind (wpAny_rule (wpAny_bind (wpAny_setScan_of hkey R.ob R.dt R.ft hel ?_))))
  cases hfi : List.findIdx? (fun e => D.knd.is k e.2) es.toList with
  | some j =>
    dsimp only
    obtain ⟨hj, pj, _⟩ := List.findIdx?_eq_some_iff_getElem.mp hfi
    have hin : k ∈ ks := (R.mem k).2 ⟨es.toList[j], List.getElem_mem hj, pj⟩
    exact wpAny_pure (wpAny_pure (hQ _ s.heap (Heap.SameBut.refl a s.heap) (by unfold grownBy; rw [if_pos hin]; exact ⟨o, es, ep, t, R⟩)))
  | none =>
    dsimp only
    have hno : k ∉ ks := fun z => by
      obtain ⟨e, he, q⟩ := (R.mem k).1 z
      have c := List.findIdx?_eq_none_iff.mp hfi e he
      rw [q] at c
      cases c
    have gw : ∀ (b : Bool) {s₁ : Shared} {Q' : Unit → Shared → Prop}, Q' () s₁ → wpAny (model P w) A (match b with | true => rule "set.scan.the-table-gave-way" | false => pure ()) Q' E s₁ :=
      fun b s₁ Q' q => by cases b <;> first | exact wpAny_pure q | exact wpAny_rule q
    have pm := layNew_perm t es (D.knd.hash k) (D.val k tk)
    have f1 := layNew_fits t es (D.knd.hash k) (D.val k tk)
    have r1 := layNew_ris t es (D.knd.hash k) (D.val k tk) R.rs
    have l1 := layNew_led t es (D.knd.hash k) (D.val k tk)
    generalize layNew t es (D.knd.hash k) (D.val k tk) = Z at pm f1 r1 l1 ⊢
    obtain ⟨es1, t1, wasDummy, gave⟩ := Z
    dsimp only at pm f1 r1 l1 ⊢
    rw [Array.toList_push] at pm
    have pc : es1.toList.Perm ((D.knd.hash k, D.val k tk) :: es.toList) := pm.trans (List.perm_append_singleton _ _)
    have pk : (D.keys es1).Perm (k :: ks) := by
      refine (pc.map _).trans ?_
      rw [List.map_cons]
      show (D.key (D.val k tk) :: _).Perm _
      rw [D.hk]
      exact R.pm.cons k
    have g1 : ∀ e ∈ es1.toList, ∃ k tk, e.2 = D.val k tk ∧ e.1 = D.knd.hash k := fun e he => by
      rcases List.mem_cons.mp (pc.mem_iff.mp he) with z | z
      · rw [z]; exact ⟨k, tk, rfl, rfl⟩
      · exact R.el e z
    have led1 : w.params.followText "set-order" = true ∨ t1.led = true := R.ld.imp id fun z => by rw [l1]; exact z
    have fin : ∀ h', Heap.SameBut a s.heap h' → SetGx D h' a (k :: ks) → Q true { s with heap := h' } := fun h' sb r => hQ true h' sb (by unfold grownBy; rw [if_neg hno]; exact r)
    have nd1 : (k :: ks).Nodup := List.nodup_cons.mpr ⟨hno, R.nd⟩
    refine wpAny_bind (gw _ ?_)
    split
    · refine wpAny_bind ?_
      rw [hashByValue_scannable 8 hsc]
      refine wpAny_pure ?_
      refine setG_tail (D := D) ?_ R.ob R.ex R.dt g1 pk nd1 room ?_ ?_ ?_ ?_
      · intro b s₁ Q' q; cases b <;> first | exact wpAny_pure q | exact wpAny_rule q
      · first | (split <;> first | exact f1 | exact SetTable.fits_plain_off f1) | exact f1
      · first | (split <;> exact r1) | exact r1
      · first | (split <;> exact led1) | exact led1
      · intro h' sb r; dsimp only; exact wpAny_pure (fin h' sb r)
    · refine wpAny_bind (wpAny_pure ?_)
      simp only [↓reduceIte]
      refine setG_tail (D := D) ?_ R.ob R.ex R.dt g1 pk nd1 room f1 r1 led1 ?_
      · intro b s₁ Q' q; cases b <;> first | exact wpAny_pure q | exact wpAny_rule q
      · intro h' sb r; dsimp only; exact wpAny_pure (fin h' sb r)
end
section
variable {P : Program} {w : PySem.World} {κ : Type} [DecidableEq κ] {D : Kd P w κ} {A : Around} {E : Value → Shared → Prop} {s : Shared} {a : Addr}
abbrev freshSet (w : PySem.World) : Obj := { cls := .type "set", dict := none, data := .set #[] 0 (.fresh 0 0 (!w.params.followText "set-order")) }
theorem set_new1 (x : Value) {Q₁ : Value → Shared → Prop} (h : Q₁ (.ref s.heap.objs.size) { s with heap := s.heap.push (freshSet w) }) :
    codeAny (model P w) A (.call (.builtin "set.__new__") ⟨[.type "set", x], []⟩) (wants Q₁ E) s := by
  refine codeAny_of_tree (show wpAny _ A.in1 (do checkBuiltinCall "set.__new__" ⟨[.type "set", x], []⟩; again (.builtin "set.__new__" ⟨[.type "set", x], []⟩)) _ _ s from ?_)
  refine wpAny_bind (wpAny_of_eq (PySem.F.newCall_set_1 x) (wpAny_pure ⟨plainId_quiet PySem.F.plain_set_new _, codeAny_builtin PySem.F.entry_set_new ?_⟩))
  rw [Around.under_plainId PySem.F.plain_set_new _]
  unfold Builtin.«set.__new__» Builtin.Frozenset.newClass
  have hsub := sub_set_self
  obtain ⟨hp, g, d, tk, os⟩ := s
  dsimp only
  wp_walk
  refine wpAny_askSetting (wpAny_pure ?_)
  dsimp only
  simp only [newObj]
  exact wpAny_bind (wpAny_alloc (wpAny_pure (wpAny_pure h)))
theorem setG_fresh {h h' : Heap} (k : ∀ o, (h.push (freshSet w)).get? h.objs.size = some o → h'.get? h.objs.size = some o) : SetGx D h' h.objs.size [] :=
  ⟨freshSet w, #[], 0, _, k _ (Heap.get?_push_size _ rfl), ⟨rfl, rfl, rfl⟩, rfl, (fun e he => by simp at he), .nil, List.nodup_nil, (show 0 < scanBound by decide), (by rfl), List.Pairwise.nil, by
    show _ ∨ (!w.params.followText "set-order") = true
    cases w.params.followText "set-order"
    · exact .inr rfl
    · exact .inl rfl⟩
theorem grown_len (ks : List κ) (k : κ) : (grownBy ks k).length ≤ ks.length + 1 := by
  unfold grownBy
  split
  · omega
  · exact Nat.le_refl _
theorem fold_len : ∀ (xs ks : List κ), (xs.foldl grownBy ks).length ≤ ks.length + xs.length
  | [], ks => Nat.le_refl _
  | x :: r, ks => by
    have h1 := fold_len r (grownBy ks x)
    have h2 := grown_len ks x
    show (r.foldl grownBy (grownBy ks x)).length ≤ ks.length + (r.length + 1)
    omega
theorem fold_mem : ∀ (xs ks : List κ) (k : κ), k ∈ xs.foldl grownBy ks ↔ k ∈ ks ∨ k ∈ xs
  | [], ks, k => by simp
  | x :: r, ks, k => by
    show k ∈ r.foldl grownBy (grownBy ks x) ↔ _
    rw [fold_mem r, List.mem_cons]
    unfold grownBy
    by_cases hx : x ∈ ks
    · rw [if_pos hx]
      constructor
      · rintro (h | h)
        · exact .inl h
        · exact .inr (.inr h)
      · rintro (h | h | h)
        · exact .inl h
        · exact .inl (h ▸ hx)
        · exact .inr h
    · rw [if_neg hx, List.mem_cons]
      constructor
      · rintro ((h | h) | h)
        · exact .inr (.inl h)
        · exact .inl h
        · exact .inr (.inr h)
      · rintro (h | h | h)
        · exact .inl (.inr h)
        · exact .inl (.inl h)
        · exact .inr h
section
variable {R : Result → Shared → Prop} {I : Addr} {fp wr : List Addr} {G : Array GenState → Array GenState → Prop} {n : Nat} {Pv : Nat → Value → Prop} {St : Nat → Shared → Prop}
theorem set_loop (W : WalksS P w A.in1 I fp wr G n Pv St) (S : Addr) (hSf : S ∉ fp) (xs : List κ) (hsz : xs.length = n) (hval : ∀ i v, Pv i v → ∃ k t, xs[i]? = some k ∧ v = D.val k t) :
    ∀ (m i : Nat) (s : Shared) (ks : List κ), n - i = m → i ≤ n → St i s → SetGx D s.heap S ks → ks.length + m + 1 < scanBound →
      (∀ s', Moved (S :: wr) G s s' → SetGx D s'.heap S ((xs.drop i).foldl grownBy ks) → R (.ok (.ret .none)) s') →
      codeAny (model P w) A (.builtin "set.update.loop" ⟨[.ref S, .ref I], []⟩) R s := by
  have hSw : S ∉ wr := fun h => hSf (W.sub _ h)
  have wider : ∀ b ∈ wr, b ∈ S :: wr := fun b hb => List.mem_cons_of_mem _ hb
  intro m
  induction m with
  | zero =>
    intro i s ks hk hi hst hS hb hR
    obtain rfl : i = n := by omega
    refine codeAny_builtin PyProof.Rows.F.entry_set_update_loop ?_
    rw [Around.under_plainId PyProof.Rows.F.plain_set_update_loop _]
    refine (show wpAny _ A.in1 (pyNext (.ref I) >>= _) _ _ s from wpAny_bind (W.done s _ _ hst fun s' hm => ?_))
    refine (show wpAny _ A.in1 (ret Value.none) _ _ s' from wpAny_pure (hR s' (hm.mono wider) ?_))
    rw [← hsz, List.drop_length]
    exact hS.at fun o e => hm.heap S o hSw e
  | succ m ih =>
    intro i s ks hk hi hst hS hb hR
    have hlt : i < n := by omega
    refine codeAny_builtin PyProof.Rows.F.entry_set_update_loop ?_
    rw [Around.under_plainId PyProof.Rows.F.plain_set_update_loop _]
    refine (show wpAny _ A.in1 (pyNext (.ref I) >>= _) _ _ s from wpAny_bind (W.item i s _ _ hlt hst fun v s' hP hst' hm => ?_))
    obtain ⟨k, t, hx, rfl⟩ := hval i v hP
    have hS' : SetGx D s'.heap S ks := hS.at fun o e => hm.heap S o hSw e
    show wpAny _ A.in1 (holding [D.val k t] (setAdd S (D.val k t)) >>= _) _ _ s'
    refine wpAny_bind (wpAny_holding ?_)
    unfold setAdd
    refine wpAny_holding (wpAny_bind (D.knd.pyHash (k := k) ((D.his k k t).2 rfl) ?_))
    refine setG_add (D := D) (s := { s' with toks := s'.toks + 1 }) hS' (by omega) fun b h' hsb hS2 => ?_
    have hgl := grown_len ks k
    refine wpAny_pure ⟨plainId_quiet PyProof.Rows.F.plain_set_update_loop _, ih (i + 1) _ (grownBy ks k) (by omega) hlt (W.frame _ s' _ _ hst' (Nat.le_succ _) fun b hb o e => ?_) hS2 (by omega) fun s'' hm'' hS'' => ?_⟩
    · rw [hsb.2 b (fun h : b = S => hSf (by rw [← h]; exact hb))]; exact e
    · refine hR s'' (Moved.trans W.gtrans ((hm.mono wider).then_heap (Nat.le_succ _) fun b o hb e => ?_) hm'') ?_
      · rw [hsb.2 b (fun h : b = S => hb (by rw [h]; exact List.mem_cons_self))]; exact e
      · have hi' : i < xs.length := by omega
        have ek : xs[i] = k := by
          rw [List.getElem?_eq_getElem hi'] at hx
          exact Option.some.inj hx
        rw [List.drop_eq_getElem_cons hi', ek]
        exact hS''
end
end
section
variable {P : Program} {w : PySem.World} {κ : Type} [DecidableEq κ] {D : Kd P w κ} {A : Around} {E : Value → Shared → Prop} {s : Shared} {a : Addr}
theorem call_setG {l : Addr} {items : Array Value} {xs : List κ} {Q : Value → Shared → Prop} (hh : A.handled = none) (hl : s.heap.IsList l items) (hlen : xs.length = items.size)
    (hit : ∀ (i : Nat) (v : Value), items[i]? = some v → ∃ k t, xs[i]? = some k ∧ v = D.val k t) (hb : items.size + 1 < scanBound)
    (h : ∀ (h' : Heap) (tk : Nat), SetGx D h' s.heap.objs.size (xs.foldl grownBy []) → (∀ b o, b < s.heap.objs.size → s.heap.get? b = some o → h'.get? b = some o) → Q (.ref s.heap.objs.size) { s with heap := h', toks := tk }) :
    wpAny (model P w) A (call (.type "set") [.ref l]) Q E s := by
  obtain ⟨c, tl, hmro⟩ := PySem.F.called_set.mro
  have hmade := PySem.F.called_set.made
  have hsub := PySem.F.called_set.sub
  refine wpAny_call (codeAny_of_tree (show wpAny _ _ (callAny (.type "set") _) _ _ _ from wpAny_pure ⟨Code.quiet_builtin _ (by decide +kernel), codeAny_builtin PySem.F.entry_type_call ?_⟩))
  rw [Around.under_plain (weight_type_call_type "set" [.ref l] []) rfl]
  have h1 := PySem.F.called_set.notType
  have h2 := PySem.F.called_set.canCreate
  have hct := PySem.F.typeCall_set_1 (.ref l)
  repeat (any_goals (first | assumption | wp_step))
  refine codeAny_mono (set_new1 (.ref l) (E := E) (Q₁ := fun obj s₁ => obj = .ref s.heap.objs.size ∧ s₁ = { s with heap := s.heap.push (freshSet w) }) ⟨rfl, rfl⟩) fun r s₁ hr => ?_
  cases r with
  | error e => exact hr
  | ok fl =>
  cases fl with
  | next => exact hr.elim
  | brk => exact hr.elim
  | cont => exact hr.elim
  | ret obj =>
  obtain ⟨rfl, rfl⟩ := hr
  have hS : (s.heap.push (freshSet w)).get? s.heap.objs.size = some (freshSet w) := Heap.get?_push_size _ rfl
  have hT : Shared.TypeIs { s with heap := s.heap.push (freshSet w) } (.ref s.heap.objs.size) "set" := ⟨_, hS, rfl⟩
  have hli := PySem.F.called_set.init.lookup
  have hbi := PySem.F.called_set.init.bind (.ref s.heap.objs.size)
  repeat (any_goals (first | assumption | wp_step))
  refine codeAny_mono (codeAny_call_builtin (R := wants (fun r s₂ => r = .none ∧ ∃ h' tk, s₂ = { s with heap := h', toks := tk } ∧ SetGx D h' s.heap.objs.size (xs.foldl grownBy []) ∧ ∀ b o, b < s.heap.objs.size → s.heap.get? b = some o → h'.get? b = some o) E) PySem.F.called_set.init.plain PySem.F.entry_set_init (check_set_init_1 hT ?_)) fun r₂ s₂ hr₂ => ?_
  · obtain ⟨ol, hol, hcl, nl, hdl⟩ := hl
    obtain ⟨ocls, odict, odata, oslots⟩ := ol
    simp only at hcl hdl
    subst hcl; subst hdl
    have hol' : (s.heap.push (freshSet w)).get? l = some { cls := .type "list", dict := odict, data := .seq items nl, slots := oslots } := Heap.get?_push_of_some _ hol
    have hsls := PySem.F.sub_list_set
    have hslf := PySem.F.sub_list_frozenset
    have hne : (Value.type "list" == Value.type "dict") = false := by decide
    have hl1 : (s.heap.push (freshSet w)).IsList l items := ⟨_, hol', rfl, nl, rfl⟩
    unfold Builtin.«set.__init__» noKeywords Builtin.Frozenset.updateFrom
    generalize hPI : pyIter = PI
    wp_walk
    subst hPI
    refine wpAny_pyIter_list hl1 (wpAny_bind (wpAny_runValue ?_))
    have low : l < s.heap.objs.size := Heap.lt_size hol
    have hh3 : A.in1.in1.in1.handled = none := by simp [hh]
    have apart : l ≠ (s.heap.push (freshSet w)).objs.size := by
      rw [Heap.size_push]; exact Nat.ne_of_lt (Nat.lt_succ_of_lt low)
    have out : s.heap.objs.size ∉ [(s.heap.push (freshSet w)).objs.size, l] := by
      rw [Heap.size_push]
      intro z
      rcases List.mem_cons.mp z with z | z
      · exact absurd z (Nat.ne_of_lt (Nat.lt_succ_self _))
      · exact absurd (List.mem_singleton.mp z) (Nat.ne_of_gt low)
    refine set_loop (D := D) ((Walks.list hh3 _ l apart items).toS) s.heap.objs.size out xs hlen hit (items.size - 0) 0 _ [] (by omega) (Nat.zero_le _) ⟨⟨_, Heap.get?_push_size _ rfl, rfl, rfl⟩, (hl1.push _)⟩ ?hS0 (by simp only [List.length_nil]; omega) ?hR
    case hS0 => exact setG_fresh fun o e => Heap.get?_push_of_some _ e
    case hR =>
      intro s' hm hS'
      obtain ⟨h', g', d', tk', os'⟩ := s'
      have eg : g' = s.gens := hm.gens
      have ed : d' = s.drawn := hm.drawn
      have eo : os' = s.os := hm.os
      subst eg; subst ed; subst eo
      refine wpAny_pure (show wpAny _ _ (ret Value.none) _ _ _ from wpAny_pure ⟨rfl, h', tk', rfl, hS', fun b o hb e => ?_⟩)
      refine hm.heap b o (fun z => ?_) (Heap.get?_push_of_some _ (Heap.get?_push_of_some _ e))
      rw [Heap.size_push] at z
      rcases List.mem_cons.mp z with z | z
      · exact absurd z (Nat.ne_of_lt hb)
      · exact absurd (List.mem_singleton.mp z) (Nat.ne_of_lt (Nat.lt_succ_of_lt hb))
  · cases r₂ with
    | error e => exact hr₂
    | ok fl₂ =>
      cases fl₂ with
      | ret r =>
        obtain ⟨rfl, h', tk, rfl, hS', hk'⟩ := hr₂
        repeat (any_goals (first | assumption | wp_step))
        exact h _ _ hS' hk'
      | _ => exact hr₂.elim
theorem strs_keys : ∀ (vs : List Value), (∀ v ∈ vs, ∃ k tk, v = Value.str k tk) → StrsAre vs (vs.map (kdS P w).key)
  | [], _ => .nil
  | v :: r, h => by
    obtain ⟨k, tk, rfl⟩ := h v List.mem_cons_self
    exact .cons _ _ (strs_keys r fun u hu => h u (List.mem_cons_of_mem _ hu))
theorem sorted_setS {ks : List Str} {Q : Value → Shared → Prop} (R : SetGx (kdS P w) s.heap a ks) (hh : A.handled = none)
    (hQ : ∀ s' p (out : Array Value) (c : Nat) (ys : List Str), (∀ b o, s.heap.get? b = some o → s'.heap.get? b = some o) → s'.gens = s.gens → s'.os = s.os → s.heap.objs.size ≤ p → s'.heap.get? p = some (seqObj "list" out c) → StrsAre out.toList ys → ys.Perm ks → sortedS ys = true → Q (.ref p) s') :
    wpAny (model P w) A (call (.builtin "sorted") [.ref a]) Q E s := by
  obtain ⟨o, es, ep, t, R⟩ := R
  have hb : es.size < scanBound := by rw [R.sz]; exact R.lt
  refine Calls.call_function_entry kind_sorted plain_sorted entry_sorted (args_sorted1 _) ?_
  unfold Builtin.«sorted»
  refine wpAny_bind (m := checkCount "sorted" 1 1 _) (wpAny_pure (wpAny_bind (collect_set (A := A.in1) hh ⟨o, R.ob, R.ex.1, R.dt⟩ R.ft hb R.rs R.ld fun s1 vs k1 hz g1 o1 pm => ?_)))
  have hvs : ∀ v ∈ vs, ∃ k tk, v = Value.str k tk := fun v hv => by
    obtain ⟨e, he, q⟩ := List.mem_map.mp (pm.mem_iff.mp hv)
    obtain ⟨k, tk, h1, _⟩ := R.el e he
    exact ⟨k, tk, by rw [← q]; exact h1⟩
  have hS := strs_keys (P := P) (w := w) vs hvs
  have pk : (vs.map (kdS P w).key).Perm ks := by
    refine (pm.map _).trans ?_
    rw [List.map_map]
    exact R.pm
  have hvl : vs.length ≤ sizeLine := by
    have e : vs.length = ks.length := by rw [← pk.length_eq, List.length_map]
    rw [e]
    exact fits_of_scanBound R.lt
  refine wpAny_bind (wpAny_newList ?_ hvl)
  have hoL : (s1.heap.push (seqObj "list" vs.toArray 0)).get? s1.heap.objs.size = some (seqObj "list" vs.toArray 0) := Heap.get?_push_size _ rfl
  refine wpAny_bind (wpAny_holding (wpAny_call_entry slot_list_sort ⟨_, hoL, rfl⟩ entry_list_sort (list_sort_treeKSt strKind_oneLt hoL hS.keysOf (fun v₁ v₂ rest e => keyKind_strs (by rw [← e]; exact hS)) hvl fun st' hp hs _ => ⟨_, rfl, ?_⟩) (args_list_sort _)))
  obtain ⟨ys, q1, q2, q3⟩ := sorted_out_str hS hp hs
  obtain ⟨c, hc⟩ := sortedHeap_at (vs := vs) (out := (arrOf st').map (·.2)) hoL
  refine wpAny_pure ⟨_, rfl, hQ _ s1.heap.objs.size _ c ys (fun b u e => ?_) g1 o1 hz hc q1 (q2.trans pk) q3⟩
  have q := k1 b u e
  have hlt := Heap.lt_size q
  show (sortedHeap (s1.heap.push (seqObj "list" vs.toArray 0)) s1.heap.objs.size vs _).get? b = some u
  rw [sortedHeap_old (Nat.ne_of_lt hlt) (by rw [Heap.size_push]; exact Nat.lt_succ_of_lt hlt)]
  exact Heap.get?_push_of_some _ q
end
def SetSO (P : Program) (w : PySem.World) (a : Addr) (ks : List Str) : HO := .ext fun h => SetGx (kdS P w) h a ks
theorem setSO_new {P : Program} {w : PySem.World} {H : Hp} {h : Heap} {a : Addr} {ks : List Str} (R : SetGx (kdS P w) h a ks) : ObjOk P w H h a (SetSO P w a ks) := by
  have ⟨o, _, _, _, r⟩ := R
  exact ⟨R, ⟨o, r.ob⟩, fun h1 h2 p k => SetGx.at p k⟩
def rSetS (K : PySem.W.Frag) (P : Program) (w : PySem.World) : List V → Hp → VK → Prop := fun xs H Q => ∃ (l : Addr) (ks : List Str), xs = [V.ref l] ∧ SqL K H l (ks.map V.str) ∧ ks.length + 1 < scanBound ∧ ∀ p, H p = none → Q (.ref p) (upd H p (SetSO P w p (ks.foldl grownBy [])))
def rSortSetS (P : Program) (w : PySem.World) : List V → Hp → VK → Prop := fun vs H Q => ∃ (a : Addr) (ks : List Str), vs = [V.ref a] ∧ H a = some (SetSO P w a ks) ∧ ∀ (ys : List Str) (p : Addr), ks.Nodup → ks.length < scanBound → ys.Perm ks → sortedS ys = true → H p = none → Q (.ref p) (upd H p (.lst (ys.map V.str)))
section
variable {X : Cx}
theorem cr_setS (hc : X.calm = true) : CallR X (.type "set") (rSetS X.K X.prog X.w) := by
  intro pins s σ H xs us Q I r h
  obtain ⟨l, ks, rfl, hs, hb, q⟩ := h
  obtain ⟨its, rv, hl, hz⟩ := I.list hs
  rw [Vals.ref1 r]
  have hlen := rv.length
  rw [List.length_map] at hlen
  have hS := rv.strs
  refine call_setG (D := kdS X.prog X.w) (xs := ks) (I.ok.hd hc) hl.isList (by rw [List.size_toArray]; exact hlen) (fun i v hv => ?_) (by rw [List.size_toArray]; omega) fun h' tk R kp => ?_
  · rw [List.getElem?_toArray] at hv
    obtain ⟨t, e⟩ := SS.strs_at hS i v hv
    have hi : i < ks.length := by
      have := (List.getElem?_eq_some_iff.mp hv).1
      omega
    refine ⟨ks[i], t, List.getElem?_eq_getElem hi, ?_⟩
    rw [e, List.getD_eq_getElem?_getD, List.getElem?_eq_getElem hi]; rfl
  · exact ⟨.ref _, _, I.laid (t' := tk) (fun b o e => kp b o (Heap.lt_size e) e) (Nat.le_refl _) (setSO_new R), rfl, q _ (I.hok.fresh (Nat.le_refl _))⟩
theorem cr_sortSetS (hc : X.calm = true) : CallR X (.builtin "sorted") (rSortSetS X.prog X.w) := by
  intro pins s σ H vs us Q I r h
  obtain ⟨a, ks, rfl, ha, q⟩ := h
  have R : SetGx (kdS X.prog X.w) s.heap a ks := (I.hok a _ ha).1
  have ⟨o, es, ep, t, r1⟩ := R
  rw [Vals.ref1 r]
  refine sorted_setS R (I.ok.hd hc) fun s' p out c ys k g o hp hg hi pm hs => ?_
  have hlen : (ys.map V.str).length ≤ sizeLine := by rw [List.length_map, pm.length_eq]; exact fits_of_scanBound r1.lt
  have hn : H p = none := I.hok.fresh hp
  have J : Inv X pins σ (upd H p (.lst (ys.map V.str))) { s with heap := s'.heap, gens := s'.gens, drawn := s'.drawn, toks := s'.toks } :=
    I.call (ch := []) (Un.laid k hp hn) (I.hok.laid k hp ⟨hlen, out.toList, c, vals_of_strs hi, hg⟩) (by rw [g]; exact I.bare) (fun _ z => nomatch z)
  have e : s' = { s with heap := s'.heap, gens := s'.gens, drawn := s'.drawn, toks := s'.toks } := by
    cases s'
    cases s
    cases o
    rfl
  rw [e]
  exact ⟨.ref p, _, J, rfl, q ys p r1.nd r1.lt pm hs hn⟩
/-! # a reading's closure, and sorted(set(e)) as one -/
def tMono (te : TE) : TE := fun σ H Q => ∃ B : VK, te σ H B ∧ ∀ x H1, B x H1 → Q x H1
theorem pe_mono {e : Expr} {te : TE} (he : PE X e te) : PE X e (tMono te) := ⟨fun pins s σ H Q I ⟨B, h, imp⟩ => thn (he.run pins s σ H B I h) fun v s1 ⟨x, H1, I1, r1, q1⟩ => ⟨x, H1, I1, r1, imp x H1 q1⟩⟩
theorem PE.imp {e : Expr} {te tf : TE} (he : PE X e te) (h : ∀ σ H Q, tf σ H Q → te σ H Q) : PE X e tf := ⟨fun pins s σ H Q I q => he.run pins s σ H Q I (h σ H Q q)⟩
def tSortS (K : PySem.W.Frag) (te : TE) : TE := fun σ H Q => te σ H fun x H1 => ∃ (l : Addr) (xs : List Str), x = .ref l ∧ SqL K H1 l (xs.map V.str) ∧ xs.length + 1 < scanBound ∧ ∀ (ys : List Str) (q p : Addr) (o : HO), ys.Nodup → ys.length ≤ xs.length → (∀ y, y ∈ ys ↔ y ∈ xs) → sortedS ys = true → H1 q = none → upd H1 q o p = none → Q (.ref p) (upd (upd H1 q o) p (.lst (ys.map V.str)))
theorem pe_sortS {e : Expr} {te : TE} {p p2 pos pos2 : Pos} (hc : X.calm = true) (hg : Gl X "sorted") (hm : X.mg "sorted" = none) (hg2 : Gl X "set") (hm2 : X.mg "set" = none) (hb : bootBuiltins "set" = some (.type "set")) (hb1 : bootBuiltins "sorted" = some (.builtin "sorted")) (he : PE X e te)
    (s1 : starEach [Expr.Call (.Name "set" p2) [e] [] pos2] X.env = (false, eval (Expr.Call (.Name "set" p2) [e] [] pos2) X.env) :: starEach [] X.env := by rfl) (s2 : (backTo pos (starEach [] X.env)).any (·.1) = false := by rfl)
    (s3 : starEach [e] X.env = (false, eval e X.env) :: starEach [] X.env := by rfl) (s4 : (backTo pos2 (starEach [] X.env)).any (·.1) = false := by rfl) :
    PE X (.Call (.Name "sorted" p) [.Call (.Name "set" p2) [e] [] pos2] [] pos) (tSortS X.K te) := by
  refine PE.imp (pe_callB (cr_sortSetS hc) hg hm hb1 (pa_cons (pe_callTy (cr_setS hc) hg2 hm2 hb (pa_cons (pe_mono he) pa_nil (hs := s3)) (by decide) (by decide) s3 s4) pa_nil) (by decide) (by decide) s1 s2) fun σ H Q h => ?_
  refine ⟨_, h, fun x H1 ⟨l, xs, ex, hx, hl, q⟩ => ⟨l, xs, by rw [ex], hx, hl, fun a ha => ⟨a, _, rfl, upd_same, fun ys p hn hlt pm hs hp => ?_⟩⟩⟩
  refine q ys a p _ (pm.nodup_iff.mpr hn) (by rw [pm.length_eq]; have := fold_len xs []; simpa using this) (fun y => ?_) hs ha hp
  rw [pm.mem_iff, fold_mem]
  simp
end
section
variable {K : PySem.W.Frag} {W : Ent} {σ : L2.St} {G : Hp} {M : Mem} {te : TE} {C : V → Hp → Mem → Prop}
theorem sw_sortS {xs : List Str} (h : EvD K te σ G (.list (xs.map .str))) (hl : xs.length + 1 < scanBound) (c : ∀ ys v G', risesS ys = true → ys.length ≤ xs.length → (∀ y, y ∈ ys ↔ y ∈ xs) → Ex G G' → Da K G' v (.list (ys.map .str)) → C v G' M) : Sw W (tSortS K te) σ G M C := fun H w Q q =>
  h G H (Ex.refl G) w.gh _ fun v G' H' g dv => by
    have w' := w.grow g
    cases dv with
    | lst h r =>
      have e := r.strs
      subst e
      refine ⟨_, xs, rfl, SqL.of (g.gh _ _ h), hl, fun ys a p o hn hyl hm hs ha hp => ?_⟩
      have w2 := w'.ext (Ex.new (o := o) ha)
      exact q _ _ M _ (w2.grow (Grow.new w2.gh hp)) (c ys _ _ (rises_of_sorted hs hn) hyl hm (g.gg.trans (Ex.new (fresh_back w2.gh hp))) (.lst upd_same (DaL.ofStrs ys)))
end
section
variable {K : PySem.W.Frag} {W : Ent} {σ : L2.St} {G : Hp} {M : Mem} {ta tb : TE} {ds es : List PyData} {a b : Addr} {xs ys : List V}
/-! # zip of lists or of tuples -/
theorem steps_zipT (h : SqT K G a xs) (r : DaL K G xs ds) (h' : SqT K G b ys) (r' : DaL K G ys es) : Steps K (RZ.ItzT K a b) G (zipD ds es) where
  go := fun i H e hi => by
    rw [zipD_len] at hi
    have hx : i < xs.length := by rw [r.len]; omega
    have hy : i < ys.length := by rw [r'.len]; omega
    exact ⟨xs, ys, xs[i], ys[i], ex_t e h, ex_t e h', List.getElem?_eq_getElem hx, List.getElem?_eq_getElem hy⟩
  yld := fun i d G2 H v H' hd e e2 hy => by
    obtain ⟨T, x, y, rfl, hT, rfl, h1, h2⟩ := hy
    obtain ⟨dx, dy, g1, g2, rfl⟩ := zip_get hd
    obtain ⟨d1, z1, q1⟩ := r.getV (h1 xs (ex_t e2 (ex_t e h)))
    obtain ⟨d2, z2, q2⟩ := r'.getV (h2 ys (ex_t e2 (ex_t e h')))
    rw [g1] at z1; cases z1
    rw [g2] at z2; cases z2
    have en := Ex.new (o := HO.tup [x, y]) (fresh_back e2 hT)
    exact ⟨_, Grow.new e2 hT, .tup (SqT.of upd_same) (.cons ((q1.mono e).mono en) (.cons ((q2.mono e).mono en) .nil))⟩
  stop := fun i H e hi => by
    rw [zipD_len] at hi
    refine ⟨xs, ys, ex_t e h, ex_t e h', ?_⟩
    rw [r.len, r'.len]; omega
theorem it_zipA {ta : TA} {as bs : List PyData} (h : EvA K ta σ G [.list as, .list bs]) : IterD K (RZ.iZipA K ta) σ G (zipD as bs) := fun G1 H e e2 R q =>
  h G1 H e e2 _ fun vs G' H' g dv => by
    obtain ⟨v, w, rfl, hv, hw⟩ := dv.two_inv
    cases hv with
    | lst h r =>
      cases hw with
      | lst h' r' => exact ⟨_, _, _, _, rfl, .inl ⟨SqL.of (g.gh _ _ h), SqL.of (g.gh _ _ h'), q _ G' H' g (steps_zip h r h' r')⟩⟩
theorem it_zipT {ta : TA} {as bs : List PyData} (h : EvA K ta σ G [.tuple as, .tuple bs]) : IterD K (RZ.iZipA K ta) σ G (zipD as bs) := fun G1 H e e2 R q =>
  h G1 H e e2 _ fun vs G' H' g dv => by
    obtain ⟨v, w, rfl, hv, hw⟩ := dv.two_inv
    cases hv with
    | tup h r =>
      cases hw with
      | tup h' r' => exact ⟨_, _, _, _, rfl, .inr ⟨ex_t g.gh h, ex_t g.gh h', q _ G' H' g (steps_zipT h r h' r')⟩⟩
/-! # xs * 0, xs * 1 -/
theorem rd_rep (c : Bool) (hl : ds.length ≤ 50000) : RD2 K kMul G (.list ds) (.int (if c = true then 1 else 0)) (.list (if c = true then ds else [])) := rd_or2 fun G1 H e e' v w hv hw Q q => by
  obtain rfl := hw.int_eq
  cases hv with
  | lst h r =>
    have hx := r.len
    cases c with
    | true => exact ⟨_, 1, _, rfl, rfl, e' _ _ h, by decide, by decide, sz_of (by show _ * 1 ≤ _; omega), fun p hp => q _ _ _ (Grow.new e' hp) (.lst upd_same (by
        show DaL K _ (List.flatten [_]) ds
        rw [List.flatten_singleton]
        exact r.mono (Ex.new (fresh_back e' hp))))⟩
    | false => exact ⟨_, 0, _, rfl, rfl, e' _ _ h, by decide, by decide, sz_of (by show _ * 0 ≤ _; omega), fun p hp => q _ _ _ (Grow.new e' hp) (.lst upd_same .nil)⟩
/-! # x or y by truth: None or a number -/
theorem ev_orN {y : PyData} (h1 : EvD K ta σ G .none) (h2 : EvD K tb σ G y) : EvD K (tOrT K ta tb) σ G y := fun G1 H e e' Q q =>
  h1 G1 H e e' _ fun v G2 H2 g2 d2 => by
    obtain rfl := d2.non_eq
    exact ⟨false, by first | exact rfl | trivial | simp [TruV], h2 G2 H2 (e.trans g2.gg) g2.gh Q fun v G3 H3 g3 d3 => q v G3 H3 (g2.trans g3) d3⟩
theorem ev_orI {i : Int} (h1 : EvD K ta σ G (.int i)) (h0 : i ≠ 0) : EvD K (tOrT K ta tb) σ G (.int i) := fun G1 H e e' Q q =>
  h1 G1 H e e' _ fun v G2 H2 g2 d2 => by
    obtain rfl := d2.int_eq
    exact ⟨true, by first | exact decide_eq_true h0 | simp [TruV, h0], q _ G2 H2 g2 (.int _)⟩
end
/-! # sorted(set(ints)) -/
section
variable {P : Program} {w : PySem.World} {A : Around} {E : Value → Shared → Prop} {s : Shared} {a : Addr}
theorem ints_keys : ∀ (vs : List Value), (∀ v ∈ vs, ∃ k tk, v = Value.int k tk) → IntsAre vs (vs.map (kdI P w).key)
  | [], _ => .nil
  | v :: r, h => by
    obtain ⟨k, tk, rfl⟩ := h v List.mem_cons_self
    exact .cons _ _ (ints_keys r fun u hu => h u (List.mem_cons_of_mem _ hu))
theorem sorted_setI {ks : List Int} {Q : Value → Shared → Prop} (R : SetGx (kdI P w) s.heap a ks) (hh : A.handled = none)
    (hQ : ∀ s' p (out : Array Value) (c : Nat) (ys : List Int), (∀ b o, s.heap.get? b = some o → s'.heap.get? b = some o) → s'.gens = s.gens → s'.os = s.os → s.heap.objs.size ≤ p → s'.heap.get? p = some (seqObj "list" out c) → IntsAre out.toList ys → ys.Perm ks → ys.Pairwise (· ≤ ·) → Q (.ref p) s') :
    wpAny (model P w) A (call (.builtin "sorted") [.ref a]) Q E s := by
  obtain ⟨o, es, ep, t, R⟩ := R
  have hb : es.size < scanBound := by rw [R.sz]; exact R.lt
  refine Calls.call_function_entry kind_sorted plain_sorted entry_sorted (args_sorted1 _) ?_
  unfold Builtin.«sorted»
  refine wpAny_bind (m := checkCount "sorted" 1 1 _) (wpAny_pure (wpAny_bind (collect_set (A := A.in1) hh ⟨o, R.ob, R.ex.1, R.dt⟩ R.ft hb R.rs R.ld fun s1 vs k1 hz g1 o1 pm => ?_)))
  have hvs : ∀ v ∈ vs, ∃ k tk, v = Value.int k tk := fun v hv => by
    obtain ⟨e, he, q⟩ := List.mem_map.mp (pm.mem_iff.mp hv)
    obtain ⟨k, tk, h1, _⟩ := R.el e he
    exact ⟨k, tk, by rw [← q]; exact h1⟩
  have hS := ints_keys (P := P) (w := w) vs hvs
  have pk : (vs.map (kdI P w).key).Perm ks := by
    refine (pm.map _).trans ?_
    rw [List.map_map]
    exact R.pm
  have hvl : vs.length ≤ sizeLine := by
    have e : vs.length = ks.length := by rw [← pk.length_eq, List.length_map]
    rw [e]
    exact fits_of_scanBound R.lt
  refine wpAny_bind (wpAny_newList ?_ hvl)
  have hoL : (s1.heap.push (seqObj "list" vs.toArray 0)).get? s1.heap.objs.size = some (seqObj "list" vs.toArray 0) := Heap.get?_push_size _ rfl
  refine wpAny_bind (wpAny_holding (wpAny_call_entry slot_list_sort ⟨_, hoL, rfl⟩ entry_list_sort (SrtO.list_sort_ord SrtO.swo_int hoL hvl (fun h2 => SrtO.ints_sortable hS h2) fun out h1 h2 => ⟨_, rfl, ?_⟩) (args_list_sort _)))
  obtain ⟨q1, q2, q3⟩ := SrtO.ints_out hS h1 h2
  obtain ⟨c, hc⟩ := sortedHeap_at (vs := vs) (out := out.toArray) hoL
  refine wpAny_pure ⟨_, rfl, hQ _ s1.heap.objs.size _ c _ (fun b u e => ?_) g1 o1 hz hc q1 (q2.trans pk) q3⟩
  have q := k1 b u e
  have hlt := Heap.lt_size q
  show (sortedHeap (s1.heap.push (seqObj "list" vs.toArray 0)) s1.heap.objs.size vs _).get? b = some u
  rw [sortedHeap_old (Nat.ne_of_lt hlt) (by rw [Heap.size_push]; exact Nat.lt_succ_of_lt hlt)]
  exact Heap.get?_push_of_some _ q
end
def SetIO (P : Program) (w : PySem.World) (a : Addr) (ks : List Int) : HO := .ext fun h => SetGx (kdI P w) h a ks
theorem setIO_new {P : Program} {w : PySem.World} {H : Hp} {h : Heap} {a : Addr} {ks : List Int} (R : SetGx (kdI P w) h a ks) : ObjOk P w H h a (SetIO P w a ks) := by
  have ⟨o, _, _, _, r⟩ := R
  exact ⟨R, ⟨o, r.ob⟩, fun h1 h2 p k => SetGx.at p k⟩
def rSetI (K : PySem.W.Frag) (P : Program) (w : PySem.World) : List V → Hp → VK → Prop := fun xs H Q => ∃ (l : Addr) (ks : List Int), xs = [V.ref l] ∧ SqL K H l (ks.map V.int) ∧ ks.length + 1 < scanBound ∧ ∀ p, H p = none → Q (.ref p) (upd H p (SetIO P w p (ks.foldl grownBy [])))
def rSortSetI (P : Program) (w : PySem.World) : List V → Hp → VK → Prop := fun vs H Q => ∃ (a : Addr) (ks : List Int), vs = [V.ref a] ∧ H a = some (SetIO P w a ks) ∧ ∀ (ys : List Int) (p : Addr), ks.Nodup → ks.length < scanBound → ys.Perm ks → ys.Pairwise (· ≤ ·) → H p = none → Q (.ref p) (upd H p (.lst (ys.map V.int)))
section
variable {X : Cx}
theorem cr_setI (hc : X.calm = true) : CallR X (.type "set") (rSetI X.K X.prog X.w) := by
  intro pins s σ H xs us Q I r h
  obtain ⟨l, ks, rfl, hs, hb, q⟩ := h
  obtain ⟨its, rv, hl, hz⟩ := I.list hs
  rw [Vals.ref1 r]
  have hlen := rv.length
  rw [List.length_map] at hlen
  have hS := rv.ints
  refine call_setG (D := kdI X.prog X.w) (xs := ks) (I.ok.hd hc) hl.isList (by rw [List.size_toArray]; exact hlen) (fun i v hv => ?_) (by rw [List.size_toArray]; omega) fun h' tk R kp => ?_
  · rw [List.getElem?_toArray] at hv
    obtain ⟨t, e⟩ := PyProof.Rows.IntsAre.int_at hS i v hv
    have hi : i < ks.length := by
      have := (List.getElem?_eq_some_iff.mp hv).1
      omega
    refine ⟨ks[i], t, List.getElem?_eq_getElem hi, ?_⟩
    rw [e, List.getD_eq_getElem?_getD, List.getElem?_eq_getElem hi]; rfl
  · exact ⟨.ref _, _, I.laid (t' := tk) (fun b o e => kp b o (Heap.lt_size e) e) (Nat.le_refl _) (setIO_new R), rfl, q _ (I.hok.fresh (Nat.le_refl _))⟩
theorem cr_sortSetI (hc : X.calm = true) : CallR X (.builtin "sorted") (rSortSetI X.prog X.w) := by
  intro pins s σ H vs us Q I r h
  obtain ⟨a, ks, rfl, ha, q⟩ := h
  have R : SetGx (kdI X.prog X.w) s.heap a ks := (I.hok a _ ha).1
  have ⟨o, es, ep, t, r1⟩ := R
  rw [Vals.ref1 r]
  refine sorted_setI R (I.ok.hd hc) fun s' p out c ys k g o hp hg hi pm hs => ?_
  have hlen : (ys.map V.int).length ≤ sizeLine := by rw [List.length_map, pm.length_eq]; exact fits_of_scanBound r1.lt
  have hn : H p = none := I.hok.fresh hp
  have J : Inv X pins σ (upd H p (.lst (ys.map V.int))) { s with heap := s'.heap, gens := s'.gens, drawn := s'.drawn, toks := s'.toks } :=
    I.call (ch := []) (Un.laid k hp hn) (I.hok.laid k hp ⟨hlen, out.toList, c, vals_of_ints hi, hg⟩) (by rw [g]; exact I.bare) (fun _ z => nomatch z)
  have e : s' = { s with heap := s'.heap, gens := s'.gens, drawn := s'.drawn, toks := s'.toks } := by
    cases s'
    cases s
    cases o
    rfl
  rw [e]
  exact ⟨.ref p, _, J, rfl, q ys p r1.nd r1.lt pm hs hn⟩
def tSortI (K : PySem.W.Frag) (te : TE) : TE := fun σ H Q => te σ H fun x H1 => ∃ (l : Addr) (xs : List Int), x = .ref l ∧ SqL K H1 l (xs.map V.int) ∧ xs.length + 1 < scanBound ∧ ∀ (ys : List Int) (q p : Addr) (o : HO), ys.length ≤ xs.length → (∀ y, y ∈ ys ↔ y ∈ xs) → ys.Pairwise (· < ·) → H1 q = none → upd H1 q o p = none → Q (.ref p) (upd (upd H1 q o) p (.lst (ys.map V.int)))
theorem pe_sortI {e : Expr} {te : TE} {p p2 pos pos2 : Pos} (hc : X.calm = true) (hg : Gl X "sorted") (hm : X.mg "sorted" = none) (hg2 : Gl X "set") (hm2 : X.mg "set" = none) (hb : bootBuiltins "set" = some (.type "set")) (hb1 : bootBuiltins "sorted" = some (.builtin "sorted")) (he : PE X e te)
    (s1 : starEach [Expr.Call (.Name "set" p2) [e] [] pos2] X.env = (false, eval (Expr.Call (.Name "set" p2) [e] [] pos2) X.env) :: starEach [] X.env := by rfl) (s2 : (backTo pos (starEach [] X.env)).any (·.1) = false := by rfl)
    (s3 : starEach [e] X.env = (false, eval e X.env) :: starEach [] X.env := by rfl) (s4 : (backTo pos2 (starEach [] X.env)).any (·.1) = false := by rfl) :
    PE X (.Call (.Name "sorted" p) [.Call (.Name "set" p2) [e] [] pos2] [] pos) (tSortI X.K te) := by
  refine PE.imp (pe_callB (cr_sortSetI hc) hg hm hb1 (pa_cons (pe_callTy (cr_setI hc) hg2 hm2 hb (pa_cons (pe_mono he) pa_nil (hs := s3)) (by decide) (by decide) s3 s4) pa_nil) (by decide) (by decide) s1 s2) fun σ H Q h => ?_
  refine ⟨_, h, fun x H1 ⟨l, xs, ex, hx, hl, q⟩ => ⟨l, xs, by rw [ex], hx, hl, fun a ha => ⟨a, _, rfl, upd_same, fun ys p hn hlt pm hs hp => ?_⟩⟩⟩
  refine q ys a p _ (by rw [pm.length_eq]; have := fold_len xs []; simpa using this) (fun y => ?_) (lt_of_le_nodup ys hs (pm.nodup_iff.mpr hn)) ha hp
  rw [pm.mem_iff, fold_mem]
  simp
end
section
variable {K : PySem.W.Frag} {W : Ent} {σ : L2.St} {G : Hp} {M : Mem} {te : TE} {C : V → Hp → Mem → Prop}
/-- rising lists of the same members are one -/
theorem rising_eq : ∀ {xs ys : List Int}, xs.Pairwise (· < ·) → ys.Pairwise (· < ·) → (∀ z, z ∈ xs ↔ z ∈ ys) → xs = ys
  | [], [], _, _, _ => rfl
  | [], y :: r, _, _, h => by have := (h y).2 List.mem_cons_self; cases this
  | x :: r, [], _, _, h => by have := (h x).1 List.mem_cons_self; cases this
  | x :: r, y :: t, hx, hy, h => by
    obtain ⟨a1, a2⟩ := List.pairwise_cons.mp hx
    obtain ⟨b1, b2⟩ := List.pairwise_cons.mp hy
    have e : x = y := by
      rcases List.mem_cons.mp ((h x).1 List.mem_cons_self) with z | z
      · exact z
      · rcases List.mem_cons.mp ((h y).2 List.mem_cons_self) with u | u
        · exact u.symm
        · have := a1 y u; have := b1 x z; omega
    subst e
    congr 1
    refine rising_eq a2 b2 fun z => ⟨fun hz => ?_, fun hz => ?_⟩
    · rcases List.mem_cons.mp ((h z).1 (List.mem_cons_of_mem _ hz)) with u | u
      · subst u; have := a1 z hz; omega
      · exact u
    · rcases List.mem_cons.mp ((h z).2 (List.mem_cons_of_mem _ hz)) with u | u
      · subst u; have := b1 z hz; omega
      · exact u
theorem ev_sortI {xs zs : List Int} (h : EvD K te σ G (.list (xs.map .int))) (hl : xs.length + 1 < scanBound) (hz : zs.Pairwise (· < ·)) (hm : ∀ z, z ∈ zs ↔ z ∈ xs) : EvD K (tSortI K te) σ G (.list (zs.map .int)) := fun G1 H e e2 Q q =>
  h G1 H e e2 _ fun v G' H' g dv => by
    cases dv with
    | lst h r =>
      have e := r.ints
      subst e
      refine ⟨_, xs, rfl, SqL.of (g.gh _ _ h), hl, fun ys a p o hyl hy hs ha hp => ?_⟩
      obtain rfl : ys = zs := rising_eq hs hz fun z => (hy z).trans (hm z).symm
      have g2 := g.trans (Grow.of_ex g.gh (Ex.new (o := o) ha))
      exact q _ _ _ (g2.trans (Grow.new g2.gh hp)) (.lst upd_same (DaL.ofInts ys))
end
/-! # sorted(xs), xs a list of triples (int, int or truth, int) -/
abbrev Key3 := Int × Int × Int
def lex3 (p q : Key3) : Bool := if p.1 = q.1 then (if p.2.1 = q.2.1 then decide (p.2.2 < q.2.2) else decide (p.2.1 < q.2.1)) else decide (p.1 < q.1)
theorem lex3_iff {p q : Key3} : lex3 p q = true ↔ p.1 < q.1 ∨ (p.1 = q.1 ∧ (p.2.1 < q.2.1 ∨ (p.2.1 = q.2.1 ∧ p.2.2 < q.2.2))) := by
  unfold lex3
  by_cases e : p.1 = q.1
  · rw [if_pos e]
    by_cases e2 : p.2.1 = q.2.1
    · rw [if_pos e2, decide_eq_true_eq]; omega
    · rw [if_neg e2, decide_eq_true_eq]; omega
  · rw [if_neg e, decide_eq_true_eq]; omega
theorem lex3_no {p q : Key3} : lex3 p q = false ↔ ¬ (p.1 < q.1 ∨ (p.1 = q.1 ∧ (p.2.1 < q.2.1 ∨ (p.2.1 = q.2.1 ∧ p.2.2 < q.2.2)))) := by
  rw [← lex3_iff]
  cases lex3 p q <;> simp
theorem swo_lex3 {α : Type} (k : α → Key3) : SrtO.Swo fun v u => lex3 (k v) (k u) := by
  refine ⟨fun x y h => ?_, fun x y z h1 h2 => ?_⟩
  · have a := lex3_iff.mp h
    refine lex3_no.mpr ?_
    omega
  · have a := lex3_no.mp h1
    have b := lex3_no.mp h2
    refine lex3_no.mpr ?_
    omega
/-- the middle: a truth (c) or an int -/
def Mid (c : Bool) (y : Int) (m : Value) : Prop := if c = true then ∃ b, m = .bool b ∧ y = b2i b else ∃ t, m = .int y t
def IsTri (h : Heap) (c : Bool) (v : Value) (k : Key3) : Prop := ∃ a o t m u n, v = .ref a ∧ h.get? a = some o ∧ o.cls = .type "tuple" ∧ o.data = .seq #[.int k.1 t, m, .int k.2.2 u] n ∧ Mid c k.2.1 m
theorem b2i_inj {a b : Bool} (h : b2i a = b2i b) : a = b := by
  cases a <;> cases b <;> first | rfl | (exact absurd h (by decide))
theorem Mid.inj {c : Bool} {y z : Int} {m : Value} (h1 : Mid c y m) (h2 : Mid c z m) : y = z := by
  unfold Mid at h1 h2
  cases c with
  | true =>
    obtain ⟨b, rfl, rfl⟩ := h1
    obtain ⟨b', e, rfl⟩ := h2
    cases e; rfl
  | false =>
    obtain ⟨t, rfl⟩ := h1
    obtain ⟨t', e⟩ := h2
    cases e; rfl
theorem IsTri.inj {h : Heap} {c : Bool} {v : Value} {k l : Key3} (h1 : IsTri h c v k) (h2 : IsTri h c v l) : k = l := by
  obtain ⟨a, o, t, m, u, n, rfl, ho, hc, hd, hm⟩ := h1
  obtain ⟨a', o', t', m', u', n', e, ho', hc', hd', hm'⟩ := h2
  cases e
  rw [ho] at ho'
  cases ho'
  rw [hd] at hd'
  have e := hd'
  simp only [Data.seq.injEq] at e
  obtain ⟨e, _⟩ := e
  have e1 := congrArg Array.toList e
  simp only [List.cons.injEq, Value.int.injEq] at e1
  obtain ⟨⟨e1, _⟩, e2, ⟨e3, _⟩, _⟩ := e1
  subst e2
  obtain ⟨k1, k2, k3⟩ := k
  obtain ⟨l1, l2, l3⟩ := l
  have e4 : k2 = l2 := hm.inj hm'
  have e1 : k1 = l1 := e1
  have e3 : k3 = l3 := e3
  subst e1 e3 e4
  rfl
theorem IsTri.keeps {h h' : Heap} {c : Bool} {v : Value} {k : Key3} (p : IsTri h c v k) (q : ∀ b o, h.get? b = some o → o.cls = .type "tuple" → h'.get? b = some o) : IsTri h' c v k := by
  obtain ⟨a, o, t, m, u, n, e, ho, hc, hd, hm⟩ := p
  exact ⟨a, o, t, m, u, n, e, q _ _ ho hc, hc, hd, hm⟩
section
variable {prog : Program} {w : PySem.World} {A : Around} {E : Value → Shared → Prop} {s : Shared}
theorem mid_cmp {c : Bool} {y y' : Int} {m m' : Value} (h : Mid c y m) (h' : Mid c y' m') {b fin : Bool} {Q : Bool → Shared → Prop} {r : List (Value × Value)}
    (q1 : y = y' → PySem.W.KatLex prog w A b fin Q r 2 s) (q2 : ¬ y = y' → Q (decide (y < y')) s) : PySem.W.KatLex prog w A b fin Q ((m, m') :: r) 1 s := by
  unfold Mid at h h'
  have hb : (b && (1 : Nat) == 0) = false := by cases b <;> rfl
  cases c with
  | true =>
    obtain ⟨x, rfl, rfl⟩ := h
    obtain ⟨x', rfl, rfl⟩ := h'
    refine PySem.W.kat_cons (SeqAt.EqAt.bool_bool x x' prog w _ _ (PySem.W.kat_go (fun e => PySem.W.kat_yes (q1 (by rw [eq_of_beq e]))) (fun e => PySem.W.kat_no ?_)))
    rw [hb]
    refine PySem.W.kat_one _ _ (PyProof.Rows.lt_bool (Q := PySem.W.BoolBack Q) (q2 fun z => ?_))
    rw [b2i_inj z] at e
    simp at e
  | false =>
    obtain ⟨t, rfl⟩ := h
    obtain ⟨t', rfl⟩ := h'
    refine PySem.W.kat_cons (SeqAt.EqAt.int_int y t y' t' prog w _ _ (PySem.W.kat_go (fun e => PySem.W.kat_yes (q1 (by simpa using e))) (fun e => PySem.W.kat_no ?_)))
    rw [hb]
    exact PySem.W.kat_one _ _ (PyProof.Rows.lt_int (Q := PySem.W.BoolBack Q) (q2 (by simpa using e)))
theorem tri_cmp {c : Bool} {vs : List Value} {k : Value → Key3} (hp : ∀ v ∈ vs, IsTri s.heap c v (k v)) : SrtO.Cmp prog w A s (tuples' true) (fun p => p.1 ∈ vs) (SrtO.lt2 fun v u => lex3 (k v) (k u)) := by
  intro p q hm hm'
  have h1 := hp _ hm
  have h2 := hp _ hm'
  show wpAny (model prog w) A (keyLt' (tuples' true) p.1 q.1) (fun r s' => s' = s ∧ r = lex3 (k p.1) (k q.1)) (fun _ _ => False) s
  unfold lex3
  generalize k p.1 = x at h1 ⊢
  generalize k q.1 = y at h2 ⊢
  obtain ⟨a, o, t, m, u, n, e, ho, hc, hd, hm1⟩ := h1
  obtain ⟨a', o', t', m', u', n', e', ho', hc', hd', hm2⟩ := h2
  rw [e, e']
  refine PySem.W.kat_lt ho hd ho' hd' ?_
  show PySem.W.KatLex prog w A true (decide (3 < 3)) _ [(.int x.1 t, .int y.1 t'), (m, m'), (.int x.2.2 u, .int y.2.2 u')] 0 s
  refine PySem.W.kat_cons (SeqAt.EqAt.int_int _ t _ t' prog w _ _ (PySem.W.kat_go (fun e1 => ?_) (fun e1 => ?_)))
  · have ex : x.1 = y.1 := by simpa using e1
    rw [if_pos ex]
    refine PySem.W.kat_yes (mid_cmp hm1 hm2 (fun e2 => ?_) (fun e2 => ?_))
    · rw [if_pos e2]
      refine PySem.W.kat_cons (SeqAt.EqAt.int_int _ u _ u' prog w _ _ (PySem.W.kat_go (fun e3 => ?_) (fun e3 => ?_)))
      · have ez : x.2.2 = y.2.2 := by simpa using e3
        exact PySem.W.kat_yes (PySem.W.kat_nil ⟨rfl, by rw [ez]; exact (decide_eq_false (Int.lt_irrefl _)).symm⟩)
      · exact PySem.W.kat_no (PySem.W.kat_one _ _ (PyProof.Rows.lt_int (show s = s ∧ _ from ⟨rfl, rfl⟩)))
    · rw [if_neg e2]
      exact ⟨rfl, rfl⟩
  · have ex : ¬ x.1 = y.1 := by simpa using e1
    rw [if_neg ex]
    exact PySem.W.kat_no (oneLt_int ⟨rfl, rfl⟩)
theorem firsts3 {h : Heap} {c : Bool} {k : Value → Key3} : ∀ {vs : List Value}, (∀ v ∈ vs, IsTri h c v (k v)) → ∃ fs : List Value, PySem.W.KatTups h vs fs ∧ fs.length = vs.length ∧ ∀ f ∈ fs, ∃ x t, f = Value.int x t
  | [], _ => ⟨[], PySem.W.KatTups.nil, rfl, fun _ hm => by simp at hm⟩
  | v :: vs, hp => by
    obtain ⟨fs, h1, h2, h3⟩ := firsts3 (vs := vs) fun v' hm => hp v' (List.mem_cons_of_mem _ hm)
    obtain ⟨a, o, t, m, u, n, e, ho, hc, hd, _⟩ := hp v List.mem_cons_self
    rw [e]
    refine ⟨.int (k v).1 t :: fs, PySem.W.KatTups.cons ho hc hd rfl h1, by rw [List.length_cons, List.length_cons, h2], fun f hm => ?_⟩
    rcases List.mem_cons.mp hm with z | z
    · exact ⟨_, t, z⟩
    · exact h3 f z
theorem tris_sortable {a : Addr} {c : Bool} {vs : List Value} {k : Value → Key3} (h0 : 0 < vs.length) (hp : ∀ v ∈ vs, IsTri s.heap c v (k v)) (ha : ∀ o, s.heap.get? a = some o → o.cls ≠ .type "tuple") : SrtO.SortableO prog w A s a vs fun v u => lex3 (k v) (k u) := by
  intro h' keep
  have hp' : ∀ v ∈ vs, IsTri h' c v (k v) := fun v hm => (hp v hm).keeps fun b o e cc => keep b o (fun z => by subst z; exact ha o e cc) e
  obtain ⟨fs, h1, h2, h3⟩ := firsts3 hp'
  refine ⟨tuples' true, fun Q E hq => ?_, tri_cmp hp'⟩
  refine PySem.W.kat_kind (T := .type "int") h1 (by omega) (fun f hm => ?_) (by rfl) ?_
  · obtain ⟨x, t, rfl⟩ := h3 f hm
    exact PySem.W.Looks.now
  · have e : (Value.type "int" != Value.type "tuple") = true := by first | decide +kernel | rfl | decide
    rw [e]
    exact hq
theorem sorted_tris {l : Addr} {c : Bool} {vs : List Value} {k : Value → Key3} {Q : Value → Shared → Prop} (hl : s.heap.IsList l vs.toArray) (hz : vs.length ≤ sizeLine) (hp : ∀ v ∈ vs, IsTri s.heap c v (k v))
    (h : ∀ (h' : Heap) (d : Addr) (out : List Value), SrtO.Srtd (fun v u => lex3 (k v) (k u)) out → out.Perm vs → (∀ b o, s.heap.get? b = some o → h'.get? b = some o) → s.heap.objs.size ≤ d → (∃ n, h'.get? d = some (seqObj "list" out.toArray n)) → Q (.ref d) { s with heap := h' }) :
    wpAny (model prog w) A (call (.builtin "sorted") [.ref l]) Q E s := by
  refine SrtO.sorted_ord (swo_lex3 k) hl hz (fun h2 h₁ a ha kk => ?_) fun out hs hb => ?_
  · refine tris_sortable (c := c) (s := { s with heap := h₁ }) (by omega) (fun v hm => (hp v hm).keeps fun b o e _ => (kk b o e).2) fun o e => ?_
    have e' : some o = some (seqObj "list" vs.toArray 0) := e.symm.trans ha
    cases e'
    intro cc
    exact absurd (Value.type.inj cc) (by decide)
  · exact h _ _ out hs hb.perm (fun b o e => sortedAll_old e) (Nat.le_succ _) (sortedAll_at s.heap vs out.toArray)
end
def midV (c : Bool) (y : Int) : V := if c = true then .bl (decide (y = 1)) else .int y
def midD (c : Bool) (y : Int) : PyData := if c = true then .bool (decide (y = 1)) else .int y
def midOk (c : Bool) (y : Int) : Prop := c = true → y = 0 ∨ y = 1
def triD (c : Bool) (k : Key3) : PyData := .tuple [.int k.1, midD c k.2.1, .int k.2.2]
def rSorted3 (K : PySem.W.Frag) : List V → Hp → VK → Prop := fun vs H Q => ∃ (c : Bool) (a : Addr) (xs : List V) (ks : List Key3), vs = [V.ref a] ∧ SqL K H a xs ∧ xs.length = ks.length ∧
  (∀ (i : Nat) (x : V) (k : Key3), xs[i]? = some x → ks[i]? = some k → midOk c k.2.1 ∧ ∃ t, x = .ref t ∧ SqT K H t [.int k.1, midV c k.2.1, .int k.2.2]) ∧
  ∀ (ys : List V) (zs : List Key3) (p : Addr), ys.length = zs.length → (ys.zip zs).Perm (xs.zip ks) → zs.Pairwise (fun a b => lex3 b a = false) → H p = none → Q (.ref p) (upd H p (.lst ys))
section
variable {X : Cx}
theorem cr_sorted3 : CallR X (.builtin "sorted") (rSorted3 X.K) := by
  intro pins s σ H vs us Q I r h
  obtain ⟨c, a, xs, ks, rfl, hs, hlk, hx, q⟩ := h
  obtain ⟨its, rv, hl, hz⟩ := I.list hs
  rw [Vals.ref1 r]
  have hlen := rv.length
  have tri : ∀ (i : Nat) (v : Value), its[i]? = some v → ∃ k, ks[i]? = some k ∧ IsTri s.heap c v k := fun i v hv => by
    have hi : i < its.length := (List.getElem?_eq_some_iff.mp hv).1
    have h1 : i < xs.length := by omega
    have h2 : i < ks.length := by omega
    refine ⟨ks[i], List.getElem?_eq_getElem h2, ?_⟩
    obtain ⟨hok, t, ex, ht⟩ := hx i xs[i] ks[i] (List.getElem?_eq_getElem h1) (List.getElem?_eq_getElem h2)
    obtain ⟨u, hu, ru⟩ := rv.get (List.getElem?_eq_getElem h1)
    rw [hv] at hu
    cases hu
    rw [ex] at ru
    cases ru
    obtain ⟨its2, r2, ⟨o, ho, hc, n, hd⟩, _⟩ := I.tuple ht
    cases r2 with
    | cons ra r2 =>
      cases r2 with
      | cons rb r2 =>
        cases r2 with
        | cons rc r2 =>
          cases r2
          obtain ⟨t1, rfl⟩ := ra
          obtain ⟨t3, rfl⟩ := rc
          refine ⟨t, o, t1, _, t3, n, rfl, ho, hc, hd, ?_⟩
          unfold Mid
          unfold midV at rb
          cases c with
          | true =>
            rw [if_pos rfl] at rb ⊢
            cases rb
            refine ⟨_, rfl, ?_⟩
            rcases hok rfl with z | z <;> (rw [z]; rfl)
          | false =>
            rw [if_neg (by decide)] at rb ⊢
            obtain ⟨t2, rfl⟩ := rb
            exact ⟨t2, rfl⟩
  have kx : ∃ k : Value → Key3, ∀ v ∈ its, IsTri s.heap c v (k v) := by
    classical
    refine ⟨fun v => if h : ∃ k, IsTri s.heap c v k then h.choose else (0, 0, 0), fun v hv => ?_⟩
    obtain ⟨i, hi⟩ := List.mem_iff_getElem?.mp hv
    obtain ⟨k, _, hk⟩ := tri i v hi
    have h : ∃ k, IsTri s.heap c v k := ⟨k, hk⟩
    show IsTri s.heap c v (if h : ∃ k, IsTri s.heap c v k then h.choose else (0, 0, 0))
    rw [dif_pos h]
    exact h.choose_spec
  obtain ⟨k, hk⟩ := kx
  have eks : ks = its.map k := by
    refine List.ext_getElem? fun i => ?_
    rw [List.getElem?_map]
    cases hv : its[i]? with
    | none =>
      have : its.length ≤ i := List.getElem?_eq_none_iff.mp hv
      rw [List.getElem?_eq_none (by omega)]; rfl
    | some v =>
      obtain ⟨k', h1, h2⟩ := tri i v hv
      rw [h1]
      show some k' = some (k v)
      rw [h2.inj (hk v (List.mem_of_getElem? hv))]
  obtain ⟨e1, e2⟩ := refs_back rv fun x m => by
    obtain ⟨i, hi⟩ := List.mem_iff_getElem?.mp m
    have h1 : i < xs.length := (List.getElem?_eq_some_iff.mp hi).1
    obtain ⟨_, t, ex, _⟩ := hx i x ks[i] hi (List.getElem?_eq_getElem (by omega))
    exact ⟨t, ex⟩
  refine sorted_tris (c := c) (k := k) hl.isList (by rw [← rv.length]; exact hz) hk fun h' d out h1 h2 kp hd hn => ?_
  obtain ⟨n, hn⟩ := hn
  have h3 : ∀ u ∈ out, ∃ a, u = Value.ref a := fun u hu => e2 u (h2.mem_iff.mp hu)
  refine ⟨.ref d, upd H d (.lst (out.map backV)), I.laid (t' := s.toks) kp hd ⟨?_, out, n, vals_back h3, hn⟩, rfl, q (out.map backV) (out.map k) d (by rw [List.length_map, List.length_map]) ?_ ?_ (I.hok.fresh hd)⟩
  · rw [List.length_map, h2.length_eq, ← rv.length]; exact hz
  · have z : ∀ l : List Value, (l.map backV).zip (l.map k) = l.map fun v => (backV v, k v) := fun l => by
      induction l with
      | nil => rfl
      | cons a r ih => rw [List.map_cons, List.map_cons, List.zip_cons_cons, ih]; rfl
    rw [e1, eks, z, z]
    exact h2.map _
  · exact List.pairwise_map.mpr h1
end
section
variable {K : PySem.W.Frag} {σ : L2.St} {G : Hp} {te : TE}
theorem DaL.of_get : ∀ {vs : List V} {ds : List PyData}, vs.length = ds.length → (∀ (i : Nat) v d, vs[i]? = some v → ds[i]? = some d → Da K G v d) → DaL K G vs ds
  | [], [], _, _ => .nil
  | [], _ :: _, h, _ => by cases h
  | _ :: _, [], h, _ => by cases h
  | v :: vs, d :: ds, h, hg => .cons (hg 0 v d rfl rfl) (DaL.of_get (Nat.succ.inj h) fun i v d h1 h2 => hg (i + 1) v d h1 h2)
theorem uniq_sorted {α : Type} {R : α → α → Prop} (as : ∀ a b, R a b → ¬ R b a) : ∀ {xs ys : List α}, xs.Pairwise R → ys.Pairwise R → (∀ z, z ∈ xs ↔ z ∈ ys) → xs = ys
  | [], [], _, _, _ => rfl
  | [], y :: r, _, _, h => by have := (h y).2 List.mem_cons_self; cases this
  | x :: r, [], _, _, h => by have := (h x).1 List.mem_cons_self; cases this
  | x :: r, y :: t, hx, hy, h => by
    obtain ⟨a1, a2⟩ := List.pairwise_cons.mp hx
    obtain ⟨b1, b2⟩ := List.pairwise_cons.mp hy
    have e : x = y := by
      rcases List.mem_cons.mp ((h x).1 List.mem_cons_self) with z | z
      · exact z
      · rcases List.mem_cons.mp ((h y).2 List.mem_cons_self) with u | u
        · exact u.symm
        · exact absurd (b1 x z) (as _ _ (a1 y u))
    subst e
    congr 1
    refine uniq_sorted as a2 b2 fun z => ⟨fun hz => ?_, fun hz => ?_⟩
    · rcases List.mem_cons.mp ((h z).1 (List.mem_cons_of_mem _ hz)) with u | u
      · subst u; exact absurd (a1 z hz) (as _ _ (a1 z hz))
      · exact u
    · rcases List.mem_cons.mp ((h z).2 (List.mem_cons_of_mem _ hz)) with u | u
      · subst u; exact absurd (b1 z hz) (as _ _ (b1 z hz))
      · exact u
theorem lex3_asym (a b : Key3) (h : lex3 a b = true) : ¬ lex3 b a = true := fun h2 => by
  have p := lex3_iff.mp h
  have q := lex3_iff.mp h2
  omega
theorem key3_ext {a b : Key3} (h1 : lex3 a b = false) (h2 : lex3 b a = false) : a = b := by
  have p := lex3_no.mp h1
  have q := lex3_no.mp h2
  obtain ⟨a1, a2, a3⟩ := a
  obtain ⟨b1, b2, b3⟩ := b
  have e1 : a1 = b1 := by simp only at p q; omega
  have e2 : a2 = b2 := by simp only at p q; omega
  have e3 : a3 = b3 := by simp only at p q; omega
  subst e1 e2 e3
  rfl
theorem ev_sorted3 {c : Bool} {ks zs : List Key3} (h : EvD K te σ G (.list (ks.map (triD c)))) (hm : ∀ k ∈ ks, midOk c k.2.1) (hz : zs.Perm ks) (hs : zs.Pairwise fun a b => lex3 a b = true) : EvD K (tCB (rSorted3 K) (tCons te tNil)) σ G (.list (zs.map (triD c))) := fun G1 H e e2 Q q =>
  h G1 H e e2 _ fun v G' H' g dv => by
    cases dv with
    | @lst a xs _ h r =>
      have hl := r.len
      rw [List.length_map] at hl
      refine ⟨c, a, xs, ks, rfl, SqL.of (g.gh _ _ h), hl, fun i x k h1 h2 => ⟨hm k (List.mem_of_getElem? h2), ?_⟩, fun ys zs' p hl' hp hs' hpn => ?_⟩
      · obtain ⟨d, hd, dx⟩ := r.getV h1
        rw [List.getElem?_map, h2] at hd
        cases hd
        cases dx with
        | @tup t us _ ht ru =>
          obtain ⟨u1, u2, u3, rfl, d1, d2, d3⟩ := ru.three_inv
          obtain rfl := d1.int_eq
          obtain rfl := d3.int_eq
          have e2 : u2 = midV c k.2.1 := by
            unfold midD at d2
            unfold midV
            cases c with
            | true => rw [if_pos rfl] at d2 ⊢; exact d2.bl_eq
            | false => rw [if_neg (by decide)] at d2 ⊢; exact d2.int_eq
          subst e2
          exact ⟨t, rfl, ex_t g.gh ht⟩
      · have hzp : zs'.Perm ks := by
          have z := hp.map Prod.snd
          rw [List.map_snd_zip (by omega), List.map_snd_zip (by omega)] at z
          exact z
        have nd : zs.Nodup := hs.imp fun {a b} h z => by subst z; exact lex3_asym _ _ h h
        have nd' : zs'.Nodup := (hzp.trans hz.symm).nodup_iff.mpr nd
        have hst : zs'.Pairwise fun a b => lex3 a b = true := by
          refine (List.Pairwise.and hs' nd').imp fun {a b} ⟨h1, h2⟩ => ?_
          cases hh : lex3 a b with
          | true => rfl
          | false => exact absurd (key3_ext hh h1) h2
        obtain rfl : zs' = zs := uniq_sorted lex3_asym hst hs fun z => (hzp.trans hz.symm).mem_iff
        refine q _ _ _ (g.trans (Grow.new g.gh hpn)) (.lst upd_same ((DaL.of_get (by rw [List.length_map]; exact hl') fun i v d h1 h2 => ?_).mono (Ex.new (fresh_back g.gh hpn))))
        rw [List.getElem?_map] at h2
        cases hk : zs'[i]? with
        | none => rw [hk] at h2; cases h2
        | some k =>
        rw [hk] at h2
        cases h2
        have hmem : (v, k) ∈ ys.zip zs' := List.mem_of_getElem? (List.getElem?_zip_eq_some.mpr ⟨h1, hk⟩)
        obtain ⟨j, hj⟩ := List.mem_iff_getElem?.mp (hp.mem_iff.mp hmem)
        obtain ⟨j1, j2⟩ := List.getElem?_zip_eq_some.mp hj
        obtain ⟨d, hd, dx⟩ := r.getV j1
        rw [List.getElem?_map, j2] at hd
        cases hd
        exact dx
end
section
variable {prog : Program} {w : PySem.World} {A : Around} {R : Result → Shared → Prop} {I : Addr} {fp wr : List Addr} {n : Nat} {P : Nat → Value → Prop} {St : Nat → Heap → Prop}
theorem min_go {kw : List (Str × Value)} (Wk : Walks prog w A.in1 I fp wr n P St) (bt : Nat → Nat → Bool) {Sd : Addr} (sf : Sd ∉ fp) {Kp : Heap → Prop} (kk : ∀ h h', Kp h → (∀ b o, b ∉ wr → b ≠ Sd → h.get? b = some o → h'.get? b = some o) → Kp h')
    (cm : ∀ i j vi vj (s : Shared) (Q E : Value → Shared → Prop), Kp s.heap → P i vi → P j vj → Q (.bool (bt i j)) s → wpAny (model prog w) A.in1 (richCompare .Lt vi vj) Q E s) :
    ∀ (k j : Nat) (s : Shared) (vb : Value) (c : Nat), n - (j + 1) = k → j + 1 ≤ n → St (j + 1) s.heap → Kp s.heap → P (argBest bt j) vb → s.heap.get? Sd = some { cls := .type "list", dict := none, data := .seq #[vb, vb] c, slots := #[] } →
    (∀ v h' tk, P (argBest bt (n - 1)) v → (∀ b o, b ∉ wr → b ≠ Sd → s.heap.get? b = some o → h'.get? b = some o) → R (.ok (.ret v)) { s with heap := h', toks := tk }) → codeAny (model prog w) A (.builtin "min.loop" ⟨[.ref I, .none, .ref Sd], kw⟩) R s := by
  have sw : Sd ∉ wr := fun h => sf (Wk.sub _ h)
  have nm : (toString "min" ++ toString ".loop" : String) = "min.loop" := by decide
  intro k
  induction k with
  | zero =>
    intro j s vb c e1 e2 e3 ek e4 e5 e6
    have jn : j + 1 = n := by omega
    apply codeAny_builtin F.entry_min_loop; rw [Around.under_plainId F.plain_min_loop _]
    show wpAny _ A.in1 (seqItems? (.ref Sd) >>= _) _ _ _
    apply wpAny_bind; apply wpAny_seqItems e5 rfl
    show wpAny _ A.in1 (tryCatch (pyNext (.ref I)) _ >>= _) _ _ _
    apply wpAny_bind; apply wpAny_tryCatch
    refine Wk.done s _ _ (jn ▸ e3) fun h' tk kp => ?_
    have e7 := kp Sd _ sw e5
    show wpAny _ A.in1 (updateSeq Sd (fun _ => #[]) >>= _) _ _ _
    apply wpAny_bind; apply wpAny_updateSeq e7 rfl; apply wpAny_bind; apply wpAny_letGo; apply wpAny_pure
    exact e6 vb _ tk (by rw [← jn]; exact e4) fun b o x y z => (Heap.get?_update_other _ _ (Ne.symm y)).trans (kp b o x z)
  | succ k ih =>
    intro j s vb c e1 e2 e3 ek e4 e5 e6
    have jl : j + 1 < n := by omega
    apply codeAny_builtin F.entry_min_loop; rw [Around.under_plainId F.plain_min_loop _]
    show wpAny _ A.in1 (seqItems? (.ref Sd) >>= _) _ _ _
    apply wpAny_bind; apply wpAny_seqItems e5 rfl
    show wpAny _ A.in1 (tryCatch (pyNext (.ref I)) _ >>= _) _ _ _
    apply wpAny_bind; apply wpAny_tryCatch
    refine Wk.item (j + 1) s _ _ jl e3 fun v h' tk pv st kp => ?_
    have e7 := kp Sd _ sw e5
    have k1 : Kp h' := kk _ _ ek fun b o x _ z => kp b o x z
    show wpAny _ A.in1 (tryCatch (holding [v, v] (richCompare .Lt v vb >>= _)) _ >>= _) _ _ _
    apply wpAny_bind; apply wpAny_tryCatch; apply wpAny_holding; apply wpAny_bind
    refine cm (j + 1) (argBest bt j) v vb _ _ _ k1 pv e4 ?_
    apply wpAny_bind; apply wpAny_holding; apply wpAny_truthy_bool; apply wpAny_bind; apply wpAny_letGo; apply wpAny_pure
    cases hb : bt (j + 1) (argBest bt j) with
    | true =>
      simp only [if_true]
      apply wpAny_bind; apply wpAny_updateSeq e7 rfl; apply wpAny_bind; apply wpAny_letGo
      rw [nm]
      have k2 : ∀ b o, b ≠ Sd → h'.get? b = some o → (h'.update Sd (Obj.mapSeq fun _ => #[v, v])).get? b = some o := fun b o y z => (Heap.get?_update_other _ _ (Ne.symm y)).trans z
      refine wpAny_pure ⟨plainId_quiet F.plain_min_loop _, ih (j + 1) _ v _ (by omega) jl (Wk.frame _ _ _ st fun b x o z => k2 b o (fun q => sf (q ▸ x)) z) (kk _ _ k1 fun b o _ y z => k2 b o y z) (by simp only [argBest, hb, if_true]; exact pv) (Heap.get?_update_self _ e7 rfl) fun v' h2 t2 p2 q2 => ?_⟩
      exact e6 v' h2 t2 p2 fun b o x y z => q2 b o x y (k2 b o y (kp b o x z))
    | false =>
      simp only [Bool.false_eq_true, if_false]
      apply wpAny_bind; apply wpAny_letGo
      rw [nm]
      refine wpAny_pure ⟨plainId_quiet F.plain_min_loop _, ih (j + 1) _ vb c (by omega) jl st k1 (by simp only [argBest, hb, Bool.false_eq_true, if_false]; exact e4) e7 fun v' h2 t2 p2 q2 => ?_⟩
      exact e6 v' h2 t2 p2 fun b o x y z => q2 b o x y (kp b o x z)
theorem min_first {kw : List (Str × Value)} (Wk : Walks prog w A.in1 I fp wr n P St) (bt : Nat → Nat → Bool) {Sd : Addr} (sf : Sd ∉ fp) {Kp : Heap → Prop} (kk : ∀ h h', Kp h → (∀ b o, b ∉ wr → b ≠ Sd → h.get? b = some o → h'.get? b = some o) → Kp h')
    (cm : ∀ i j vi vj (s : Shared) (Q E : Value → Shared → Prop), Kp s.heap → P i vi → P j vj → Q (.bool (bt i j)) s → wpAny (model prog w) A.in1 (richCompare .Lt vi vj) Q E s) (n0 : 0 < n) {s : Shared} {c : Nat} (e3 : St 0 s.heap) (ek : Kp s.heap)
    (e5 : s.heap.get? Sd = some { cls := .type "list", dict := none, data := .seq #[] c, slots := #[] }) (e6 : ∀ v h' tk, P (argBest bt (n - 1)) v → (∀ b o, b ∉ wr → b ≠ Sd → s.heap.get? b = some o → h'.get? b = some o) → R (.ok (.ret v)) { s with heap := h', toks := tk }) :
    codeAny (model prog w) A (.builtin "min.loop" ⟨[.ref I, .none, .ref Sd], kw⟩) R s := by
  have sw : Sd ∉ wr := fun h => sf (Wk.sub _ h)
  have nm : (toString "min" ++ toString ".loop" : String) = "min.loop" := by decide
  apply codeAny_builtin F.entry_min_loop; rw [Around.under_plainId F.plain_min_loop _]
  show wpAny _ A.in1 (seqItems? (.ref Sd) >>= _) _ _ _
  apply wpAny_bind; apply wpAny_seqItems e5 rfl
  show wpAny _ A.in1 (tryCatch (pyNext (.ref I)) _ >>= _) _ _ _
  apply wpAny_bind; apply wpAny_tryCatch
  refine Wk.item 0 s _ _ n0 e3 fun v h' tk pv st kp => ?_
  have e7 := kp Sd _ sw e5
  have k1 : Kp h' := kk _ _ ek fun b o x _ z => kp b o x z
  show wpAny _ A.in1 (updateSeq Sd (fun _ => #[v, v]) >>= _) _ _ _
  apply wpAny_bind; apply wpAny_updateSeq e7 rfl
  rw [nm]
  have k2 : ∀ b o, b ≠ Sd → h'.get? b = some o → (h'.update Sd (Obj.mapSeq fun _ => #[v, v])).get? b = some o := fun b o y z => (Heap.get?_update_other _ _ (Ne.symm y)).trans z
  refine wpAny_pure ⟨plainId_quiet F.plain_min_loop _, min_go Wk bt sf kk cm _ 0 _ v _ rfl n0 (Wk.frame _ _ _ st fun b x o z => k2 b o (fun q => sf (q ▸ x)) z) (kk _ _ k1 fun b o _ y z => k2 b o y z) pv (Heap.get?_update_self _ e7 rfl) fun v' h2 t2 p2 q2 => ?_⟩
  exact e6 v' h2 t2 p2 fun b o x y z => q2 b o x y (k2 b o y (kp b o x z))
theorem min_none {d : Value} {kw : List (Str × Value)} {nm0 : Str} (Wk : Walks prog w A.in1 I fp wr 0 P St) {Sd : Addr} (sf : Sd ∉ fp) {s : Shared} {c : Nat} (e3 : St 0 s.heap)
    (e5 : s.heap.get? Sd = some { cls := .type "list", dict := none, data := .seq #[] c, slots := #[] }) (e6 : ∀ h' tk, (∀ b o, b ∉ wr → b ≠ Sd → s.heap.get? b = some o → h'.get? b = some o) → R (.ok (.ret d)) { s with heap := h', toks := tk }) :
    codeAny (model prog w) A (.builtin "min.loop" ⟨[.ref I, .none, .ref Sd], (nm0, d) :: kw⟩) R s := by
  apply codeAny_builtin F.entry_min_loop; rw [Around.under_plainId F.plain_min_loop _]
  show wpAny _ A.in1 (seqItems? (.ref Sd) >>= _) _ _ _
  apply wpAny_bind; apply wpAny_seqItems e5 rfl
  show wpAny _ A.in1 (tryCatch (pyNext (.ref I)) _ >>= _) _ _ _
  apply wpAny_bind; apply wpAny_tryCatch
  refine Wk.done s _ _ e3 fun h' tk kp => ?_
  show wpAny _ A.in1 (rule _ >>= _) _ _ _
  apply wpAny_bind; apply wpAny_rule; apply wpAny_pure
  exact e6 h' tk fun b o x _ z => kp b o x z
theorem max_go {kw : List (Str × Value)} (Wk : Walks prog w A.in1 I fp wr n P St) (bt : Nat → Nat → Bool) {Sd : Addr} (sf : Sd ∉ fp) {Kp : Heap → Prop} (kk : ∀ h h', Kp h → (∀ b o, b ∉ wr → b ≠ Sd → h.get? b = some o → h'.get? b = some o) → Kp h')
    (cm : ∀ i j vi vj (s : Shared) (Q E : Value → Shared → Prop), Kp s.heap → P i vi → P j vj → Q (.bool (bt i j)) s → wpAny (model prog w) A.in1 (richCompare .Gt vi vj) Q E s) :
    ∀ (k j : Nat) (s : Shared) (vb : Value) (c : Nat), n - (j + 1) = k → j + 1 ≤ n → St (j + 1) s.heap → Kp s.heap → P (argBest bt j) vb → s.heap.get? Sd = some { cls := .type "list", dict := none, data := .seq #[vb, vb] c, slots := #[] } →
    (∀ v h' tk, P (argBest bt (n - 1)) v → (∀ b o, b ∉ wr → b ≠ Sd → s.heap.get? b = some o → h'.get? b = some o) → R (.ok (.ret v)) { s with heap := h', toks := tk }) → codeAny (model prog w) A (.builtin "max.loop" ⟨[.ref I, .none, .ref Sd], kw⟩) R s := by
  have sw : Sd ∉ wr := fun h => sf (Wk.sub _ h)
  have nm : (toString "max" ++ toString ".loop" : String) = "max.loop" := by decide
  intro k
  induction k with
  | zero =>
    intro j s vb c e1 e2 e3 ek e4 e5 e6
    have jn : j + 1 = n := by omega
    apply codeAny_builtin F.entry_max_loop; rw [Around.under_plainId F.plain_max_loop _]
    show wpAny _ A.in1 (seqItems? (.ref Sd) >>= _) _ _ _
    apply wpAny_bind; apply wpAny_seqItems e5 rfl
    show wpAny _ A.in1 (tryCatch (pyNext (.ref I)) _ >>= _) _ _ _
    apply wpAny_bind; apply wpAny_tryCatch
    refine Wk.done s _ _ (jn ▸ e3) fun h' tk kp => ?_
    have e7 := kp Sd _ sw e5
    show wpAny _ A.in1 (updateSeq Sd (fun _ => #[]) >>= _) _ _ _
    apply wpAny_bind; apply wpAny_updateSeq e7 rfl; apply wpAny_bind; apply wpAny_letGo; apply wpAny_pure
    exact e6 vb _ tk (by rw [← jn]; exact e4) fun b o x y z => (Heap.get?_update_other _ _ (Ne.symm y)).trans (kp b o x z)
  | succ k ih =>
    intro j s vb c e1 e2 e3 ek e4 e5 e6
    have jl : j + 1 < n := by omega
    apply codeAny_builtin F.entry_max_loop; rw [Around.under_plainId F.plain_max_loop _]
    show wpAny _ A.in1 (seqItems? (.ref Sd) >>= _) _ _ _
    apply wpAny_bind; apply wpAny_seqItems e5 rfl
    show wpAny _ A.in1 (tryCatch (pyNext (.ref I)) _ >>= _) _ _ _
    apply wpAny_bind; apply wpAny_tryCatch
    refine Wk.item (j + 1) s _ _ jl e3 fun v h' tk pv st kp => ?_
    have e7 := kp Sd _ sw e5
    have k1 : Kp h' := kk _ _ ek fun b o x _ z => kp b o x z
    show wpAny _ A.in1 (tryCatch (holding [v, v] (richCompare .Gt v vb >>= _)) _ >>= _) _ _ _
    apply wpAny_bind; apply wpAny_tryCatch; apply wpAny_holding; apply wpAny_bind
    refine cm (j + 1) (argBest bt j) v vb _ _ _ k1 pv e4 ?_
    apply wpAny_bind; apply wpAny_holding; apply wpAny_truthy_bool; apply wpAny_bind; apply wpAny_letGo; apply wpAny_pure
    cases hb : bt (j + 1) (argBest bt j) with
    | true =>
      simp only [if_true]
      apply wpAny_bind; apply wpAny_updateSeq e7 rfl; apply wpAny_bind; apply wpAny_letGo
      rw [nm]
      have k2 : ∀ b o, b ≠ Sd → h'.get? b = some o → (h'.update Sd (Obj.mapSeq fun _ => #[v, v])).get? b = some o := fun b o y z => (Heap.get?_update_other _ _ (Ne.symm y)).trans z
      refine wpAny_pure ⟨plainId_quiet F.plain_max_loop _, ih (j + 1) _ v _ (by omega) jl (Wk.frame _ _ _ st fun b x o z => k2 b o (fun q => sf (q ▸ x)) z) (kk _ _ k1 fun b o _ y z => k2 b o y z) (by simp only [argBest, hb, if_true]; exact pv) (Heap.get?_update_self _ e7 rfl) fun v' h2 t2 p2 q2 => ?_⟩
      exact e6 v' h2 t2 p2 fun b o x y z => q2 b o x y (k2 b o y (kp b o x z))
    | false =>
      simp only [Bool.false_eq_true, if_false]
      apply wpAny_bind; apply wpAny_letGo
      rw [nm]
      refine wpAny_pure ⟨plainId_quiet F.plain_max_loop _, ih (j + 1) _ vb c (by omega) jl st k1 (by simp only [argBest, hb, Bool.false_eq_true, if_false]; exact e4) e7 fun v' h2 t2 p2 q2 => ?_⟩
      exact e6 v' h2 t2 p2 fun b o x y z => q2 b o x y (kp b o x z)
theorem max_first {kw : List (Str × Value)} (Wk : Walks prog w A.in1 I fp wr n P St) (bt : Nat → Nat → Bool) {Sd : Addr} (sf : Sd ∉ fp) {Kp : Heap → Prop} (kk : ∀ h h', Kp h → (∀ b o, b ∉ wr → b ≠ Sd → h.get? b = some o → h'.get? b = some o) → Kp h')
    (cm : ∀ i j vi vj (s : Shared) (Q E : Value → Shared → Prop), Kp s.heap → P i vi → P j vj → Q (.bool (bt i j)) s → wpAny (model prog w) A.in1 (richCompare .Gt vi vj) Q E s) (n0 : 0 < n) {s : Shared} {c : Nat} (e3 : St 0 s.heap) (ek : Kp s.heap)
    (e5 : s.heap.get? Sd = some { cls := .type "list", dict := none, data := .seq #[] c, slots := #[] }) (e6 : ∀ v h' tk, P (argBest bt (n - 1)) v → (∀ b o, b ∉ wr → b ≠ Sd → s.heap.get? b = some o → h'.get? b = some o) → R (.ok (.ret v)) { s with heap := h', toks := tk }) :
    codeAny (model prog w) A (.builtin "max.loop" ⟨[.ref I, .none, .ref Sd], kw⟩) R s := by
  have sw : Sd ∉ wr := fun h => sf (Wk.sub _ h)
  have nm : (toString "max" ++ toString ".loop" : String) = "max.loop" := by decide
  apply codeAny_builtin F.entry_max_loop; rw [Around.under_plainId F.plain_max_loop _]
  show wpAny _ A.in1 (seqItems? (.ref Sd) >>= _) _ _ _
  apply wpAny_bind; apply wpAny_seqItems e5 rfl
  show wpAny _ A.in1 (tryCatch (pyNext (.ref I)) _ >>= _) _ _ _
  apply wpAny_bind; apply wpAny_tryCatch
  refine Wk.item 0 s _ _ n0 e3 fun v h' tk pv st kp => ?_
  have e7 := kp Sd _ sw e5
  have k1 : Kp h' := kk _ _ ek fun b o x _ z => kp b o x z
  show wpAny _ A.in1 (updateSeq Sd (fun _ => #[v, v]) >>= _) _ _ _
  apply wpAny_bind; apply wpAny_updateSeq e7 rfl
  rw [nm]
  have k2 : ∀ b o, b ≠ Sd → h'.get? b = some o → (h'.update Sd (Obj.mapSeq fun _ => #[v, v])).get? b = some o := fun b o y z => (Heap.get?_update_other _ _ (Ne.symm y)).trans z
  refine wpAny_pure ⟨plainId_quiet F.plain_max_loop _, max_go Wk bt sf kk cm _ 0 _ v _ rfl n0 (Wk.frame _ _ _ st fun b x o z => k2 b o (fun q => sf (q ▸ x)) z) (kk _ _ k1 fun b o _ y z => k2 b o y z) pv (Heap.get?_update_self _ e7 rfl) fun v' h2 t2 p2 q2 => ?_⟩
  exact e6 v' h2 t2 p2 fun b o x y z => q2 b o x y (k2 b o y (kp b o x z))
theorem max_none {d : Value} {kw : List (Str × Value)} {nm0 : Str} (Wk : Walks prog w A.in1 I fp wr 0 P St) {Sd : Addr} (sf : Sd ∉ fp) {s : Shared} {c : Nat} (e3 : St 0 s.heap)
    (e5 : s.heap.get? Sd = some { cls := .type "list", dict := none, data := .seq #[] c, slots := #[] }) (e6 : ∀ h' tk, (∀ b o, b ∉ wr → b ≠ Sd → s.heap.get? b = some o → h'.get? b = some o) → R (.ok (.ret d)) { s with heap := h', toks := tk }) :
    codeAny (model prog w) A (.builtin "max.loop" ⟨[.ref I, .none, .ref Sd], (nm0, d) :: kw⟩) R s := by
  apply codeAny_builtin F.entry_max_loop; rw [Around.under_plainId F.plain_max_loop _]
  show wpAny _ A.in1 (seqItems? (.ref Sd) >>= _) _ _ _
  apply wpAny_bind; apply wpAny_seqItems e5 rfl
  show wpAny _ A.in1 (tryCatch (pyNext (.ref I)) _ >>= _) _ _ _
  apply wpAny_bind; apply wpAny_tryCatch
  refine Wk.done s _ _ e3 fun h' tk kp => ?_
  show wpAny _ A.in1 (rule _ >>= _) _ _ _
  apply wpAny_bind; apply wpAny_rule; apply wpAny_pure
  exact e6 h' tk fun b o x _ z => kp b o x z
end
section
variable {prog : Program} {w : PySem.World} {A : Around} {E : Value → Shared → Prop} {s : Shared}
theorem fn_tree {id : String} {b : Builtin} {as : List Value} {kw : List (Str × Value)} {Q : Value → Shared → Prop} (k0 : builtinKind id = none) (k1 : plainId id = true) (k2 : entryFor table id = some b) (k3 : argsOk id ⟨as, kw⟩)
    (k4 : wpAny (model prog w) A.in1 (b ⟨as, kw⟩) (fun fin s1 => match fin with | .done f => (match (Except.ok f : Result) with | .ok (.ret v) => Q v s1 | .ok _ => False | .error e => E e s1) | .again c => c.quiet = true ∧ codeAny (model prog w) A c (fun r s2 => match r with | .ok (.ret v) => Q v s2 | .ok _ => False | .error e => E e s2) s1) E s) :
    wpAny (model prog w) A (call (.builtin id) as kw) Q E s := by
  apply wpAny_call; apply codeAny_call_builtin k1 k2; simp only [checkBuiltinCall, k0]
  cases sg : Manifest.signature? id with
  | none => exact wpAny_pure k4
  | some g =>
    simp only [argsOk, sg] at k3
    have k5 : Bind.checkArgs id g ⟨as, kw⟩ = pure () := k3
    show wpAny _ A.in1 (Bind.checkArgs id g _) _ _ _; rw [k5]; exact wpAny_pure k4
/-- min of a list's items by keys -/
theorem min_call {kw : List (Str × Value)} {od : Option Value} {l : Addr} {vs : List Value} {bt : Nat → Nat → Bool} {Q : Value → Shared → Prop} (hA : A.handled = none) (hl : s.heap.IsList l vs.toArray) (ha : argsOk "min" ⟨[.ref l], kw⟩) (hb : Builtin.Builtins.bindParams "min" ["key", "default"] 0 ⟨[], kw⟩ = pure [none, od])
    (cm : ∀ i j vi vj (s' : Shared) (Q E : Value → Shared → Prop), (∀ b o, s.heap.get? b = some o → s'.heap.get? b = some o) → vs[i]? = some vi → vs[j]? = some vj → Q (.bool (bt i j)) s' → wpAny (model prog w) A.in1 (richCompare .Lt vi vj) Q E s')
    (q0 : vs = [] → ∃ d, od = some d ∧ ∀ h' tk, (∀ b o, s.heap.get? b = some o → h'.get? b = some o) → Q d { s with heap := h', toks := tk }) (q1 : vs ≠ [] → ∀ v h' tk, vs[argBest bt (vs.length - 1)]? = some v → (∀ b o, s.heap.get? b = some o → h'.get? b = some o) → Q v { s with heap := h', toks := tk }) :
    wpAny (model prog w) A (call (.builtin "min") [.ref l] kw) Q E s := by
  have nm : (toString "min" ++ toString ".loop" : String) = "min.loop" := by decide
  have ll : l < s.heap.objs.size := by obtain ⟨_, e, _⟩ := hl; exact Heap.lt_size e
  refine fn_tree F.kind_min F.plain_min F.entry_min ha ?_
  show wpAny _ A.in1 (Builtin.Builtins.bindParams "min" ["key", "default"] 0 ⟨[], kw⟩ >>= _) _ _ _
  apply wpAny_bind; apply wpAny_of_eq hb
  apply wpAny_bind; apply wpAny_pure
  apply wpAny_bind; refine wpAny_pyIter_list hl ?_
  have li := hl.push { cls := .type "list_iterator", data := .fields #[.ref l, .int 0 0] }
  have it0 : (s.heap.push { cls := .type "list_iterator", data := .fields #[.ref l, .int 0 0] }).IsListIter s.heap.objs.size l 0 := ⟨_, Heap.get?_push_size _ rfl, rfl, rfl⟩
  have Wk := Walks.list (prog := prog) (w := w) (A := A.in1) hA s.heap.objs.size l (Nat.ne_of_lt ll) vs.toArray
  apply wpAny_bind; refine wpAny_newObj_type ?_
  rw [nm]
  have sz1 : (s.heap.push { cls := .type "list_iterator", data := .fields #[.ref l, .int 0 0] }).objs.size = s.heap.objs.size + 1 := Heap.size_push ..
  have sf : (s.heap.push { cls := .type "list_iterator", data := .fields #[.ref l, .int 0 0] }).objs.size ∉ [s.heap.objs.size, l] := by
    rw [sz1]
    intro h
    simp only [List.mem_cons, List.not_mem_nil, or_false] at h
    rcases h with h | h
    · exact absurd h (Nat.succ_ne_self _)
    · rw [← h] at ll; exact absurd ll (Nat.not_lt_of_lt (Nat.lt_succ_self _))
  have up : ∀ b o, s.heap.get? b = some o → ((s.heap.push { cls := .type "list_iterator", data := .fields #[.ref l, .int 0 0] }).push { cls := .type "list", data := .seq #[] }).get? b = some o := fun b o e => Heap.get?_push_of_some _ (Heap.get?_push_of_some _ e)
  have nw : ∀ b o, s.heap.get? b = some o → b ∉ [s.heap.objs.size] ∧ b ≠ (s.heap.push { cls := .type "list_iterator", data := .fields #[.ref l, .int 0 0] }).objs.size := fun b o e => by
    have := Heap.lt_size e
    exact ⟨fun h => Nat.lt_irrefl _ (List.mem_singleton.mp h ▸ this), fun h => by rw [h, sz1] at this; exact absurd this (Nat.not_lt_of_lt (Nat.lt_succ_self _))⟩
  refine wpAny_pure ⟨plainId_quiet F.plain_min_loop _, ?_⟩
  have st0 : ((s.heap.push { cls := .type "list_iterator", data := .fields #[.ref l, .int 0 0] }).push { cls := .type "list", data := .seq #[] }).IsListIter s.heap.objs.size l 0 ∧ ((s.heap.push { cls := .type "list_iterator", data := .fields #[.ref l, .int 0 0] }).push { cls := .type "list", data := .seq #[] }).IsList l vs.toArray := Wk.frame 0 _ _ ⟨it0, li⟩ fun b _ o e => Heap.get?_push_of_some _ e
  by_cases hv : vs = []
  · obtain ⟨d, rfl, qd⟩ := q0 hv
    subst hv
    exact min_none Wk sf st0 (Heap.get?_push_size _ rfl) fun h' tk kp => qd h' tk fun b o e => kp b o (nw b o e).1 (nw b o e).2 (up b o e)
  · refine min_first Wk bt sf (Kp := fun h => ∀ b o, s.heap.get? b = some o → h.get? b = some o) (fun h h' a c b o e => c b o (nw b o e).1 (nw b o e).2 (a b o e)) (fun i j vi vj s' Q' E' a b c d => cm i j vi vj s' Q' E' a (by simpa using b) (by simpa using c) d) (by simpa using List.length_pos_iff.mpr hv) st0 up (Heap.get?_push_size _ rfl) fun v h' tk pv kp => ?_
    exact q1 hv v h' tk (by simpa using pv) fun b o e => kp b o (nw b o e).1 (nw b o e).2 (up b o e)
/-- max of a list's items by keys -/
theorem max_call {kw : List (Str × Value)} {od : Option Value} {l : Addr} {vs : List Value} {bt : Nat → Nat → Bool} {Q : Value → Shared → Prop} (hA : A.handled = none) (hl : s.heap.IsList l vs.toArray) (ha : argsOk "max" ⟨[.ref l], kw⟩) (hb : Builtin.Builtins.bindParams "max" ["key", "default"] 0 ⟨[], kw⟩ = pure [none, od])
    (cm : ∀ i j vi vj (s' : Shared) (Q E : Value → Shared → Prop), (∀ b o, s.heap.get? b = some o → s'.heap.get? b = some o) → vs[i]? = some vi → vs[j]? = some vj → Q (.bool (bt i j)) s' → wpAny (model prog w) A.in1 (richCompare .Gt vi vj) Q E s')
    (q0 : vs = [] → ∃ d, od = some d ∧ ∀ h' tk, (∀ b o, s.heap.get? b = some o → h'.get? b = some o) → Q d { s with heap := h', toks := tk }) (q1 : vs ≠ [] → ∀ v h' tk, vs[argBest bt (vs.length - 1)]? = some v → (∀ b o, s.heap.get? b = some o → h'.get? b = some o) → Q v { s with heap := h', toks := tk }) :
    wpAny (model prog w) A (call (.builtin "max") [.ref l] kw) Q E s := by
  have nm : (toString "max" ++ toString ".loop" : String) = "max.loop" := by decide
  have ll : l < s.heap.objs.size := by obtain ⟨_, e, _⟩ := hl; exact Heap.lt_size e
  refine fn_tree F.kind_max F.plain_max F.entry_max ha ?_
  show wpAny _ A.in1 (Builtin.Builtins.bindParams "max" ["key", "default"] 0 ⟨[], kw⟩ >>= _) _ _ _
  apply wpAny_bind; apply wpAny_of_eq hb
  apply wpAny_bind; apply wpAny_pure
  apply wpAny_bind; refine wpAny_pyIter_list hl ?_
  have li := hl.push { cls := .type "list_iterator", data := .fields #[.ref l, .int 0 0] }
  have it0 : (s.heap.push { cls := .type "list_iterator", data := .fields #[.ref l, .int 0 0] }).IsListIter s.heap.objs.size l 0 := ⟨_, Heap.get?_push_size _ rfl, rfl, rfl⟩
  have Wk := Walks.list (prog := prog) (w := w) (A := A.in1) hA s.heap.objs.size l (Nat.ne_of_lt ll) vs.toArray
  apply wpAny_bind; refine wpAny_newObj_type ?_
  rw [nm]
  have sz1 : (s.heap.push { cls := .type "list_iterator", data := .fields #[.ref l, .int 0 0] }).objs.size = s.heap.objs.size + 1 := Heap.size_push ..
  have sf : (s.heap.push { cls := .type "list_iterator", data := .fields #[.ref l, .int 0 0] }).objs.size ∉ [s.heap.objs.size, l] := by
    rw [sz1]
    intro h
    simp only [List.mem_cons, List.not_mem_nil, or_false] at h
    rcases h with h | h
    · exact absurd h (Nat.succ_ne_self _)
    · rw [← h] at ll; exact absurd ll (Nat.not_lt_of_lt (Nat.lt_succ_self _))
  have up : ∀ b o, s.heap.get? b = some o → ((s.heap.push { cls := .type "list_iterator", data := .fields #[.ref l, .int 0 0] }).push { cls := .type "list", data := .seq #[] }).get? b = some o := fun b o e => Heap.get?_push_of_some _ (Heap.get?_push_of_some _ e)
  have nw : ∀ b o, s.heap.get? b = some o → b ∉ [s.heap.objs.size] ∧ b ≠ (s.heap.push { cls := .type "list_iterator", data := .fields #[.ref l, .int 0 0] }).objs.size := fun b o e => by
    have := Heap.lt_size e
    exact ⟨fun h => Nat.lt_irrefl _ (List.mem_singleton.mp h ▸ this), fun h => by rw [h, sz1] at this; exact absurd this (Nat.not_lt_of_lt (Nat.lt_succ_self _))⟩
  refine wpAny_pure ⟨plainId_quiet F.plain_max_loop _, ?_⟩
  have st0 : ((s.heap.push { cls := .type "list_iterator", data := .fields #[.ref l, .int 0 0] }).push { cls := .type "list", data := .seq #[] }).IsListIter s.heap.objs.size l 0 ∧ ((s.heap.push { cls := .type "list_iterator", data := .fields #[.ref l, .int 0 0] }).push { cls := .type "list", data := .seq #[] }).IsList l vs.toArray := Wk.frame 0 _ _ ⟨it0, li⟩ fun b _ o e => Heap.get?_push_of_some _ e
  by_cases hv : vs = []
  · obtain ⟨d, rfl, qd⟩ := q0 hv
    subst hv
    exact max_none Wk sf st0 (Heap.get?_push_size _ rfl) fun h' tk kp => qd h' tk fun b o e => kp b o (nw b o e).1 (nw b o e).2 (up b o e)
  · refine max_first Wk bt sf (Kp := fun h => ∀ b o, s.heap.get? b = some o → h.get? b = some o) (fun h h' a c b o e => c b o (nw b o e).1 (nw b o e).2 (a b o e)) (fun i j vi vj s' Q' E' a b c d => cm i j vi vj s' Q' E' a (by simpa using b) (by simpa using c) d) (by simpa using List.length_pos_iff.mpr hv) st0 up (Heap.get?_push_size _ rfl) fun v h' tk pv kp => ?_
    exact q1 hv v h' tk (by simpa using pv) fun b o e => kp b o (nw b o e).1 (nw b o e).2 (up b o e)
end
/-! # min, max of ints, min of tuples of ints -/
def KeyV (K : PySem.W.Frag) (H : Hp) (c : Bool) (x : V) (k : List Int) : Prop := if c = true then ∃ i, x = .int i ∧ k = [i] else ∃ t, x = .ref t ∧ SqT K H t (k.map V.int)
def bestMin (ks : List (List Int)) : Nat := argBest (fun i j => HT.lexLt (ks.getD i []) (ks.getD j [])) (ks.length - 1)
def bestMax (ks : List (List Int)) : Nat := argBest (fun i j => HT.lexLt (ks.getD j []) (ks.getD i [])) (ks.length - 1)
def Items (K : PySem.W.Frag) (H : Hp) (c : Bool) (a : Addr) (xs : List V) (ks : List (List Int)) : Prop := SqL K H a xs ∧ xs.length = ks.length ∧ ∀ (i : Nat) x k, xs[i]? = some x → ks[i]? = some k → KeyV K H c x k
def rMnD (K : PySem.W.Frag) : List V → List V → Hp → VK → Prop := fun vs zs H Q => ∃ c a xs ks z, vs = [.ref a] ∧ zs = [z] ∧ Items K H c a xs ks ∧ (xs = [] → Q z H) ∧ (xs ≠ [] → ∀ x, xs[bestMin ks]? = some x → Q x H)
def rMn (K : PySem.W.Frag) : List V → Hp → VK → Prop := fun vs H Q => ∃ c a xs ks, vs = [.ref a] ∧ Items K H c a xs ks ∧ xs ≠ [] ∧ ∀ x, xs[bestMin ks]? = some x → Q x H
def rMxD (K : PySem.W.Frag) : List V → List V → Hp → VK → Prop := fun vs zs H Q => ∃ a xs ks z, vs = [.ref a] ∧ zs = [z] ∧ Items K H true a xs ks ∧ (xs = [] → Q z H) ∧ (xs ≠ [] → ∀ x, xs[bestMax ks]? = some x → Q x H)
def rMx (K : PySem.W.Frag) : List V → Hp → VK → Prop := fun vs H Q => ∃ a xs ks, vs = [.ref a] ∧ Items K H true a xs ks ∧ xs ≠ [] ∧ ∀ x, xs[bestMax ks]? = some x → Q x H
theorem lex1 (i j : Int) : HT.lexLt [i] [j] = decide (i < j) := by
  rw [HT.lexLt_cons]
  by_cases e : i = j
  · rw [if_pos e, e]; simp [HT.lexLt]
  · rw [if_neg e]
section
variable {X : Cx} {pins : List (Addr × Obj)} {s : Shared} {σ : L2.St} {H : Hp}
theorem item_key {c : Bool} {a : Addr} {xs : List V} {ks : List (List Int)} {its : List Value} (hi : Items X.K H c a xs ks) (rv : Vals xs its) {i : Nat} {v : Value} (hv : its[i]? = some v) : ∃ x k, xs[i]? = some x ∧ RelV x v ∧ ks.getD i [] = k ∧ KeyV X.K H c x k := by
  have hl := rv.length
  have h1 := (List.getElem?_eq_some_iff.mp hv).1
  obtain ⟨x, hx, hr⟩ : ∃ x, xs[i]? = some x ∧ RelV x v := by
    clear hi hl h1
    induction rv generalizing i with
    | nil => simp at hv
    | cons a b ih =>
      cases i with
      | zero => cases hv; exact ⟨_, rfl, a⟩
      | succ i => exact ih hv
  have h2 : i < ks.length := by rw [← hi.2.1]; exact (List.getElem?_eq_some_iff.mp hx).1
  exact ⟨x, ks[i], hx, hr, by rw [List.getD_eq_getElem?_getD, List.getElem?_eq_getElem h2]; rfl, hi.2.2 i x _ hx (List.getElem?_eq_getElem h2)⟩
theorem cmp_min {c : Bool} {a : Addr} {xs : List V} {ks : List (List Int)} {its : List Value} (I : Inv X pins σ H s) (hu : X.A.units + 1 < cLine) (hi : Items X.K H c a xs ks) (rv : Vals xs its) :
    ∀ i j vi vj (s' : Shared) (Q E : Value → Shared → Prop), (∀ b o, s.heap.get? b = some o → s'.heap.get? b = some o) → its[i]? = some vi → its[j]? = some vj → Q (.bool (HT.lexLt (ks.getD i []) (ks.getD j []))) s' → wpAny (model X.prog X.w) X.A.in1 (richCompare .Lt vi vj) Q E s' := fun i j vi vj s' Q E kp h1 h2 q => by
  obtain ⟨x, k, e1, r1, g1, k1⟩ := item_key hi rv h1
  obtain ⟨y, l, e2, r2, g2, k2⟩ := item_key hi rv h2
  rw [g1, g2] at q
  unfold KeyV at k1 k2
  cases c with
  | true =>
    rw [if_pos rfl] at k1 k2
    obtain ⟨m, rfl, rfl⟩ := k1
    obtain ⟨n, rfl, rfl⟩ := k2
    obtain ⟨t, rfl⟩ := r1
    obtain ⟨u, rfl⟩ := r2
    rw [lex1] at q
    exact CmpOf.ints_lt (P := fun i v => (i = 0 ∧ v = .int m t) ∨ (i = 1 ∧ v = .int n u)) (fun i => if i = 0 then m else n) (fun i v h => by
      rcases h with ⟨rfl, rfl⟩ | ⟨rfl, rfl⟩
      · exact ⟨t, rfl⟩
      · exact ⟨u, rfl⟩) 0 1 _ _ s' Q E (.inl ⟨rfl, rfl⟩) (.inr ⟨rfl, rfl⟩) q
  | false =>
    rw [if_neg (by decide)] at k1 k2
    obtain ⟨t, rfl, t1⟩ := k1
    obtain ⟨u, rfl, u1⟩ := k2
    cases r1
    cases r2
    obtain ⟨is1, z1, p1, _⟩ := I.tuple t1
    obtain ⟨is2, z2, p2, _⟩ := I.tuple u1
    obtain ⟨o1, a1, b1⟩ := p1
    obtain ⟨o2, a2, b2⟩ := p2
    exact HT.lt_tupInts ⟨o1, kp _ _ a1, b1⟩ ⟨o2, kp _ _ a2, b2⟩ (intsAre_of z1) (intsAre_of z2) (by show X.A.units + 1 < cLine; exact hu) q
theorem cmp_max {a : Addr} {xs : List V} {ks : List (List Int)} {its : List Value} (hi : Items X.K H true a xs ks) (rv : Vals xs its) :
    ∀ i j vi vj (s' : Shared) (Q E : Value → Shared → Prop), (∀ b o, s.heap.get? b = some o → s'.heap.get? b = some o) → its[i]? = some vi → its[j]? = some vj → Q (.bool (HT.lexLt (ks.getD j []) (ks.getD i []))) s' → wpAny (model X.prog X.w) X.A.in1 (richCompare .Gt vi vj) Q E s' := fun i j vi vj s' Q E kp h1 h2 q => by
  obtain ⟨x, k, e1, r1, g1, k1⟩ := item_key hi rv h1
  obtain ⟨y, l, e2, r2, g2, k2⟩ := item_key hi rv h2
  rw [g1, g2] at q
  unfold KeyV at k1 k2
  rw [if_pos rfl] at k1 k2
  obtain ⟨m, rfl, rfl⟩ := k1
  obtain ⟨n, rfl, rfl⟩ := k2
  obtain ⟨t, rfl⟩ := r1
  obtain ⟨u, rfl⟩ := r2
  rw [lex1] at q
  exact CmpOf.ints_gt (P := fun i v => (i = 0 ∧ v = .int m t) ∨ (i = 1 ∧ v = .int n u)) (fun i => if i = 0 then m else n) (fun i v h => by
      rcases h with ⟨rfl, rfl⟩ | ⟨rfl, rfl⟩
      · exact ⟨t, rfl⟩
      · exact ⟨u, rfl⟩) 0 1 _ _ s' Q E (.inl ⟨rfl, rfl⟩) (.inr ⟨rfl, rfl⟩) q
theorem vals_nil {xs : List V} {its : List Value} (rv : Vals xs its) : its = [] ↔ xs = [] := by
  cases rv with
  | nil => simp
  | cons _ _ => simp
theorem vals_at {xs : List V} {its : List Value} (rv : Vals xs its) : ∀ {i : Nat} {v : Value}, its[i]? = some v → ∃ x, xs[i]? = some x ∧ RelV x v := by
  induction rv with
  | nil => intro i v h; simp at h
  | cons a b ih =>
    intro i v h
    cases i with
    | zero => cases h; exact ⟨_, rfl, a⟩
    | succ i => exact ih h
theorem args_minD (a d : Value) : argsOk "min" ⟨[a], [("default", d)]⟩ := by unfold argsOk; kernel_rfl
theorem args_maxD (a d : Value) : argsOk "max" ⟨[a], [("default", d)]⟩ := by unfold argsOk; kernel_rfl
theorem cr_mnD (hc : X.calm = true) (hu : X.A.units + 1 < cLine) : CallRK X (.builtin "min") ["default"] (rMnD X.K) := fun pins s σ H vs zs us ws Q I rv rz ⟨c, a, xs, ks, z, e1, e2, hi, q0, q1⟩ => by
  subst e1 e2
  obtain rfl := Vals.ref1 rv
  obtain ⟨d, rfl, rd⟩ := vals1 rz
  obtain ⟨its, r1, hl, hz⟩ := I.list hi.1
  have ln : its.length = ks.length := by rw [← r1.length]; exact hi.2.1
  refine min_call (od := some d) (I.ok.hd hc) hl.isList (args_minD _ _) rfl (cmp_min I hu hi r1) (fun z => ⟨d, rfl, fun h' tk kp => ⟨_, H, I.kept kp, rd, q0 ((vals_nil r1).mp z)⟩⟩) fun hn v h' tk hv kp => ?_
  rw [ln] at hv
  obtain ⟨x, hx, rx⟩ := vals_at r1 hv
  exact ⟨x, H, I.kept kp, rx, q1 (fun z => hn ((vals_nil r1).mpr z)) x hx⟩
theorem cr_mn (hc : X.calm = true) (hu : X.A.units + 1 < cLine) : CallR X (.builtin "min") (rMn X.K) := fun pins s σ H vs us Q I rv ⟨c, a, xs, ks, e1, hi, hn, q1⟩ => by
  subst e1
  obtain rfl := Vals.ref1 rv
  obtain ⟨its, r1, hl, hz⟩ := I.list hi.1
  have ln : its.length = ks.length := by rw [← r1.length]; exact hi.2.1
  refine min_call (kw := []) (od := none) (I.ok.hd hc) hl.isList (F.args_min1 _) rfl (cmp_min I hu hi r1) (fun z => absurd ((vals_nil r1).mp z) hn) fun _ v h' tk hv kp => ?_
  rw [ln] at hv
  obtain ⟨x, hx, rx⟩ := vals_at r1 hv
  exact ⟨x, H, I.kept kp, rx, q1 x hx⟩
theorem cr_mxD (hc : X.calm = true) : CallRK X (.builtin "max") ["default"] (rMxD X.K) := fun pins s σ H vs zs us ws Q I rv rz ⟨a, xs, ks, z, e1, e2, hi, q0, q1⟩ => by
  subst e1 e2
  obtain rfl := Vals.ref1 rv
  obtain ⟨d, rfl, rd⟩ := vals1 rz
  obtain ⟨its, r1, hl, hz⟩ := I.list hi.1
  have ln : its.length = ks.length := by rw [← r1.length]; exact hi.2.1
  refine max_call (od := some d) (I.ok.hd hc) hl.isList (args_maxD _ _) rfl (cmp_max hi r1) (fun z => ⟨d, rfl, fun h' tk kp => ⟨_, H, I.kept kp, rd, q0 ((vals_nil r1).mp z)⟩⟩) fun hn v h' tk hv kp => ?_
  rw [ln] at hv
  obtain ⟨x, hx, rx⟩ := vals_at r1 hv
  exact ⟨x, H, I.kept kp, rx, q1 (fun z => hn ((vals_nil r1).mpr z)) x hx⟩
theorem cr_mx (hc : X.calm = true) : CallR X (.builtin "max") (rMx X.K) := fun pins s σ H vs us Q I rv ⟨a, xs, ks, e1, hi, hn, q1⟩ => by
  subst e1
  obtain rfl := Vals.ref1 rv
  obtain ⟨its, r1, hl, hz⟩ := I.list hi.1
  have ln : its.length = ks.length := by rw [← r1.length]; exact hi.2.1
  refine max_call (kw := []) (od := none) (I.ok.hd hc) hl.isList (F.args_max1 _) rfl (cmp_max hi r1) (fun z => absurd ((vals_nil r1).mp z) hn) fun _ v h' tk hv kp => ?_
  rw [ln] at hv
  obtain ⟨x, hx, rx⟩ := vals_at r1 hv
  exact ⟨x, H, I.kept kp, rx, q1 x hx⟩
end
/-! # the plain reading: values, places, outcomes -/
inductive Ow where
  | lst (ds : List PyData)
  | dct (kvs : List (Key × PyData))
/-- what a slot holds: settled data; a thing made here, or handed in, that may be written; the script -/
inductive P where
  | d (x : PyData)
  | o (w : Ow)
  | b (w : Ow)
  | z (ns : List Int)
abbrev Env := List (Option P)
/-- what an expression is worth: data, or the thing in a slot -/
inductive X where
  | d (x : PyData)
  | s (i : Nat)
structure Exn where
  cls : Nat
  place : Option Int
deriving DecidableEq
inductive Rs (α : Type) where
  | ok (a : α) (ρ : Env)
  | er (e : Exn) (ρ : Env)
  | no
def Rs.bind {α β : Type} : Rs α → (α → Env → Rs β) → Rs β
  | .ok a ρ, f => f a ρ
  | .er e ρ, _ => .er e ρ
  | .no, _ => .no
@[simp] theorem Rs.bind_ok {α β : Type} (a : α) (ρ : Env) (f : α → Env → Rs β) : (Rs.ok a ρ).bind f = f a ρ := Eq.trans rfl rfl
@[simp] theorem Rs.bind_er {α β : Type} (e : Exn) (ρ : Env) (f : α → Env → Rs β) : (Rs.er e ρ).bind f = .er e ρ := Eq.trans rfl rfl
@[simp] theorem Rs.bind_no {α β : Type} (f : α → Env → Rs β) : (Rs.no : Rs α).bind f = .no := Eq.trans rfl rfl
theorem Rs.bind_left {α β : Type} {x y : Rs α} {f : α → Env → Rs β} (h : x = y) : x.bind f = y.bind f := by rw [h]
theorem obind_left {α β : Type} {x y : Option α} {f : α → Option β} (h : x = y) : x.bind f = y.bind f := by rw [h]
abbrev ME := Env → Rs X
abbrev MT := Env → Rs Bool
abbrev MA := Env → Rs (List X)
abbrev MO := Env → Rs Ow
abbrev MI := Env → Rs (List PyData)
inductive Ft where
  | nx
  | rt (x : X)
  | rw (w : Ow)
  | bk
  | ct
abbrev MS := Env → Rs Ft
abbrev MG := PyData → Env → Option Env
/-- the outcome of a def: data, or a thing that is the caller's own; what was handed in and may be written, as it is behind -/
inductive Rq where
  | ok (x : PyData) (ws : List Ow)
  | fr (w : Ow) (ws : List Ow)
  | er (e : Exn) (ws : List Ow)
  | no
abbrev MF := List P → Rq
/-! ## looking at what a value is worth -/
@[simp] def viewP : P → Option PyData
  | .d x => some x
  | .o (.lst ds) => some (.list ds)
  | .b (.lst ds) => some (.list ds)
  | _ => none
@[simp] def viewZP : P → Option PyData
  | .z ns => some (.list (ns.map .int))
  | p => viewP p
def atE (ρ : Env) (i : Nat) : Option P := (ρ[i]?).join
@[simp] theorem atE_zero (x : Option P) (r : Env) : atE (x :: r) 0 = x := Eq.trans rfl rfl
@[simp] theorem atE_succ (x : Option P) (r : Env) (i : Nat) : atE (x :: r) (i + 1) = atE r i := Eq.trans rfl rfl
@[simp] def view (ρ : Env) : X → Option PyData
  | .d x => some x
  | .s i => (atE ρ i).bind viewP
@[simp] def viewZ (ρ : Env) : X → Option PyData
  | .d x => some x
  | .s i => (atE ρ i).bind viewZP
@[simp] def views (ρ : Env) : List X → Option (List PyData)
  | [] => some []
  | x :: r => (view ρ x).bind fun d => (views ρ r).bind fun ds => some (d :: ds)
@[simp] def datas : List X → Option (List PyData)
  | [] => some []
  | .d x :: r => (datas r).bind fun ds => some (x :: ds)
  | .s _ :: _ => none
@[simp] def plain (ρ : Env) (x : X) : Option PyData := match x with
  | .d x => some x
  | .s _ => none
def retD {α : Type} (o : Option α) (ρ : Env) : Rs α := match o with
  | some a => .ok a ρ
  | none => .no
@[simp] theorem retD_some {α : Type} (a : α) (ρ : Env) : retD (some a) ρ = .ok a ρ := Eq.trans rfl rfl
@[simp] theorem retD_none {α : Type} (ρ : Env) : retD (none : Option α) ρ = .no := Eq.trans rfl rfl
def retX (o : Option PyData) (ρ : Env) : Rs X := match o with
  | some a => .ok (.d a) ρ
  | none => .no
@[simp] theorem retX_some (a : PyData) (ρ : Env) : retX (some a) ρ = .ok (.d a) ρ := Eq.trans rfl rfl
@[simp] theorem retX_none (ρ : Env) : retX none ρ = .no := Eq.trans rfl rfl
/-! ## expressions -/
def mC (x : PyData) : ME := fun ρ => .ok (.d x) ρ
@[simp] theorem mC_eq (x : PyData) (ρ : Env) : mC x ρ = (.ok (.d x) ρ) := by unfold mC; exact Eq.trans rfl rfl
def mVar (i : Nat) : ME := fun ρ => match atE ρ i with
  | some (.d x) => .ok (.d x) ρ
  | some _ => .ok (.s i) ρ
  | none => .no
@[simp] theorem mVar_eq (i : Nat) (ρ : Env) : mVar i ρ = (match atE ρ i with
  | some (.d x) => .ok (.d x) ρ
  | some _ => .ok (.s i) ρ
  | none => .no) := by unfold mVar; exact Eq.trans rfl rfl
def mOp (f : PyData → PyData → Option PyData) (a b : ME) : ME := fun ρ => (a ρ).bind fun x ρ1 => (b ρ1).bind fun y ρ2 => retX ((view ρ2 x).bind fun u => (view ρ2 y).bind fun w => f u w) ρ2
@[simp] theorem mOp_eq (f : PyData → PyData → Option PyData) (a b : ME) (ρ : Env) : mOp f a b ρ = ((a ρ).bind fun x ρ1 => (b ρ1).bind fun y ρ2 => retX ((view ρ2 x).bind fun u => (view ρ2 y).bind fun w => f u w) ρ2) := by unfold mOp; exact Eq.trans rfl rfl
/-- x[i], of the script, too -/
def mOpZ (f : PyData → PyData → Option PyData) (a b : ME) : ME := fun ρ => (a ρ).bind fun x ρ1 => (b ρ1).bind fun y ρ2 => retX ((viewZ ρ2 x).bind fun u => (view ρ2 y).bind fun w => f u w) ρ2
@[simp] theorem mOpZ_eq (f : PyData → PyData → Option PyData) (a b : ME) (ρ : Env) : mOpZ f a b ρ = ((a ρ).bind fun x ρ1 => (b ρ1).bind fun y ρ2 => retX ((viewZ ρ2 x).bind fun u => (view ρ2 y).bind fun w => f u w) ρ2) := by unfold mOpZ; exact Eq.trans rfl rfl
def mUn (f : PyData → Option PyData) (a : ME) : ME := fun ρ => (a ρ).bind fun x ρ1 => retX ((view ρ1 x).bind f) ρ1
@[simp] theorem mUn_eq (f : PyData → Option PyData) (a : ME) (ρ : Env) : mUn f a ρ = ((a ρ).bind fun x ρ1 => retX ((view ρ1 x).bind f) ρ1) := by unfold mUn; exact Eq.trans rfl rfl
@[simp] def toB : PyData → Option Bool
  | .bool b => some b
  | _ => none
def mTest (a : ME) : MT := fun ρ => (a ρ).bind fun x ρ1 => retD ((view ρ1 x).bind toB) ρ1
@[simp] theorem mTest_eq (a : ME) (ρ : Env) : mTest a ρ = ((a ρ).bind fun x ρ1 => retD ((view ρ1 x).bind toB) ρ1) := by unfold mTest; exact Eq.trans rfl rfl
def mYes : MT := fun ρ => .ok true ρ
@[simp] theorem mYes_eq (ρ : Env) : mYes ρ = (.ok true ρ) := by unfold mYes; exact Eq.trans rfl rfl
def mAnd (a b : MT) : MT := fun ρ => (a ρ).bind fun x ρ1 => if x = true then b ρ1 else .ok false ρ1
@[simp] theorem mAnd_eq (a b : MT) (ρ : Env) : mAnd a b ρ = ((a ρ).bind fun x ρ1 => if x = true then b ρ1 else .ok false ρ1) := by unfold mAnd; exact Eq.trans rfl rfl
def mOr (a b : MT) : MT := fun ρ => (a ρ).bind fun x ρ1 => if x = true then .ok true ρ1 else b ρ1
@[simp] theorem mOr_eq (a b : MT) (ρ : Env) : mOr a b ρ = ((a ρ).bind fun x ρ1 => if x = true then .ok true ρ1 else b ρ1) := by unfold mOr; exact Eq.trans rfl rfl
def mNot (a : MT) : MT := fun ρ => (a ρ).bind fun x ρ1 => .ok (!x) ρ1
@[simp] theorem mNot_eq (a : MT) (ρ : Env) : mNot a ρ = ((a ρ).bind fun x ρ1 => .ok (!x) ρ1) := by unfold mNot; exact Eq.trans rfl rfl
def mAndV (a b : ME) : ME := fun ρ => (a ρ).bind fun x ρ1 => (retD ((view ρ1 x).bind toB) ρ1).bind fun c ρ2 => if c = true then b ρ2 else .ok (.d (.bool false)) ρ2
@[simp] theorem mAndV_eq (a b : ME) (ρ : Env) : mAndV a b ρ = ((a ρ).bind fun x ρ1 => (retD ((view ρ1 x).bind toB) ρ1).bind fun c ρ2 => if c = true then b ρ2 else .ok (.d (.bool false)) ρ2) := by unfold mAndV; exact Eq.trans rfl rfl
def mOrV (a b : ME) : ME := fun ρ => (a ρ).bind fun x ρ1 => (retD ((view ρ1 x).bind toB) ρ1).bind fun c ρ2 => if c = true then .ok (.d (.bool true)) ρ2 else b ρ2
@[simp] theorem mOrV_eq (a b : ME) (ρ : Env) : mOrV a b ρ = ((a ρ).bind fun x ρ1 => (retD ((view ρ1 x).bind toB) ρ1).bind fun c ρ2 => if c = true then .ok (.d (.bool true)) ρ2 else b ρ2) := by unfold mOrV; exact Eq.trans rfl rfl
def mNotV (a : ME) : ME := fun ρ => (a ρ).bind fun x ρ1 => (retD ((view ρ1 x).bind toB) ρ1).bind fun c ρ2 => .ok (.d (.bool (!c))) ρ2
@[simp] theorem mNotV_eq (a : ME) (ρ : Env) : mNotV a ρ = ((a ρ).bind fun x ρ1 => (retD ((view ρ1 x).bind toB) ρ1).bind fun c ρ2 => .ok (.d (.bool (!c))) ρ2) := by unfold mNotV; exact Eq.trans rfl rfl
def mIf (t : MT) (a b : ME) : ME := fun ρ => (t ρ).bind fun c ρ1 => if c = true then a ρ1 else b ρ1
@[simp] theorem mIf_eq (t : MT) (a b : ME) (ρ : Env) : mIf t a b ρ = ((t ρ).bind fun c ρ1 => if c = true then a ρ1 else b ρ1) := by unfold mIf; exact Eq.trans rfl rfl
def mChain (f g : PyData → PyData → Option PyData) (a b c : ME) : ME := fun ρ => (a ρ).bind fun x ρ1 => (b ρ1).bind fun y ρ2 =>
  (retD (((view ρ2 x).bind fun u => (view ρ2 y).bind fun w => f u w).bind toB) ρ2).bind fun k ρ3 => if k = true then (c ρ3).bind fun z ρ4 => retX ((view ρ4 y).bind fun u => (view ρ4 z).bind fun w => g u w) ρ4 else .ok (.d (.bool false)) ρ3
@[simp] theorem mChain_eq (f g : PyData → PyData → Option PyData) (a b c : ME) (ρ : Env) : mChain f g a b c ρ = ((a ρ).bind fun x ρ1 => (b ρ1).bind fun y ρ2 =>
  (retD (((view ρ2 x).bind fun u => (view ρ2 y).bind fun w => f u w).bind toB) ρ2).bind fun k ρ3 => if k = true then (c ρ3).bind fun z ρ4 => retX ((view ρ4 y).bind fun u => (view ρ4 z).bind fun w => g u w) ρ4 else .ok (.d (.bool false)) ρ3) := by unfold mChain; exact Eq.trans rfl rfl
def mNil : MA := fun ρ => .ok [] ρ
@[simp] theorem mNil_eq (ρ : Env) : mNil ρ = (.ok [] ρ) := by unfold mNil; exact Eq.trans rfl rfl
def mCons (a : ME) (r : MA) : MA := fun ρ => (a ρ).bind fun x ρ1 => (r ρ1).bind fun xs ρ2 => .ok (x :: xs) ρ2
@[simp] theorem mCons_eq (a : ME) (r : MA) (ρ : Env) : mCons a r ρ = ((a ρ).bind fun x ρ1 => (r ρ1).bind fun xs ρ2 => .ok (x :: xs) ρ2) := by unfold mCons; exact Eq.trans rfl rfl
@[simp] def small (ds : List PyData) : Option (List PyData) := if ds.length ≤ 100000 then some ds else none
def mTup (a : MA) : ME := fun ρ => (a ρ).bind fun xs ρ1 => retX ((datas xs).bind fun ds => (small ds).bind fun ds => some (.tuple ds)) ρ1
@[simp] theorem mTup_eq (a : MA) (ρ : Env) : mTup a ρ = ((a ρ).bind fun xs ρ1 => retX ((datas xs).bind fun ds => (small ds).bind fun ds => some (.tuple ds)) ρ1) := by unfold mTup; exact Eq.trans rfl rfl
def oLst (a : MA) : MO := fun ρ => (a ρ).bind fun xs ρ1 => retD ((datas xs).bind fun ds => (small ds).bind fun ds => some (.lst ds)) ρ1
@[simp] theorem oLst_eq (a : MA) (ρ : Env) : oLst a ρ = ((a ρ).bind fun xs ρ1 => retD ((datas xs).bind fun ds => (small ds).bind fun ds => some (.lst ds)) ρ1) := by unfold oLst; exact Eq.trans rfl rfl
@[simp] def freeze : Ow → Option PyData
  | .lst ds => some (.list ds)
  | .dct _ => none
/-- what was made is settled at once -/
def mFz (a : MO) : ME := fun ρ => (a ρ).bind fun w ρ1 => retX (freeze w) ρ1
@[simp] theorem mFz_eq (a : MO) (ρ : Env) : mFz a ρ = ((a ρ).bind fun w ρ1 => retX (freeze w) ρ1) := by unfold mFz; exact Eq.trans rfl rfl
@[simp] def mLst (a : MA) : ME := mFz (oLst a)
/-- a built-in function of data -/
def mCB (f : List PyData → Option PyData) (a : MA) : ME := fun ρ => (a ρ).bind fun xs ρ1 => retX ((views ρ1 xs).bind f) ρ1
@[simp] theorem mCB_eq (f : List PyData → Option PyData) (a : MA) (ρ : Env) : mCB f a ρ = ((a ρ).bind fun xs ρ1 => retX ((views ρ1 xs).bind f) ρ1) := by unfold mCB; exact Eq.trans rfl rfl
def mSl (f : PyData → Option Int → Option Int → Option PyData) (a : ME) (lo hi : Env → Rs (Option Int)) : ME := fun ρ => (a ρ).bind fun x ρ1 => (lo ρ1).bind fun l ρ2 => (hi ρ2).bind fun h ρ3 => retX ((viewZ ρ3 x).bind fun u => f u l h) ρ3
@[simp] theorem mSl_eq (f : PyData → Option Int → Option Int → Option PyData) (a : ME) (lo hi : Env → Rs (Option Int)) (ρ : Env) : mSl f a lo hi ρ = ((a ρ).bind fun x ρ1 => (lo ρ1).bind fun l ρ2 => (hi ρ2).bind fun h ρ3 => retX ((viewZ ρ3 x).bind fun u => f u l h) ρ3) := by unfold mSl; exact Eq.trans rfl rfl
def mNoPart : Env → Rs (Option Int) := fun ρ => .ok none ρ
@[simp] theorem mNoPart_eq (ρ : Env) : mNoPart ρ = (.ok none ρ) := by unfold mNoPart; exact Eq.trans rfl rfl
@[simp] def toI : PyData → Option (Option Int)
  | .int i => some (some i)
  | _ => none
def mPart (a : ME) : Env → Rs (Option Int) := fun ρ => (a ρ).bind fun x ρ1 => retD ((plain ρ1 x).bind toI) ρ1
@[simp] theorem mPart_eq (a : ME) (ρ : Env) : mPart a ρ = ((a ρ).bind fun x ρ1 => retD ((plain ρ1 x).bind toI) ρ1) := by unfold mPart; exact Eq.trans rfl rfl
/-! ## calls of defs -/
/-- a slot's thing, as handed on -/
@[simp] def lend : P → P
  | .o w => .b w
  | p => p
@[simp] def argOf (ρ : Env) : X → Option P
  | .d x => some (.d x)
  | .s i => (atE ρ i).map lend
@[simp] def argsOf (ρ : Env) : List X → Option (List P)
  | [] => some []
  | x :: r => (argOf ρ x).bind fun p => (argsOf ρ r).bind fun ps => some (p :: ps)
/-- which slots are lent -/
@[simp] def lentX : List X → List Nat
  | [] => []
  | .d _ :: r => lentX r
  | .s i :: r => i :: lentX r
def isLent : P → Bool
  | .b _ => true
  | _ => false
@[simp] def putW : P → Ow → P
  | .o _, w => .o w
  | .b _, w => .b w
  | p, _ => p
/-- the lent slots hold what the callee left there -/
@[simp] def giveBack (ρ : Env) : List Nat → List Ow → Option Env
  | [], [] => some ρ
  | i :: r, w :: ws => match atE ρ i with
    | some (.o _) => giveBack (ρ.set i (some (.o w))) r ws
    | some (.b _) => giveBack (ρ.set i (some (.b w))) r ws
    | _ => none
  | _, _ => none
/-- slots lent that may be written (the script is not) -/
@[simp] def lentB (ρ : Env) (i : Nat) : Bool := match atE ρ i with
  | some (.o _) => true
  | some (.b _) => true
  | _ => false
@[simp] def lent (ρ : Env) : List X → List Nat
  | [] => []
  | .d _ :: r => lent ρ r
  | .s i :: r => if lentB ρ i = true then i :: lent ρ r else lent ρ r
def mCall (f : MF) (a : MA) : ME := fun ρ => (a ρ).bind fun xs ρ1 => match argsOf ρ1 xs with
  | none => .no
  | some ps => if (lent ρ1 xs).Nodup then (match f ps with
    | .ok x ws => (retD (giveBack ρ1 (lent ρ1 xs) ws) ρ1).bind fun ρ2 _ => .ok (.d x) ρ2
    | .fr w ws => (retD (giveBack ρ1 (lent ρ1 xs) ws) ρ1).bind fun ρ2 _ => retX (freeze w) ρ2
    | .er e ws => (retD (giveBack ρ1 (lent ρ1 xs) ws) ρ1).bind fun ρ2 _ => .er e ρ2
    | .no => .no) else .no
@[simp] theorem mCall_eq (f : MF) (a : MA) (ρ : Env) : mCall f a ρ = ((a ρ).bind fun xs ρ1 => match argsOf ρ1 xs with
  | none => .no
  | some ps => if (lent ρ1 xs).Nodup then (match f ps with
    | .ok x ws => (retD (giveBack ρ1 (lent ρ1 xs) ws) ρ1).bind fun ρ2 _ => .ok (.d x) ρ2
    | .fr w ws => (retD (giveBack ρ1 (lent ρ1 xs) ws) ρ1).bind fun ρ2 _ => retX (freeze w) ρ2
    | .er e ws => (retD (giveBack ρ1 (lent ρ1 xs) ws) ρ1).bind fun ρ2 _ => .er e ρ2
    | .no => .no) else .no) := by unfold mCall; exact Eq.trans rfl rfl
/-- .. its result the caller's own -/
def oCall (f : MF) (a : MA) : MO := fun ρ => (a ρ).bind fun xs ρ1 => match argsOf ρ1 xs with
  | none => .no
  | some ps => if (lent ρ1 xs).Nodup then (match f ps with
    | .ok _ _ => .no
    | .fr w ws => (retD (giveBack ρ1 (lent ρ1 xs) ws) ρ1).bind fun ρ2 _ => .ok w ρ2
    | .er e ws => (retD (giveBack ρ1 (lent ρ1 xs) ws) ρ1).bind fun ρ2 _ => .er e ρ2
    | .no => .no) else .no
@[simp] theorem oCall_eq (f : MF) (a : MA) (ρ : Env) : oCall f a ρ = ((a ρ).bind fun xs ρ1 => match argsOf ρ1 xs with
  | none => .no
  | some ps => if (lent ρ1 xs).Nodup then (match f ps with
    | .ok _ _ => .no
    | .fr w ws => (retD (giveBack ρ1 (lent ρ1 xs) ws) ρ1).bind fun ρ2 _ => .ok w ρ2
    | .er e ws => (retD (giveBack ρ1 (lent ρ1 xs) ws) ρ1).bind fun ρ2 _ => .er e ρ2
    | .no => .no) else .no) := by unfold oCall; exact Eq.trans rfl rfl
/-! ## what is walked -/
@[simp] def itemsD : PyData → Option (List PyData)
  | .list ds => some ds
  | .tuple ds => some ds
  | .str x => some (chrD x)
  | _ => none
def jSeq (a : ME) : MI := fun ρ => (a ρ).bind fun x ρ1 => retD ((plain ρ1 x).bind itemsD) ρ1
@[simp] theorem jSeq_eq (a : ME) (ρ : Env) : jSeq a ρ = ((a ρ).bind fun x ρ1 => retD ((plain ρ1 x).bind itemsD) ρ1) := by unfold jSeq; exact Eq.trans rfl rfl
def grd {α : Type} (c : Bool) (x : α) : Option α := match c with
  | true => some x
  | false => none
@[simp] theorem grd_true {α : Type} (x : α) : grd true x = some x := Eq.trans rfl rfl
theorem grd_some {α : Type} {c : Bool} {x y : α} (h : grd c x = some y) : c = true ∧ y = x := by
  cases c with
  | true => cases h; exact ⟨rfl, rfl⟩
  | false => cases h
/-- (told so that nothing is reckoned of a letter) -/
def rngOk : Int → Bool
  | .ofNat n => Nat.ble n 4611686018427387903
  | .negSucc n => Nat.ble n 4611686018427387903
theorem rngOk_iff {i : Int} : rngOk i = true ↔ -4611686018427387904 ≤ i ∧ i < 4611686018427387904 := by
  cases i with
  | ofNat n =>
    show Nat.ble n 4611686018427387903 = true ↔ _
    rw [Nat.ble_eq]
    have e : Int.ofNat n = (n : Int) := rfl
    rw [e]; omega
  | negSucc n =>
    show Nat.ble n 4611686018427387903 = true ↔ _
    rw [Nat.ble_eq, Int.negSucc_eq]; omega
@[simp] def rng1 : List PyData → Option (List PyData)
  | [.int n] => grd (rngOk n) (rngD 0 n.toNat)
  | _ => none
@[simp] def rng2 : List PyData → Option (List PyData)
  | [.int m, .int n] => grd (rngOk m && rngOk n) (rngD m (n - m).toNat)
  | _ => none
@[simp] def zip2 : List PyData → Option (List PyData)
  | [.list as, .list bs] => some (zipD as bs)
  | [.tuple as, .tuple bs] => some (zipD as bs)
  | _ => none
@[simp] def enum1 : List PyData → Option (List PyData)
  | [.list ds] => some (enumD ds)
  | _ => none
def jArgs (f : List PyData → Option (List PyData)) (a : MA) : MI := fun ρ => (a ρ).bind fun xs ρ1 => retD ((datas xs).bind f) ρ1
@[simp] theorem jArgs_eq (f : List PyData → Option (List PyData)) (a : MA) (ρ : Env) : jArgs f a ρ = ((a ρ).bind fun xs ρ1 => retD ((datas xs).bind f) ρ1) := by unfold jArgs; exact Eq.trans rfl rfl
/-- targets -/
@[simp] def gN (i : Nat) : MG := fun x ρ => some (ρ.set i (some (.d x)))
@[simp] def gL : List MG → List PyData → Env → Option Env
  | [], [], ρ => some ρ
  | g :: gs, x :: xs, ρ => (g x ρ).bind fun ρ1 => gL gs xs ρ1
  | _, _, _ => none
@[simp] def gT (gs : List MG) : MG := fun x ρ => match x with
  | .tuple xs => gL gs xs ρ
  | _ => none
/-! ## comprehensions -/
@[simp] def wipeE (ρ : Env) : List Nat → Env
  | [] => ρ
  | v :: vs => (wipeE ρ vs).set v none
def lcL (g : MG) (tt : MT) (te : ME) (vs : List Nat) : List PyData → List PyData → Env → Rs (List PyData)
  | [], acc, ρ => .ok acc ρ
  | x :: r, acc, ρ => (retD (g x (wipeE ρ vs)) ρ).bind fun ρ1 _ => match tt ρ1 with
    | .ok true ρ2 => (match te ρ2 with
      | .ok (.d y) ρ3 => if acc.length < 100000 then lcL g tt te vs r (acc ++ [y]) (wipeE ρ3 vs) else .no
      | _ => .no)
    | .ok false ρ2 => lcL g tt te vs r acc (wipeE ρ2 vs)
    | _ => .no
def oLc (it : MI) (g : MG) (tt : MT) (te : ME) (vs : List Nat) : MO := fun ρ => (it ρ).bind fun ds ρ1 => (lcL g tt te vs ds [] (wipeE ρ1 vs)).bind fun acc ρ2 => .ok (.lst acc) ρ2
@[simp] theorem oLc_eq (it : MI) (g : MG) (tt : MT) (te : ME) (vs : List Nat) (ρ : Env) : oLc it g tt te vs ρ = ((it ρ).bind fun ds ρ1 => (lcL g tt te vs ds [] (wipeE ρ1 vs)).bind fun acc ρ2 => .ok (.lst acc) ρ2) := by unfold oLc; exact Eq.trans rfl rfl
@[simp] def mLc (it : MI) (g : MG) (tt : MT) (te : ME) (vs : List Nat) : ME := mFz (oLc it g tt te vs)
/-! ## statements -/
def mNext : MS := fun ρ => .ok .nx ρ
@[simp] theorem mNext_eq (ρ : Env) : mNext ρ = (.ok .nx ρ) := by unfold mNext; exact Eq.trans rfl rfl
def Rs.seqK : Rs Ft → MS → Rs Ft
  | .ok .nx ρ1, b => b ρ1
  | r, _ => r
@[simp] theorem seqK_nx (b : MS) (ρ : Env) : (Rs.ok Ft.nx ρ).seqK b = b ρ := Eq.trans rfl rfl
@[simp] theorem seqK_rt (b : MS) (ρ : Env) (x : X) : (Rs.ok (Ft.rt x) ρ).seqK b = .ok (.rt x) ρ := Eq.trans rfl rfl
@[simp] theorem seqK_rw (b : MS) (ρ : Env) (x : Ow) : (Rs.ok (Ft.rw x) ρ).seqK b = .ok (.rw x) ρ := Eq.trans rfl rfl
@[simp] theorem seqK_bk (b : MS) (ρ : Env) : (Rs.ok Ft.bk ρ).seqK b = .ok .bk ρ := Eq.trans rfl rfl
@[simp] theorem seqK_ct (b : MS) (ρ : Env) : (Rs.ok Ft.ct ρ).seqK b = .ok .ct ρ := Eq.trans rfl rfl
@[simp] theorem seqK_er (b : MS) (ρ : Env) (e : Exn) : (Rs.er e ρ : Rs Ft).seqK b = .er e ρ := Eq.trans rfl rfl
@[simp] theorem seqK_no (b : MS) : (Rs.no : Rs Ft).seqK b = .no := Eq.trans rfl rfl
theorem seqK_left {x y : Rs Ft} {b : MS} (h : x = y) : x.seqK b = y.seqK b := by rw [h]
def mSeq (a b : MS) : MS := fun ρ => (a ρ).seqK b
@[simp] theorem mSeq_eq (a b : MS) (ρ : Env) : mSeq a b ρ = ((a ρ).seqK b) := by unfold mSeq; exact Eq.trans rfl rfl
@[simp] def mNever : MS := fun _ => .no
def mBreak : MS := fun ρ => .ok .bk ρ
@[simp] theorem mBreak_eq (ρ : Env) : mBreak ρ = (.ok .bk ρ) := by unfold mBreak; exact Eq.trans rfl rfl
def mCont : MS := fun ρ => .ok .ct ρ
@[simp] theorem mCont_eq (ρ : Env) : mCont ρ = (.ok .ct ρ) := by unfold mCont; exact Eq.trans rfl rfl
def mAsg (a : ME) (g : MG) : MS := fun ρ => (a ρ).bind fun x ρ1 => (retD ((plain ρ1 x).bind fun u => g u ρ1) ρ1).bind fun ρ2 _ => .ok .nx ρ2
@[simp] theorem mAsg_eq (a : ME) (g : MG) (ρ : Env) : mAsg a g ρ = ((a ρ).bind fun x ρ1 => (retD ((plain ρ1 x).bind fun u => g u ρ1) ρ1).bind fun ρ2 _ => .ok .nx ρ2) := by unfold mAsg; exact Eq.trans rfl rfl
/-- x = e, a thing of one's own -/
def mAsgO (a : MO) (i : Nat) : MS := fun ρ => (a ρ).bind fun w ρ1 => .ok .nx (ρ1.set i (some (.o w)))
@[simp] theorem mAsgO_eq (a : MO) (i : Nat) (ρ : Env) : mAsgO a i ρ = ((a ρ).bind fun w ρ1 => .ok .nx (ρ1.set i (some (.o w)))) := by unfold mAsgO; exact Eq.trans rfl rfl
def oDct0 : MO := fun ρ => .ok (.dct []) ρ
@[simp] theorem oDct0_eq (ρ : Env) : oDct0 ρ = (.ok (.dct []) ρ) := by unfold oDct0; exact Eq.trans rfl rfl
def mDrop (a : ME) : MS := fun ρ => (a ρ).bind fun _ ρ1 => .ok .nx ρ1
@[simp] theorem mDrop_eq (a : ME) (ρ : Env) : mDrop a ρ = ((a ρ).bind fun _ ρ1 => .ok .nx ρ1) := by unfold mDrop; exact Eq.trans rfl rfl
def mRet (a : ME) : MS := fun ρ => (a ρ).bind fun x ρ1 => .ok (.rt x) ρ1
@[simp] theorem mRet_eq (a : ME) (ρ : Env) : mRet a ρ = ((a ρ).bind fun x ρ1 => .ok (.rt x) ρ1) := by unfold mRet; exact Eq.trans rfl rfl
/-- return e, a thing that is the caller's -/
def mRetO (a : MO) : MS := fun ρ => (a ρ).bind fun w ρ1 => .ok (.rw w) ρ1
@[simp] theorem mRetO_eq (a : MO) (ρ : Env) : mRetO a ρ = ((a ρ).bind fun w ρ1 => .ok (.rw w) ρ1) := by unfold mRetO; exact Eq.trans rfl rfl
def mRetN : MS := fun ρ => .ok (.rt (.d .none)) ρ
@[simp] theorem mRetN_eq (ρ : Env) : mRetN ρ = (.ok (.rt (.d .none)) ρ) := by unfold mRetN; exact Eq.trans rfl rfl
def mIfS (t : MT) (a b : MS) : MS := fun ρ => (t ρ).bind fun c ρ1 => if c = true then a ρ1 else b ρ1
@[simp] theorem mIfS_eq (t : MT) (a b : MS) (ρ : Env) : mIfS t a b ρ = ((t ρ).bind fun c ρ1 => if c = true then a ρ1 else b ρ1) := by unfold mIfS; exact Eq.trans rfl rfl
def mRaise (c : Nat) : MS := fun ρ => .er ⟨c, none⟩ ρ
@[simp] theorem mRaise_eq (c : Nat) (ρ : Env) : mRaise c ρ = (.er ⟨c, none⟩ ρ) := by unfold mRaise; exact Eq.trans rfl rfl
/-- a slot's thing is settled -/
def mFrz (i : Nat) : MS := fun ρ => match atE ρ i with
  | some (.o (.lst ds)) => .ok .nx (ρ.set i (some (.d (.list ds))))
  | some (.d _) => .ok .nx ρ
  | _ => .no
@[simp] theorem mFrz_eq (i : Nat) (ρ : Env) : mFrz i ρ = (match atE ρ i with
  | some (.o (.lst ds)) => .ok .nx (ρ.set i (some (.d (.list ds))))
  | some (.d _) => .ok .nx ρ
  | _ => .no) := by unfold mFrz; exact Eq.trans rfl rfl
/-- behind a turn: the next one, or the end -/
def turnK (k : Env → Rs Ft) (ks : List Nat) : Rs Ft → Rs Ft
  | .ok .nx ρ => k (wipeE ρ ks)
  | .ok .ct ρ => k (wipeE ρ ks)
  | .ok .bk ρ => .ok .nx (wipeE ρ ks)
  | .ok (.rt x) ρ => .ok (.rt x) ρ
  | .ok (.rw w) ρ => .ok (.rw w) ρ
  | .er e ρ => .er e ρ
  | .no => .no
@[simp] theorem turnK_rw (k : Env → Rs Ft) (ks : List Nat) (ρ : Env) (w : Ow) : turnK k ks (.ok (.rw w) ρ) = .ok (.rw w) ρ := Eq.trans rfl rfl
@[simp] theorem turnK_nx (k : Env → Rs Ft) (ks : List Nat) (ρ : Env) : turnK k ks (.ok .nx ρ) = k (wipeE ρ ks) := Eq.trans rfl rfl
@[simp] theorem turnK_ct (k : Env → Rs Ft) (ks : List Nat) (ρ : Env) : turnK k ks (.ok .ct ρ) = k (wipeE ρ ks) := Eq.trans rfl rfl
@[simp] theorem turnK_bk (k : Env → Rs Ft) (ks : List Nat) (ρ : Env) : turnK k ks (.ok .bk ρ) = .ok .nx (wipeE ρ ks) := Eq.trans rfl rfl
@[simp] theorem turnK_rt (k : Env → Rs Ft) (ks : List Nat) (ρ : Env) (x : X) : turnK k ks (.ok (.rt x) ρ) = .ok (.rt x) ρ := Eq.trans rfl rfl
@[simp] theorem turnK_er (k : Env → Rs Ft) (ks : List Nat) (ρ : Env) (e : Exn) : turnK k ks (.er e ρ) = .er e ρ := Eq.trans rfl rfl
theorem turnK_left {k : Env → Rs Ft} {ks : List Nat} {x y : Rs Ft} (h : x = y) : turnK k ks x = turnK k ks y := by rw [h]
def forL (g : MG) (tb : MS) (ks : List Nat) : List PyData → Env → Rs Ft
  | [], ρ => .ok .nx ρ
  | x :: r, ρ => match g x ρ with
    | none => .no
    | some ρ1 => turnK (fun ρ2 => forL g tb ks r ρ2) ks (tb ρ1)
theorem forL_nil (g : MG) (tb : MS) (ks : List Nat) (ρ : Env) : forL g tb ks [] ρ = .ok .nx ρ := rfl
theorem forL_cons {g : MG} {tb : MS} {ks : List Nat} {x : PyData} {r : List PyData} {ρ ρ1 : Env} (h : g x ρ = some ρ1) : forL g tb ks (x :: r) ρ = turnK (forL g tb ks r) ks (tb ρ1) := by
  show (match g x ρ with | none => _ | some ρ1 => _) = _
  rw [h]
/-- ks: names that are no more asked of behind a turn -/
def mFor (it : MI) (g : MG) (ks : List Nat) (tb : MS) : MS := fun ρ => (it ρ).bind fun ds ρ1 => forL g tb ks ds ρ1
@[simp] theorem mFor_eq (it : MI) (g : MG) (ks : List Nat) (tb : MS) (ρ : Env) : mFor it g ks tb ρ = ((it ρ).bind fun ds ρ1 => forL g tb ks ds ρ1) := by unfold mFor; exact Eq.trans rfl rfl
def whileN (t : MT) (ks : List Nat) (tb : MS) : Nat → Env → Rs Ft
  | 0, _ => .no
  | n + 1, ρ => (t ρ).bind fun b ρ1 => if b = true then turnK (fun ρ2 => whileN t ks tb n ρ2) ks (tb ρ1) else .ok .nx ρ1
@[simp] def mWhile (n : Nat) (t : MT) (ks : List Nat) (tb : MS) : MS := whileN t ks tb n
/-! ## things that are written -/
@[simp] def lstAt (ρ : Env) (i : Nat) : Option (List PyData) := match atE ρ i with
  | some (.o (.lst ds)) => some ds
  | some (.b (.lst ds)) => some ds
  | _ => none
@[simp] def dctAt (ρ : Env) (i : Nat) : Option (List (Key × PyData)) := match atE ρ i with
  | some (.o (.dct kvs)) => some kvs
  | some (.b (.dct kvs)) => some kvs
  | _ => none
@[simp] def putAt (ρ : Env) (i : Nat) (w : Ow) : Env := match atE ρ i with
  | some p => ρ.set i (some (putW p w))
  | none => ρ
/-- xs.append(e) -/
def mApp (i : Nat) (a : ME) : ME := fun ρ => match lstAt ρ i with
  | none => .no
  | some _ => (a ρ).bind fun x ρ1 => match plain ρ1 x, lstAt ρ1 i with
    | some u, some ds => if ds.length < 100000 then .ok (.d .none) (putAt ρ1 i (.lst (ds ++ [u]))) else .no
    | _, _ => .no
/-- xs[i] = e -/
@[simp] def setI (ds : List PyData) (k : PyData) (u : PyData) : Option (List PyData) := match k with
  | .int j => (ixN ds.length j).bind fun n => some (ds.set n u)
  | _ => none
def mSetI (i : Nat) (k : ME) (a : ME) : MS := fun ρ => (a ρ).bind fun x ρ1 => match lstAt ρ1 i with
  | none => .no
  | some _ => (k ρ1).bind fun y ρ2 => match plain ρ2 x, plain ρ2 y, lstAt ρ2 i with
    | some u, some j, some ds => (retD (setI ds j u) ρ2).bind fun es _ => .ok .nx (putAt ρ2 i (.lst es))
    | _, _, _ => .no
@[simp] theorem mSetI_eq (i : Nat) (k : ME) (a : ME) (ρ : Env) : mSetI i k a ρ = ((a ρ).bind fun x ρ1 => match lstAt ρ1 i with
  | none => .no
  | some _ => (k ρ1).bind fun y ρ2 => match plain ρ2 x, plain ρ2 y, lstAt ρ2 i with
    | some u, some j, some ds => (retD (setI ds j u) ρ2).bind fun es _ => .ok .nx (putAt ρ2 i (.lst es))
    | _, _, _ => .no) := by unfold mSetI; exact Eq.trans rfl rfl
/-! ## a def -/
@[simp] def finals : List P → Env → Option (List Ow)
  | [], _ => some []
  | .b _ :: ps, some (.b w) :: ρ => (finals ps ρ).bind fun ws => some (w :: ws)
  | .b _ :: _, _ => none
  | _ :: ps, _ :: ρ => finals ps ρ
  | _ :: _, [] => none
def endQ (ps : List P) : Rs Ft → Rq
  | .ok .nx ρ => (match finals ps ρ with | some ws => .ok .none ws | none => .no)
  | .ok (.rt (.d x)) ρ => (match finals ps ρ with | some ws => .ok x ws | none => .no)
  | .ok (.rt (.s i)) ρ => (match atE ρ i, finals ps ρ with | some (.o w), some ws => .fr w ws | _, _ => .no)
  | .ok (.rw w) ρ => (match finals ps ρ with | some ws => .fr w ws | none => .no)
  | .er e ρ => (match finals ps ρ with | some ws => .er e ws | none => .no)
  | _ => .no
@[simp] theorem endQ_nx (ps : List P) (ρ : Env) : endQ ps (.ok .nx ρ) = (match finals ps ρ with | some ws => .ok .none ws | none => .no) := Eq.trans rfl rfl
@[simp] theorem endQ_d (ps : List P) (ρ : Env) (x : PyData) : endQ ps (.ok (.rt (.d x)) ρ) = (match finals ps ρ with | some ws => .ok x ws | none => .no) := Eq.trans rfl rfl
@[simp] theorem endQ_s (ps : List P) (ρ : Env) (i : Nat) : endQ ps (.ok (.rt (.s i)) ρ) = (match atE ρ i, finals ps ρ with | some (.o w), some ws => .fr w ws | _, _ => .no) := Eq.trans rfl rfl
@[simp] theorem endQ_w (ps : List P) (ρ : Env) (w : Ow) : endQ ps (.ok (.rw w) ρ) = (match finals ps ρ with | some ws => .fr w ws | none => .no) := Eq.trans rfl rfl
@[simp] theorem endQ_er (ps : List P) (ρ : Env) (e : Exn) : endQ ps (.er e ρ) = (match finals ps ρ with | some ws => .er e ws | none => .no) := Eq.trans rfl rfl
@[simp] theorem endQ_bk (ps : List P) (ρ : Env) : endQ ps (.ok .bk ρ) = .no := Eq.trans rfl rfl
@[simp] theorem endQ_no (ps : List P) : endQ ps .no = .no := Eq.trans rfl rfl
def mDef (n m : Nat) (body : MS) : MF := fun ps => if ps.length = n then endQ ps (body (ps.map some ++ List.replicate m none)) else .no
@[simp] theorem mDef_eq (n m : Nat) (body : MS) (ps : List P) : mDef n m body ps = (if ps.length = n then endQ ps (body (ps.map some ++ List.replicate m none)) else .no) := by unfold mDef; exact Eq.trans rfl rfl
/-! # what ties the plain reading to slots and heap -/
inductive DaK (K : PySem.W.Frag) (G : Hp) : List (Key × V) → List (Key × PyData) → Prop
  | nil : DaK K G [] []
  | cons {k : Key} {v : V} {d : PyData} {vs : List (Key × V)} {ds : List (Key × PyData)} (h : Da K G v d) (r : DaK K G vs ds) : DaK K G ((k, v) :: vs) ((k, d) :: ds)
theorem DaK.mono {K : PySem.W.Frag} {G G' : Hp} (e : Ex G G') : ∀ {vs : List (Key × V)} {ds : List (Key × PyData)}, DaK K G vs ds → DaK K G' vs ds
  | _, _, .nil => .nil
  | _, _, .cons h r => .cons (h.mono e) (DaK.mono e r)
def RO (K : PySem.W.Frag) (G : Hp) : Ow → HO → Prop
  | .lst ds, .lst xs => DaL K G xs ds
  | .dct kvs, .dK kws => DaK K G kws kvs
  | _, _ => False
theorem RO.mono {K : PySem.W.Frag} {G G' : Hp} (e : Ex G G') {w : Ow} {o : HO} (h : RO K G w o) : RO K G' w o := by
  cases w <;> cases o <;> first | exact DaL.mono e h | exact DaK.mono e h | exact h
def ownE (ρ : Env) (i : Nat) : Prop := ∃ w, atE ρ i = some (.o w) ∨ atE ρ i = some (.b w)
structure Rel (K : PySem.W.Frag) (W : Ent) (bs : Nat → Option Addr) (F : Mem) (ρ : Env) (σ : L2.St) (G : Hp) (M : Mem) : Prop where
  len : ρ.length ≤ σ.length
  dat : ∀ i x, atE ρ i = some (.d x) → ∃ v, σ[i]? = some (some v) ∧ Da K G v x
  scr : ∀ i ns, atE ρ i = some (.z ns) → ∃ a, σ[i]? = some (some (.ref a)) ∧ SqL K G a (ns.map V.int)
  own : ∀ i w, atE ρ i = some (.o w) → ∃ p o, σ[i]? = some (some (.ref p)) ∧ (p, o) ∈ M ∧ RO K G w o ∧ W.H0 p = none
  bor : ∀ i w, atE ρ i = some (.b w) → ∃ p o, σ[i]? = some (some (.ref p)) ∧ (p, o) ∈ M ∧ RO K G w o ∧ bs i = some p
  one : ∀ i j p, ownE ρ i → ownE ρ j → σ[i]? = some (some (.ref p)) → σ[j]? = some (some (.ref p)) → i = j
  frm : ∀ p o, (p, o) ∈ F → (p, o) ∈ M ∧ ∀ i, ownE ρ i → σ[i]? ≠ some (some (.ref p))
section
variable {K : PySem.W.Frag} {W : Ent} {bs : Nat → Option Addr} {F : Mem} {ρ ρ' : Env} {σ : L2.St} {G G' H H' : Hp} {M M' : Mem} {p : Addr} {o o' : HO} {i j : Nat}
theorem atE_set (ρ : Env) (i j : Nat) (x : Option P) : atE (ρ.set i x) j = if i = j ∧ i < ρ.length then x else atE ρ j := by
  unfold atE
  rw [List.getElem?_set]
  by_cases h : i = j
  · subst h
    rw [if_pos rfl]
    by_cases h2 : i < ρ.length
    · rw [if_pos h2, if_pos ⟨rfl, h2⟩]; rfl
    · rw [if_neg h2, if_neg (fun z => h2 z.2), List.getElem?_eq_none (by omega)]
  · rw [if_neg h, if_neg (fun z => h z.1)]
theorem atE_lt {q : P} (h : atE ρ i = some q) : i < ρ.length := by
  unfold atE at h
  cases e : ρ[i]? with
  | none => rw [e] at h; cases h
  | some x => exact (List.getElem?_eq_some_iff.mp e).1
theorem set_get {α : Type} {σ : List α} {i j : Nat} {v : α} (h : j < σ.length) : (σ.set i v)[j]? = if i = j then some v else σ[j]? := by
  rw [List.getElem?_set]
  by_cases e : i = j
  · subst e; rw [if_pos rfl, if_pos rfl, if_pos h]
  · rw [if_neg e, if_neg e]
theorem Rel.mono (r : Rel K W bs F ρ σ G M) (e : Ex G G') (s : ∀ p o, (p, o) ∈ M → (p, o) ∈ M') : Rel K W bs F ρ σ G' M' where
  len := r.len
  dat := fun i x h => let ⟨v, a, b⟩ := r.dat i x h; ⟨v, a, b.mono e⟩
  scr := fun i x h => let ⟨v, a, b⟩ := r.scr i x h; ⟨v, a, ex_l e b⟩
  own := fun i w h => let ⟨p, o, a, b, c, d⟩ := r.own i w h; ⟨p, o, a, s p o b, c.mono e, d⟩
  bor := fun i w h => let ⟨p, o, a, b, c, d⟩ := r.bor i w h; ⟨p, o, a, s p o b, c.mono e, d⟩
  one := r.one
  frm := fun p o h => ⟨s p o (r.frm p o h).1, (r.frm p o h).2⟩
theorem Rel.ex (r : Rel K W bs F ρ σ G M) (e : Ex G G') : Rel K W bs F ρ σ G' M := r.mono e fun _ _ h => h
theorem Rel.lessF {F' : Mem} (r : Rel K W bs F ρ σ G M) (s : ∀ p o, (p, o) ∈ F' → (p, o) ∈ F) : Rel K W bs F' ρ σ G M := { r with frm := fun p o h => r.frm p o (s p o h) }
theorem Rel.tail {a : Addr × HO} (r : Rel K W bs (a :: F) ρ σ G M) : Rel K W bs F ρ σ G M := r.lessF fun _ _ h => List.mem_cons_of_mem _ h
theorem ownE_set {x : Option P} (h : ownE (ρ.set i x) j) : (i = j ∧ (∃ w, x = some (.o w) ∨ x = some (.b w))) ∨ (¬ (i = j ∧ i < ρ.length) ∧ ownE ρ j) := by
  obtain ⟨w, h⟩ := h
  rw [atE_set] at h
  by_cases c : i = j ∧ i < ρ.length
  · rw [if_pos c] at h; exact .inl ⟨c.1, w, h⟩
  · rw [if_neg c] at h; exact .inr ⟨c, w, h⟩
/-- a slot is forgotten, or holds data -/
theorem Rel.setN (r : Rel K W bs F ρ σ G M) (i : Nat) (v : Option V) : Rel K W bs F (ρ.set i none) (σ.set i v) G M := by
  have low : ∀ {j q}, atE (ρ.set i none) j = some q → atE ρ j = some q ∧ i ≠ j := fun {j q} h => by
    rw [atE_set] at h
    by_cases c : i = j ∧ i < ρ.length
    · rw [if_pos c] at h; cases h
    · rw [if_neg c] at h
      exact ⟨h, fun e => c ⟨e, by rw [e]; exact atE_lt h⟩⟩
  have oth : ∀ {j}, i ≠ j → (σ.set i v)[j]? = σ[j]? := fun {j} h => List.getElem?_set_ne h
  have lowO : ∀ {j}, ownE (ρ.set i none) j → ownE ρ j ∧ i ≠ j := fun {j} ⟨w, h⟩ => by
    rcases h with h | h
    · exact ⟨⟨w, .inl (low h).1⟩, (low h).2⟩
    · exact ⟨⟨w, .inr (low h).1⟩, (low h).2⟩
  refine ⟨by rw [List.length_set, List.length_set]; exact r.len, fun j x h => ?_, fun j x h => ?_, fun j x h => ?_, fun j x h => ?_, fun j k p h1 h2 h3 h4 => ?_, fun p o h => ⟨(r.frm p o h).1, fun j hj => ?_⟩⟩
  · rw [oth (low h).2]; exact r.dat j x (low h).1
  · rw [oth (low h).2]; exact r.scr j x (low h).1
  · rw [oth (low h).2]; exact r.own j x (low h).1
  · rw [oth (low h).2]; exact r.bor j x (low h).1
  · rw [oth (lowO h1).2] at h3
    rw [oth (lowO h2).2] at h4
    exact r.one j k p (lowO h1).1 (lowO h2).1 h3 h4
  · rw [oth (lowO hj).2]; exact (r.frm p o h).2 j (lowO hj).1
theorem set_self {α : Type} : ∀ (l : List α) (i : Nat) (x : α), l[i]? = some x → l.set i x = l
  | [], _, _, h => by cases h
  | a :: r, 0, x, h => by cases h; rfl
  | a :: r, i + 1, x, h => by rw [List.set_cons_succ, set_self r i x h]
theorem Rel.forget (r : Rel K W bs F ρ σ G M) (i : Nat) : Rel K W bs F (ρ.set i none) σ G M := by
  cases e : σ[i]? with
  | none =>
    have h1 : σ.length ≤ i := List.getElem?_eq_none_iff.mp e
    have := r.len
    rw [List.set_eq_of_length_le (by omega)]
    exact r
  | some v =>
    have q := r.setN i v
    rw [set_self σ i v e] at q
    exact q
theorem Rel.setD {v : V} {x : PyData} (r : Rel K W bs F ρ σ G M) (i : Nat) (h : Da K G v x) : Rel K W bs F (ρ.set i (some (.d x))) (σ.set i (some v)) G M := by
  have q := r.setN i (some v)
  have at' : ∀ j, atE (ρ.set i (some (.d x))) j = if i = j ∧ i < ρ.length then some (.d x) else atE (ρ.set i none) j := fun j => by
    rw [atE_set, atE_set]
    by_cases c : i = j ∧ i < ρ.length
    · rw [if_pos c, if_pos c]
    · rw [if_neg c, if_neg c, if_neg c]
  have no : ∀ {j}, ownE (ρ.set i (some (.d x))) j → ownE (ρ.set i none) j := fun {j} ⟨w, h⟩ => by
    rw [at'] at h
    by_cases c : i = j ∧ i < ρ.length
    · rw [if_pos c] at h; rcases h with h | h <;> cases h
    · rw [if_neg c] at h; exact ⟨w, h⟩
  refine ⟨by rw [List.length_set, List.length_set]; exact r.len, fun j y h => ?_, fun j y h => ?_, fun j y h => ?_, fun j y h => ?_, fun j k p h1 h2 => q.one j k p (no h1) (no h2), fun p o h => ⟨(q.frm p o h).1, fun j hj => (q.frm p o h).2 j (no hj)⟩⟩
  · rw [at'] at h
    by_cases c : i = j ∧ i < ρ.length
    · rw [if_pos c] at h
      cases h
      obtain ⟨rfl, c2⟩ := c
      exact ⟨v, by rw [set_get (Nat.lt_of_lt_of_le c2 r.len), if_pos rfl], by assumption⟩
    · rw [if_neg c] at h; exact q.dat j y h
  · rw [at'] at h
    by_cases c : i = j ∧ i < ρ.length
    · rw [if_pos c] at h; cases h
    · rw [if_neg c] at h; exact q.scr j y h
  · rw [at'] at h
    by_cases c : i = j ∧ i < ρ.length
    · rw [if_pos c] at h; cases h
    · rw [if_neg c] at h; exact q.own j y h
  · rw [at'] at h
    by_cases c : i = j ∧ i < ρ.length
    · rw [if_pos c] at h; cases h
    · rw [if_neg c] at h; exact q.bor j y h
/-- a slot gets a thing that may be written; nobody else holds it -/
theorem Rel.setP {w : Ow} {q : P} (r : Rel K W bs F (ρ.set i none) σ G M) (hs : σ[i]? = some (some (.ref p))) (hm : (p, o) ∈ M) (hr : RO K G w o) (hk : (q = .o w ∧ W.H0 p = none) ∨ (q = .b w ∧ bs i = some p))
    (h1 : ∀ j, ownE (ρ.set i none) j → σ[j]? ≠ some (some (.ref p))) (hF : ∀ u, (p, u) ∉ F) : Rel K W bs F (ρ.set i (some q)) σ G M := by
  have at' : ∀ j, atE (ρ.set i (some q)) j = if i = j ∧ i < ρ.length then some q else atE (ρ.set i none) j := fun j => by
    rw [atE_set, atE_set]
    by_cases c : i = j ∧ i < ρ.length
    · rw [if_pos c, if_pos c]
    · rw [if_neg c, if_neg c, if_neg c]
  have no : ∀ {j}, ownE (ρ.set i (some q)) j → j = i ∨ ownE (ρ.set i none) j := fun {j} ⟨w', h⟩ => by
    rw [at'] at h
    by_cases c : i = j ∧ i < ρ.length
    · exact .inl c.1.symm
    · rw [if_neg c] at h; exact .inr ⟨w', h⟩
  have l0 := r.len
  refine ⟨by rw [List.length_set] at l0 ⊢; exact l0, fun j y h => ?_, fun j y h => ?_, fun j y h => ?_, fun j y h => ?_, fun j k a ha hb hc hd => ?_, fun a u h => ⟨(r.frm a u h).1, fun j hj e => ?_⟩⟩
  · rw [at'] at h
    by_cases c : i = j ∧ i < ρ.length
    · rw [if_pos c] at h; rcases hk with ⟨rfl, _⟩ | ⟨rfl, _⟩ <;> cases h
    · rw [if_neg c] at h; exact r.dat j y h
  · rw [at'] at h
    by_cases c : i = j ∧ i < ρ.length
    · rw [if_pos c] at h; rcases hk with ⟨rfl, _⟩ | ⟨rfl, _⟩ <;> cases h
    · rw [if_neg c] at h; exact r.scr j y h
  · rw [at'] at h
    by_cases c : i = j ∧ i < ρ.length
    · rw [if_pos c] at h
      obtain ⟨rfl, _⟩ := c
      rcases hk with ⟨rfl, h0⟩ | ⟨rfl, _⟩
      · cases h; exact ⟨p, o, hs, hm, hr, h0⟩
      · cases h
    · rw [if_neg c] at h; exact r.own j y h
  · rw [at'] at h
    by_cases c : i = j ∧ i < ρ.length
    · rw [if_pos c] at h
      obtain ⟨rfl, _⟩ := c
      rcases hk with ⟨rfl, _⟩ | ⟨rfl, h0⟩
      · cases h
      · cases h; exact ⟨p, o, hs, hm, hr, h0⟩
    · rw [if_neg c] at h; exact r.bor j y h
  · rcases no ha with rfl | ha
    · rcases no hb with rfl | hb
      · rfl
      · rw [hs] at hc; cases hc; exact absurd hd (h1 k hb)
    · rcases no hb with rfl | hb
      · rw [hs] at hd; cases hd; exact absurd hc (h1 j ha)
      · exact r.one j k a ha hb hc hd
  · rcases no hj with rfl | hj
    · rw [hs] at e; cases e; exact hF u h
    · exact (r.frm a u h).2 j hj e
/-- the objects as a heap has them -/
def fresh (M : Mem) (H : Hp) : Mem := M.map fun e => (e.1, (H e.1).getD e.2)
theorem fresh_keys : (fresh M H).map Prod.fst = M.map Prod.fst := by unfold fresh; rw [List.map_map]; rfl
theorem mem_fresh (h : (p, o) ∈ M) (e : H p = some o') : (p, o') ∈ fresh M H := List.mem_map.mpr ⟨(p, o), h, by show (p, (H p).getD o) = _; rw [e]; rfl⟩
theorem of_fresh (h : (p, o) ∈ fresh M H) : ∃ u, (p, u) ∈ M ∧ o = (H p).getD u := by
  obtain ⟨⟨q, u⟩, h1, h2⟩ := List.mem_map.mp h
  cases h2
  exact ⟨u, h1, rfl⟩
theorem World.callG {A : List Addr} (w : World W G M H) (hA : ∀ p ∈ A, ∃ o, (p, o) ∈ M) (g : Grow A G H G' H') : World W G' (fresh M H') H' := by
  refine ⟨⟨w.gr.gg.trans g.gg, g.gh, fun a u z n => ?_, fun a z n => g.fg a (w.gr.dm a z) (w.gr.fg a z n), fun a z => g.dm a (w.gr.dm a z)⟩, fun q u hq => ?_, fun q u hq => ?_, by rw [fresh_keys]; exact w.nd, fun q u hq => ?_⟩
  · refine g.fr a u (w.gr.fr a u z n) fun e => ?_
    obtain ⟨o, ho⟩ := hA a e
    rcases w.fm a o ho with x | x
    · exact n x
    · rw [z] at x; cases x
  · obtain ⟨u', h1, rfl⟩ := of_fresh hq
    have : H' q ≠ none := g.dm q (by rw [w.own q u' h1]; exact fun z => nomatch z)
    cases e : H' q with
    | none => exact absurd e this
    | some x => rfl
  · obtain ⟨u', h1, rfl⟩ := of_fresh hq
    exact g.fg q (by rw [w.own q u' h1]; exact fun z => nomatch z) (w.sep q u' h1)
  · obtain ⟨u', h1, rfl⟩ := of_fresh hq
    exact w.fm q u' h1
theorem nd_key {M : Mem} (nd : (M.map Prod.fst).Nodup) {p : Addr} {o u : HO} (h1 : (p, o) ∈ M) (h2 : (p, u) ∈ M) : o = u := by
  obtain ⟨i, hi⟩ := List.mem_iff_getElem?.mp h1
  obtain ⟨j, hj⟩ := List.mem_iff_getElem?.mp h2
  have := nodup_at nd hi hj
  subst this
  rw [hi] at hj; cases hj; rfl
/-- behind a call that wrote at A: where no slot is of A -/
theorem Rel.callG {A : List Addr} (r : Rel K W bs F ρ σ G M) (w : World W G M H) (g : Grow A G H G' H') (hA : ∀ i p, ownE ρ i → σ[i]? = some (some (.ref p)) → p ∉ A) (hF : ∀ p o, (p, o) ∈ F → p ∉ A) : Rel K W bs F ρ σ G' (fresh M H') where
  len := r.len
  dat := fun i x h => let ⟨v, a, b⟩ := r.dat i x h; ⟨v, a, b.mono g.gg⟩
  scr := fun i x h => let ⟨v, a, b⟩ := r.scr i x h; ⟨v, a, ex_l g.gg b⟩
  own := fun i x h => by
    obtain ⟨p, o, a, b, c, d⟩ := r.own i x h
    exact ⟨p, o, a, mem_fresh b (g.fr p o (w.own p o b) (hA i p ⟨x, .inl h⟩ a)), c.mono g.gg, d⟩
  bor := fun i x h => by
    obtain ⟨p, o, a, b, c, d⟩ := r.bor i x h
    exact ⟨p, o, a, mem_fresh b (g.fr p o (w.own p o b) (hA i p ⟨x, .inr h⟩ a)), c.mono g.gg, d⟩
  one := r.one
  frm := fun p o h => ⟨mem_fresh (r.frm p o h).1 (g.fr p o (w.own p o (r.frm p o h).1) (hF p o h)), (r.frm p o h).2⟩
theorem Rel.slot (r : Rel K W bs F ρ σ G M) (h : ownE ρ i) : ∃ p o, σ[i]? = some (some (.ref p)) ∧ (p, o) ∈ M := by
  obtain ⟨w, h | h⟩ := h
  · obtain ⟨p, o, a, b, _⟩ := r.own i w h; exact ⟨p, o, a, b⟩
  · obtain ⟨p, o, a, b, _⟩ := r.bor i w h; exact ⟨p, o, a, b⟩
/-- writing at p alone -/
theorem Grow.one {o u : HO} (e : Ex G H) (h : H p = some u) (hg : G p = none) : Grow [p] G H G (upd H p o) :=
  ⟨Ex.refl G, fun a z q => by rw [upd_ne (ne_of_none q hg)]; exact e a z q, fun a z q n => by rw [upd_ne (by simpa using n)]; exact q, fun _ _ h => h, fun a q => by
    by_cases x : a = p
    · rw [x, upd_same]; exact fun z => nomatch z
    · rw [upd_ne x]; exact q⟩
theorem ownE_none (r : Rel K W bs F ρ σ G M) (hi : ownE ρ i) (hs : σ[i]? = some (some (.ref p))) : (∀ j, ownE (ρ.set i none) j → σ[j]? ≠ some (some (.ref p))) ∧ ∀ u, (p, u) ∉ F := by
  refine ⟨fun j hj e => ?_, fun u h => (r.frm p u h).2 i hi hs⟩
  rcases ownE_set hj with ⟨_, w, h | h⟩ | ⟨h1, h2⟩
  · cases h
  · cases h
  · have := r.one i j p hi h2 hs e
    obtain ⟨w, h⟩ := hi
    exact h1 ⟨this, by rcases h with h | h <;> exact atE_lt h⟩
theorem putAt_eq {q : P} {w : Ow} (h : atE ρ i = some q) : putAt ρ i w = ρ.set i (some (putW q w)) := by unfold putAt; rw [h]
/-- a slot's thing is written -/
theorem Rel.write {w : Ow} (r : Rel K W bs F ρ σ G M) (wd : World W G M H) (hi : ownE ρ i) (hs : σ[i]? = some (some (.ref p))) (hr : RO K G w o') : World W G (fresh M (upd H p o')) (upd H p o') ∧ Rel K W bs F (putAt ρ i w) σ G (fresh M (upd H p o')) := by
  obtain ⟨p', o, hs', hm⟩ := r.slot hi
  rw [hs] at hs'; cases hs'
  have g : Grow [p] G H G (upd H p o') := Grow.one wd.gh (wd.own p o hm) (wd.sep p o hm)
  obtain ⟨n1, n2⟩ := ownE_none r hi hs
  have w1 := wd.callG (A := [p]) (fun q hq => by rw [List.mem_singleton.mp hq]; exact ⟨o, hm⟩) g
  refine ⟨w1, ?_⟩
  have r0 := (r.forget i).callG wd g (fun j q hj e z => n1 j hj (by rw [List.mem_singleton.mp z] at e; exact e)) (fun q u hq z => n2 u (by rw [← List.mem_singleton.mp z]; exact hq))
  obtain ⟨x, h | h⟩ := hi
  · rw [putAt_eq h]
    obtain ⟨p2, o2, a, _, _, d⟩ := r.own i x h
    rw [hs] at a; cases a
    exact r0.setP hs (mem_fresh hm upd_same) hr (.inl ⟨rfl, d⟩) n1 n2
  · rw [putAt_eq h]
    obtain ⟨p2, o2, a, _, _, d⟩ := r.bor i x h
    rw [hs] at a; cases a
    exact r0.setP hs (mem_fresh hm upd_same) hr (.inr ⟨rfl, d⟩) n1 n2
/-- what is held apart is written -/
theorem Rel.writeF (r : Rel K W bs ((p, o) :: F) ρ σ G M) (wd : World W G M H) (hF : ∀ u, (p, u) ∉ F) : World W G (fresh M (upd H p o')) (upd H p o') ∧ Rel K W bs ((p, o') :: F) ρ σ G (fresh M (upd H p o')) := by
  obtain ⟨hm, hn⟩ := r.frm p o List.mem_cons_self
  have g : Grow [p] G H G (upd H p o') := Grow.one wd.gh (wd.own p o hm) (wd.sep p o hm)
  refine ⟨wd.callG (A := [p]) (fun q hq => by rw [List.mem_singleton.mp hq]; exact ⟨o, hm⟩) g, ?_⟩
  have r1 := r.tail.callG wd g (fun j q hj e z => hn j hj (by rw [List.mem_singleton.mp z] at e; exact e)) (fun q u hq z => hF u (by rw [← List.mem_singleton.mp z]; exact hq))
  refine { r1 with frm := fun q u h => ?_ }
  rcases List.mem_cons.mp h with e | e
  · cases e; exact ⟨mem_fresh hm upd_same, hn⟩
  · exact r1.frm q u e
/-- what is held apart is settled -/
theorem Rel.settleF (r : Rel K W bs ((p, o) :: F) ρ σ G M) (wd : World W G M H) (h0 : W.H0 p = none) (hF : ∀ u, (p, u) ∉ F) : ∃ M', World W (upd G p o) M' H ∧ Rel K W bs F ρ σ (upd G p o) M' := by
  obtain ⟨hm, hn⟩ := r.frm p o List.mem_cons_self
  obtain ⟨k, hk⟩ := List.mem_iff_getElem?.mp hm
  have e : Ex G (upd G p o) := Ex.new (wd.sep p o hm)
  have keep : ∀ q u, (q, u) ∈ M → q ≠ p → (q, u) ∈ M.eraseIdx k := fun q u h ne => by
    obtain ⟨j, hj⟩ := List.mem_iff_getElem?.mp h
    have : j ≠ k := fun z => by subst z; rw [hk] at hj; cases hj; exact ne rfl
    rcases Nat.lt_or_gt_of_ne this with z | z
    · exact List.mem_iff_getElem?.mpr ⟨j, by rw [List.getElem?_eraseIdx_of_lt z]; exact hj⟩
    · exact List.mem_iff_getElem?.mpr ⟨j - 1, by rw [List.getElem?_eraseIdx_of_ge (by omega), Nat.sub_add_cancel (by omega)]; exact hj⟩
  refine ⟨_, wd.settle hk h0, r.len, fun i x h => ?_, fun i x h => ?_, fun i x h => ?_, fun i x h => ?_, r.one, fun q u h => ⟨?_, (r.tail.frm q u h).2⟩⟩
  · obtain ⟨v, a, b⟩ := r.dat i x h; exact ⟨v, a, b.mono e⟩
  · obtain ⟨v, a, b⟩ := r.scr i x h; exact ⟨v, a, ex_l e b⟩
  · obtain ⟨q, u, a, b, c, d⟩ := r.own i x h
    exact ⟨q, u, a, keep q u b (fun z => hn i ⟨x, .inl h⟩ (by rw [a, z])), c.mono e, d⟩
  · obtain ⟨q, u, a, b, c, d⟩ := r.bor i x h
    exact ⟨q, u, a, keep q u b (fun z => hn i ⟨x, .inr h⟩ (by rw [a, z])), c.mono e, d⟩
  · exact keep q u (r.tail.frm q u h).1 (fun z => hF u (by rw [← z]; exact h))
/-- a new thing, held apart -/
theorem Rel.newF (r : Rel K W bs F ρ σ G M) (wd : World W G M H) (n : H p = none) : World W G ((p, o) :: M) (upd H p o) ∧ Rel K W bs ((p, o) :: F) ρ σ G ((p, o) :: M) ∧ W.H0 p = none ∧ ∀ u, (p, u) ∉ F := by
  have no : ∀ u, (p, u) ∉ M := fun u h => by rw [wd.own p u h] at n; cases n
  refine ⟨wd.new n, { r.mono (Ex.refl G) (fun q u h => List.mem_cons_of_mem _ h) with frm := fun q u h => ?_ }, wd.new0 n, fun u h => no u (r.frm p u h).1⟩
  rcases List.mem_cons.mp h with e | e
  · cases e
    refine ⟨List.mem_cons_self, fun i hi z => ?_⟩
    obtain ⟨q, u, a, b⟩ := r.slot hi
    rw [z] at a; cases a
    exact no u b
  · exact ⟨List.mem_cons_of_mem _ (r.frm q u e).1, (r.frm q u e).2⟩
/-- growing without writing -/
theorem World.growM (wd : World W G M H) (g : Grow [] G H G' H') : World W G' M H' := wd.grow g
end
def Er.at (Z : Er) (n : Nat) : Addr := (Z.kinds[n]?).getD Z.TownError
def PlR (pl : Option Int) (od : Option Addr) (G : Hp) : Prop := match pl with
  | none => od = none
  | some n => ∃ p, od = some p ∧ G p = some (.xd [("place", .int n)])
def RX (K : PySem.W.Frag) (σ : L2.St) (G : Hp) : X → V → Prop
  | .d x, v => Da K G v x
  | .s i, v => σ[i]? = some (some v)
theorem RX.mono {K : PySem.W.Frag} {σ : L2.St} {G G' : Hp} (e : Ex G G') {x : X} {v : V} (h : RX K σ G x v) : RX K σ G' x v := by
  cases x with
  | d x => exact Da.mono e h
  | s i => exact h
inductive RXs (K : PySem.W.Frag) (σ : L2.St) (G : Hp) : List X → List V → Prop
  | nil : RXs K σ G [] []
  | cons {x : X} {v : V} {xs : List X} {vs : List V} (h : RX K σ G x v) (r : RXs K σ G xs vs) : RXs K σ G (x :: xs) (v :: vs)
theorem RXs.mono {K : PySem.W.Frag} {σ : L2.St} {G G' : Hp} (e : Ex G G') : ∀ {xs : List X} {vs : List V}, RXs K σ G xs vs → RXs K σ G' xs vs
  | _, _, .nil => .nil
  | _, _, .cons h r => .cons (h.mono e) (RXs.mono e r)
/-- what is to follow an outcome -/
def Post {α β : Type} (K : PySem.W.Frag) (Z : Er) (W : Ent) (bs : Nat → Option Addr) (F : Mem) (E : L2.St → XK) (σ : L2.St) (G : Hp) (R : Hp → α → β → Prop) (r : Rs α) (Q : β → Hp → Prop) : Prop := match r with
  | .ok a ρ' => ∀ v G' M' H', Ex G G' → Rel K W bs F ρ' σ G' M' → World W G' M' H' → R G' a v → Q v H'
  | .er e ρ' => ∀ od G' M' H', Ex G G' → Rel K W bs F ρ' σ G' M' → World W G' M' H' → PlR e.place od G' → E σ (.ref (Z.at e.cls)) od H'
  | .no => False
abbrev Rd2 (α β : Type) := L2.St → Hp → α → β → Prop
def Rf {α β : Type} (K : PySem.W.Frag) (Z : Er) (E : L2.St → XK) (R : Rd2 α β) (te : L2.St → Hp → (β → Hp → Prop) → Prop) (me : Env → Rs α) : Prop :=
  ∀ W bs F ρ σ G M H Q, Rel K W bs F ρ σ G M → World W G M H → Post K Z W bs F E σ G (R σ) (me ρ) Q → te σ H Q
abbrev rX (K : PySem.W.Frag) : Rd2 X V := fun σ G x v => RX K σ G x v
abbrev rXs (K : PySem.W.Frag) : Rd2 (List X) (List V) := fun σ G x v => RXs K σ G x v
abbrev rQ {α : Type} : Rd2 α α := fun _ _ a b => a = b
abbrev RfE (K : PySem.W.Frag) (Z : Er) (E : L2.St → XK) (te : TE) (me : ME) : Prop := Rf K Z E (rX K) te me
abbrev RfT (K : PySem.W.Frag) (Z : Er) (E : L2.St → XK) (te : TT) (me : MT) : Prop := Rf K Z E rQ te me
abbrev RfA (K : PySem.W.Frag) (Z : Er) (E : L2.St → XK) (te : TA) (me : MA) : Prop := Rf K Z E (rXs K) te me
abbrev RfP (K : PySem.W.Frag) (Z : Er) (E : L2.St → XK) (te : TO) (me : Env → Rs (Option Int)) : Prop := Rf K Z E rQ te me
section
variable {K : PySem.W.Frag} {Z : Er} {W : Ent} {bs : Nat → Option Addr} {F : Mem} {E : L2.St → XK} {ρ : Env} {σ : L2.St} {G G' H : Hp} {M : Mem}
theorem Post.mono {α β : Type} {R : Hp → α → β → Prop} {r : Rs α} {Q : β → Hp → Prop} (e : Ex G G') (h : Post K Z W bs F E σ G R r Q) : Post K Z W bs F E σ G' R r Q := by
  cases r with
  | ok a ρ => exact fun v G' M' H' x => h v G' M' H' (e.trans x)
  | er x ρ => exact fun od G' M' H' x => h od G' M' H' (e.trans x)
  | no => exact h
theorem Rf.use {α β γ δ : Type} {R : Rd2 α β} {R' : Hp → γ → δ → Prop} {te : L2.St → Hp → (β → Hp → Prop) → Prop} {me : Env → Rs α} {f : α → Env → Rs γ} {Q : δ → Hp → Prop} {Q' : β → Hp → Prop} (h : Rf K Z E R te me) (r : Rel K W bs F ρ σ G M) (w : World W G M H)
    (hp : Post K Z W bs F E σ G R' ((me ρ).bind f) Q) (k : ∀ a ρ' x G' M' H', Ex G G' → Rel K W bs F ρ' σ G' M' → World W G' M' H' → R σ G' a x → Post K Z W bs F E σ G' R' (f a ρ') Q → Q' x H') : te σ H Q' := by
  refine h W bs F ρ σ G M H Q' r w ?_
  cases e : me ρ with
  | ok a ρ' =>
    rw [e] at hp
    exact fun v G' M' H' x r' w' ra => k a ρ' v G' M' H' x r' w' ra (hp.mono x)
  | er x ρ' => rw [e] at hp; exact hp
  | no => rw [e] at hp; exact hp
theorem Post.at {α β : Type} {R : Hp → α → β → Prop} {Q : β → Hp → Prop} {a : α} {v : β} {ρ : Env} (h : Post K Z W bs F E σ G R (.ok a ρ) Q) (r : Rel K W bs F ρ σ G M) (w : World W G M H) (ra : R G a v) : Q v H := h v G M H (Ex.refl G) r w ra
theorem Post.val {Q : VK} {x : X} {ρ : Env} (v : V) (h : Post K Z W bs F E σ G (rX K σ) (.ok x ρ) Q) (r : Rel K W bs F ρ σ G M) (w : World W G M H) (ra : RX K σ G x v) : Q v H := h v G M H (Ex.refl G) r w ra
/-! ## what a value is seen as -/
def Vw (K : PySem.W.Frag) (G H : Hp) (v : V) (x : PyData) : Prop := Da K G v x ∨ ∃ a xs ds, v = .ref a ∧ x = .list ds ∧ H a = some (.lst xs) ∧ DaL K G xs ds
def VwZ (K : PySem.W.Frag) (G H : Hp) (v : V) (x : PyData) : Prop := Vw K G H v x ∨ ∃ a xs ds, v = .ref a ∧ x = .list ds ∧ SqL K H a xs ∧ DaL K G xs ds
theorem Vw.list {v : V} {ds : List PyData} (h : Vw K G H v (.list ds)) (e : Ex G H) : ∃ a xs, v = .ref a ∧ H a = some (.lst xs) ∧ DaL K G xs ds := by
  rcases h with h | ⟨a, xs, es, h1, h2, h3, h4⟩
  · cases h with
    | lst h r => exact ⟨_, _, rfl, e _ _ h, r⟩
  · cases h2; exact ⟨a, xs, h1, h3, h4⟩
theorem VwZ.list {v : V} {ds : List PyData} (h : VwZ K G H v (.list ds)) (e : Ex G H) : ∃ a xs, v = .ref a ∧ SqL K H a xs ∧ DaL K G xs ds := by
  rcases h with h | ⟨a, xs, es, h1, h2, h3, h4⟩
  · obtain ⟨a, xs, h1, h2, h3⟩ := h.list e
    exact ⟨a, xs, h1, SqL.of h2, h3⟩
  · cases h2; exact ⟨a, xs, h1, h3, h4⟩
theorem Vw.tuple {v : V} {ds : List PyData} (h : Vw K G H v (.tuple ds)) (e : Ex G H) : ∃ a xs, v = .ref a ∧ SqT K G a xs ∧ DaL K G xs ds := by
  rcases h with h | ⟨a, xs, es, h1, h2, h3, h4⟩
  · cases h with
    | tup h r => exact ⟨_, _, rfl, h, r⟩
  · cases h2
theorem Vw.int {v : V} {i : Int} (h : Vw K G H v (.int i)) : v = .int i := by
  rcases h with h | ⟨a, xs, es, h1, h2, h3, h4⟩
  · exact h.int_eq
  · cases h2
theorem Vw.bool {v : V} {i : Bool} (h : Vw K G H v (.bool i)) : v = .bl i := by
  rcases h with h | ⟨a, xs, es, h1, h2, h3, h4⟩
  · exact h.bl_eq
  · cases h2
theorem Vw.str {v : V} {i : Str} (h : Vw K G H v (.str i)) : v = .str i := by
  rcases h with h | ⟨a, xs, es, h1, h2, h3, h4⟩
  · exact h.str_eq
  · cases h2
theorem Vw.none {v : V} (h : Vw K G H v .none) : v = .non := by
  rcases h with h | ⟨a, xs, es, h1, h2, h3, h4⟩
  · exact h.non_eq
  · cases h2
theorem Vw.dp {v : V} {x : PyData} (h : Vw K G H v x) (e : Ex G H) : Dp K H v x := by
  rcases h with h | ⟨a, xs, es, rfl, rfl, h3, h4⟩
  · exact (h.mono e).dp
  · exact .lst (SqL.of h3) (h4.mono e).dp
theorem Vw.nod {v : V} {x : PyData} (h : Vw K G H v x) : noDict x = true := by
  rcases h with h | ⟨a, xs, es, rfl, rfl, h3, h4⟩
  · exact h.nod
  · rfl
theorem VwZ.of {v : V} {x : PyData} (h : Vw K G H v x) : VwZ K G H v x := .inl h
theorem VwZ.any {v : V} {x : PyData} (h : VwZ K G H v x) (nl : ∀ ds, x ≠ .list ds) : Da K G v x := by
  rcases h with (h | ⟨a, xs, es, h1, h2, h3, h4⟩) | ⟨a, xs, es, h1, h2, h3, h4⟩
  · exact h
  · exact absurd h2 (nl _)
  · exact absurd h2 (nl _)
theorem rel_view {x : X} {v : V} {u : PyData} (r : Rel K W bs F ρ σ G M) (w : World W G M H) (hx : RX K σ G x v) (h : view ρ x = some u) : Vw K G H v u := by
  cases x with
  | d x => cases h; exact .inl hx
  | s i =>
    have h : (atE ρ i).bind viewP = some u := h
    cases e : atE ρ i with
    | none => rw [e] at h; cases h
    | some q =>
      rw [e] at h
      have hx : σ[i]? = some (some v) := hx
      cases q with
      | d x =>
        cases h
        obtain ⟨v', a, b⟩ := r.dat i _ e
        rw [hx] at a; cases a
        exact .inl b
      | o q =>
        cases q with
        | lst ds =>
          cases h
          obtain ⟨p, o, a, b, c, _⟩ := r.own i _ e
          rw [hx] at a; cases a
          cases o with
          | lst xs => exact .inr ⟨p, xs, ds, rfl, rfl, w.own p _ b, c⟩
          | _ => exact c.elim
        | dct kvs => cases h
      | b q =>
        cases q with
        | lst ds =>
          cases h
          obtain ⟨p, o, a, b, c, _⟩ := r.bor i _ e
          rw [hx] at a; cases a
          cases o with
          | lst xs => exact .inr ⟨p, xs, ds, rfl, rfl, w.own p _ b, c⟩
          | _ => exact c.elim
        | dct kvs => cases h
      | z ns => cases h
theorem da_ints (ns : List Int) : DaL K G (ns.map V.int) (ns.map .int) := DaL.ofInts ns
theorem rel_viewZ {x : X} {v : V} {u : PyData} (r : Rel K W bs F ρ σ G M) (w : World W G M H) (hx : RX K σ G x v) (h : viewZ ρ x = some u) : VwZ K G H v u := by
  cases x with
  | d x => cases h; exact .inl (.inl hx)
  | s i =>
    cases e : atE ρ i with
    | none => have h : (atE ρ i).bind viewZP = some u := h; rw [e] at h; cases h
    | some q =>
      cases q with
      | z ns =>
        have h : (atE ρ i).bind viewZP = some u := h
        rw [e] at h
        have hx : σ[i]? = some (some v) := hx
        cases h
        obtain ⟨a, h1, h2⟩ := r.scr i ns e
        rw [hx] at h1; cases h1
        exact .inr ⟨a, _, _, rfl, rfl, ex_l w.gh h2, da_ints ns⟩
      | d x => exact .inl (rel_view r w hx (by show (atE ρ i).bind viewP = _; have h : (atE ρ i).bind viewZP = some u := h; rw [e] at h ⊢; exact h))
      | o x => exact .inl (rel_view r w hx (by show (atE ρ i).bind viewP = _; have h : (atE ρ i).bind viewZP = some u := h; rw [e] at h ⊢; exact h))
      | b x => exact .inl (rel_view r w hx (by show (atE ρ i).bind viewP = _; have h : (atE ρ i).bind viewZP = some u := h; rw [e] at h ⊢; exact h))
inductive Vws (K : PySem.W.Frag) (G H : Hp) : List V → List PyData → Prop
  | nil : Vws K G H [] []
  | cons {v : V} {x : PyData} {vs : List V} {xs : List PyData} (h : Vw K G H v x) (r : Vws K G H vs xs) : Vws K G H (v :: vs) (x :: xs)
theorem rel_views (r : Rel K W bs F ρ σ G M) (w : World W G M H) : ∀ {xs : List X} {vs : List V} {us : List PyData}, RXs K σ G xs vs → views ρ xs = some us → Vws K G H vs us
  | _, _, _, .nil, h => by cases h; exact .nil
  | x :: xs, v :: vs, us, .cons a b, h => by
    have h : ((view ρ x).bind fun d => (views ρ xs).bind fun ds => some (d :: ds)) = some us := h
    cases e : view ρ x with
    | none => rw [e] at h; cases h
    | some u =>
      rw [e] at h
      cases e2 : views ρ xs with
      | none => rw [e2] at h; cases h
      | some ys =>
        rw [e2] at h
        cases h
        exact .cons (rel_view r w a e) (rel_views r w b e2)
theorem rel_datas : ∀ {xs : List X} {vs : List V} {us : List PyData}, RXs K σ G xs vs → datas xs = some us → DaL K G vs us
  | _, _, _, .nil, h => by cases h; exact .nil
  | .d x :: xs, v :: vs, us, .cons a b, h => by
    have h : ((datas xs).bind fun ds => some (x :: ds)) = some us := h
    cases e2 : datas xs with
    | none => rw [e2] at h; cases h
    | some ys =>
      rw [e2] at h
      cases h
      exact .cons a (rel_datas b e2)
  | .s i :: xs, v :: vs, us, .cons a b, h => by cases h
theorem rel_plain {x : X} {v : V} {u : PyData} (hx : RX K σ G x v) (h : plain ρ x = some u) : Da K G v u := by
  cases x with
  | d x => cases h; exact hx
  | s i => cases h
/-! ## expressions -/
variable {te ta tb tc : TE} {ma mb mc : ME} {tt tu : TT} {mt mu : MT}
theorem rf_C {v : V} {x : PyData} (h : ∀ G, Da K G v x) : RfE K Z E (tC v) (mC x) := fun W bs F ρ σ G M H Q r w hp => hp.val v r w (h G)
theorem rf_int {i : Int} : RfE K Z E (tC (.int i)) (mC (.int i)) := rf_C fun _ => .int i
theorem rf_bl {i : Bool} : RfE K Z E (tC (.bl i)) (mC (.bool i)) := rf_C fun _ => .bl i
theorem rf_str {i : Str} : RfE K Z E (tC (.str i)) (mC (.str i)) := rf_C fun _ => .str i
theorem rf_non : RfE K Z E (tC .non) (mC .none) := rf_C fun _ => .non
theorem rf_var {i : Nat} : RfE K Z E (tVar i) (mVar i) := fun W bs F ρ σ G M H Q r w hp => by
  unfold mVar at hp
  cases e : atE ρ i with
  | none => rw [e] at hp; exact hp.elim
  | some q =>
    rw [e] at hp
    cases q with
    | d x =>
      obtain ⟨v, h1, h2⟩ := r.dat i x e
      exact ⟨v, h1, hp.val v r w h2⟩
    | o x =>
      obtain ⟨p, o, h1, _⟩ := r.own i x e
      exact ⟨_, h1, hp.val (.ref p) r w h1⟩
    | b x =>
      obtain ⟨p, o, h1, _⟩ := r.bor i x e
      exact ⟨_, h1, hp.val (.ref p) r w h1⟩
    | z x =>
      obtain ⟨p, h1, _⟩ := r.scr i x e
      exact ⟨_, h1, hp.val (.ref p) r w h1⟩
/-- an operation on what is seen -/
def Op2 (K : PySem.W.Frag) (r : R2) (f : PyData → PyData → Option PyData) : Prop := ∀ a b d, f a b = some d → ∀ G H, Ex G H → ∀ x y, Vw K G H x a → Vw K G H y b → ∀ Q : VK, (∀ v G' H', Grow [] G H G' H' → Da K G' v d → Q v H') → r x y H Q
def Op2Z (K : PySem.W.Frag) (r : R2) (f : PyData → PyData → Option PyData) : Prop := ∀ a b d, f a b = some d → ∀ G H, Ex G H → ∀ x y, VwZ K G H x a → Vw K G H y b → ∀ Q : VK, (∀ v G' H', Grow [] G H G' H' → Da K G' v d → Q v H') → r x y H Q
def Op1 (K : PySem.W.Frag) (r : V → Hp → VK → Prop) (f : PyData → Option PyData) : Prop := ∀ a d, f a = some d → ∀ G H, Ex G H → ∀ x, Vw K G H x a → ∀ Q : VK, (∀ v G' H', Grow [] G H G' H' → Da K G' v d → Q v H') → r x H Q
def OpA (K : PySem.W.Frag) (r : List V → Hp → VK → Prop) (f : List PyData → Option PyData) : Prop := ∀ as d, f as = some d → ∀ G H, Ex G H → ∀ xs, Vws K G H xs as → ∀ Q : VK, (∀ v G' H', Grow [] G H G' H' → Da K G' v d → Q v H') → r xs H Q
theorem Post.data {d : PyData} {Q : VK} (hp : Post K Z W bs F E σ G (RX K σ) (.ok (.d d) ρ) Q) (r : Rel K W bs F ρ σ G M) (w : World W G M H) : ∀ v G' H', Grow [] G H G' H' → Da K G' v d → Q v H' :=
  fun v G' H' g dv => hp v G' M H' g.gg (r.ex g.gg) (w.grow g) dv
theorem two_some {o u : Option PyData} {f : PyData → PyData → Option PyData} {ρ : Env} {Q : VK} (hp : Post K Z W bs F E σ G (RX K σ) (retX (o.bind fun a => u.bind fun b => f a b) ρ) Q) : ∃ a b d, o = some a ∧ u = some b ∧ f a b = some d ∧ Post K Z W bs F E σ G (RX K σ) (.ok (.d d) ρ) Q := by
  cases o with
  | none => exact hp.elim
  | some a =>
    cases u with
    | none => exact hp.elim
    | some b =>
      cases e : f a b with
      | none => rw [Option.bind_some, Option.bind_some, e] at hp; exact hp.elim
      | some d => rw [Option.bind_some, Option.bind_some, e] at hp; exact ⟨a, b, d, rfl, rfl, e, hp⟩
theorem rf_op {r : R2} {f : PyData → PyData → Option PyData} (ho : Op2 K r f) (ha : RfE K Z E ta ma) (hb : RfE K Z E tb mb) : RfE K Z E (tOp r ta tb) (mOp f ma mb) := fun W bs F ρ σ G M H Q rl w hp =>
  ha.use rl w hp fun x ρ1 v G1 M1 H1 e1 r1 w1 hx hp1 => hb.use r1 w1 hp1 fun y ρ2 u G2 M2 H2 e2 r2 w2 hy hp2 => by
    obtain ⟨a, b, d, h1, h2, h3, hp3⟩ := two_some hp2
    exact ho a b d h3 G2 H2 w2.gh v u (rel_view r2 w2 (hx.mono e2) h1) (rel_view r2 w2 hy h2) Q (hp3.data r2 w2)
theorem rf_opZ {r : R2} {f : PyData → PyData → Option PyData} (ho : Op2Z K r f) (ha : RfE K Z E ta ma) (hb : RfE K Z E tb mb) : RfE K Z E (tOp r ta tb) (mOpZ f ma mb) := fun W bs F ρ σ G M H Q rl w hp =>
  ha.use rl w hp fun x ρ1 v G1 M1 H1 e1 r1 w1 hx hp1 => hb.use r1 w1 hp1 fun y ρ2 u G2 M2 H2 e2 r2 w2 hy hp2 => by
    obtain ⟨a, b, d, h1, h2, h3, hp3⟩ := two_some hp2
    exact ho a b d h3 G2 H2 w2.gh v u (rel_viewZ r2 w2 (hx.mono e2) h1) (rel_view r2 w2 hy h2) Q (hp3.data r2 w2)
theorem rf_un {r : V → Hp → VK → Prop} {f : PyData → Option PyData} (ho : Op1 K r f) (ha : RfE K Z E ta ma) : RfE K Z E (tUn r ta) (mUn f ma) := fun W bs F ρ σ G M H Q rl w hp =>
  ha.use rl w hp fun x ρ1 v G1 M1 H1 e1 r1 w1 hx hp1 => by
    cases h1 : view ρ1 x with
    | none => rw [h1] at hp1; exact hp1.elim
    | some a =>
      rw [h1, Option.bind_some] at hp1
      cases h2 : f a with
      | none => rw [h2] at hp1; exact hp1.elim
      | some d =>
        rw [h2] at hp1
        exact ho a d h2 G1 H1 w1.gh v (rel_view r1 w1 hx h1) Q (Post.data hp1 r1 w1)
theorem toB_eq {x : PyData} {b : Bool} (h : toB x = some b) : x = .bool b := by
  cases x with
  | bool c => cases h; rfl
  | _ => cases h
theorem bind_toB {o : Option PyData} {ρ : Env} {α β : Type} {R : Hp → α → β → Prop} {f : Bool → Env → Rs α} {Q : β → Hp → Prop} (hp : Post K Z W bs F E σ G R ((retD (o.bind toB) ρ).bind f) Q) : ∃ b, o = some (.bool b) ∧ Post K Z W bs F E σ G R (f b ρ) Q := by
  cases o with
  | none => exact hp.elim
  | some x =>
    cases e : toB x with
    | none => rw [Option.bind_some, e] at hp; exact hp.elim
    | some b => rw [Option.bind_some, e] at hp; exact ⟨b, by rw [toB_eq e], hp⟩
theorem rf_testG {tT : TE → TT} (hT : ∀ te σ H Q, te σ H (fun x H1 => ∃ c, x = V.bl c ∧ Q c H1) → tT te σ H Q) (ha : RfE K Z E ta ma) : RfT K Z E (tT ta) (mTest ma) := fun W bs F ρ σ G M H Q rl w hp => hT _ _ _ _ <|
  ha.use rl w hp fun x ρ1 v G1 M1 H1 e1 r1 w1 hx hp1 => by
    cases h1 : (view ρ1 x).bind toB with
    | none => rw [h1] at hp1; exact hp1.elim
    | some b =>
      rw [h1] at hp1
      cases h2 : view ρ1 x with
      | none => rw [h2] at h1; cases h1
      | some u =>
        rw [h2] at h1
        rw [toB_eq h1] at h2
        exact ⟨b, (rel_view r1 w1 hx h2).bool, Post.at (v := b) hp1 r1 w1 rfl⟩
theorem rf_test (ha : RfE K Z E ta ma) : RfT K Z E (tTest ta) (mTest ma) := rf_testG (fun _ _ _ _ h => h) ha
theorem rf_B (ha : RfE K Z E ta ma) : RfT K Z E (tB ta) (mTest ma) := rf_testG (fun _ _ _ _ h => h) ha
theorem rf_yes : RfT K Z E tYes mYes := fun W bs F ρ σ G M H Q rl w hp => Post.at (v := true) hp rl w rfl
theorem rf_and (ha : RfT K Z E tt mt) (hb : RfT K Z E tu mu) : RfT K Z E (tAnd tt tu) (mAnd mt mu) := fun W bs F ρ σ G M H Q rl w hp =>
  ha.use rl w hp fun x ρ1 v G1 M1 H1 e1 r1 w1 hx hp1 => by
    have hx : x = v := hx
    subst hx
    cases x with
    | true => exact hb W bs F ρ1 σ G1 M1 H1 Q r1 w1 hp1
    | false => exact Post.at (v := false) hp1 r1 w1 rfl
theorem rf_or (ha : RfT K Z E tt mt) (hb : RfT K Z E tu mu) : RfT K Z E (tOr tt tu) (mOr mt mu) := fun W bs F ρ σ G M H Q rl w hp =>
  ha.use rl w hp fun x ρ1 v G1 M1 H1 e1 r1 w1 hx hp1 => by
    have hx : x = v := hx
    subst hx
    cases x with
    | true => exact Post.at (v := true) hp1 r1 w1 rfl
    | false => exact hb W bs F ρ1 σ G1 M1 H1 Q r1 w1 hp1
theorem rf_not (ha : RfT K Z E tt mt) : RfT K Z E (tNot tt) (mNot mt) := fun W bs F ρ σ G M H Q rl w hp =>
  ha.use rl w hp fun x ρ1 v G1 M1 H1 e1 r1 w1 hx hp1 => by
    have hx : x = v := hx
    subst hx
    exact Post.at (v := !x) hp1 r1 w1 rfl
theorem rf_andV (ha : RfE K Z E ta ma) (hb : RfE K Z E tb mb) : RfE K Z E (tAndV ta tb) (mAndV ma mb) := fun W bs F ρ σ G M H Q rl w hp =>
  ha.use rl w hp fun x ρ1 v G1 M1 H1 e1 r1 w1 hx hp1 => by
    obtain ⟨b, h1, hp2⟩ := bind_toB hp1
    refine ⟨b, (rel_view r1 w1 hx h1).bool, ?_⟩
    cases b with
    | true => exact hb W bs F ρ1 σ G1 M1 H1 Q r1 w1 hp2
    | false => exact Post.val (.bl false) hp2 r1 w1 (Da.bl false)
theorem rf_orV (ha : RfE K Z E ta ma) (hb : RfE K Z E tb mb) : RfE K Z E (tOrV ta tb) (mOrV ma mb) := fun W bs F ρ σ G M H Q rl w hp =>
  ha.use rl w hp fun x ρ1 v G1 M1 H1 e1 r1 w1 hx hp1 => by
    obtain ⟨b, h1, hp2⟩ := bind_toB hp1
    refine ⟨b, (rel_view r1 w1 hx h1).bool, ?_⟩
    cases b with
    | true => exact Post.val (.bl true) hp2 r1 w1 (Da.bl true)
    | false => exact hb W bs F ρ1 σ G1 M1 H1 Q r1 w1 hp2
theorem rf_notV (ha : RfE K Z E ta ma) : RfE K Z E (tNotV ta) (mNotV ma) := fun W bs F ρ σ G M H Q rl w hp =>
  ha.use rl w hp fun x ρ1 v G1 M1 H1 e1 r1 w1 hx hp1 => by
    obtain ⟨b, h1, hp2⟩ := bind_toB hp1
    exact ⟨b, (rel_view r1 w1 hx h1).bool, Post.val (.bl (!b)) hp2 r1 w1 (Da.bl _)⟩
theorem rf_if (ht : RfT K Z E tt mt) (ha : RfE K Z E ta ma) (hb : RfE K Z E tb mb) : RfE K Z E (tIf tt ta tb) (mIf mt ma mb) := fun W bs F ρ σ G M H Q rl w hp =>
  ht.use rl w hp fun x ρ1 v G1 M1 H1 e1 r1 w1 hx hp1 => by
    have hx : x = v := hx
    subst hx
    cases x with
    | true => exact ha W bs F ρ1 σ G1 M1 H1 Q r1 w1 hp1
    | false => exact hb W bs F ρ1 σ G1 M1 H1 Q r1 w1 hp1
theorem rf_chain {r r' : R2} {f g : PyData → PyData → Option PyData} (ho : Op2 K r f) (ho' : Op2 K r' g) (ha : RfE K Z E ta ma) (hb : RfE K Z E tb mb) (hc : RfE K Z E tc mc) : RfE K Z E (tChain r r' ta tb tc) (mChain f g ma mb mc) := fun W bs F ρ σ G M H Q rl w hp =>
  ha.use rl w hp fun x ρ1 v G1 M1 H1 e1 r1 w1 hx hp1 => hb.use r1 w1 hp1 fun y ρ2 u G2 M2 H2 e2 r2 w2 hy hp2 => by
    obtain ⟨k, h1, hp3⟩ := bind_toB hp2
    cases hv : view ρ2 x with
    | none => rw [hv] at h1; cases h1
    | some a =>
      cases hu : view ρ2 y with
      | none => rw [hv, hu] at h1; cases h1
      | some b =>
        rw [hv, hu] at h1
        have h1 : f a b = some (.bool k) := h1
        refine ho a b _ h1 G2 H2 w2.gh v u (rel_view r2 w2 (hx.mono e2) hv) (rel_view r2 w2 hy hu) _ fun z G3 H3 g3 dz => ⟨k, dz.bl_eq, ?_⟩
        have r3 := r2.ex g3.gg
        have w3 := w2.grow g3
        cases k with
        | true =>
          refine hc.use r3 w3 (Post.mono g3.gg hp3) fun z ρ4 t G4 M4 H4 e4 r4 w4 hz hp4 => ?_
          obtain ⟨b', c, d, k1, k2, k3, hp5⟩ := two_some hp4
          exact ho' b' c d k3 G4 H4 w4.gh u t (rel_view r4 w4 ((hy.mono g3.gg).mono e4) k1) (rel_view r4 w4 hz k2) Q (hp5.data r4 w4)
        | false => exact Post.val (.bl false) (Post.mono g3.gg hp3) r3 w3 (Da.bl false)
theorem rf_nil : RfA K Z E tNil mNil := fun W bs F ρ σ G M H Q rl w hp => Post.at (v := []) hp rl w .nil
theorem rf_cons {tr : TA} {mr : MA} (ha : RfE K Z E ta ma) (hr : RfA K Z E tr mr) : RfA K Z E (tCons ta tr) (mCons ma mr) := fun W bs F ρ σ G M H Q rl w hp =>
  ha.use rl w hp fun x ρ1 v G1 M1 H1 e1 r1 w1 hx hp1 => hr.use r1 w1 hp1 fun y ρ2 u G2 M2 H2 e2 r2 w2 hy hp2 => Post.at (v := v :: u) hp2 r2 w2 (.cons (hx.mono e2) hy)
theorem rf_cb {r : List V → Hp → VK → Prop} {f : List PyData → Option PyData} {tr : TA} {mr : MA} (ho : OpA K r f) (hr : RfA K Z E tr mr) : RfE K Z E (tCB r tr) (mCB f mr) := fun W bs F ρ σ G M H Q rl w hp =>
  hr.use rl w hp fun x ρ1 v G1 M1 H1 e1 r1 w1 hx hp1 => by
    cases h1 : views ρ1 x with
    | none => rw [h1] at hp1; exact hp1.elim
    | some a =>
      rw [h1, Option.bind_some] at hp1
      cases h2 : f a with
      | none => rw [h2] at hp1; exact hp1.elim
      | some d =>
        rw [h2] at hp1
        exact ho a d h2 G1 H1 w1.gh v (rel_views r1 w1 hx h1) Q (Post.data hp1 r1 w1)
theorem small_eq {ds es : List PyData} (h : small ds = some es) : es = ds ∧ ds.length ≤ 100000 := by
  unfold small at h
  split at h
  · cases h; exact ⟨rfl, by assumption⟩
  · cases h
theorem rf_tup {tr : TA} {mr : MA} (hr : RfA K Z E tr mr) : RfE K Z E (tTup tr) (mTup mr) := fun W bs F ρ σ G M H Q rl w hp =>
  hr.use rl w hp fun x ρ1 v G1 M1 H1 e1 r1 w1 hx hp1 => by
    cases h1 : datas x with
    | none => rw [h1] at hp1; exact hp1.elim
    | some ds =>
      rw [h1, Option.bind_some] at hp1
      cases h2 : small ds with
      | none => rw [h2] at hp1; exact hp1.elim
      | some es =>
        rw [h2, Option.bind_some] at hp1
        obtain ⟨rfl, hl⟩ := small_eq h2
        have d1 := rel_datas hx h1
        refine ⟨by rw [d1.len]; exact sz_of hl, fun p hn => ?_⟩
        exact Post.data hp1 r1 w1 _ _ _ (Grow.new w1.gh hn) (.tup (SqT.of upd_same) (d1.mono (Ex.new (fresh_back w1.gh hn))))
theorem rf_noPart : RfP K Z E tNoPart mNoPart := fun W bs F ρ σ G M H Q rl w hp => Post.at (v := none) hp rl w rfl
theorem rf_part (ha : RfE K Z E ta ma) : RfP K Z E (tPart ta) (mPart ma) := fun W bs F ρ σ G M H Q rl w hp =>
  ha.use rl w hp fun x ρ1 v G1 M1 H1 e1 r1 w1 hx hp1 => by
    cases h1 : plain ρ1 x with
    | none => rw [h1] at hp1; exact hp1.elim
    | some u =>
      rw [h1, Option.bind_some] at hp1
      cases u with
      | int i => exact ⟨i, (rel_plain hx h1).int_eq, Post.at (v := some i) hp1 r1 w1 rfl⟩
      | _ => exact hp1.elim
def OpS (K : PySem.W.Frag) (r : V → Option Int → Option Int → Hp → VK → Prop) (f : PyData → Option Int → Option Int → Option PyData) : Prop := ∀ a l h d, f a l h = some d → ∀ G H, Ex G H → ∀ x, VwZ K G H x a → ∀ Q : VK, (∀ v G' H', Grow [] G H G' H' → Da K G' v d → Q v H') → r x l h H Q
theorem rf_sl {r : V → Option Int → Option Int → Hp → VK → Prop} {f : PyData → Option Int → Option Int → Option PyData} {tl th : TO} {ml mh : Env → Rs (Option Int)} (ho : OpS K r f) (ha : RfE K Z E ta ma) (hl : RfP K Z E tl ml) (hh : RfP K Z E th mh) : RfE K Z E (L2.tSl r ta tl th) (mSl f ma ml mh) := fun W bs F ρ σ G M H Q rl w hp =>
  ha.use rl w hp fun x ρ1 v G1 M1 H1 e1 r1 w1 hx hp1 => hl.use r1 w1 hp1 fun l ρ2 l' G2 M2 H2 e2 r2 w2 hl2 hp2 => hh.use r2 w2 hp2 fun h ρ3 h' G3 M3 H3 e3 r3 w3 hh3 hp3 => by
    have hl2 : l = l' := hl2
    have hh3 : h = h' := hh3
    subst hl2 hh3
    cases h1 : viewZ ρ3 x with
    | none => rw [h1] at hp3; exact hp3.elim
    | some a =>
      rw [h1, Option.bind_some] at hp3
      cases h2 : f a l h with
      | none => rw [h2] at hp3; exact hp3.elim
      | some d =>
        rw [h2] at hp3
        exact ho a l h d h2 G3 H3 w3.gh v (rel_viewZ r3 w3 ((hx.mono e2).mono e3) h1) Q (Post.data hp3 r3 w3)
end
/-! # things of one's own -/
def PostO (K : PySem.W.Frag) (Z : Er) (W : Ent) (bs : Nat → Option Addr) (F : Mem) (E : L2.St → XK) (σ : L2.St) (G : Hp) (r : Rs Ow) (Q : VK) : Prop := match r with
  | .ok w ρ' => ∀ p o G' M' H', Ex G G' → Rel K W bs ((p, o) :: F) ρ' σ G' M' → World W G' M' H' → W.H0 p = none → (∀ u, (p, u) ∉ F) → RO K G' w o → Q (.ref p) H'
  | .er e ρ' => ∀ od G' M' H', Ex G G' → Rel K W bs F ρ' σ G' M' → World W G' M' H' → PlR e.place od G' → E σ (.ref (Z.at e.cls)) od H'
  | .no => False
def RfO (K : PySem.W.Frag) (Z : Er) (E : L2.St → XK) (te : TE) (mo : MO) : Prop :=
  ∀ W bs F ρ σ G M H Q, Rel K W bs F ρ σ G M → World W G M H → PostO K Z W bs F E σ G (mo ρ) Q → te σ H Q
def PostS (K : PySem.W.Frag) (Z : Er) (W : Ent) (bs : Nat → Option Addr) (F : Mem) (E : L2.St → XK) (G : Hp) (r : Rs Ft) (D : Ends) : Prop := match r with
  | .ok .nx ρ' => ∀ σ' G' M' H', Ex G G' → Rel K W bs F ρ' σ' G' M' → World W G' M' H' → D.nx σ' H'
  | .ok (.rt x) ρ' => ∀ v σ' G' M' H', Ex G G' → Rel K W bs F ρ' σ' G' M' → World W G' M' H' → RX K σ' G' x v → D.rt v H'
  | .ok (.rw w) ρ' => ∀ p o σ' G' M' H', Ex G G' → Rel K W bs ((p, o) :: F) ρ' σ' G' M' → World W G' M' H' → W.H0 p = none → (∀ u, (p, u) ∉ F) → RO K G' w o → D.rt (.ref p) H'
  | .ok .bk ρ' => ∀ σ' G' M' H', Ex G G' → Rel K W bs F ρ' σ' G' M' → World W G' M' H' → D.bk σ' H'
  | .ok .ct ρ' => ∀ σ' G' M' H', Ex G G' → Rel K W bs F ρ' σ' G' M' → World W G' M' H' → D.ct σ' H'
  | .er e ρ' => ∀ od σ' G' M' H', Ex G G' → Rel K W bs F ρ' σ' G' M' → World W G' M' H' → PlR e.place od G' → E σ' (.ref (Z.at e.cls)) od H'
  | .no => False
def RfS (K : PySem.W.Frag) (Z : Er) (E : L2.St → XK) (t : TS) (m : MS) : Prop :=
  ∀ W bs F ρ σ G M H D, Rel K W bs F ρ σ G M → World W G M H → PostS K Z W bs F E G (m ρ) D → t D σ H
abbrev RfI (K : PySem.W.Frag) (Z : Er) (E : L2.St → XK) (wi : TI) (mi : MI) : Prop := Rf K Z E (fun _ G ds J => Steps K J G ds) wi mi
section
variable {K : PySem.W.Frag} {Z : Er} {W : Ent} {bs : Nat → Option Addr} {F : Mem} {E : L2.St → XK} {ρ : Env} {σ : L2.St} {G G' H : Hp} {M : Mem} {te ta tb tc : TE} {ma mb mc : ME} {tt tu : TT} {mt mu : MT} {mo : MO}
theorem PostO.mono {r : Rs Ow} {Q : VK} (e : Ex G G') (h : PostO K Z W bs F E σ G r Q) : PostO K Z W bs F E σ G' r Q := by
  cases r with
  | ok a ρ => exact fun p o G' M' H' x => h p o G' M' H' (e.trans x)
  | er x ρ => exact fun od G' M' H' x => h od G' M' H' (e.trans x)
  | no => exact h
theorem PostS.mono {r : Rs Ft} {D : Ends} (e : Ex G G') (h : PostS K Z W bs F E G r D) : PostS K Z W bs F E G' r D := by
  cases r with
  | ok a ρ =>
    cases a with
    | nx => exact fun s G' M' H' x => h s G' M' H' (e.trans x)
    | rt y => exact fun v s G' M' H' x => h v s G' M' H' (e.trans x)
    | rw y => exact fun p o s G' M' H' x => h p o s G' M' H' (e.trans x)
    | bk => exact fun s G' M' H' x => h s G' M' H' (e.trans x)
    | ct => exact fun s G' M' H' x => h s G' M' H' (e.trans x)
  | er x ρ => exact fun od s G' M' H' x => h od s G' M' H' (e.trans x)
  | no => exact h
/-- an expression's outcome, then an own thing's -/
theorem Rf.useO {α β : Type} {R : Rd2 α β} {tx : L2.St → Hp → (β → Hp → Prop) → Prop} {me : Env → Rs α} {f : α → Env → Rs Ow} {Q : VK} {Q' : β → Hp → Prop} (h : Rf K Z E R tx me) (r : Rel K W bs F ρ σ G M) (w : World W G M H)
    (hp : PostO K Z W bs F E σ G ((me ρ).bind f) Q) (k : ∀ a ρ' x G' M' H', Ex G G' → Rel K W bs F ρ' σ G' M' → World W G' M' H' → R σ G' a x → PostO K Z W bs F E σ G' (f a ρ') Q → Q' x H') : tx σ H Q' := by
  refine h W bs F ρ σ G M H Q' r w ?_
  cases e : me ρ with
  | ok a ρ' =>
    rw [e] at hp
    exact fun v G' M' H' x r' w' ra => k a ρ' v G' M' H' x r' w' ra (hp.mono x)
  | er x ρ' => rw [e] at hp; exact hp
  | no => rw [e] at hp; exact hp
theorem Rf.useS {α β : Type} {R : Rd2 α β} {tx : L2.St → Hp → (β → Hp → Prop) → Prop} {me : Env → Rs α} {f : α → Env → Rs Ft} {D : Ends} {Q' : β → Hp → Prop} (h : Rf K Z E R tx me) (r : Rel K W bs F ρ σ G M) (w : World W G M H)
    (hp : PostS K Z W bs F E G ((me ρ).bind f) D) (k : ∀ a ρ' x G' M' H', Ex G G' → Rel K W bs F ρ' σ G' M' → World W G' M' H' → R σ G' a x → PostS K Z W bs F E G' (f a ρ') D → Q' x H') : tx σ H Q' := by
  refine h W bs F ρ σ G M H Q' r w ?_
  cases e : me ρ with
  | ok a ρ' =>
    rw [e] at hp
    exact fun v G' M' H' x r' w' ra => k a ρ' v G' M' H' x r' w' ra (hp.mono x)
  | er x ρ' => rw [e] at hp; exact fun od G' M' H' x r' w' pl => hp od σ G' M' H' x r' w' pl
  | no => rw [e] at hp; exact hp
theorem rf_fz (h : RfO K Z E te mo) : RfE K Z E te (mFz mo) := fun W bs F ρ σ G M H Q rl w hp => by
  refine h W bs F ρ σ G M H Q rl w ?_
  unfold mFz at hp
  cases e : mo ρ with
  | no => rw [e] at hp; exact hp
  | er x ρ' => rw [e] at hp; exact hp
  | ok q ρ' =>
    rw [e] at hp
    cases q with
    | dct kvs => exact hp.elim
    | lst ds =>
      intro p o G' M' H' e1 r1 w1 h0 hF hr
      obtain ⟨M2, w2, r2⟩ := r1.settleF w1 h0 hF
      cases o with
      | lst xs => exact hp (.ref p) (upd G' p (.lst xs)) M2 H' (e1.trans (Ex.new (w1.sep p _ (r1.frm p _ List.mem_cons_self).1))) r2 w2 (Da.lst upd_same (DaL.mono (Ex.new (w1.sep p _ (r1.frm p _ List.mem_cons_self).1)) hr))
      | _ => exact hr.elim
theorem rf_oLst {tr : TA} {mr : MA} (hr : RfA K Z E tr mr) : RfO K Z E (tLst tr) (oLst mr) := fun W bs F ρ σ G M H Q rl w hp =>
  hr.useO rl w hp fun x ρ1 v G1 M1 H1 e1 r1 w1 hx hp1 => by
    cases h1 : datas x with
    | none => rw [h1] at hp1; exact hp1.elim
    | some ds =>
      rw [h1, Option.bind_some] at hp1
      cases h2 : small ds with
      | none => rw [h2] at hp1; exact hp1.elim
      | some es =>
        rw [h2, Option.bind_some] at hp1
        obtain ⟨rfl, hl⟩ := small_eq h2
        have d1 := rel_datas hx h1
        refine ⟨by rw [d1.len]; exact sz_of hl, fun p hn => ?_⟩
        obtain ⟨w2, r2, h0, hF⟩ := r1.newF (o := .lst v) w1 hn
        exact hp1 p (.lst v) G1 _ _ (Ex.refl G1) r2 w2 h0 hF d1
theorem rf_lst {tr : TA} {mr : MA} (hr : RfA K Z E tr mr) : RfE K Z E (tLst tr) (mLst mr) := rf_fz (rf_oLst hr)
theorem rf_oDct0 : RfO K Z E tDNewK oDct0 := fun W bs F ρ σ G M H Q rl w hp => fun p hn => by
  obtain ⟨w2, r2, h0, hF⟩ := rl.newF (o := .dK []) w hn
  exact hp p (.dK []) G _ _ (Ex.refl G) r2 w2 h0 hF DaK.nil
/-! # what is walked -/
theorem itemsD_steps {u : PyData} {ds : List PyData} (h : itemsD u = some ds) : (∃ es, u = .list es ∧ ds = es) ∨ (∃ es, u = .tuple es ∧ ds = es) ∨ ∃ x, u = .str x ∧ ds = chrD x := by
  cases u with
  | list es => cases h; exact .inl ⟨_, rfl, rfl⟩
  | tuple es => cases h; exact .inr (.inl ⟨_, rfl, rfl⟩)
  | str x => cases h; exact .inr (.inr ⟨_, rfl, rfl⟩)
  | _ => cases h
theorem rf_seqI (ha : RfE K Z E ta ma) : RfI K Z E (iSeq K ta) (jSeq ma) := fun W bs F ρ σ G M H Q rl w hp => by
  have step : ∀ (P : V → Hp → Prop), (∀ x ρ1 v G1 M1 H1, ma ρ = .ok x ρ1 → Ex G G1 → Rel K W bs F ρ1 σ G1 M1 → World W G1 M1 H1 → RX K σ G1 x v → P v H1) → ta σ H P := fun P k => by
    unfold jSeq at hp
    refine ha W bs F ρ σ G M H P rl w ?_
    cases e : ma ρ with
    | ok x ρ1 => exact fun v G1 M1 H1 e1 r1 w1 hx => k x ρ1 v G1 M1 H1 e e1 r1 w1 hx
    | er x ρ1 => rw [e] at hp; exact hp
    | no => rw [e] at hp; exact hp
  unfold jSeq at hp
  cases e : ma ρ with
  | no => rw [e] at hp; exact hp.elim
  | er x ρ1 => exact .inl (step _ fun y ρ2 v G1 M1 H1 e2 => by rw [e] at e2; cases e2)
  | ok x ρ1 =>
    rw [e] at hp
    have hp : Post K Z W bs F E σ G (fun G ds J => Steps K J G ds) (retD ((plain ρ1 x).bind itemsD) ρ1) Q := hp
    cases hx : plain ρ1 x with
    | none => rw [hx] at hp; exact hp.elim
    | some u =>
      rw [hx, Option.bind_some] at hp
      cases hi : itemsD u with
      | none => rw [hi] at hp; exact hp.elim
      | some ds =>
        rw [hi] at hp
        rcases itemsD_steps hi with ⟨es, rfl, rfl⟩ | ⟨es, rfl, rfl⟩ | ⟨z, rfl, rfl⟩
        · refine .inl (step _ fun y ρ2 v G1 M1 H1 e2 e1 r1 w1 hv => ?_)
          rw [e] at e2; cases e2
          cases rel_plain hv hx with
          | lst h r => exact ⟨_, rfl, ⟨_, SqL.of (w1.gh _ _ h)⟩, hp _ G1 M1 H1 e1 r1 w1 (steps_list h r)⟩
        · refine .inr (.inl (step _ fun y ρ2 v G1 M1 H1 e2 e1 r1 w1 hv => ?_))
          rw [e] at e2; cases e2
          cases rel_plain hv hx with
          | tup h r => exact ⟨_, rfl, ⟨_, ex_t w1.gh h⟩, hp _ G1 M1 H1 e1 r1 w1 (steps_tup h r)⟩
        · refine .inr (.inr (step _ fun y ρ2 v G1 M1 H1 e2 e1 r1 w1 hv => ?_))
          rw [e] at e2; cases e2
          exact ⟨z, (rel_plain hv hx).str_eq, hp _ G1 M1 H1 e1 r1 w1 (steps_str z)⟩
/-- an iterable made of arguments -/
theorem rf_args {wi : TA → TI} {f : List PyData → Option (List PyData)} {tr : TA} {mr : MA} (S : List V → Hp → (It → Hp → Prop) → Prop) (hw : ∀ σ H R, tr σ H (fun vs H1 => S vs H1 R) → wi tr σ H R) (hs : ∀ vs G H1 ds es R, Ex G H1 → DaL K G vs ds → f ds = some es → (∀ J, Steps K J G es → R J H1) → S vs H1 R) (hr : RfA K Z E tr mr) : RfI K Z E (wi tr) (jArgs f mr) := fun W bs F ρ σ G M H Q rl w hp => hw σ H Q <|
  hr.use rl w hp fun x ρ1 v G1 M1 H1 e1 r1 w1 hx hp1 => by
    cases h1 : datas x with
    | none => rw [h1] at hp1; exact hp1.elim
    | some ds =>
      rw [h1, Option.bind_some] at hp1
      cases h2 : f ds with
      | none => rw [h2] at hp1; exact hp1.elim
      | some es =>
        rw [h2] at hp1
        exact hs v G1 H1 ds es Q w1.gh (rel_datas hx h1) h2 fun J s => hp1 J G1 M1 H1 (Ex.refl G1) r1 w1 s
theorem rngOk_eq {i : Int} (h : rngOk i = true) : -(2 ^ 62) ≤ i ∧ i < 2 ^ 62 := by
  have := rngOk_iff.mp h
  exact ⟨by omega, by omega⟩
theorem rf_rng1 {tr : TA} {mr : MA} (hr : RfA K Z E tr mr) : RfI K Z E (iRng1 tr) (jArgs rng1 mr) := rf_args (wi := iRng1) (fun vs H1 R => ∃ j : Int, vs = [.int j] ∧ -(2 ^ 62) ≤ j ∧ j < 2 ^ 62 ∧ R (Itr 0 j.toNat) H1) (fun _ _ _ h => h) (fun vs G H1 ds es R e dv hf k => by
  match ds, dv, hf with
  | [.int n], dv, hf =>
    obtain ⟨v, rfl, hv⟩ := dv.one_inv
    obtain rfl := hv.int_eq
    obtain ⟨c, rfl⟩ := grd_some (show grd (rngOk n) (rngD 0 n.toNat) = some es from hf)
    exact ⟨n, rfl, (rngOk_eq c).1, (rngOk_eq c).2, k _ (steps_rng 0 _)⟩) hr
theorem rf_rng2 {tr : TA} {mr : MA} (hr : RfA K Z E tr mr) : RfI K Z E (iRng2 tr) (jArgs rng2 mr) := rf_args (wi := iRng2) (fun vs H1 R => ∃ i j : Int, vs = [.int i, .int j] ∧ (-(2 ^ 62) ≤ i ∧ i < 2 ^ 62 ∧ -(2 ^ 62) ≤ j ∧ j < 2 ^ 62) ∧ R (Itr i (j - i).toNat) H1) (fun _ _ _ h => h) (fun vs G H1 ds es R e dv hf k => by
  match ds, dv, hf with
  | [.int m, .int n], dv, hf =>
    obtain ⟨v, u, rfl, hv, hu⟩ := dv.two_inv
    obtain rfl := hv.int_eq
    obtain rfl := hu.int_eq
    obtain ⟨c, rfl⟩ := grd_some (show grd (rngOk m && rngOk n) (rngD m (n - m).toNat) = some es from hf)
    rw [Bool.and_eq_true] at c
    exact ⟨m, n, rfl, ⟨(rngOk_eq c.1).1, (rngOk_eq c.1).2, (rngOk_eq c.2).1, (rngOk_eq c.2).2⟩, k _ (steps_rng m _)⟩) hr
theorem rf_enum {tr : TA} {mr : MA} (hr : RfA K Z E tr mr) : RfI K Z E (iEnum K tr) (jArgs enum1 mr) := rf_args (wi := iEnum K) (fun vs H1 R => ∃ a xs, vs = [.ref a] ∧ SqL K H1 a xs ∧ R (Ite K a) H1) (fun _ _ _ h => h) (fun vs G H1 ds es R e dv hf k => by
  match ds, dv, hf with
  | [.list ds], dv, hf =>
    obtain ⟨v, rfl, hv⟩ := dv.one_inv
    cases hf
    cases hv with
    | lst h r => exact ⟨_, _, rfl, SqL.of (e _ _ h), k _ (steps_enum h r)⟩) hr
/-! # targets -/
def SameBut (σ σ' : L2.St) (vs : List Nat) : Prop := σ'.length = σ.length ∧ ∀ j, j ∉ vs → σ'[j]? = σ[j]?
def RfG (K : PySem.W.Frag) (g : TG) (mg : MG) (vs : List Nat) : Prop := ∀ W bs F ρ ρ' σ G M H v x (Q : L2.St → Hp → Prop), Rel K W bs F ρ σ G M → World W G M H → Da K G v x → mg x ρ = some ρ' → (∀ σ', Rel K W bs F ρ' σ' G M → SameBut σ σ' vs → Q σ' H) → g v σ H Q
def RfGs (K : PySem.W.Frag) (g : TGs) (mg : List MG) (vs : List Nat) : Prop := ∀ W bs F ρ ρ' σ G M H us xs (Q : L2.St → Hp → Prop), Rel K W bs F ρ σ G M → World W G M H → DaL K G us xs → gL mg xs ρ = some ρ' → (∀ σ', Rel K W bs F ρ' σ' G M → SameBut σ σ' vs → Q σ' H) → g us σ H Q
theorem rf_gN {i : Nat} : RfG K (gName i) (gN i) [i] := fun W bs F ρ ρ' σ G M H v x Q r w dv hg k => by
  cases hg
  exact k _ (r.setD i dv) ⟨List.length_set, fun j hj => List.getElem?_set_ne fun e => hj (by rw [e]; exact List.mem_cons_self)⟩
theorem rf_gNil : RfGs K gNil [] [] := fun W bs F ρ ρ' σ G M H us xs Q r w dv hg k => by
  match xs, dv, hg with
  | [], dv, hg =>
    cases hg
    exact ⟨dv.nil_inv, k σ r ⟨rfl, fun _ _ => rfl⟩⟩
theorem rf_gCons {g : TG} {gs : TGs} {mg : MG} {ms : List MG} {vs ws : List Nat} (h : RfG K g mg vs) (hs : RfGs K gs ms ws) : RfGs K (gCons g gs) (mg :: ms) (vs ++ ws) := fun W bs F ρ ρ' σ G M H us xs Q r w dv hg k => by
  match xs, dv, hg with
  | x :: xs, dv, hg =>
    obtain ⟨v, us, rfl, h1, h2⟩ := dv.cons_inv
    have hg : ((mg x ρ).bind fun ρ1 => gL ms xs ρ1) = some ρ' := hg
    cases e : mg x ρ with
    | none => rw [e] at hg; cases hg
    | some ρ1 =>
      rw [e] at hg
      refine ⟨v, us, rfl, h W bs F ρ ρ1 σ G M H v x _ r w h1 e fun σ1 r1 s1 => hs W bs F ρ1 ρ' σ1 G M H us xs Q r1 w h2 hg fun σ2 r2 s2 => k σ2 r2 ⟨s2.1.trans s1.1, fun j hj => ?_⟩⟩
      rw [List.mem_append, not_or] at hj
      rw [s2.2 j hj.2, s1.2 j hj.1]
theorem gL_len : ∀ {ms : List MG} {xs : List PyData} {ρ ρ' : Env}, gL ms xs ρ = some ρ' → xs.length = ms.length
  | [], [], _, _, _ => rfl
  | m :: ms, x :: xs, ρ, ρ', h => by
    have h : ((m x ρ).bind fun ρ1 => gL ms xs ρ1) = some ρ' := h
    cases e : m x ρ with
    | none => rw [e] at h; cases h
    | some ρ1 => rw [e] at h; exact congrArg (· + 1) (gL_len h)
theorem rf_gT {n : Nat} {gs : TGs} {ms : List MG} {vs : List Nat} (hs : RfGs K gs ms vs) (hn : ms.length = n) : RfG K (gTup K n gs) (gT ms) vs := fun W bs F ρ ρ' σ G M H v x Q r w dv hg k => by
  cases dv with
  | tup h rr =>
    have hg : gL ms _ ρ = some ρ' := hg
    exact ⟨_, _, rfl, ex_t w.gh h, by rw [rr.len, gL_len hg, hn], hs W bs F ρ ρ' σ G M H _ _ Q r w rr hg k⟩
  | _ => cases hg
/-! # statements -/
variable {t u : TS} {m n : MS}
theorem rf_next : RfS K Z E tNext mNext := fun W bs F ρ σ G M H D r w hp => hp σ G M H (Ex.refl G) r w
theorem rf_never : RfS K Z E tNever mNever := fun W bs F ρ σ G M H D r w hp => hp.elim
theorem rf_break : RfS K Z E tBreak mBreak := fun W bs F ρ σ G M H D r w hp => hp σ G M H (Ex.refl G) r w
theorem rf_cont : RfS K Z E tCont mCont := fun W bs F ρ σ G M H D r w hp => hp σ G M H (Ex.refl G) r w
theorem rf_seq (ha : RfS K Z E t m) (hb : RfS K Z E u n) : RfS K Z E (tSeq t u) (mSeq m n) := fun W bs F ρ σ G M H D r w hp => by
  refine ha W bs F ρ σ G M H _ r w ?_
  unfold mSeq Rs.seqK at hp
  cases e : m ρ with
  | no => rw [e] at hp; exact hp
  | er x ρ1 => rw [e] at hp; exact hp
  | ok f ρ1 =>
    rw [e] at hp
    cases f with
    | nx => exact fun σ1 G1 M1 H1 e1 r1 w1 => hb W bs F ρ1 σ1 G1 M1 H1 D r1 w1 (PostS.mono e1 hp)
    | rt x => exact hp
    | rw x => exact hp
    | bk => exact hp
    | ct => exact hp
theorem rf_asg {g : TG} {mg : MG} {vs : List Nat} (ha : RfE K Z E ta ma) (hg : RfG K g mg vs) : RfS K Z E (tAsg ta g) (mAsg ma mg) := fun W bs F ρ σ G M H D rl w hp =>
  ha.useS rl w hp fun x ρ1 v G1 M1 H1 e1 r1 w1 hx hp1 => by
    cases h1 : plain ρ1 x with
    | none => rw [h1] at hp1; exact hp1.elim
    | some a =>
      rw [h1, Option.bind_some] at hp1
      cases h2 : mg a ρ1 with
      | none => rw [h2] at hp1; exact hp1.elim
      | some ρ2 =>
        rw [h2] at hp1
        exact hg W bs F ρ1 ρ2 σ G1 M1 H1 v a D.nx r1 w1 (rel_plain hx h1) h2 fun σ' r2 _ => hp1 σ' G1 M1 H1 (Ex.refl G1) r2 w1
theorem rf_asgO {i : Nat} (ha : RfO K Z E ta mo) : RfS K Z E (tAsg ta (gName i)) (mAsgO mo i) := fun W bs F ρ σ G M H D rl w hp => by
  refine ha W bs F ρ σ G M H (fun v H' => D.nx (σ.set i (some v)) H') rl w ?_
  unfold mAsgO at hp
  cases e : mo ρ with
  | no => rw [e] at hp; exact hp
  | er x ρ1 => rw [e] at hp; exact fun od G' M' H' x r' w' pl => hp od σ G' M' H' x r' w' pl
  | ok q ρ1 =>
    rw [e] at hp
    intro p o G' M' H' e1 r1 w1 h0 hF hr
    refine hp (σ.set i (some (.ref p))) G' M' H' e1 ?_ w1
    have r2 := r1.setN i (some (.ref p))
    obtain ⟨hm, hn⟩ := r2.frm p o List.mem_cons_self
    by_cases c : i < ρ1.length
    · exact r2.tail.setP (by rw [set_get (Nat.lt_of_lt_of_le c r1.len), if_pos rfl]) hm hr (.inl ⟨rfl, h0⟩) hn hF
    · rw [List.set_eq_of_length_le (by omega)] at r2 ⊢
      exact r2.tail
theorem rf_drop (ha : RfE K Z E ta ma) : RfS K Z E (tDrop ta) (mDrop ma) := fun W bs F ρ σ G M H D rl w hp =>
  ha.useS rl w hp fun x ρ1 v G1 M1 H1 e1 r1 w1 hx hp1 => hp1 σ G1 M1 H1 (Ex.refl G1) r1 w1
theorem rf_ret (ha : RfE K Z E ta ma) : RfS K Z E (tRet ta) (mRet ma) := fun W bs F ρ σ G M H D rl w hp =>
  ha.useS rl w hp fun x ρ1 v G1 M1 H1 e1 r1 w1 hx hp1 => hp1 v σ G1 M1 H1 (Ex.refl G1) r1 w1 hx
theorem rf_retO (ha : RfO K Z E ta mo) : RfS K Z E (tRet ta) (mRetO mo) := fun W bs F ρ σ G M H D rl w hp => by
  refine ha W bs F ρ σ G M H D.rt rl w ?_
  unfold mRetO at hp
  cases e : mo ρ with
  | no => rw [e] at hp; exact hp
  | er x ρ1 => rw [e] at hp; exact fun od G' M' H' x r' w' pl => hp od σ G' M' H' x r' w' pl
  | ok q ρ1 =>
    rw [e] at hp
    exact fun p o G' M' H' e1 r1 w1 h0 hF hr => hp p o σ G' M' H' e1 r1 w1 h0 hF hr
theorem rf_retN : RfS K Z E tRetN mRetN := fun W bs F ρ σ G M H D rl w hp => hp .non σ G M H (Ex.refl G) rl w Da.non
theorem rf_ifS (ht : RfT K Z E tt mt) (ha : RfS K Z E t m) (hb : RfS K Z E u n) : RfS K Z E (tIfS tt t u) (mIfS mt m n) := fun W bs F ρ σ G M H D rl w hp =>
  ht.useS rl w hp fun x ρ1 v G1 M1 H1 e1 r1 w1 hx hp1 => by
    have hx : x = v := hx
    subst hx
    cases x with
    | true => exact ha W bs F ρ1 σ G1 M1 H1 D r1 w1 hp1
    | false => exact hb W bs F ρ1 σ G1 M1 H1 D r1 w1 hp1
theorem rf_raise {c : Nat} {E0 : XK} : RfS K Z (fun _ => E0) (tRaise (Z.at c) E0) (mRaise c) := fun W bs F ρ σ G M H D rl w hp => hp none σ G M H (Ex.refl G) rl w rfl
theorem Rel.wipe (r : Rel K W bs F ρ σ G M) : ∀ ks : List Nat, Rel K W bs F (wipeE ρ ks) σ G M
  | [] => r
  | k :: ks => (Rel.wipe r ks).forget k
/-- a slot's thing is settled, ahead of a statement -/
theorem rf_frz {i : Nat} (ha : RfS K Z E t m) : RfS K Z E t (mSeq (mFrz i) m) := fun W bs F ρ σ G M H D rl w hp => by
  unfold mSeq mFrz Rs.seqK at hp
  cases e : atE ρ i with
  | none => rw [e] at hp; exact hp.elim
  | some q =>
    rw [e] at hp
    cases q with
    | d x => exact ha W bs F ρ σ G M H D rl w hp
    | b x => exact hp.elim
    | z x => exact hp.elim
    | o x =>
      cases x with
      | dct kvs => exact hp.elim
      | lst ds =>
        obtain ⟨p, o, h1, h2, h3, h4⟩ := rl.own i _ e
        have r0 := rl.forget i
        obtain ⟨n1, n2⟩ := ownE_none rl ⟨_, .inl e⟩ h1
        have r1 : Rel K W bs ((p, o) :: F) (ρ.set i none) σ G M := { r0 with frm := fun q u h => (List.mem_cons.mp h).elim (fun z => by cases z; exact ⟨h2, n1⟩) (fun z => r0.frm q u z) }
        obtain ⟨M2, w2, r2⟩ := r1.settleF w h4 n2
        cases o with
        | lst xs =>
          have e2 : Ex G (upd G p (.lst xs)) := Ex.new (w.sep p _ h2)
          have r3 := r2.setD (v := .ref p) (x := .list ds) i (.lst upd_same (DaL.mono e2 h3))
          rw [List.set_set] at r3
          rw [set_self σ i _ h1] at r3
          exact ha W bs F _ σ _ M2 H D r3 w2 (PostS.mono e2 hp)
        | _ => exact h3.elim
end
section
variable {K : PySem.W.Frag} {Z : Er} {W : Ent} {bs : Nat → Option Addr} {F : Mem} {E : L2.St → XK} {ρ : Env} {σ : L2.St} {G G' H : Hp} {M : Mem} {te ta tb tc : TE} {ma mb mc : ME} {tt tu : TT} {mt mu : MT} {mo : MO} {t u : TS} {m n : MS} {wi : TI} {mi : MI} {g : TG} {mg : MG} {vs ks : List Nat}
/-! # loops -/
theorem turnPost {tb : MS} {r : List PyData} {d : PyData} {D : Ends} {N : L2.St → Hp → Prop} {ρ1 : Env} (hg : mg d ρ = some ρ1) (hp : PostS K Z W bs F E G (forL mg tb ks (d :: r) ρ) D) (hN : ∀ ρ2 σ' G' M' H', Ex G G' → Rel K W bs F ρ2 σ' G' M' → World W G' M' H' → PostS K Z W bs F E G' (forL mg tb ks r ρ2) D → N σ' H') :
    PostS K Z W bs F E G (tb ρ1) { D with nx := N, ct := N, bk := D.nx } := by
  rw [forL_cons hg] at hp
  cases h : tb ρ1 with
  | no => rw [h] at hp; exact hp
  | er x ρ2 => rw [h] at hp; exact hp
  | ok f ρ2 =>
    rw [h] at hp
    cases f with
    | nx => exact fun σ' G' M' H' e r' w' => hN _ σ' G' M' H' e (r'.wipe ks) w' (PostS.mono e hp)
    | ct => exact fun σ' G' M' H' e r' w' => hN _ σ' G' M' H' e (r'.wipe ks) w' (PostS.mono e hp)
    | bk => exact fun σ' G' M' H' e r' w' => hp σ' G' M' H' e (r'.wipe ks) w'
    | rt x => exact hp
    | rw x => exact hp
theorem rf_for (hi : RfI K Z E wi mi) (hg : RfG K g mg vs) (hb : RfS K Z E t m) : RfS K Z E (tFor wi g t) (mFor mi mg ks m) := fun W bs F ρ σ G M H D rl w hp =>
  hi.useS rl w hp fun ds ρ1 J G1 M1 H1 e1 r1 w1 s hp1 => by
    refine ⟨fun i k σ' H' => k = ds.length - i ∧ i ≤ ds.length ∧ ∃ ρ2 G2 M2, Rel K W bs F ρ2 σ' G2 M2 ∧ World W G2 M2 H' ∧ Ex G1 G2 ∧ PostS K Z W bs F E G2 (forL mg m ks (ds.drop i) ρ2) D, ⟨ds.length, by simp, Nat.zero_le _, ρ1, G1, M1, r1, w1, Ex.refl G1, hp1⟩, ?_⟩
    rintro i k σ' H' ⟨rfl, hi, ρ2, G2, M2, r2, w2, e2, hp2⟩
    have ge := w2.gh
    by_cases hlt : i < ds.length
    · have hdrop : ds.drop i = ds[i] :: ds.drop (i + 1) := List.drop_eq_getElem_cons hlt
      rw [hdrop] at hp2
      refine .inr ⟨s.go i H' (e2.trans ge) hlt, fun σ3 H3 => ∃ ρ3 G3 M3, Rel K W bs F ρ3 σ3 G3 M3 ∧ World W G3 M3 H3 ∧ Ex G1 G3 ∧ PostS K Z W bs F E G3 (forL mg m ks (ds.drop (i + 1)) ρ3) D, fun σ3 H3 ⟨ρ3, G3, M3, a, b, c, d⟩ => ⟨ds.length - (i + 1), by omega, rfl, hlt, ρ3, G3, M3, a, b, c, d⟩, fun x H3 y => ?_⟩
      obtain ⟨G3, g3, dx⟩ := s.yld i ds[i] G2 H' x H3 (List.getElem?_eq_getElem hlt) e2 ge y
      have w3 := w2.grow g3
      have r3 := r2.ex g3.gg
      have hp3 := PostS.mono g3.gg hp2
      cases hgx : mg ds[i] ρ2 with
      | none =>
        have : forL mg m ks (ds[i] :: ds.drop (i + 1)) ρ2 = .no := by
          show (match mg ds[i] ρ2 with | none => _ | some ρ1 => _) = _
          rw [hgx]
        rw [this] at hp3; exact hp3.elim
      | some ρ3 =>
        refine hg W bs F ρ2 ρ3 σ' G3 M2 H3 x ds[i] _ r3 w3 dx hgx fun σ4 r4 _ => ?_
        exact hb W bs F ρ3 σ4 G3 M2 H3 _ r4 w3 (turnPost hgx hp3 fun ρ5 σ5 G5 M5 H5 e5 r5 w5 hp5 => ⟨ρ5, G5, M5, r5, w5, (e2.trans g3.gg).trans e5, hp5⟩)
    · have e0 : i = ds.length := by omega
      subst e0
      rw [List.drop_length] at hp2
      exact .inl ⟨s.stop _ H' (e2.trans ge) (Nat.le_refl _), hp2 σ' G2 M2 H' (Ex.refl G2) r2 w2⟩
theorem rf_while {fuel : Nat} (ht : RfT K Z E tt mt) (hb : RfS K Z E t m) : RfS K Z E (tWhile tt t) (mWhile fuel mt ks m) := fun W bs F ρ σ G M H D rl w hp => by
  refine ⟨fun k σ' H' => ∃ ρ2 G2 M2, Rel K W bs F ρ2 σ' G2 M2 ∧ World W G2 M2 H' ∧ PostS K Z W bs F E G2 (whileN mt ks m k ρ2) D, ⟨fuel, ρ, G, M, rl, w, hp⟩, ?_⟩
  rintro k σ' H' ⟨ρ2, G2, M2, r2, w2, hp2⟩
  cases k with
  | zero => exact hp2.elim
  | succ k =>
    unfold whileN at hp2
    refine ht.useS r2 w2 hp2 fun b ρ3 b' G3 M3 H3 e3 r3 w3 hb' hp3 => ?_
    have hb' : b = b' := hb'
    subst hb'
    cases b with
    | false => exact hp3 σ' G3 M3 H3 (Ex.refl G3) r3 w3
    | true =>
      refine ⟨fun σ4 H4 => ∃ ρ4 G4 M4, Rel K W bs F ρ4 σ4 G4 M4 ∧ World W G4 M4 H4 ∧ PostS K Z W bs F E G4 (whileN mt ks m k ρ4) D, fun σ4 H4 h => ⟨k, Nat.lt_succ_self k, h⟩, ?_⟩
      refine hb W bs F ρ3 σ' G3 M3 H3 _ r3 w3 ?_
      have hp4 : PostS K Z W bs F E G3 (turnK (fun ρ2 => whileN mt ks m k ρ2) ks (m ρ3)) D := hp3
      cases h : m ρ3 with
      | no => rw [h] at hp4; exact hp4
      | er x ρ4 => rw [h] at hp4; exact hp4
      | ok f ρ4 =>
        rw [h] at hp4
        cases f with
        | nx => exact fun σ' G' M' H' e r' w' => ⟨_, G', M', r'.wipe ks, w', PostS.mono e hp4⟩
        | ct => exact fun σ' G' M' H' e r' w' => ⟨_, G', M', r'.wipe ks, w', PostS.mono e hp4⟩
        | bk => exact fun σ' G' M' H' e r' w' => hp4 σ' G' M' H' e (r'.wipe ks) w'
        | rt x => exact hp4
        | rw x => exact hp4
/-! # comprehensions -/
theorem wipe_get (σ : L2.St) (j : Nat) : ∀ vs : List Nat, (wipe σ vs)[j]? = if j ∈ vs ∧ j < σ.length then some none else σ[j]?
  | [] => by rw [if_neg (fun z => nomatch z.1)]; rfl
  | v :: vs => by
    show ((wipe σ vs).set v none)[j]? = _
    rw [List.getElem?_set, wipe_length, wipe_get σ j vs]
    by_cases e : v = j
    · subst e
      rw [if_pos rfl]
      by_cases l : v < σ.length
      · rw [if_pos l, if_pos ⟨List.mem_cons_self, l⟩]
      · rw [if_neg l, if_neg (fun z => l z.2), List.getElem?_eq_none (by omega)]
    · rw [if_neg e]
      by_cases c : j ∈ vs ∧ j < σ.length
      · rw [if_pos c, if_pos ⟨List.mem_cons_of_mem _ c.1, c.2⟩]
      · rw [if_neg c, if_neg (fun z => c ⟨(List.mem_cons.mp z.1).resolve_left (fun q => e q.symm), z.2⟩)]
theorem wipe_same {σ σ' : L2.St} (h : SameBut (wipe σ vs) σ' vs) : wipe σ' vs = wipe σ vs := by
  apply List.ext_getElem?
  intro j
  have hl : σ'.length = σ.length := by rw [h.1, wipe_length]
  rw [wipe_get, wipe_get, hl]
  by_cases c : j ∈ vs ∧ j < σ.length
  · rw [if_pos c, if_pos c]
  · rw [if_neg c, if_neg c]
    by_cases d : j ∈ vs
    · rw [List.getElem?_eq_none (by rw [hl]; exact Nat.le_of_not_lt fun z => c ⟨d, z⟩), List.getElem?_eq_none (Nat.le_of_not_lt fun z => c ⟨d, z⟩)]
    · rw [h.2 j d, wipe_get, if_neg c]
/-- slots that are wiped -/
theorem Rel.wipeB (r : Rel K W bs F ρ σ G M) : ∀ ks : List Nat, Rel K W bs F (wipeE ρ ks) (L2.wipe σ ks) G M
  | [] => r
  | k :: ks => (Rel.wipeB r ks).setN k none
theorem atE_wipe (ρ : Env) (j : Nat) : ∀ vs : List Nat, atE (wipeE ρ vs) j = if j ∈ vs then none else atE ρ j
  | [] => by rw [if_neg (fun z => nomatch z)]; rfl
  | v :: vs => by
    show atE ((wipeE ρ vs).set v none) j = _
    rw [atE_set, atE_wipe ρ j vs]
    by_cases e : v = j
    · subst e
      rw [if_pos (List.mem_cons_self)]
      by_cases l : v < (wipeE ρ vs).length
      · rw [if_pos ⟨rfl, l⟩]
      · rw [if_neg (fun z => l z.2)]
        split
        · rfl
        · have : atE ρ v = none := by
            cases q : atE ρ v with
            | none => rfl
            | some y =>
              have h1 := atE_lt q
              have h2 : ∀ ws : List Nat, (wipeE ρ ws).length = ρ.length := fun ws => by
                induction ws with
                | nil => rfl
                | cons a b ih => show ((wipeE ρ b).set a none).length = _; rw [List.length_set, ih]
              rw [h2] at l; exact absurd h1 l
          exact this
    · rw [if_neg (fun z => e z.1)]
      by_cases c : j ∈ vs
      · rw [if_pos c, if_pos (List.mem_cons_of_mem _ c)]
      · rw [if_neg c, if_neg (fun z => (List.mem_cons.mp z).elim (fun q => e q.symm) c)]
theorem wipeE_len (ρ : Env) : ∀ vs : List Nat, (wipeE ρ vs).length = ρ.length
  | [] => rfl
  | v :: vs => by show ((wipeE ρ vs).set v none).length = _; rw [List.length_set, wipeE_len ρ vs]
theorem Rel.unwipe (r : Rel K W bs F (wipeE ρ vs) (L2.wipe σ vs) G M) : Rel K W bs F (wipeE ρ vs) σ G M := by
  have oth : ∀ {j q}, atE (wipeE ρ vs) j = some q → (L2.wipe σ vs)[j]? = σ[j]? := fun {j q} h => by
    rw [atE_wipe] at h
    by_cases c : j ∈ vs
    · rw [if_pos c] at h; cases h
    · rw [wipe_get, if_neg (fun z => c z.1)]
  have othO : ∀ {j}, ownE (wipeE ρ vs) j → (L2.wipe σ vs)[j]? = σ[j]? := fun {j} ⟨x, h⟩ => h.elim oth oth
  refine ⟨by have := r.len; rw [wipe_length] at this; exact this, fun j x h => ?_, fun j x h => ?_, fun j x h => ?_, fun j x h => ?_, fun j k p h1 h2 h3 h4 => ?_, fun p o h => ⟨(r.frm p o h).1, fun j hj => ?_⟩⟩
  · rw [← oth h]; exact r.dat j x h
  · rw [← oth h]; exact r.scr j x h
  · rw [← oth h]; exact r.own j x h
  · rw [← oth h]; exact r.bor j x h
  · rw [← othO h1] at h3
    rw [← othO h2] at h4
    exact r.one j k p h1 h2 h3 h4
  · rw [← othO hj]; exact (r.frm p o h).2 j hj
theorem wipeE_wipeE (ρ : Env) (vs : List Nat) : wipeE (wipeE ρ vs) vs = wipeE ρ vs := by
  have get : ∀ (ρ : Env) (ws : List Nat) (j : Nat), (wipeE ρ ws)[j]? = if j ∈ ws ∧ j < ρ.length then some none else ρ[j]? := fun ρ ws j => by
    induction ws with
    | nil => rw [if_neg (fun z => nomatch z.1)]; rfl
    | cons v ws ih =>
      show ((wipeE ρ ws).set v none)[j]? = _
      rw [List.getElem?_set, wipeE_len, ih]
      by_cases e : v = j
      · subst e
        rw [if_pos rfl]
        by_cases l : v < ρ.length
        · rw [if_pos l, if_pos ⟨List.mem_cons_self, l⟩]
        · rw [if_neg l, if_neg (fun z => l z.2), List.getElem?_eq_none (by omega)]
      · rw [if_neg e]
        by_cases c : j ∈ ws ∧ j < ρ.length
        · rw [if_pos c, if_pos ⟨List.mem_cons_of_mem _ c.1, c.2⟩]
        · rw [if_neg c, if_neg (fun z => c ⟨(List.mem_cons.mp z.1).resolve_left (fun q => e q.symm), z.2⟩)]
  apply List.ext_getElem?
  intro j
  rw [get, get, wipeE_len]
  split <;> rfl
theorem lcL_wiped {r : List PyData} : ∀ (acc : List PyData) (ρ : Env) (w : List PyData) (ρ' : Env), lcL mg mt ma vs r acc (wipeE ρ vs) = .ok w ρ' → ∃ ρ0, ρ' = wipeE ρ0 vs := by
  induction r with
  | nil => intro acc ρ w ρ' h; cases h; exact ⟨ρ, rfl⟩
  | cons x r ih =>
    intro acc ρ w ρ' h
    unfold lcL at h
    cases e : mg x (wipeE (wipeE ρ vs) vs) with
    | none => rw [e] at h; cases h
    | some ρ1 =>
      rw [e, retD_some, Rs.bind_ok] at h
      cases e2 : mt ρ1 with
      | no => rw [e2] at h; cases h
      | er x ρ2 => rw [e2] at h; cases h
      | ok b ρ2 =>
        rw [e2] at h
        cases b with
        | false => exact ih acc ρ2 w ρ' h
        | true =>
          have h : (match ma ρ2 with
            | .ok (.d y) ρ3 => if acc.length < 100000 then lcL mg mt ma vs r (acc ++ [y]) (wipeE ρ3 vs) else .no
            | _ => .no) = Rs.ok w ρ' := h
          cases e3 : ma ρ2 with
          | no => rw [e3] at h; cases h
          | er x ρ3 => rw [e3] at h; cases h
          | ok y ρ3 =>
            rw [e3] at h
            cases y with
            | s i => cases h
            | d y =>
              have h : (if acc.length < 100000 then lcL mg mt ma vs r (acc ++ [y]) (wipeE ρ3 vs) else .no) = Rs.ok w ρ' := h
              split at h
              · exact ih _ ρ3 w ρ' h
              · cases h
theorem rf_oLc {E1 : L2.St → XK} (hi : RfI K Z E wi mi) (hg : RfG K g mg vs) (ht : RfT K Z E1 tt mt) (ha : RfE K Z E1 ta ma) : RfO K Z E (tLc wi g tt ta vs) (oLc mi mg mt ma vs) := fun W bs F ρ σ G M H Q rl w hp =>
  hi.useO rl w hp fun ds ρ1 J G1 M1 H1 e1 r1 w1 s hp1 Dl hD => by
    obtain ⟨w2, r2, h0, hF⟩ := r1.newF (o := .lst []) w1 hD
    have r2 := r2.wipeB vs
    let Wi : Nat → Nat → Hp → Prop := fun i k H' => k = ds.length - i ∧ i ≤ ds.length ∧ ∃ ρ2 G2 M2 xs acc, Rel K W bs ((Dl, .lst xs) :: F) (wipeE ρ2 vs) (L2.wipe σ vs) G2 M2 ∧ World W G2 M2 H' ∧ Ex G1 G2 ∧ DaL K G2 xs acc ∧ PostO K Z W bs F E σ G2 ((lcL mg mt ma vs (ds.drop i) acc (wipeE ρ2 vs)).bind fun acc ρ2 => .ok (.lst acc) ρ2) Q
    refine ⟨Wi, ⟨ds.length, by simp, Nat.zero_le _, ρ1, G1, _, [], [], r2, w2, Ex.refl G1, .nil, hp1⟩, ?_⟩
    rintro i k H3 ⟨rfl, hi, ρ3, G3, M3, xs, acc, r3, w3, e3, dacc, hp3⟩
    have ge := w3.gh
    by_cases hlt : i < ds.length
    · have hdrop : ds.drop i = ds[i] :: ds.drop (i + 1) := List.drop_eq_getElem_cons hlt
      rw [hdrop] at hp3
      refine .inr ⟨s.go i H3 (e3.trans ge) hlt, fun H' => ∃ ρ2 G2 M2 xs acc, Rel K W bs ((Dl, .lst xs) :: F) (wipeE ρ2 vs) (L2.wipe σ vs) G2 M2 ∧ World W G2 M2 H' ∧ Ex G1 G2 ∧ DaL K G2 xs acc ∧ PostO K Z W bs F E σ G2 ((lcL mg mt ma vs (ds.drop (i + 1)) acc (wipeE ρ2 vs)).bind fun acc ρ2 => .ok (.lst acc) ρ2) Q, fun H' h => ⟨ds.length - (i + 1), by omega, rfl, hlt, h⟩, fun x H4 y => ?_⟩
      obtain ⟨G4, g4, dx⟩ := s.yld i ds[i] G3 H3 x H4 (List.getElem?_eq_getElem hlt) e3 ge y
      have w4 := w3.grow g4
      have r4 := r3.ex g4.gg
      have hp4 := PostO.mono g4.gg hp3
      unfold lcL at hp4
      rw [wipeE_wipeE] at hp4
      cases hgx : mg ds[i] (wipeE ρ3 vs) with
      | none => rw [hgx] at hp4; exact hp4.elim
      | some ρ4 =>
        rw [hgx, retD_some, Rs.bind_ok] at hp4
        refine hg W bs _ _ ρ4 _ G4 M3 H4 x ds[i] _ r4 w4 dx hgx fun σ5 r5 sb => ⟨wipe_same sb, ?_⟩
        have hw5 : L2.wipe σ5 vs = L2.wipe σ vs := wipe_same sb
        refine ht W bs _ ρ4 σ5 G4 M3 H4 _ r5 w4 ?_
        cases e5 : mt ρ4 with
        | no => rw [e5] at hp4; exact hp4
        | er z ρ5 => rw [e5] at hp4; exact hp4.elim
        | ok b ρ5 =>
          rw [e5] at hp4
          intro b' G6 M6 H6 e6 r6 w6 hb'
          have hb' : b = b' := hb'
          subst hb'
          cases b with
          | false =>
            rw [if_neg (by decide)]
            have r7 := r6.wipeB vs
            rw [hw5] at r7
            exact ⟨ρ5, G6, M6, xs, acc, r7, w6, (e3.trans g4.gg).trans e6, (dacc.mono g4.gg).mono e6, PostO.mono e6 hp4⟩
          | true =>
            rw [if_pos rfl]
            refine ha W bs _ ρ5 σ5 G6 M6 H6 _ r6 w6 ?_
            have hp5 := PostO.mono e6 hp4
            cases e7 : ma ρ5 with
            | no => simp only [e7] at hp5; exact hp5
            | er z ρ6 => simp only [e7] at hp5; exact hp5.elim
            | ok y ρ6 =>
              cases y with
              | s i => simp only [e7] at hp5; exact hp5.elim
              | d y =>
                simp only [e7] at hp5
                intro v G7 M7 H7 e7 r7 w7 dv
                have hdl := (r7.frm Dl _ List.mem_cons_self).1
                by_cases hacc : acc.length < 100000
                · rw [if_pos hacc] at hp5
                  refine ⟨xs, w7.own Dl _ hdl, by rw [dacc.len]; exact sz_lt hacc, ?_⟩
                  obtain ⟨w8, r8⟩ := r7.writeF (o' := .lst (xs ++ [v])) w7 hF
                  have r9 := r8.wipeB vs
                  rw [hw5] at r9
                  exact ⟨ρ6, G7, _, xs ++ [v], acc ++ [y], r9, w8, ((e3.trans g4.gg).trans e6).trans e7, (((dacc.mono g4.gg).mono e6).mono e7).app (.one dv), PostO.mono e7 hp5⟩
                · rw [if_neg hacc] at hp5; exact hp5.elim
    · have e0 : i = ds.length := by omega
      subst e0
      rw [List.drop_length] at hp3
      refine .inl ⟨s.stop _ H3 (e3.trans ge) (Nat.le_refl _), ?_⟩
      exact hp3 Dl (.lst xs) G3 M3 H3 (Ex.refl G3) r3.unwipe w3 h0 hF dacc
theorem rf_lc {E1 : L2.St → XK} (hi : RfI K Z E wi mi) (hg : RfG K g mg vs) (ht : RfT K Z E1 tt mt) (ha : RfE K Z E1 ta ma) : RfE K Z E (tLc wi g tt ta vs) (mLc mi mg mt ma vs) := rf_fz (rf_oLc hi hg ht ha)
/-! # things that are written -/
theorem lstAt_own {i : Nat} {ds : List PyData} (h : lstAt ρ i = some ds) : ownE ρ i := by
  unfold lstAt at h
  split at h
  · exact ⟨_, .inl (by assumption)⟩
  · exact ⟨_, .inr (by assumption)⟩
  · cases h
theorem rel_lst {i : Nat} {ds : List PyData} (r : Rel K W bs F ρ σ G M) (h : lstAt ρ i = some ds) : ∃ p xs, σ[i]? = some (some (.ref p)) ∧ (p, .lst xs) ∈ M ∧ DaL K G xs ds := by
  unfold lstAt at h
  split at h
  · cases h
    rename_i e
    obtain ⟨p, o, a, b, c, _⟩ := r.own i _ e
    cases o with
    | lst xs => exact ⟨p, xs, a, b, c⟩
    | _ => exact c.elim
  · cases h
    rename_i e
    obtain ⟨p, o, a, b, c, _⟩ := r.bor i _ e
    cases o with
    | lst xs => exact ⟨p, xs, a, b, c⟩
    | _ => exact c.elim
  · cases h
theorem rf_app {i : Nat} (ha : RfE K Z E ta ma) : RfE K Z E (tBM K "list" rAppend (tVar i) (tCons ta tNil)) (mApp i ma) := fun W bs F ρ σ G M H Q rl w hp => by
  unfold mApp at hp
  cases e : lstAt ρ i with
  | none => rw [e] at hp; exact hp.elim
  | some d0 =>
    rw [e] at hp
    obtain ⟨p, xs, h1, h2, h3⟩ := rel_lst rl e
    refine ⟨.ref p, h1, .inl ⟨rfl, _, SqL.of (w.own p _ h2)⟩, ?_⟩
    show ta σ H _
    refine Rf.use (Q := Q) ha rl w hp fun x ρ1 v G1 M1 H1 e1 r1 w1 hx hp1 => ?_
    cases e2 : plain ρ1 x with
    | none => rw [e2] at hp1; exact hp1.elim
    | some u =>
      cases e3 : lstAt ρ1 i with
      | none => rw [e2, e3] at hp1; exact hp1.elim
      | some ds =>
        rw [e2, e3] at hp1
        obtain ⟨p', ys, k1, k2, k3⟩ := rel_lst r1 e3
        rw [h1] at k1; cases k1
        by_cases hl : ds.length < 100000
        · simp only [if_pos hl] at hp1
          have hr : RO K G1 (.lst (ds ++ [u])) (.lst (ys ++ [v])) := DaL.app k3 (.one (rel_plain hx e2))
          obtain ⟨w2, r2⟩ := r1.write w1 (lstAt_own e3) h1 hr
          exact ⟨p, ys, v, rfl, rfl, w1.own p _ k2, by rw [k3.len]; exact sz_lt hl, Post.val .non hp1 r2 w2 Da.non⟩
        · simp only [if_neg hl] at hp1; exact hp1.elim
end
/-! # defs: promises, calls, entries -/
inductive ArgR (K : PySem.W.Frag) (G H : Hp) : List P → List V → List Addr → Prop
  | nil : ArgR K G H [] [] []
  | d {x : PyData} {v : V} {ps : List P} {vs : List V} {A : List Addr} (h : Da K G v x) (r : ArgR K G H ps vs A) : ArgR K G H (.d x :: ps) (v :: vs) A
  | z {ns : List Int} {a : Addr} {ps : List P} {vs : List V} {A : List Addr} (h : SqL K G a (ns.map V.int)) (r : ArgR K G H ps vs A) : ArgR K G H (.z ns :: ps) (.ref a :: vs) A
  | b {w : Ow} {p : Addr} {o : HO} {ps : List P} {vs : List V} {A : List Addr} (h : H p = some o) (hr : RO K G w o) (n : G p = none) (r : ArgR K G H ps vs A) : ArgR K G H (.b w :: ps) (.ref p :: vs) (p :: A)
inductive FinR (K : PySem.W.Frag) (G H : Hp) : List Addr → List Ow → Prop
  | nil : FinR K G H [] []
  | cons {p : Addr} {o : HO} {w : Ow} {A : List Addr} {ws : List Ow} (h : H p = some o) (hr : RO K G w o) (r : FinR K G H A ws) : FinR K G H (p :: A) (w :: ws)
def spF (K : PySem.W.Frag) (Z : Er) (m : MF) : Sp := fun vs H Q E => ∃ G ps A, Ex G H ∧ ArgR K G H ps vs A ∧ A.Nodup ∧ match m ps with
  | .ok x ws => ∀ v G' H', Grow A G H G' H' → FinR K G' H' A ws → Da K G' v x → Q v H'
  | .fr w ws => ∀ p o G' H', Grow A G H G' H' → FinR K G' H' A ws → H p = none → H' p = some o → G' p = none → RO K G' w o → Q (.ref p) H'
  | .er e ws => ∀ od G' H', Grow A G H G' H' → FinR K G' H' A ws → PlR e.place od G' → E (.ref (Z.at e.cls)) od H'
  | .no => False
section
variable {K : PySem.W.Frag} {Z : Er} {W : Ent} {bs : Nat → Option Addr} {F : Mem} {E : L2.St → XK} {ρ : Env} {σ : L2.St} {G G' H H' : Hp} {M : Mem} {ta : TA} {ma : MA} {f : MF}
theorem ArgR.len : ∀ {ps : List P} {vs : List V} {A : List Addr}, ArgR K G H ps vs A → vs.length = ps.length
  | _, _, _, .nil => rfl
  | _, _, _, .d _ r => congrArg (· + 1) (ArgR.len r)
  | _, _, _, .z _ r => congrArg (· + 1) (ArgR.len r)
  | _, _, _, .b _ _ _ r => congrArg (· + 1) (ArgR.len r)
theorem ArgR.app {ds : List PyData} {us : List V} (h : DaL K G us ds) : ∀ {ps : List P} {vs : List V} {A : List Addr}, ArgR K G H ps vs A → ArgR K G H (ps ++ ds.map .d) (vs ++ us) A
  | _, _, _, .nil => by
    show ArgR K G H (ds.map .d) us []
    have : ∀ {us ds}, DaL K G us ds → ArgR K G H (ds.map .d) us [] := by
      intro us ds h
      induction ds generalizing us with
      | nil => rw [h.nil_inv]; exact .nil
      | cons d ds ih =>
        obtain ⟨v, ws, rfl, a, b⟩ := h.cons_inv
        exact .d a (ih b)
    exact this h
  | _, _, _, .d a r => .d a (ArgR.app h r)
  | _, _, _, .z a r => .z a (ArgR.app h r)
  | _, _, _, .b h1 h2 h3 r => .b h1 h2 h3 (ArgR.app h r)
/-- the lent slots and their addresses -/
inductive LentA (σ : L2.St) : List Nat → List Addr → Prop
  | nil : LentA σ [] []
  | cons {i : Nat} {p : Addr} {is : List Nat} {A : List Addr} (h : σ[i]? = some (some (.ref p))) (r : LentA σ is A) : LentA σ (i :: is) (p :: A)
theorem LentA.mem : ∀ {is : List Nat} {A : List Addr} {p : Addr}, LentA σ is A → p ∈ A → ∃ i ∈ is, σ[i]? = some (some (.ref p))
  | _, _, _, .nil, h => nomatch h
  | _, _, p, .cons (i := i) (p := q) a r, h => by
    rcases List.mem_cons.mp h with e | e
    · subst e; exact ⟨i, List.mem_cons_self, a⟩
    · obtain ⟨j, h1, h2⟩ := LentA.mem r e
      exact ⟨j, List.mem_cons_of_mem _ h1, h2⟩
theorem LentA.nodup (r : Rel K W bs F ρ σ G M) : ∀ {is : List Nat} {A : List Addr}, LentA σ is A → is.Nodup → (∀ i ∈ is, ownE ρ i) → A.Nodup
  | _, _, .nil, _, _ => List.nodup_nil
  | _, _, .cons (i := i) (p := p) a l, nd, ow => by
    obtain ⟨h1, h2⟩ := List.nodup_cons.mp nd
    refine List.nodup_cons.mpr ⟨fun hp => ?_, LentA.nodup r l h2 fun j hj => ow j (List.mem_cons_of_mem _ hj)⟩
    obtain ⟨j, hj, hs⟩ := l.mem hp
    have := r.one i j p (ow i List.mem_cons_self) (ow j (List.mem_cons_of_mem _ hj)) a hs
    subst this; exact h1 hj
theorem lentB_own {i : Nat} (h : lentB ρ i = true) : ownE ρ i := by
  unfold lentB at h
  split at h
  · exact ⟨_, .inl (by assumption)⟩
  · exact ⟨_, .inr (by assumption)⟩
  · cases h
theorem lent_own : ∀ {xs : List X} {i : Nat}, i ∈ lent ρ xs → ownE ρ i
  | [], i, h => nomatch h
  | .d _ :: r, i, h => lent_own (xs := r) h
  | .s j :: r, i, h => by
    have h : i ∈ (if lentB ρ j = true then j :: lent ρ r else lent ρ r) := h
    split at h
    · rcases List.mem_cons.mp h with e | e
      · rw [e]; exact lentB_own (by assumption)
      · exact lent_own e
    · exact lent_own h
theorem args_of (r : Rel K W bs F ρ σ G M) (w : World W G M H) : ∀ {xs : List X} {vs : List V} {ps : List P}, RXs K σ G xs vs → argsOf ρ xs = some ps → ∃ A, ArgR K G H ps vs A ∧ LentA σ (lent ρ xs) A
  | _, _, _, .nil, h => by cases h; exact ⟨[], .nil, .nil⟩
  | x :: xs, v :: vs, ps, .cons a b, h => by
    have h : ((argOf ρ x).bind fun p => (argsOf ρ xs).bind fun ps => some (p :: ps)) = some ps := h
    cases e : argOf ρ x with
    | none => rw [e] at h; cases h
    | some q =>
      rw [e] at h
      cases e2 : argsOf ρ xs with
      | none => rw [e2] at h; cases h
      | some qs =>
        rw [e2] at h
        cases h
        obtain ⟨A, h1, h2⟩ := args_of r w b e2
        cases x with
        | d x => cases e; exact ⟨A, .d a h1, h2⟩
        | s i =>
          have a : σ[i]? = some (some v) := a
          have e : (atE ρ i).map lend = some q := e
          have lc : ∀ bb, lentB ρ i = bb → lent ρ (.s i :: xs) = if bb = true then i :: lent ρ xs else lent ρ xs := fun bb hb => by
            show (if lentB ρ i = true then i :: lent ρ xs else lent ρ xs) = _
            rw [hb]
          cases e3 : atE ρ i with
          | none => rw [e3] at e; cases e
          | some y =>
            rw [e3] at e
            cases y with
            | d x =>
              cases e
              obtain ⟨v', k1, k2⟩ := r.dat i _ e3
              rw [a] at k1; cases k1
              rw [lc false (by unfold lentB; rw [e3])]
              exact ⟨A, .d k2 h1, h2⟩
            | z ns =>
              cases e
              obtain ⟨p, k1, k2⟩ := r.scr i _ e3
              rw [a] at k1; cases k1
              rw [lc false (by unfold lentB; rw [e3])]
              exact ⟨A, .z k2 h1, h2⟩
            | o x =>
              cases e
              obtain ⟨p, o, k1, k2, k3, _⟩ := r.own i _ e3
              rw [a] at k1; cases k1
              rw [lc true (by unfold lentB; rw [e3])]
              exact ⟨p :: A, .b (w.own p o k2) k3 (w.sep p o k2) h1, .cons a h2⟩
            | b x =>
              cases e
              obtain ⟨p, o, k1, k2, k3, _⟩ := r.bor i _ e3
              rw [a] at k1; cases k1
              rw [lc true (by unfold lentB; rw [e3])]
              exact ⟨p :: A, .b (w.own p o k2) k3 (w.sep p o k2) h1, .cons a h2⟩
theorem wipeE_set (ρ : Env) (i : Nat) (x : Option P) : ∀ vs : List Nat, i ∉ vs → wipeE (ρ.set i x) vs = (wipeE ρ vs).set i x
  | [], _ => rfl
  | v :: vs, h => by
    show (wipeE (ρ.set i x) vs).set v none = ((wipeE ρ vs).set v none).set i x
    rw [wipeE_set ρ i x vs fun z => h (List.mem_cons_of_mem _ z), List.set_comm]
    exact fun z => h (by rw [z]; exact List.mem_cons_self)
theorem ownE_wipe {j : Nat} {vs : List Nat} (h : ownE (wipeE ρ vs) j) : ownE ρ j ∧ j ∉ vs := by
  obtain ⟨x, h⟩ := h
  rw [atE_wipe] at h
  by_cases c : j ∈ vs
  · rw [if_pos c] at h; rcases h with h | h <;> cases h
  · rw [if_neg c] at h; exact ⟨⟨x, h⟩, c⟩
theorem give_back {Mn : Mem} {ρ0 : Env} (r : Rel K W bs F ρ0 σ G M) (hm : ∀ i p o, ownE ρ0 i → σ[i]? = some (some (.ref p)) → H' p = some o → (p, o) ∈ Mn) : ∀ {is : List Nat} {A : List Addr} {ws : List Ow} {ρc ρ' : Env}, LentA σ is A → is.Nodup → FinR K G' H' A ws → giveBack ρc is ws = some ρ' → Rel K W bs F (wipeE ρc is) σ G' Mn → (∀ j, ownE ρc j → ownE ρ0 j) → (∀ j ∈ is, atE ρc j = atE ρ0 j) → Rel K W bs F ρ' σ G' Mn
  | _, _, _, ρc, ρ', .nil, _, .nil, hg, rc, _, _ => by cases hg; exact rc
  | _, _, _, ρc, ρ', .cons (i := i) (p := p) (is := is) (A := A) a l, nd, .cons (o := o) (w := w) (ws := ws) h hr fr, hg, rc, oc, same => by
    obtain ⟨n1, n2⟩ := List.nodup_cons.mp nd
    have rc : Rel K W bs F ((wipeE ρc is).set i none) σ G' Mn := rc
    have key : ∀ q : P, ownE ρ0 i → ((q = .o w ∧ W.H0 p = none) ∨ (q = .b w ∧ bs i = some p)) → Rel K W bs F (wipeE (ρc.set i (some q)) is) σ G' Mn := fun q ho hk => by
      rw [wipeE_set _ _ _ _ n1]
      refine rc.setP a (hm i p o ho a h) hr hk (fun j hj e => ?_) (fun u hu => (r.frm p u hu).2 i ho a)
      rcases ownE_set hj with ⟨_, x, z | z⟩ | ⟨z1, z2⟩
      · cases z
      · cases z
      · have e0 := r.one i j p ho (oc j (ownE_wipe z2).1) a e
        subst e0
        refine z1 ⟨rfl, ?_⟩
        obtain ⟨x, z | z⟩ := z2 <;> exact atE_lt z
    have oc' : ∀ q : P, ownE ρ0 i → ∀ j, ownE (ρc.set i (some q)) j → ownE ρ0 j := fun q ho j hj => by
      rcases ownE_set hj with ⟨e, _⟩ | ⟨_, z2⟩
      · rw [← e]; exact ho
      · exact oc j z2
    have same' : ∀ q : P, ∀ j ∈ is, atE (ρc.set i (some q)) j = atE ρ0 j := fun q j hj => by
      rw [atE_set, if_neg (fun z => n1 (by rw [z.1]; exact hj))]
      exact same j (List.mem_cons_of_mem _ hj)
    have hi := same i List.mem_cons_self
    unfold giveBack at hg
    cases e : atE ρc i with
    | none => rw [e] at hg; cases hg
    | some q =>
      rw [e] at hg hi
      cases q with
      | o x =>
        obtain ⟨p2, o2, k1, _, _, k4⟩ := r.own i x hi.symm
        rw [a] at k1; cases k1
        exact give_back r hm l n2 fr hg (key _ ⟨x, .inl hi.symm⟩ (.inl ⟨rfl, k4⟩)) (oc' _ ⟨x, .inl hi.symm⟩) (same' _)
      | b x =>
        obtain ⟨p2, o2, k1, _, _, k4⟩ := r.bor i x hi.symm
        rw [a] at k1; cases k1
        exact give_back r hm l n2 fr hg (key _ ⟨x, .inr hi.symm⟩ (.inr ⟨rfl, k4⟩)) (oc' _ ⟨x, .inr hi.symm⟩) (same' _)
      | d x => cases hg
      | z x => cases hg
/-- behind a call -/
theorem call_back {xs : List X} {A : List Addr} {ws : List Ow} {ρ' : Env} (r : Rel K W bs F ρ σ G M) (w : World W G M H) (la : LentA σ (lent ρ xs) A) (nd : (lent ρ xs).Nodup) (g : Grow A G H G' H') (fr : FinR K G' H' A ws) (hg : giveBack ρ (lent ρ xs) ws = some ρ') : World W G' (fresh M H') H' ∧ Rel K W bs F ρ' σ G' (fresh M H') := by
  have ow : ∀ i ∈ lent ρ xs, ownE ρ i := fun i hi => lent_own hi
  have hA : ∀ p ∈ A, ∃ i ∈ lent ρ xs, σ[i]? = some (some (.ref p)) := fun p hp => la.mem hp
  refine ⟨w.callG (fun p hp => ?_) g, ?_⟩
  · obtain ⟨i, h1, h2⟩ := hA p hp
    obtain ⟨p', o, h3, h4⟩ := r.slot (ow i h1)
    rw [h2] at h3; cases h3
    exact ⟨o, h4⟩
  · refine give_back r (fun i p o ho hs hh => ?_) la nd fr hg ?_ (fun j h => h) (fun j _ => rfl)
    · obtain ⟨p', o', h3, h4⟩ := r.slot ho
      rw [hs] at h3; cases h3
      exact mem_fresh h4 hh
    · refine (r.wipe (lent ρ xs)).callG w g (fun i p hi hs hp => ?_) (fun p o hF hp => ?_)
      · obtain ⟨j, h1, h2⟩ := hA p hp
        have := r.one i j p (ownE_wipe hi).1 (ow j h1) hs h2
        subst this; exact (ownE_wipe hi).2 h1
      · obtain ⟨j, h1, h2⟩ := hA p hp
        exact (r.frm p o hF).2 j (ow j h1) h2
theorem bind_give {α β : Type} {R : Hp → α → β → Prop} {o : Option Env} {k : Env → Env → Rs α} {Q : β → Hp → Prop} {ρ : Env} (hp : Post K Z W bs F E σ G R ((retD o ρ).bind k) Q) : ∃ ρ2, o = some ρ2 ∧ Post K Z W bs F E σ G R (k ρ2 ρ) Q := by
  cases o with
  | none => exact hp.elim
  | some ρ2 => exact ⟨ρ2, rfl, hp⟩
theorem bind_giveO {o : Option Env} {k : Env → Env → Rs Ow} {Q : VK} {ρ : Env} (hp : PostO K Z W bs F E σ G ((retD o ρ).bind k) Q) : ∃ ρ2, o = some ρ2 ∧ PostO K Z W bs F E σ G (k ρ2 ρ) Q := by
  cases o with
  | none => exact hp.elim
  | some ρ2 => exact ⟨ρ2, rfl, hp⟩
theorem freshF {p : Addr} {o : HO} {M2 : Mem} (w : World W G M H) (w2 : World W G' M2 H') (r2 : Rel K W bs F ρ σ G' M2) (hk : M2.map Prod.fst = M.map Prod.fst) (n : H p = none) (h : H' p = some o) (hg : G' p = none) : World W G' ((p, o) :: M2) H' ∧ Rel K W bs ((p, o) :: F) ρ σ G' ((p, o) :: M2) ∧ W.H0 p = none ∧ ∀ u, (p, u) ∉ F := by
  have no : ∀ u, (p, u) ∉ M2 := fun u hu => by
    have : p ∈ M2.map Prod.fst := List.mem_map.mpr ⟨_, hu, rfl⟩
    rw [hk] at this
    obtain ⟨⟨q, z⟩, h1, h2⟩ := List.mem_map.mp this
    have h2 : q = p := h2
    subst h2
    rw [w.own q z h1] at n; cases n
  have n0 := w.new0 n
  refine ⟨⟨w2.gr, fun q u hq => ?_, fun q u hq => ?_, ?_, fun q u hq => ?_⟩, { r2.mono (Ex.refl G') (fun q u h => List.mem_cons_of_mem _ h) with frm := fun q u hq => ?_ }, n0, fun u hu => no u (r2.frm p u hu).1⟩
  · rcases List.mem_cons.mp hq with e | e
    · cases e; exact h
    · exact w2.own q u e
  · rcases List.mem_cons.mp hq with e | e
    · cases e; exact hg
    · exact w2.sep q u e
  · rw [List.map_cons, List.nodup_cons]
    refine ⟨fun z => ?_, w2.nd⟩
    obtain ⟨⟨q, u⟩, h1, h2⟩ := List.mem_map.mp z
    have h2 : q = p := h2
    subst h2
    exact no u h1
  · rcases List.mem_cons.mp hq with e | e
    · cases e; exact .inr n0
    · exact w2.fm q u e
  · rcases List.mem_cons.mp hq with e | e
    · cases e
      refine ⟨List.mem_cons_self, fun i hi z => ?_⟩
      obtain ⟨q, u, a, b⟩ := r2.slot hi
      rw [z] at a; cases a
      exact no u b
    · exact ⟨List.mem_cons_of_mem _ (r2.frm q u e).1, (r2.frm q u e).2⟩
/-- a call by its plain reading -/
theorem call_ok {dvs : List V} {dds : List PyData} (hd : ∀ G, DaL K G dvs dds) (ha : RfA K Z E ta ma) {Q : VK} (rl : Rel K W bs F ρ σ G M) (w : World W G M H) (hp : Post K Z W bs F E σ G (rX K σ) (mCall (fun ps => f (ps ++ dds.map .d)) ma ρ) Q) : ta σ H fun vs H1 => spF K Z f (vs ++ dvs) H1 Q (E σ) :=
  ha.use (Q := Q) rl w hp fun xs ρ1 vs G1 M1 H1 e1 r1 w1 hx hp1 => by
    cases e2 : argsOf ρ1 xs with
    | none => rw [e2] at hp1; exact hp1.elim
    | some ps =>
      rw [e2] at hp1
      obtain ⟨A, h1, h2⟩ := args_of r1 w1 hx e2
      by_cases nd : (lent ρ1 xs).Nodup
      · simp only [if_pos nd] at hp1
        refine ⟨G1, ps ++ dds.map .d, A, w1.gh, h1.app (hd G1), h2.nodup r1 nd (fun i hi => lent_own hi), ?_⟩
        cases e3 : f (ps ++ dds.map .d) with
        | no => rw [e3] at hp1; exact hp1
        | ok x ws =>
          rw [e3] at hp1
          obtain ⟨ρ2, e4, hp2⟩ := bind_give hp1
          intro v G' H' g fr dv
          obtain ⟨w3, r3⟩ := call_back r1 w1 h2 nd g fr e4
          exact hp2 v G' _ H' g.gg r3 w3 dv
        | er x ws =>
          rw [e3] at hp1
          obtain ⟨ρ2, e4, hp2⟩ := bind_give hp1
          intro od G' H' g fr pl
          obtain ⟨w3, r3⟩ := call_back r1 w1 h2 nd g fr e4
          exact hp2 od G' _ H' g.gg r3 w3 pl
        | fr q ws =>
          rw [e3] at hp1
          obtain ⟨ρ2, e4, hp2⟩ := bind_give hp1
          intro p o G' H' g fr hn hh hg hr
          obtain ⟨w3, r3⟩ := call_back r1 w1 h2 nd g fr e4
          obtain ⟨w4, r4, h0, hF⟩ := freshF w1 w3 r3 fresh_keys hn hh hg
          cases q with
          | dct kvs => exact hp2.elim
          | lst ds =>
            obtain ⟨M5, w5, r5⟩ := r4.settleF w4 h0 hF
            cases o with
            | lst ys => exact hp2 (.ref p) (upd G' p (.lst ys)) M5 H' (g.gg.trans (Ex.new hg)) r5 w5 (Da.lst upd_same (DaL.mono (Ex.new hg) hr))
            | _ => exact hr.elim
      · simp only [if_neg nd] at hp1; exact hp1.elim
theorem call_okO {dvs : List V} {dds : List PyData} (hd : ∀ G, DaL K G dvs dds) (ha : RfA K Z E ta ma) {Q : VK} (rl : Rel K W bs F ρ σ G M) (w : World W G M H) (hp : PostO K Z W bs F E σ G (oCall (fun ps => f (ps ++ dds.map .d)) ma ρ) Q) : ta σ H fun vs H1 => spF K Z f (vs ++ dvs) H1 Q (E σ) :=
  ha.useO (Q := Q) rl w hp fun xs ρ1 vs G1 M1 H1 e1 r1 w1 hx hp1 => by
    cases e2 : argsOf ρ1 xs with
    | none => rw [e2] at hp1; exact hp1.elim
    | some ps =>
      rw [e2] at hp1
      obtain ⟨A, h1, h2⟩ := args_of r1 w1 hx e2
      by_cases nd : (lent ρ1 xs).Nodup
      · simp only [if_pos nd] at hp1
        refine ⟨G1, ps ++ dds.map .d, A, w1.gh, h1.app (hd G1), h2.nodup r1 nd (fun i hi => lent_own hi), ?_⟩
        cases e3 : f (ps ++ dds.map .d) with
        | no => rw [e3] at hp1; exact hp1
        | ok x ws => rw [e3] at hp1; exact hp1.elim
        | er x ws =>
          rw [e3] at hp1
          obtain ⟨ρ2, e4, hp2⟩ := bind_giveO hp1
          intro od G' H' g fr pl
          obtain ⟨w3, r3⟩ := call_back r1 w1 h2 nd g fr e4
          exact hp2 od G' _ H' g.gg r3 w3 pl
        | fr q ws =>
          rw [e3] at hp1
          obtain ⟨ρ2, e4, hp2⟩ := bind_giveO hp1
          intro p o G' H' g fr hn hh hg hr
          obtain ⟨w3, r3⟩ := call_back r1 w1 h2 nd g fr e4
          obtain ⟨w4, r4, h0, hF⟩ := freshF w1 w3 r3 fresh_keys hn hh hg
          exact hp2 p o G' _ H' g.gg r4 w4 h0 hF hr
      · simp only [if_neg nd] at hp1; exact hp1.elim
theorem app_nil_map (f : MF) : (fun ps => f (ps ++ ([] : List PyData).map P.d)) = f := by
  funext ps
  rw [List.map_nil, List.append_nil]
theorem rf_call {E0 : XK} (ha : RfA K Z (fun _ => E0) ta ma) : RfE K Z (fun _ => E0) (tCall (spF K Z f) [] E0 ta) (mCall f ma) := fun W bs F ρ σ G M H Q rl w hp => by
  have q := call_ok (f := f) (dvs := []) (dds := []) (fun _ => .nil) ha (Q := Q) rl w (by rw [app_nil_map]; exact hp)
  exact q
theorem rf_callS (ha : RfA K Z E ta ma) : RfE K Z E (tCallS (spF K Z f) E ta) (mCall f ma) := fun W bs F ρ σ G M H Q rl w hp => by
  have q := call_ok (f := f) (dvs := []) (dds := []) (fun _ => .nil) ha (Q := Q) rl w (by rw [app_nil_map]; exact hp)
  simp only [List.append_nil] at q
  exact q
theorem rf_oCall {E0 : XK} (ha : RfA K Z (fun _ => E0) ta ma) : RfO K Z (fun _ => E0) (tCall (spF K Z f) [] E0 ta) (oCall f ma) := fun W bs F ρ σ G M H Q rl w hp => by
  have q := call_okO (f := f) (dvs := []) (dds := []) (fun _ => .nil) ha (Q := Q) rl w (by rw [app_nil_map]; exact hp)
  exact q
/-! # entries -/
theorem ArgR.mem0 : ∀ {ps : List P} {vs : List V} {A : List Addr}, ArgR K G H ps vs A → ∃ M0 : Mem, M0.map Prod.fst = A ∧ (∀ p o, (p, o) ∈ M0 → H p = some o ∧ G p = none) ∧ ∀ (i : Nat) w, ps[i]? = some (.b w) → ∃ p o, vs[i]? = some (.ref p) ∧ (p, o) ∈ M0 ∧ RO K G w o
  | _, _, _, .nil => ⟨[], rfl, (fun _ _ h => nomatch h), (fun i w h => by simp at h)⟩
  | _, _, _, .d h r => by
    obtain ⟨M0, h1, h2, h3⟩ := ArgR.mem0 r
    refine ⟨M0, h1, h2, fun i w hi => ?_⟩
    cases i with
    | zero => cases hi
    | succ i => exact h3 i w hi
  | _, _, _, .z h r => by
    obtain ⟨M0, h1, h2, h3⟩ := ArgR.mem0 r
    refine ⟨M0, h1, h2, fun i w hi => ?_⟩
    cases i with
    | zero => cases hi
    | succ i => exact h3 i w hi
  | _, _, _, .b (p := p) (o := o) h hr n r => by
    obtain ⟨M0, h1, h2, h3⟩ := ArgR.mem0 r
    refine ⟨(p, o) :: M0, by rw [List.map_cons, h1], fun q u hq => ?_, fun i w hi => ?_⟩
    · rcases List.mem_cons.mp hq with e | e
      · cases e; exact ⟨h, n⟩
      · exact h2 q u e
    · cases i with
      | zero => cases hi; exact ⟨p, o, rfl, List.mem_cons_self, hr⟩
      | succ i =>
        obtain ⟨q, u, k1, k2, k3⟩ := h3 i w hi
        exact ⟨q, u, k1, List.mem_cons_of_mem _ k2, k3⟩
theorem ArgR.dat : ∀ {ps : List P} {vs : List V} {A : List Addr}, ArgR K G H ps vs A → ∀ (i : Nat) x, ps[i]? = some (.d x) → ∃ v, vs[i]? = some v ∧ Da K G v x
  | _, _, _, .nil, i, x, h => by simp at h
  | _, _, _, .d a r, 0, x, h => by cases h; exact ⟨_, rfl, a⟩
  | _, _, _, .d a r, i + 1, x, h => ArgR.dat r i x h
  | _, _, _, .z a r, 0, x, h => by cases h
  | _, _, _, .z a r, i + 1, x, h => ArgR.dat r i x h
  | _, _, _, .b _ _ _ r, 0, x, h => by cases h
  | _, _, _, .b _ _ _ r, i + 1, x, h => ArgR.dat r i x h
theorem ArgR.scr : ∀ {ps : List P} {vs : List V} {A : List Addr}, ArgR K G H ps vs A → ∀ (i : Nat) x, ps[i]? = some (.z x) → ∃ a, vs[i]? = some (.ref a) ∧ SqL K G a (x.map V.int)
  | _, _, _, .nil, i, x, h => by simp at h
  | _, _, _, .d a r, 0, x, h => by cases h
  | _, _, _, .d a r, i + 1, x, h => ArgR.scr r i x h
  | _, _, _, .z a r, 0, x, h => by cases h; exact ⟨_, rfl, a⟩
  | _, _, _, .z a r, i + 1, x, h => ArgR.scr r i x h
  | _, _, _, .b _ _ _ r, 0, x, h => by cases h
  | _, _, _, .b _ _ _ r, i + 1, x, h => ArgR.scr r i x h
theorem ArgR.noO : ∀ {ps : List P} {vs : List V} {A : List Addr}, ArgR K G H ps vs A → ∀ (i : Nat) x, ps[i]? ≠ some (.o x)
  | _, _, _, .nil, i, x, h => by simp at h
  | _, _, _, .d a r, 0, x, h => by cases h
  | _, _, _, .d a r, i + 1, x, h => ArgR.noO r i x h
  | _, _, _, .z a r, 0, x, h => by cases h
  | _, _, _, .z a r, i + 1, x, h => ArgR.noO r i x h
  | _, _, _, .b _ _ _ r, 0, x, h => by cases h
  | _, _, _, .b _ _ _ r, i + 1, x, h => ArgR.noO r i x h
theorem ArgR.inA : ∀ {ps : List P} {vs : List V} {A : List Addr}, ArgR K G H ps vs A → ∀ (i : Nat) w p, ps[i]? = some (.b w) → vs[i]? = some (.ref p) → p ∈ A
  | _, _, _, .nil, i, x, p, h, _ => by simp at h
  | _, _, _, .d a r, 0, x, p, h, _ => by cases h
  | _, _, _, .d a r, i + 1, x, p, h, h2 => ArgR.inA r i x p h h2
  | _, _, _, .z a r, 0, x, p, h, _ => by cases h
  | _, _, _, .z a r, i + 1, x, p, h, h2 => ArgR.inA r i x p h h2
  | _, _, _, .b _ _ _ r, 0, x, p, h, h2 => by cases h2; exact List.mem_cons_self
  | _, _, _, .b _ _ _ r, i + 1, x, p, h, h2 => List.mem_cons_of_mem _ (ArgR.inA r i x p h h2)
theorem ArgR.one : ∀ {ps : List P} {vs : List V} {A : List Addr}, ArgR K G H ps vs A → A.Nodup → ∀ (i j : Nat) w w' p, ps[i]? = some (.b w) → ps[j]? = some (.b w') → vs[i]? = some (.ref p) → vs[j]? = some (.ref p) → i = j
  | _, _, _, .nil, _, i, j, _, _, p, h, _, _, _ => by simp at h
  | _, _, _, .d a r, nd, 0, j, _, _, p, h, _, _, _ => by cases h
  | _, _, _, .d a r, nd, i + 1, 0, _, _, p, _, h, _, _ => by cases h
  | _, _, _, .d a r, nd, i + 1, j + 1, _, _, p, h1, h2, h3, h4 => congrArg (· + 1) (ArgR.one r nd i j _ _ p h1 h2 h3 h4)
  | _, _, _, .z a r, nd, 0, j, _, _, p, h, _, _, _ => by cases h
  | _, _, _, .z a r, nd, i + 1, 0, _, _, p, _, h, _, _ => by cases h
  | _, _, _, .z a r, nd, i + 1, j + 1, _, _, p, h1, h2, h3, h4 => congrArg (· + 1) (ArgR.one r nd i j _ _ p h1 h2 h3 h4)
  | _, _, _, .b _ _ _ r, nd, 0, 0, _, _, p, h1, h2, h3, h4 => rfl
  | _, _, _, .b _ _ _ r, nd, i + 1, 0, _, _, p, h1, h2, h3, h4 => by cases h4; exact absurd (r.inA i _ _ h1 h3) (List.nodup_cons.mp nd).1
  | _, _, _, .b _ _ _ r, nd, 0, j + 1, _, _, p, h1, h2, h3, h4 => by cases h3; exact absurd (r.inA j _ _ h2 h4) (List.nodup_cons.mp nd).1
  | _, _, _, .b _ _ _ r, nd, i + 1, j + 1, _, _, p, h1, h2, h3, h4 => congrArg (· + 1) (ArgR.one r (List.nodup_cons.mp nd).2 i j _ _ p h1 h2 h3 h4)
theorem fin_of {Hx : Hp} : ∀ {ps : List P} {vs : List V} {A : List Addr}, ArgR K G H ps vs A → ∀ {ρ : Env} {ws : List Ow}, finals ps ρ = some ws → (∀ (i : Nat) w p, atE ρ i = some (.b w) → vs[i]? = some (.ref p) → ∃ o, Hx p = some o ∧ RO K G' w o) → FinR K G' Hx A ws
  | _, _, _, .nil, ρ, ws, h, _ => by cases h; exact .nil
  | _, _, _, .d a r, [], ws, h, _ => by cases h
  | _, _, _, .d a r, y :: ρ, ws, h, k => fin_of r (show finals _ ρ = some ws from h) fun i w p h1 h2 => k (i + 1) w p h1 h2
  | _, _, _, .z a r, [], ws, h, _ => by cases h
  | _, _, _, .z a r, y :: ρ, ws, h, k => fin_of r (show finals _ ρ = some ws from h) fun i w p h1 h2 => k (i + 1) w p h1 h2
  | _, _, _, .b (ps := ps) a b c r, ρ, ws, h, k => by
    match ρ, h, k with
    | some (.b w) :: ρ, h, k =>
      have h : ((finals ps ρ).bind fun ws => some (w :: ws)) = some ws := h
      cases e : finals ps ρ with
      | none => rw [e] at h; cases h
      | some ws' =>
        rw [e] at h
        cases h
        obtain ⟨o, h1, h2⟩ := k 0 w _ rfl rfl
        exact .cons h1 h2 (fin_of r e fun i w p h1 h2 => k (i + 1) w p h1 h2)
    | [], h, k => cases h
    | none :: ρ, h, k => cases h
    | some (.d _) :: ρ, h, k => cases h
    | some (.o _) :: ρ, h, k => cases h
    | some (.z _) :: ρ, h, k => cases h
/-- from the promise to the body's walk -/
theorem def_start {N : List Str} {n k : Nat} {body : MS} {T : TS} {E0 : XK} {ps : List P} {vs : List V} {A : List Addr} {Q : VK} (hN : N.length = n + k) (hb : RfS K Z (fun _ => E0) T body) (e : Ex G H) (ha : ArgR K G H ps vs A) (nd : A.Nodup) (hl : ps.length = n)
    (h1 : ∀ ρ ws v G' H', body (ps.map some ++ List.replicate k none) = .ok .nx ρ → finals ps ρ = some ws → Grow A G H G' H' → FinR K G' H' A ws → v = V.non → Q v H')
    (h2 : ∀ ρ ws x v G' H', body (ps.map some ++ List.replicate k none) = .ok (.rt (.d x)) ρ → finals ps ρ = some ws → Grow A G H G' H' → FinR K G' H' A ws → Da K G' v x → Q v H')
    (h3 : ∀ ρ ws i w p o G' H', body (ps.map some ++ List.replicate k none) = .ok (.rt (.s i)) ρ → atE ρ i = some (.o w) → finals ps ρ = some ws → Grow A G H G' H' → FinR K G' H' A ws → H p = none → H' p = some o → G' p = none → RO K G' w o → Q (.ref p) H')
    (h6 : ∀ ρ ws w p o G' H', body (ps.map some ++ List.replicate k none) = .ok (.rw w) ρ → finals ps ρ = some ws → Grow A G H G' H' → FinR K G' H' A ws → H p = none → H' p = some o → G' p = none → RO K G' w o → Q (.ref p) H')
    (h4 : ∀ ρ ws x od G' H', body (ps.map some ++ List.replicate k none) = .er x ρ → finals ps ρ = some ws → Grow A G H G' H' → FinR K G' H' A ws → PlR x.place od G' → E0 (.ref (Z.at x.cls)) od H')
    (h5 : endQ ps (body (ps.map some ++ List.replicate k none)) ≠ .no) : T { nx := fun _ H' => Q .non H', rt := Q } (L2.start N vs) H := by
  have hvl := ha.len
  obtain ⟨M0, m1, m2, m3⟩ := ha.mem0
  have w0 : World ⟨G, H, A⟩ G M0 H := ⟨⟨Ex.refl G, e, fun _ _ h _ => h, fun _ _ h => h, fun _ h => h⟩, fun p o h => (m2 p o h).1, fun p o h => (m2 p o h).2, by rw [m1]; exact nd, fun p o h => .inl (by show p ∈ A; rw [← m1]; exact List.mem_map.mpr ⟨_, h, rfl⟩)⟩
  have at0 : ∀ {i q}, atE (ps.map some ++ List.replicate k none) i = some q → ps[i]? = some q := fun {i q} h => by
    unfold atE at h
    by_cases c : i < ps.length
    · rw [List.getElem?_append_left (by rw [List.length_map]; exact c), List.getElem?_map] at h
      cases z : ps[i]? with
      | none => rw [z] at h; cases h
      | some y => rw [z] at h; cases h; rfl
    · rw [List.getElem?_append_right (by rw [List.length_map]; omega), List.getElem?_replicate] at h
      split at h <;> cases h
  have st0 : ∀ {i v}, vs[i]? = some v → (L2.start N vs)[i]? = some (some v) := fun {i v} h => by
    have c := (List.getElem?_eq_some_iff.mp h).1
    unfold L2.start
    rw [List.getElem?_append_left (by rw [List.length_map]; exact c), List.getElem?_map, h]; rfl
  have st1 : ∀ {i v q}, atE (ps.map some ++ List.replicate k none) i = some q → (L2.start N vs)[i]? = some (some v) → vs[i]? = some v := fun {i v q} h z => by
    have c : i < vs.length := by rw [hvl]; exact (List.getElem?_eq_some_iff.mp (at0 h)).1
    unfold L2.start at z
    rw [List.getElem?_append_left (by rw [List.length_map]; exact c), List.getElem?_map, List.getElem?_eq_getElem c] at z
    cases z
    exact List.getElem?_eq_getElem c
  let bs : Nat → Option Addr := fun i => match vs[i]? with
    | some (.ref p) => some p
    | _ => none
  have r0 : Rel K ⟨G, H, A⟩ bs [] (ps.map some ++ List.replicate k none) (L2.start N vs) G M0 := by
    refine ⟨?_, fun i x h => ?_, fun i x h => ?_, fun i x h => ?_, fun i x h => ?_, fun i j p h1 h2 h3 h4 => ?_, fun _ _ h => nomatch h⟩
    · unfold L2.start
      rw [List.length_append, List.length_append, List.length_map, List.length_map, List.length_replicate, List.length_replicate]
      omega
    · obtain ⟨v, a, b⟩ := ha.dat i x (at0 h)
      exact ⟨v, st0 a, b⟩
    · obtain ⟨v, a, b⟩ := ha.scr i x (at0 h)
      exact ⟨v, st0 a, b⟩
    · exact absurd (at0 h) (ha.noO i x)
    · obtain ⟨p, o, a, b, c⟩ := m3 i x (at0 h)
      exact ⟨p, o, st0 a, b, c, by show (match vs[i]? with | some (.ref p) => some p | _ => none) = some p; rw [a]⟩
    · obtain ⟨x, h1⟩ := h1
      obtain ⟨y, h2⟩ := h2
      have h1 : atE (ps.map some ++ List.replicate k none) i = some (.b x) := h1.resolve_left fun z => ha.noO i x (at0 z)
      have h2 : atE (ps.map some ++ List.replicate k none) j = some (.b y) := h2.resolve_left fun z => ha.noO j y (at0 z)
      exact ha.one nd i j x y p (at0 h1) (at0 h2) (st1 h1 h3) (st1 h2 h4)
  have fin : ∀ {ρ' σ' G' M' H' ws}, Rel K ⟨G, H, A⟩ bs [] ρ' σ' G' M' → World ⟨G, H, A⟩ G' M' H' → finals ps ρ' = some ws → FinR K G' H' A ws := fun {ρ' σ' G' M' H' ws} r w hf => fin_of ha hf fun i x p q1 q2 => by
    obtain ⟨p', o, a, b, c, d⟩ := r.bor i x q1
    have d : (match vs[i]? with | some (.ref p) => some p | _ => none) = some p' := d
    rw [q2] at d
    cases d
    exact ⟨o, w.own p o b, c⟩
  refine hb ⟨G, H, A⟩ bs [] _ _ G M0 H _ r0 w0 ?_
  cases e1 : body (ps.map some ++ List.replicate k none) with
  | no => rw [e1] at h5; exact absurd rfl h5
  | er x ρ =>
    intro od σ' G' M' H' e2 r w pl
    cases e3 : finals ps ρ with
    | none => rw [e1, endQ_er, e3] at h5; exact absurd rfl h5
    | some ws => exact h4 ρ ws x od G' H' e1 e3 w.gr (fin r w e3) pl
  | ok ft ρ =>
    cases ft with
    | bk => rw [e1] at h5; exact absurd rfl h5
    | ct => rw [e1] at h5; exact absurd rfl h5
    | rw x =>
      intro p o σ' G' M' H' e2 r w h0 _ hr
      cases e3 : finals ps ρ with
      | none => rw [e1, endQ_w, e3] at h5; exact absurd rfl h5
      | some ws =>
        have hm := (r.frm p o List.mem_cons_self).1
        exact h6 ρ ws x p o G' H' e1 e3 w.gr (fin r.tail w e3) h0 (w.own p o hm) (w.sep p o hm) hr
    | nx =>
      intro σ' G' M' H' e2 r w
      cases e3 : finals ps ρ with
      | none => rw [e1, endQ_nx, e3] at h5; exact absurd rfl h5
      | some ws => exact h1 ρ ws .non G' H' e1 e3 w.gr (fin r w e3) rfl
    | rt x =>
      intro v σ' G' M' H' e2 r w hx
      cases x with
      | d x =>
        cases e3 : finals ps ρ with
        | none => rw [e1, endQ_d, e3] at h5; exact absurd rfl h5
        | some ws => exact h2 ρ ws x v G' H' e1 e3 w.gr (fin r w e3) hx
      | s i =>
        rw [e1] at h5
        rw [endQ_s] at h5
        cases e4 : atE ρ i with
        | none => rw [e4] at h5; exact absurd rfl h5
        | some q =>
          rw [e4] at h5
          cases q with
          | o x =>
            cases e3 : finals ps ρ with
            | none => rw [e3] at h5; exact absurd rfl h5
            | some ws =>
              obtain ⟨p, o, a, b, c, d⟩ := r.own i x e4
              have hx : σ'[i]? = some (some v) := hx
              rw [hx] at a; cases a
              exact h3 ρ ws i x p o G' H' e1 e4 e3 w.gr (fin r w e3) d (w.own p o b) (w.sep p o b) c
          | d x => exact absurd rfl h5
          | b x => exact absurd rfl h5
          | z x => exact absurd rfl h5
theorem def_in {N : List Str} {n k : Nat} {body : MS} {T : XK → TS} (hN : N.length = n + k) (hb : ∀ E0, RfS K Z (fun _ => E0) (T E0) body) : ∀ vs H Q E, spF K Z (mDef n k body) vs H Q E → T E { nx := fun _ H' => Q .non H', rt := Q } (L2.start N vs) H := fun vs H Q E ⟨G, ps, A, e, ha, nd, h⟩ => by
  unfold mDef at h
  by_cases hl : ps.length = n
  · rw [if_pos hl] at h
    refine def_start hN (hb E) e ha nd hl (fun ρ ws v G' H' e1 e2 g fr hv => ?_) (fun ρ ws x v G' H' e1 e2 g fr dv => ?_) (fun ρ ws i w p o G' H' e1 e3 e2 g fr a b c d => ?_) (fun ρ ws w p o G' H' e1 e2 g fr a b c d => ?_) (fun ρ ws x od G' H' e1 e2 g fr pl => ?_) (fun z => ?_)
    · rw [e1, endQ_nx, e2] at h; exact h v G' H' g fr (by rw [hv]; exact .non)
    · rw [e1, endQ_d, e2] at h; exact h v G' H' g fr dv
    · rw [e1, endQ_s, e2, e3] at h; exact h p o G' H' g fr a b c d
    · rw [e1, endQ_w, e2] at h; exact h p o G' H' g fr a b c d
    · rw [e1, endQ_er, e2] at h; exact h od G' H' g fr pl
    · rw [z] at h; exact h
  · rw [if_neg hl] at h; exact h.elim
/-- .. of a def that never raises -/
def quiet : Rq → Rq
  | .er _ _ => .no
  | r => r
@[simp] theorem quiet_ok (x : PyData) (ws : List Ow) : quiet (.ok x ws) = .ok x ws := Eq.trans rfl rfl
@[simp] theorem quiet_fr (x : Ow) (ws : List Ow) : quiet (.fr x ws) = .fr x ws := Eq.trans rfl rfl
@[simp] theorem quiet_er (x : Exn) (ws : List Ow) : quiet (.er x ws) = .no := Eq.trans rfl rfl
@[simp] theorem quiet_no : quiet .no = .no := Eq.trans rfl rfl
def mDef0 (n k : Nat) (body : MS) : MF := fun ps => quiet (mDef n k body ps)
@[simp] theorem mDef0_eq (n k : Nat) (body : MS) (ps : List P) : mDef0 n k body ps = (quiet (mDef n k body ps)) := by unfold mDef0; exact Eq.trans rfl rfl
theorem def_in0 {N : List Str} {n k : Nat} {body : MS} {T : TS} {E0 : XK} (hN : N.length = n + k) (hb : RfS K Z (fun _ => E0) T body) : ∀ vs H Q E, spF K Z (mDef0 n k body) vs H Q E → T { nx := fun _ H' => Q .non H', rt := Q } (L2.start N vs) H := fun vs H Q E ⟨G, ps, A, e, ha, nd, h⟩ => by
  unfold mDef0 mDef at h
  by_cases hl : ps.length = n
  · rw [if_pos hl] at h
    refine def_start hN hb e ha nd hl (fun ρ ws v G' H' e1 e2 g fr hv => ?_) (fun ρ ws x v G' H' e1 e2 g fr dv => ?_) (fun ρ ws i w p o G' H' e1 e3 e2 g fr a b c d => ?_) (fun ρ ws w p o G' H' e1 e2 g fr a b c d => ?_) (fun ρ ws x od G' H' e1 e2 g fr pl => ?_) (fun z => ?_)
    · rw [e1, endQ_nx, e2] at h; exact h v G' H' g fr (by rw [hv]; exact .non)
    · rw [e1, endQ_d, e2] at h; exact h v G' H' g fr dv
    · rw [e1, endQ_s, e2, e3] at h; exact h p o G' H' g fr a b c d
    · rw [e1, endQ_w, e2] at h; exact h p o G' H' g fr a b c d
    · rw [e1, endQ_er, e2] at h; exact h.elim
    · rw [z] at h; exact h
  · rw [if_neg hl] at h; exact h.elim
theorem spF_len {n k : Nat} {body : MS} : ∀ vs H Q E, spF K Z (mDef n k body) vs H Q E → vs.length = n := fun vs H Q E ⟨G, ps, A, e, ha, nd, h⟩ => by
  rw [ha.len]
  unfold mDef at h
  by_cases hl : ps.length = n
  · exact hl
  · rw [if_neg hl] at h; exact h.elim
theorem spF_len0 {n k : Nat} {body : MS} : ∀ vs H Q E, spF K Z (mDef0 n k body) vs H Q E → vs.length = n := fun vs H Q E ⟨G, ps, A, e, ha, nd, h⟩ => by
  rw [ha.len]
  unfold mDef0 mDef at h
  by_cases hl : ps.length = n
  · exact hl
  · rw [if_neg hl] at h; exact h.elim
end
/-! # operators of data -/
instance (i j : Int) : Decidable (CMulW i j) := by unfold CMulW; exact inferInstance
instance (i j : Int) : Decidable (CDivW i j) := by unfold CDivW; exact inferInstance
instance (i j : Int) : Decidable (CPow i j) := by unfold CPow; exact inferInstance
@[simp] def fAdd : PyData → PyData → Option PyData
  | .int i, .int j => some (.int (i + j))
  | .str x, .str y => if x.length + y.length ≤ 100000 then some (.str (x ++ y)) else none
  | .list a, .list b => if a.length + b.length ≤ 100000 then some (.list (a ++ b)) else none
  | .tuple a, .tuple b => if a.length + b.length ≤ 100000 then some (.tuple (a ++ b)) else none
  | _, _ => none
@[simp] def fSub : PyData → PyData → Option PyData
  | .int i, .int j => some (.int (i - j))
  | _, _ => none
@[simp] def fMul : PyData → PyData → Option PyData
  | .int i, .int j => if CMulW i j then some (.int (i * j)) else none
  | .list a, .int k => if 0 ≤ k ∧ k ≤ 100000 ∧ a.length * k.toNat ≤ 100000 then some (.list (List.replicate k.toNat a).flatten) else none
  | _, _ => none
@[simp] def fDiv : PyData → PyData → Option PyData
  | .int i, .int j => if CDivW i j then some (.int (i / j)) else none
  | _, _ => none
@[simp] def fMod : PyData → PyData → Option PyData
  | .int i, .int j => if 0 < j then some (.int (i % j)) else none
  | _, _ => none
@[simp] def fPow : PyData → PyData → Option PyData
  | .int i, .int j => if CPow i j then some (.int (i ^ j.toNat)) else none
  | _, _ => none
@[simp] def fCmpI (f : Int → Int → Bool) : PyData → PyData → Option PyData
  | .int i, .int j => some (.bool (f i j))
  | _, _ => none
@[simp] def fLe := fCmpI fun i j => decide (i ≤ j)
@[simp] def fGt := fCmpI fun i j => decide (j < i)
@[simp] def fGe := fCmpI fun i j => decide (j ≤ i)
@[simp] def fLt : PyData → PyData → Option PyData
  | .int i, .int j => some (.bool (decide (i < j)))
  | .str x, .str y => some (.bool (decide (x.cps.toList < y.cps.toList)))
  | _, _ => none
/-- == of two pieces of data -/
@[simp] def eqD : PyData → PyData → Option Bool
  | .int i, .int j => some (decide (i = j))
  | .str x, .str y => some (decide (x = y))
  | .bool i, .bool j => some (i == j)
  | .none, .none => some true
  | a, b => if SeqAt.shaped a && SeqAt.shaped b then some (PyData.eqv a b) else none
@[simp] def fEq (a b : PyData) : Option PyData := (eqD a b).map .bool
@[simp] def fNe (a b : PyData) : Option PyData := (eqD a b).map fun c => .bool (!c)
@[simp] def flatD : PyData → Bool
  | .none | .bool _ | .int _ | .str _ => true
  | _ => false
@[simp] def eqF : PyData → PyData → Bool
  | .none, .none => true
  | .bool a, .bool b => a == b
  | .bool a, .int b => (if a then 1 else 0) == b
  | .int a, .bool b => a == (if b then 1 else 0)
  | .int a, .int b => a == b
  | .str a, .str b => a == b
  | _, _ => false
def inF (x : PyData) (ys : List PyData) : Bool := ys.any fun y => eqF y x
@[simp] def fInB : PyData → PyData → Option Bool
  | .str x, .str y => (match x.cps.toList with | [c] => some (decide (c ∈ y.cps.toList)) | _ => none)
  | x, .list ys => if flatD x && ys.all flatD then some (inF x ys) else none
  | x, .tuple ys => if flatD x && ys.all flatD then some (inF x ys) else none
  | _, _ => none
@[simp] def fIn (a b : PyData) : Option PyData := (fInB a b).map .bool
@[simp] def fNotIn (a b : PyData) : Option PyData := (fInB a b).map fun c => .bool (!c)
@[simp] def fIsN : PyData → PyData → Option PyData
  | a, .none => some (.bool (isN a))
  | _, _ => none
@[simp] def fNotN : PyData → PyData → Option PyData
  | a, .none => some (.bool (!isN a))
  | _, _ => none
@[simp] def fIx : PyData → PyData → Option PyData
  | .list ds, .int i => atI ds i
  | .tuple ds, .int i => atI ds i
  | .str x, .int i => if x.length ≤ 100000 then (atI x.cps.toList i).map fun c => .str ⟨#[c]⟩ else none
  | _, _ => none
@[simp] def fSl : PyData → Option Int → Option Int → Option PyData
  | .list ds, l, h => some (.list (cutG ds l h))
  | .tuple ds, l, h => some (.tuple (cutG ds l h))
  | _, _, _ => none
@[simp] def fNeg : PyData → Option PyData
  | .int i => some (.int (-i))
  | _ => none
@[simp] def fLen : PyData → Option PyData
  | .list ds => some (.int ds.length)
  | .tuple ds => some (.int ds.length)
  | .str x => if x.length ≤ 100000 then some (.int x.length) else none
  | _ => none
@[simp] def f1 (f : PyData → Option PyData) : List PyData → Option PyData
  | [x] => f x
  | _ => none
@[simp] def f2 (f : PyData → PyData → Option PyData) : List PyData → Option PyData
  | [x, y] => f x y
  | _ => none
def boolsD : List PyData → Option (List Bool)
  | [] => some []
  | .bool b :: r => (boolsD r).map fun s => b :: s
  | _ => none
def intsD : List PyData → Option (List Int)
  | [] => some []
  | .int b :: r => (intsD r).map fun s => b :: s
  | _ => none
def strsD : List PyData → Option (List Str)
  | [] => some []
  | .str b :: r => (strsD r).map fun s => b :: s
  | _ => none
@[simp] def fAll : PyData → Option PyData
  | .list ds => (boolsD ds).map fun bs => .bool (bs.all id)
  | _ => none
@[simp] def fAny : PyData → Option PyData
  | .list ds => (boolsD ds).map fun bs => .bool (bs.any id)
  | _ => none
@[simp] def fSum : PyData → Option PyData
  | .list ds => (intsD ds).map fun bs => .int bs.sum
  | _ => none
@[simp] def fTuple : PyData → Option PyData
  | .list ds => some (.tuple ds)
  | .tuple ds => some (.tuple ds)
  | _ => none
@[simp] def fList : PyData → Option PyData
  | .list ds => some (.list ds)
  | .tuple ds => some (.list ds)
  | _ => none
@[simp] def fInt : PyData → Option PyData
  | .int i => some (.int i)
  | .bool b => some (.int (if b then 1 else 0))
  | _ => none
@[simp] def fMax2 : PyData → PyData → Option PyData
  | .int i, .int j => some (.int (max i j))
  | _, _ => none
@[simp] def fMin2 : PyData → PyData → Option PyData
  | .int i, .int j => some (.int (min i j))
  | _, _ => none
@[simp] def fDivmod : PyData → PyData → Option PyData
  | .int i, .int j => if 0 < j ∧ j < 1073741824 then some (.tuple [.int (i / j), .int (i % j)]) else none
  | _, _ => none
@[simp] def fIsi (T : String) (a : PyData) : Option PyData := match T with
  | "int" => some (.bool (isInt a))
  | "bool" => some (.bool (isBool a))
  | "str" => some (.bool (isStr a))
  | "tuple" => some (.bool (isTup a))
  | "list" => some (.bool (isLst a))
  | _ => none
section
variable {K : PySem.W.Frag} {G H : Hp}
theorem done {d : PyData} {v : V} {Q : VK} (e : Ex G H) (q : ∀ v G' H', Grow [] G H G' H' → Da K G' v d → Q v H') (h : Da K G v d) : Q v H := q v G H (Grow.refl e) h
theorem new_lst {xs : List V} {ds : List PyData} {p : Addr} {Q : VK} (e : Ex G H) (q : ∀ v G' H', Grow [] G H G' H' → Da K G' v (.list ds) → Q v H') (hn : H p = none) (r : DaL K G xs ds) : Q (.ref p) (upd H p (.lst xs)) :=
  q _ _ _ (Grow.new e hn) (.lst upd_same (r.mono (Ex.new (fresh_back e hn))))
theorem new_tup {xs : List V} {ds : List PyData} {p : Addr} {Q : VK} (e : Ex G H) (q : ∀ v G' H', Grow [] G H G' H' → Da K G' v (.tuple ds) → Q v H') (hn : H p = none) (r : DaL K G xs ds) : Q (.ref p) (upd H p (.tup xs)) :=
  q _ _ _ (Grow.new e hn) (.tup (SqT.of upd_same) (r.mono (Ex.new (fresh_back e hn))))
theorem o_add : Op2 K (kAdd K) fAdd := fun a b d hf G H e x y hx hy Q q => by
  match a, b, hf, hx, hy with
  | .int i, .int j, hf, hx, hy => cases hf; exact .inl ⟨i, j, hx.int, hy.int, done e q (.int _)⟩
  | .str i, .str j, hf, hx, hy =>
    have hf : (if i.length + j.length ≤ 100000 then some (PyData.str (i ++ j)) else none) = some d := hf
    split at hf
    · cases hf; exact .inr (.inl ⟨i, j, hx.str, hy.str, sz_of (by assumption), done e q (.str _)⟩)
    · cases hf
  | .list i, .list j, hf, hx, hy =>
    have hf : (if i.length + j.length ≤ 100000 then some (PyData.list (i ++ j)) else none) = some d := hf
    split at hf
    · cases hf
      obtain ⟨p, xs, rfl, h1, h2⟩ := hx.list e
      obtain ⟨p', ys, rfl, h3, h4⟩ := hy.list e
      exact .inr (.inr (.inl ⟨_, _, _, _, rfl, rfl, h1, h3, by rw [h2.len, h4.len]; exact sz_of (by assumption), fun p hp => new_lst e q hp (h2.app h4)⟩))
    · cases hf
  | .tuple i, .tuple j, hf, hx, hy =>
    have hf : (if i.length + j.length ≤ 100000 then some (PyData.tuple (i ++ j)) else none) = some d := hf
    split at hf
    · cases hf
      obtain ⟨p, xs, rfl, h1, h2⟩ := hx.tuple e
      obtain ⟨p', ys, rfl, h3, h4⟩ := hy.tuple e
      refine .inr (.inr (.inr ⟨_, _, _, _, rfl, rfl, ex_t e h1, ex_t e h3, by rw [h2.len, h4.len]; exact sz_of (by assumption), fun z => ?_, fun _ z => ?_, fun _ _ p hp => new_tup e q hp (h2.app h4)⟩))
      · subst z; cases h2; exact done e q (.tup h3 h4)
      · subst z; cases h4; exact done e q (.tup h1 (by rw [List.append_nil]; exact h2))
    · cases hf
theorem o_I0 {g : Int → Int → V} {f : PyData → PyData → Option PyData} (h1 : ∀ a b d, f a b = some d → ∃ i j, a = .int i ∧ b = .int j ∧ ∀ G, Da K G (g i j) d) : Op2 K (rI0 g) f := fun a b d hf G H e x y hx hy Q q => by
  obtain ⟨i, j, rfl, rfl, h⟩ := h1 a b d hf
  exact ⟨i, j, hx.int, hy.int, done e q (h G)⟩
theorem o_sub : Op2 K kSub fSub := o_I0 fun a b d h => by
  match a, b, h with
  | .int i, .int j, h => cases h; exact ⟨i, j, rfl, rfl, fun _ => .int _⟩
theorem o_cmp {f : Int → Int → Bool} : Op2 K (rI0 fun i j => .bl (f i j)) (fCmpI f) := o_I0 fun a b d h => by
  match a, b, h with
  | .int i, .int j, h => cases h; exact ⟨i, j, rfl, rfl, fun _ => .bl _⟩
theorem o_le : Op2 K kLe fLe := o_cmp
theorem o_gt : Op2 K kGt fGt := o_cmp
theorem o_ge : Op2 K kGe fGe := o_cmp
theorem o_I {C : Int → Int → Prop} {g : Int → Int → V} {f : PyData → PyData → Option PyData} (h1 : ∀ a b d, f a b = some d → ∃ i j, a = .int i ∧ b = .int j ∧ C i j ∧ ∀ G, Da K G (g i j) d) : Op2 K (rI C g) f := fun a b d hf G H e x y hx hy Q q => by
  obtain ⟨i, j, rfl, rfl, c, h⟩ := h1 a b d hf
  exact ⟨i, j, hx.int, hy.int, c, done e q (h G)⟩
theorem o_div : Op2 K kDiv fDiv := o_I fun a b d h => by
  match a, b, h with
  | .int i, .int j, h =>
    have h : (if CDivW i j then some (PyData.int (i / j)) else none) = some d := h
    split at h
    · cases h; exact ⟨i, j, rfl, rfl, by assumption, fun _ => .int _⟩
    · cases h
theorem o_mod : Op2 K kMod fMod := o_I fun a b d h => by
  match a, b, h with
  | .int i, .int j, h =>
    have h : (if 0 < j then some (PyData.int (i % j)) else none) = some d := h
    split at h
    · cases h; exact ⟨i, j, rfl, rfl, by assumption, fun _ => .int _⟩
    · cases h
theorem o_pow : Op2 K kPow fPow := o_I fun a b d h => by
  match a, b, h with
  | .int i, .int j, h =>
    have h : (if CPow i j then some (PyData.int (i ^ j.toNat)) else none) = some d := h
    split at h
    · cases h; exact ⟨i, j, rfl, rfl, by assumption, fun _ => .int _⟩
    · cases h
theorem DaL.rep {H : Hp} {vs : List V} {ds : List PyData} (h : DaL K H vs ds) : ∀ n : Nat, DaL K H (List.replicate n vs).flatten (List.replicate n ds).flatten
  | 0 => .nil
  | n + 1 => by
    rw [List.replicate_succ, List.replicate_succ, List.flatten_cons, List.flatten_cons]
    exact h.app (DaL.rep h n)
theorem o_mul : Op2 K kMul fMul := fun a b d hf G H e x y hx hy Q q => by
  match a, b, hf, hx, hy with
  | .int i, .int j, h, hx, hy =>
    have h : (if CMulW i j then some (PyData.int (i * j)) else none) = some d := h
    split at h
    · cases h; exact .inl ⟨i, j, hx.int, hy.int, by assumption, done e q (.int _)⟩
    · cases h
  | .list i, .int k, h, hx, hy =>
    have h : (if 0 ≤ k ∧ k ≤ 100000 ∧ i.length * k.toNat ≤ 100000 then some (PyData.list (List.replicate k.toNat i).flatten) else none) = some d := h
    split at h
    · cases h
      rename_i c
      obtain ⟨p, xs, rfl, h1, h2⟩ := hx.list e
      exact .inr ⟨_, k, _, rfl, hy.int, h1, by omega, by omega, by rw [h2.len]; exact sz_of c.2.2, fun p hp => new_lst e q hp (h2.rep _)⟩
    · cases h
theorem o_lt : Op2 K (kLt K) fLt := fun a b d hf G H e x y hx hy Q q => by
  match a, b, hf, hx, hy with
  | .int i, .int j, h, hx, hy => cases h; exact .inl ⟨i, j, hx.int, hy.int, done e q (.bl _)⟩
  | .str i, .str j, h, hx, hy => cases h; exact .inr (.inl ⟨i, j, hx.str, hy.str, done e q (.bl _)⟩)
theorem eqD_cases {a b : PyData} {c : Bool} (h : eqD a b = some c) : (∃ i j, a = .int i ∧ b = .int j ∧ c = decide (i = j)) ∨ (∃ i j, a = .str i ∧ b = .str j ∧ c = decide (i = j)) ∨ (∃ i j, a = .bool i ∧ b = .bool j ∧ c = (i == j)) ∨ (a = .none ∧ b = .none ∧ c = true) ∨ (SeqAt.shaped a = true ∧ SeqAt.shaped b = true ∧ c = PyData.eqv a b) := by
  unfold eqD at h
  split at h
  · cases h; exact .inl ⟨_, _, rfl, rfl, rfl⟩
  · cases h; exact .inr (.inl ⟨_, _, rfl, rfl, rfl⟩)
  · cases h; exact .inr (.inr (.inl ⟨_, _, rfl, rfl, rfl⟩))
  · cases h; exact .inr (.inr (.inr (.inl ⟨rfl, rfl, rfl⟩)))
  · split at h
    · cases h
      rename_i c
      rw [Bool.and_eq_true] at c
      exact .inr (.inr (.inr (.inr ⟨c.1, c.2, rfl⟩)))
    · cases h
theorem o_eqG {r1 r2 : R2} {g : Bool → Bool} (h1 : ∀ x y H Q, scal x y = true → Q (.bl (g (decide (x = y)))) H → r1 x y H Q) (h2 : ∀ x y H Q, (∃ d e, Dp K H x d ∧ Dp K H y e ∧ SeqAt.shaped d = true ∧ SeqAt.shaped e = true ∧ Q (.bl (g (PyData.eqv d e))) H) → r2 x y H Q) : Op2 K (fun x y H Q => r1 x y H Q ∨ r2 x y H Q) (fun a b => (eqD a b).map fun c => .bool (g c)) := fun a b d hf G H e x y hx hy Q q => by
  obtain ⟨c, h, rfl⟩ := Option.map_eq_some_iff.mp hf
  rcases eqD_cases h with ⟨i, j, rfl, rfl, rfl⟩ | ⟨i, j, rfl, rfl, rfl⟩ | ⟨i, j, rfl, rfl, rfl⟩ | ⟨rfl, rfl, rfl⟩ | ⟨s1, s2, rfl⟩
  · obtain rfl := hx.int
    obtain rfl := hy.int
    refine .inl (h1 _ _ _ _ rfl ?_)
    rw [dec_int, Bool.beq_eq_decide_eq]; exact done e q (.bl _)
  · obtain rfl := hx.str
    obtain rfl := hy.str
    refine .inl (h1 _ _ _ _ rfl ?_)
    rw [dec_str, Bool.beq_eq_decide_eq]; exact done e q (.bl _)
  · obtain rfl := hx.bool
    obtain rfl := hy.bool
    refine .inl (h1 _ _ _ _ rfl ?_)
    rw [dec_bl]; exact done e q (.bl _)
  · obtain rfl := hx.none
    obtain rfl := hy.none
    refine .inl (h1 _ _ _ _ rfl ?_)
    rw [decide_eq_true rfl]; exact done e q (.bl _)
  · exact .inr (h2 _ _ _ _ ⟨a, b, hx.dp e, hy.dp e, s1, s2, done e q (.bl _)⟩)
theorem o_eq : Op2 K (kEq K) fEq := o_eqG (r1 := rEq) (r2 := rEqD K) (g := id) (fun x y H Q h q => ⟨h, q⟩) (fun x y H Q h => h)
theorem o_ne : Op2 K (kNe K) fNe := o_eqG (r1 := rNe) (r2 := rNeD K) (g := (!·)) (fun x y H Q h q => ⟨h, q⟩) (fun x y H Q h => h)
theorem Da.flat {v : V} {d : PyData} (h : Da K G v d) (f : flatD d = true) : flatV v = true := by
  cases h <;> first | rfl | cases f
theorem Da.eqF {v w : V} {a b : PyData} (h : Da K G v a) (k : Da K G w b) (f : flatD a = true) (g : flatD b = true) : eqV v w = LK.eqF a b := by
  cases h <;> cases k <;> first | rfl | exact absurd f (by unfold flatD; decide) | exact absurd g (by unfold flatD; decide)
theorem DaL.flat : ∀ {vs : List V} {ds : List PyData}, DaL K G vs ds → ds.all flatD = true → vs.all flatV = true
  | _, _, .nil, _ => rfl
  | _, _, .cons h r, f => by
    rw [List.all_cons, Bool.and_eq_true] at f
    rw [List.all_cons, h.flat f.1, DaL.flat r f.2]; rfl
theorem DaL.inF {v : V} {x : PyData} (h : Da K G v x) (f : flatD x = true) : ∀ {vs : List V} {ds : List PyData}, DaL K G vs ds → ds.all flatD = true → inV v vs = LK.inF x ds
  | _, _, .nil, _ => rfl
  | _, _, .cons k r, g => by
    rw [List.all_cons, Bool.and_eq_true] at g
    have ih := DaL.inF h f r g.2
    unfold inV LK.inF at ih ⊢
    rw [List.any_cons, List.any_cons, ih, k.eqF h g.1 f]
theorem vw_flat {v : V} {x : PyData} (h : Vw K G H v x) (f : flatD x = true) : Da K G v x := by
  rcases h with h | ⟨a, xs, ds, rfl, rfl, _, _⟩
  · exact h
  · cases f
theorem str_one {x : Str} {c : Nat} (h : x.cps.toList = [c]) : x = ⟨#[c]⟩ := Str.of_toList (by rw [h])
theorem o_inG {neg : Bool} {g : Bool → Bool} (hg : ∀ c, g c = if neg then !c else c) : Op2 K (fun x y H Q => rIn K neg x y H Q ∨ ∃ (c : Nat) (z : Str), x = .str ⟨#[c]⟩ ∧ y = .str z ∧ Q (.bl (g (decide (c ∈ z.cps.toList)))) H) (fun a b => (fInB a b).map fun c => .bool (g c)) := fun a b d hf G H e x y hx hy Q q => by
  obtain ⟨c, h, rfl⟩ := Option.map_eq_some_iff.mp hf
  unfold fInB at h
  split at h
  · rename_i s t
    split at h
    · cases h
      rename_i c hc
      obtain rfl := str_one hc
      exact .inr ⟨c, t, hx.str, hy.str, done e q (.bl _)⟩
    · cases h
  · rename_i ys _
    split at h
    · cases h
      rename_i hh
      rw [Bool.and_eq_true] at hh
      have hx := vw_flat hx hh.1
      obtain ⟨p, xs, rfl, h1, h2⟩ := hy.list e
      refine .inl ⟨_, _, rfl, .inl (SqL.of h1), hx.flat hh.1, h2.flat hh.2, ?_⟩
      rw [← hg, DaL.inF hx hh.1 h2 hh.2]; exact done e q (.bl _)
    · cases h
  · rename_i ys _
    split at h
    · cases h
      rename_i hh
      rw [Bool.and_eq_true] at hh
      have hx := vw_flat hx hh.1
      obtain ⟨p, xs, rfl, h1, h2⟩ := hy.tuple e
      refine .inl ⟨_, _, rfl, .inr (ex_t e h1), hx.flat hh.1, h2.flat hh.2, ?_⟩
      rw [← hg, DaL.inF hx hh.1 h2 hh.2]; exact done e q (.bl _)
    · cases h
  · cases h
theorem o_in : Op2 K (kIn K) fIn := o_inG (neg := false) (g := id) fun _ => rfl
theorem o_notIn : Op2 K (kNotIn K) fNotIn := o_inG (neg := true) (g := (!·)) fun _ => rfl
theorem vw_isN {v : V} {x : PyData} (h : Vw K G H v x) : decide (v = .non) = isN x := by
  rcases h with h | ⟨a, xs, ds, rfl, rfl, _, _⟩
  · exact h.isN
  · rfl
theorem o_isN : Op2 K kIsN fIsN := fun a b d hf G H e x y hx hy Q q => by
  unfold fIsN at hf
  split at hf
  · cases hf
    refine ⟨hy.none, ?_⟩
    rw [vw_isN hx]; exact done e q (.bl _)
  · cases hf
theorem o_notN : Op2 K kNotN fNotN := fun a b d hf G H e x y hx hy Q q => by
  unfold fNotN at hf
  split at hf
  · cases hf
    refine ⟨hy.none, ?_⟩
    rw [vw_isN hx]; exact done e q (.bl _)
  · cases hf
theorem o_ix : Op2Z K (rIx K) fIx := fun a b d hf G H e x y hx hy Q q => by
  match a, b, hf, hx, hy with
  | .list ds, .int i, hf, hx, hy =>
    obtain ⟨p, xs, rfl, h1, h2⟩ := hx.list e
    obtain ⟨v, h3, h4⟩ := atI_da h2 hf
    exact .inl ⟨_, _, i, v, rfl, hy.int, h1, h3, done e q h4⟩
  | .tuple ds, .int i, hf, hx, hy =>
    have hx := hx.any (fun _ z => nomatch z)
    cases hx with
    | tup h1 r1 =>
      obtain ⟨v, h3, h4⟩ := atI_da r1 hf
      exact .inr (.inl ⟨_, _, i, v, rfl, hy.int, ex_t e h1, h3, done e q h4⟩)
  | .str z, .int i, hf, hx, hy =>
    have hx := hx.any (fun _ z => nomatch z)
    have hf : (if z.length ≤ 100000 then (atI z.cps.toList i).map fun c => PyData.str ⟨#[c]⟩ else none) = some d := hf
    split at hf
    · obtain ⟨c, h1, rfl⟩ := Option.map_eq_some_iff.mp hf
      exact .inr (.inr ⟨z, i, c, hx.str_eq, hy.int, sz_of (by assumption), h1, done e q (.str _)⟩)
    · cases hf
theorem cutG_all {α : Type} (xs : List α) {l h : Option Int} (c : HT.sIx xs.length 0 l = 0 ∧ HT.sIx xs.length xs.length h = xs.length) : cutG xs l h = xs := by
  unfold cutG
  rw [c.1, c.2, List.drop_zero, Nat.sub_zero, List.take_length]
theorem o_sl : OpS K (kSl K) fSl := fun a l h d hf G H e x hx Q q => by
  match a, hf, hx with
  | .list ds, hf, hx =>
    cases hf
    obtain ⟨p, xs, rfl, h1, h2⟩ := hx.list e
    exact .inl ⟨_, _, rfl, h1, fun p hp => new_lst e q hp (h2.cut l h)⟩
  | .tuple ds, hf, hx =>
    cases hf
    have hx := hx.any (fun _ z => nomatch z)
    cases hx with
    | tup h1 r1 =>
      refine .inr ⟨_, _, rfl, ex_t e h1, fun z => ?_, fun z p hp => new_tup e q hp (r1.cut l h)⟩
      have z' := z
      rw [r1.len] at z'
      rw [cutG_all _ z'] at q
      exact done e q (.tup h1 r1)
theorem o_neg : Op1 K (rU fun i => .int (-i)) fNeg := fun a d hf G H e x hx Q q => by
  match a, hf, hx with
  | .int i, hf, hx => cases hf; exact ⟨i, hx.int, done e q (.int _)⟩
/-! # built-in functions of data -/
theorem Vws.one {vs : List V} {x : PyData} (h : Vws K G H vs [x]) : ∃ v, vs = [v] ∧ Vw K G H v x := by
  cases h with
  | cons a b => cases b; exact ⟨_, rfl, a⟩
theorem Vws.two {vs : List V} {x y : PyData} (h : Vws K G H vs [x, y]) : ∃ v w, vs = [v, w] ∧ Vw K G H v x ∧ Vw K G H w y := by
  cases h with
  | cons a b => obtain ⟨w, rfl, c⟩ := b.one; exact ⟨_, w, rfl, a, c⟩
theorem o_1 {r : List V → Hp → VK → Prop} {f : PyData → Option PyData} (h : ∀ a d, f a = some d → ∀ G H, Ex G H → ∀ x, Vw K G H x a → ∀ Q : VK, (∀ v G' H', Grow [] G H G' H' → Da K G' v d → Q v H') → r [x] H Q) : OpA K r (f1 f) := fun as d hf G H e xs hx Q q => by
  match as, hf, hx with
  | [a], hf, hx =>
    obtain ⟨v, rfl, hv⟩ := hx.one
    exact h a d hf G H e v hv Q q
theorem o_2 {r : List V → Hp → VK → Prop} {f : PyData → PyData → Option PyData} (h : ∀ a b d, f a b = some d → ∀ G H, Ex G H → ∀ x y, Vw K G H x a → Vw K G H y b → ∀ Q : VK, (∀ v G' H', Grow [] G H G' H' → Da K G' v d → Q v H') → r [x, y] H Q) : OpA K r (f2 f) := fun as d hf G H e xs hx Q q => by
  match as, hf, hx with
  | [a, b], hf, hx =>
    obtain ⟨v, w, rfl, hv, hw⟩ := hx.two
    exact h a b d hf G H e v w hv hw Q q
theorem len_run {a d : PyData} (hf : fLen a = some d) {G H : Hp} (e : Ex G H) {x : V} (hx : VwZ K G H x a) {Q : VK} (q : ∀ v G' H', Grow [] G H G' H' → Da K G' v d → Q v H') : kLen K [x] H Q := by
  match a, hf, hx with
  | .list ds, hf, hx =>
    cases hf
    obtain ⟨p, xs, rfl, h1, h2⟩ := hx.list e
    exact .inl ⟨_, _, rfl, .inl h1, done e q (by rw [h2.len]; exact .int _)⟩
  | .tuple ds, hf, hx =>
    cases hf
    have hx := hx.any (fun _ z => nomatch z)
    cases hx with
    | tup h1 r1 => exact .inl ⟨_, _, rfl, .inr (ex_t e h1), done e q (by rw [r1.len]; exact .int _)⟩
  | .str z, hf, hx =>
    have hx := hx.any (fun _ z => nomatch z)
    have hf : (if z.length ≤ 100000 then some (PyData.int z.length) else none) = some d := hf
    split at hf
    · cases hf; exact .inr ⟨z, by rw [hx.str_eq], sz_of (by assumption), done e q (.int _)⟩
    · cases hf
theorem bools_da : ∀ {vs : List V} {ds : List PyData} {bs : List Bool}, DaL K G vs ds → boolsD ds = some bs → vs = bs.map V.bl
  | _, _, _, .nil, h => by cases h; rfl
  | _, .bool b :: ds, bs, .cons a r, h => by
    obtain ⟨cs, h1, rfl⟩ := Option.map_eq_some_iff.mp (show (boolsD ds).map (fun s => b :: s) = some bs from h)
    rw [a.bl_eq, bools_da r h1]; rfl
theorem ints_da : ∀ {vs : List V} {ds : List PyData} {bs : List Int}, DaL K G vs ds → intsD ds = some bs → vs = bs.map V.int
  | _, _, _, .nil, h => by cases h; rfl
  | _, .int b :: ds, bs, .cons a r, h => by
    obtain ⟨cs, h1, rfl⟩ := Option.map_eq_some_iff.mp (show (intsD ds).map (fun s => b :: s) = some bs from h)
    rw [a.int_eq, ints_da r h1]; rfl
theorem strs_da : ∀ {vs : List V} {ds : List PyData} {bs : List Str}, DaL K G vs ds → strsD ds = some bs → vs = bs.map V.str
  | _, _, _, .nil, h => by cases h; rfl
  | _, .str b :: ds, bs, .cons a r, h => by
    obtain ⟨cs, h1, rfl⟩ := Option.map_eq_some_iff.mp (show (strsD ds).map (fun s => b :: s) = some bs from h)
    rw [a.str_eq, strs_da r h1]; rfl
theorem o_all : OpA K (rAll K) (f1 fAll) := o_1 fun a d hf G H e x hx Q q => by
  match a, hf, hx with
  | .list ds, hf, hx =>
    obtain ⟨bs, h1, rfl⟩ := Option.map_eq_some_iff.mp (show (boolsD ds).map (fun bs => PyData.bool (bs.all id)) = some d from hf)
    obtain ⟨p, xs, rfl, h2, h3⟩ := hx.list e
    rw [bools_da h3 h1] at h2
    exact ⟨_, bs, rfl, SqL.of h2, done e q (.bl _)⟩
theorem o_any : OpA K (rAny K) (f1 fAny) := o_1 fun a d hf G H e x hx Q q => by
  match a, hf, hx with
  | .list ds, hf, hx =>
    obtain ⟨bs, h1, rfl⟩ := Option.map_eq_some_iff.mp (show (boolsD ds).map (fun bs => PyData.bool (bs.any id)) = some d from hf)
    obtain ⟨p, xs, rfl, h2, h3⟩ := hx.list e
    rw [bools_da h3 h1] at h2
    exact ⟨_, bs, rfl, SqL.of h2, done e q (.bl _)⟩
theorem o_sum : OpA K (rSum K) (f1 fSum) := o_1 fun a d hf G H e x hx Q q => by
  match a, hf, hx with
  | .list ds, hf, hx =>
    obtain ⟨bs, h1, rfl⟩ := Option.map_eq_some_iff.mp (show (intsD ds).map (fun bs => PyData.int bs.sum) = some d from hf)
    obtain ⟨p, xs, rfl, h2, h3⟩ := hx.list e
    rw [ints_da h3 h1] at h2
    exact ⟨_, bs, rfl, SqL.of h2, done e q (.int _)⟩
theorem o_tuple : OpA K (kTuple K) (f1 fTuple) := o_1 fun a d hf G H e x hx Q q => by
  match a, hf, hx with
  | .list ds, hf, hx =>
    cases hf
    obtain ⟨p, xs, rfl, h1, h2⟩ := hx.list e
    exact ⟨_, _, rfl, .inl ⟨SqL.of h1, fun p hp => new_tup e q hp h2⟩⟩
  | .tuple ds, hf, hx =>
    cases hf
    obtain ⟨p, xs, rfl, h1, h2⟩ := hx.tuple e
    exact ⟨_, _, rfl, .inr ⟨ex_t e h1, done e q (.tup h1 h2)⟩⟩
theorem o_list : OpA K (kList K) (f1 fList) := o_1 fun a d hf G H e x hx Q q => by
  match a, hf, hx with
  | .list ds, hf, hx =>
    cases hf
    obtain ⟨p, xs, rfl, h1, h2⟩ := hx.list e
    exact ⟨_, _, rfl, .inl (SqL.of h1), fun p hp => new_lst e q hp h2⟩
  | .tuple ds, hf, hx =>
    cases hf
    obtain ⟨p, xs, rfl, h1, h2⟩ := hx.tuple e
    exact ⟨_, _, rfl, .inr (ex_t e h1), fun p hp => new_lst e q hp h2⟩
theorem o_int : OpA K kInt (f1 fInt) := o_1 fun a d hf G H e x hx Q q => by
  match a, hf, hx with
  | .int i, hf, hx => cases hf; exact .inl ⟨i, by rw [hx.int], done e q (.int _)⟩
  | .bool b, hf, hx => cases hf; exact .inr ⟨b, by rw [hx.bool], done e q (.int _)⟩
theorem o_max2 : OpA K kMax2 (f2 fMax2) := o_2 fun a b d hf G H e x y hx hy Q q => by
  match a, b, hf, hx, hy with
  | .int i, .int j, hf, hx, hy =>
    cases hf
    refine ⟨i, j, by rw [hx.int, hy.int], ?_⟩
    rw [show (if j > i then j else i) = max i j by split <;> omega]; exact done e q (.int _)
theorem o_min2 : OpA K kMin2 (f2 fMin2) := o_2 fun a b d hf G H e x y hx hy Q q => by
  match a, b, hf, hx, hy with
  | .int i, .int j, hf, hx, hy =>
    cases hf
    refine ⟨i, j, by rw [hx.int, hy.int], ?_⟩
    rw [show (if j < i then j else i) = min i j by split <;> omega]; exact done e q (.int _)
theorem o_divmod : OpA K kDivmod (f2 fDivmod) := o_2 fun a b d hf G H e x y hx hy Q q => by
  match a, b, hf, hx, hy with
  | .int i, .int j, hf, hx, hy =>
    have hf : (if 0 < j ∧ j < 1073741824 then some (PyData.tuple [.int (i / j), .int (i % j)]) else none) = some d := hf
    split at hf
    · cases hf
      exact ⟨i, j, by rw [hx.int, hy.int], by assumption, fun p hp => new_tup e q hp (.cons (.int _) (.cons (.int _) .nil))⟩
    · cases hf
theorem vw_tyx {v : V} {x : PyData} (h : Vw K G H v x) (e : Ex G H) : TyX K H v (.type (tyOfD x)) := by
  rcases h with h | ⟨a, xs, ds, rfl, rfl, h1, _⟩
  · exact (h.mono e).tyx
  · exact .base (.lst h1)
end
section
variable {K : PySem.W.Frag} {Z : Er} {E : L2.St → XK} {ta : TE} {ma : ME}
theorem fIsi_kit {T : String} {a d : PyData} (h : fIsi T a = some d) (n : noDict a = true) : ∃ b, d = .bool b ∧ kitB (tyOfD a) T = some b := by
  unfold fIsi at h
  split at h
  · cases h; exact ⟨_, rfl, kit_int a n⟩
  · cases h; exact ⟨_, rfl, kit_bool a n⟩
  · cases h; exact ⟨_, rfl, kit_str a n⟩
  · cases h; exact ⟨_, rfl, kit_tuple a n⟩
  · cases h; exact ⟨_, rfl, kit_list a n⟩
  · cases h
theorem rf_isi {T : String} (ha : RfE K Z E ta ma) : RfE K Z E (tIsi K ta T) (mUn (fIsi T) ma) := fun W bs F ρ σ G M H Q rl w hp =>
  ha.use rl w hp fun x ρ1 v G1 M1 H1 e1 r1 w1 hx hp1 => by
    cases h1 : view ρ1 x with
    | none => rw [h1] at hp1; exact hp1.elim
    | some a =>
      rw [h1, Option.bind_some] at hp1
      cases h2 : fIsi T a with
      | none => rw [h2] at hp1; exact hp1.elim
      | some d =>
        rw [h2] at hp1
        have hv := rel_view r1 w1 hx h1
        obtain ⟨b, rfl, hk⟩ := fIsi_kit h2 hv.nod
        exact ⟨v, .ty T, _, _, b, rfl, .ty T, vw_tyx hv w1.gh, kit_ty hk, Post.val (.bl b) hp1 r1 w1 (Da.bl b)⟩
def mUnZ (f : PyData → Option PyData) (a : ME) : ME := fun ρ => (a ρ).bind fun x ρ1 => retX ((viewZ ρ1 x).bind f) ρ1
@[simp] theorem mUnZ_eq (f : PyData → Option PyData) (a : ME) (ρ : Env) : mUnZ f a ρ = ((a ρ).bind fun x ρ1 => retX ((viewZ ρ1 x).bind f) ρ1) := by unfold mUnZ; exact Eq.trans rfl rfl
/-- len(x), of the script, too -/
theorem rf_len (ha : RfE K Z E ta ma) : RfE K Z E (tCB (kLen K) (tCons ta tNil)) (mUnZ fLen ma) := fun W bs F ρ σ G M H Q rl w hp =>
  ha.use rl w hp fun x ρ1 v G1 M1 H1 e1 r1 w1 hx hp1 => by
    cases h1 : viewZ ρ1 x with
    | none => rw [h1] at hp1; exact hp1.elim
    | some a =>
      rw [h1, Option.bind_some] at hp1
      cases h2 : fLen a with
      | none => rw [h2] at hp1; exact hp1.elim
      | some d =>
        rw [h2] at hp1
        exact len_run h2 w1.gh (rel_viewZ r1 w1 hx h1) (Post.data hp1 r1 w1)
end
/-! # lists that are written by methods -/
section
variable {K : PySem.W.Frag} {Z : Er} {W : Ent} {bs : Nat → Option Addr} {F : Mem} {E : L2.St → XK} {ρ : Env} {σ : L2.St} {G G' H : Hp} {M : Mem} {te ta tb ti : TE} {ma mb mi : ME} {tr : TA} {mr : MA}
def WrO (K : PySem.W.Frag) (r : V → List V → Hp → VK → Prop) (f : List PyData → List PyData → Option (PyData × List PyData)) : Prop := ∀ ds us d es, f ds us = some (d, es) → ∀ G H (l : Addr) xs vs, Ex G H → H l = some (.lst xs) → DaL K G xs ds → DaL K G vs us → ∀ Q : VK, (∀ v ys, DaL K G ys es → Da K G v d → Q v (upd H l (.lst ys))) → r (.ref l) vs H Q
def mMeth (f : List PyData → List PyData → Option (PyData × List PyData)) (i : Nat) (a : MA) : ME := fun ρ => match lstAt ρ i with
  | none => .no
  | some _ => (a ρ).bind fun xs ρ1 => match datas xs, lstAt ρ1 i with
    | some us, some ds => (match f ds us with
      | some (d, es) => .ok (.d d) (putAt ρ1 i (.lst es))
      | none => .no)
    | _, _ => .no
@[simp] theorem mMeth_eq (f : List PyData → List PyData → Option (PyData × List PyData)) (i : Nat) (a : MA) (ρ : Env) : mMeth f i a ρ = (match lstAt ρ i with
  | none => .no
  | some _ => (a ρ).bind fun xs ρ1 => match datas xs, lstAt ρ1 i with
    | some us, some ds => (match f ds us with
      | some (d, es) => .ok (.d d) (putAt ρ1 i (.lst es))
      | none => .no)
    | _, _ => .no) := by unfold mMeth; exact Eq.trans rfl rfl
theorem rf_meth {i : Nat} {r : V → List V → Hp → VK → Prop} {f : List PyData → List PyData → Option (PyData × List PyData)} (ho : WrO K r f) (ha : RfA K Z E tr mr) : RfE K Z E (tBM K "list" r (tVar i) tr) (mMeth f i mr) := fun W bs F ρ σ G M H Q rl w hp => by
  unfold mMeth at hp
  cases e : lstAt ρ i with
  | none => rw [e] at hp; exact hp.elim
  | some d0 =>
    rw [e] at hp
    obtain ⟨p, xs, h1, h2, h3⟩ := rel_lst rl e
    refine ⟨.ref p, h1, .inl ⟨rfl, _, SqL.of (w.own p _ h2)⟩, ?_⟩
    refine Rf.use (Q := Q) ha rl w hp fun x ρ1 v G1 M1 H1 e1 r1 w1 hx hp1 => ?_
    cases e2 : datas x with
    | none => rw [e2] at hp1; exact hp1.elim
    | some us =>
      cases e3 : lstAt ρ1 i with
      | none => rw [e2, e3] at hp1; exact hp1.elim
      | some ds =>
        rw [e2, e3] at hp1
        obtain ⟨p', ys, k1, k2, k3⟩ := rel_lst r1 e3
        rw [h1] at k1; cases k1
        cases e4 : f ds us with
        | none => simp only [e4] at hp1; exact hp1.elim
        | some de =>
          obtain ⟨d, es⟩ := de
          simp only [e4] at hp1
          refine ho ds us d es e4 G1 H1 p ys v w1.gh (w1.own p _ k2) k3 (rel_datas hx e2) Q fun u zs dz du => ?_
          obtain ⟨w2, r2⟩ := r1.write (o' := .lst zs) w1 (lstAt_own e3) h1 (show RO K G1 (.lst es) (.lst zs) from dz)
          exact Post.val u hp1 r2 w2 du
@[simp] def wAppend : List PyData → List PyData → Option (PyData × List PyData)
  | ds, [u] => if ds.length < 100000 then some (.none, ds ++ [u]) else none
  | _, _ => none
@[simp] def wPopAt : List PyData → List PyData → Option (PyData × List PyData)
  | ds, [.int i] => if 0 ≤ i ∧ i < (ds.length : Int) ∧ ds.length ≤ 100000 then (ds[i.toNat]?).map fun u => (u, ds.eraseIdx i.toNat) else none
  | _, _ => none
@[simp] def wInsert : List PyData → List PyData → Option (PyData × List PyData)
  | ds, [.int i, u] => if 0 ≤ i ∧ i ≤ (ds.length : Int) ∧ ds.length < 100000 then some (.none, ds.take i.toNat ++ u :: ds.drop i.toNat) else none
  | _, _ => none
@[simp] def wExtend : List PyData → List PyData → Option (PyData × List PyData)
  | ds, [.list es] => if ds.length + es.length ≤ 100000 then some (.none, ds ++ es) else none
  | _, _ => none
theorem w_append : WrO K rAppend wAppend := fun ds us d es hf G H l xs vs e hl dx dv Q q => by
  match us, dv, hf with
  | [u], dv, hf =>
    obtain ⟨v, rfl, hv⟩ := dv.one_inv
    have hf : (if ds.length < 100000 then some (PyData.none, ds ++ [u]) else none) = some (d, es) := hf
    split at hf
    · cases hf
      exact ⟨l, xs, v, rfl, rfl, hl, by rw [dx.len]; exact sz_lt (by assumption), q .non _ (dx.app (.one hv)) .non⟩
    · cases hf
theorem w_popAt : WrO K rPopAt wPopAt := fun ds us d es hf G H l xs vs e hl dx dv Q q => by
  match us, dv, hf with
  | [.int i], dv, hf =>
    obtain ⟨v, rfl, hv⟩ := dv.one_inv
    obtain rfl := hv.int_eq
    have hf : (if 0 ≤ i ∧ i < (ds.length : Int) ∧ ds.length ≤ 100000 then (ds[i.toNat]?).map fun u => (u, ds.eraseIdx i.toNat) else none) = some (d, es) := hf
    split at hf
    · rename_i c
      obtain ⟨u, h1, h2⟩ := Option.map_eq_some_iff.mp hf
      cases h2
      obtain ⟨v, h3, h4⟩ := dx.get h1
      have hi : (i.toNat : Int) = i := Int.toNat_of_nonneg c.1
      refine ⟨l, xs, i, i.toNat, v, rfl, rfl, hl, by omega, by have := c.2.2; omega, ?_, h3, q v _ (dx.erase _) h4⟩
      rw [← hi]
      exact seqIx (by rw [dx.len]; omega)
    · cases hf
theorem DaL.ins {H : Hp} {v : V} {d : PyData} {vs : List V} {ds : List PyData} (n : Nat) (h : DaL K H vs ds) (hv : Da K H v d) : DaL K H (vs.take n ++ v :: vs.drop n) (ds.take n ++ d :: ds.drop n) := (h.take n).app (.cons hv (h.drop n))
theorem w_extend : WrO K rExtend wExtend := fun ds us d es hf G H l xs vs e hl dx dv Q q => by
  match us, dv, hf with
  | [.list zs], dv, hf =>
    obtain ⟨v, rfl, hv⟩ := dv.one_inv
    have hf : (if ds.length + zs.length ≤ 100000 then some (PyData.none, ds ++ zs) else none) = some (d, es) := hf
    split at hf
    · cases hf
      cases hv with
      | lst h r => exact ⟨l, _, xs, _, rfl, rfl, hl, e _ _ h, by rw [dx.len, r.len]; exact sz_of (by assumption), q .non _ (dx.app r) .non⟩
    · cases hf
/-- xs[i] = e -/
theorem rf_setI {i : Nat} (hi : RfE K Z E ti mi) (ha : RfE K Z E ta ma) : RfS K Z E (tAsg ta (gSub (tVar i) ti rSetL)) (mSetI i mi ma) := fun W bs F ρ σ G M H D rl w hp =>
  ha.useS rl w hp fun x ρ1 v G1 M1 H1 e1 r1 w1 hx hp1 => by
    cases e2 : lstAt ρ1 i with
    | none => rw [e2] at hp1; exact hp1.elim
    | some d0 =>
      rw [e2] at hp1
      obtain ⟨p, xs, h1, h2, h3⟩ := rel_lst r1 e2
      refine ⟨.ref p, h1, ?_⟩
      refine Rf.useS hi r1 w1 hp1 fun y ρ2 u G2 M2 H2 e3 r2 w2 hy hp2 => ?_
      cases e4 : plain ρ2 x with
      | none => simp only [e4] at hp2; exact hp2.elim
      | some a =>
        cases e5 : plain ρ2 y with
        | none => simp only [e4, e5] at hp2; exact hp2.elim
        | some b =>
          cases e6 : lstAt ρ2 i with
          | none => simp only [e4, e5, e6] at hp2; exact hp2.elim
          | some ds =>
            simp only [e4, e5, e6] at hp2
            obtain ⟨p', ys, k1, k2, k3⟩ := rel_lst r2 e6
            rw [h1] at k1; cases k1
            cases e7 : setI ds b a with
            | none => rw [e7] at hp2; exact hp2.elim
            | some es =>
              rw [e7] at hp2
              have da : Da K G2 v a := rel_plain (hx.mono e3) e4
              have db : Da K G2 u b := rel_plain hy e5
              match b, db, e7 with
              | .int j, db, e7 =>
                have e7 : ((ixN ds.length j).bind fun n => some (ds.set n a)) = some es := e7
                cases e8 : ixN ds.length j with
                | none => rw [e8] at e7; cases e7
                | some n =>
                  rw [e8] at e7
                  cases e7
                  obtain ⟨w3, r3⟩ := r2.write (o' := .lst (ys.set n v)) w2 (lstAt_own e6) h1 (show RO K G2 (.lst (ds.set n a)) (.lst (ys.set n v)) from k3.set n da)
                  exact ⟨p, ys, j, n, rfl, db.int_eq, w2.own p _ k2, by rw [k3.len]; exact e8, hp2 σ G2 _ _ (Ex.refl G2) r3 w3⟩
/-! # texts joined, places -/
@[simp] def fJoin : PyData → PyData → Option PyData
  | .str a, .list ds => (strsD ds).bind fun ys => if (ys.map (·.length)).sum + ys.length * a.length ≤ 16777216 then some (.str (Txt.join a ys)) else none
  | .str a, .tuple ds => (strsD ds).bind fun ys => if (ys.map (·.length)).sum + ys.length * a.length ≤ 16777216 then some (.str (Txt.join a ys)) else none
  | _, _ => none
def mM1 (f : PyData → PyData → Option PyData) (o a : ME) : ME := fun ρ => (o ρ).bind fun x ρ1 => match plain ρ1 x with
  | some (.str s) => (a ρ1).bind fun y ρ2 => retX ((view ρ2 y).bind fun w => f (.str s) w) ρ2
  | _ => .no
@[simp] theorem mM1_eq (f : PyData → PyData → Option PyData) (o a : ME) (ρ : Env) : mM1 f o a ρ = ((o ρ).bind fun x ρ1 => match plain ρ1 x with
  | some (.str s) => (a ρ1).bind fun y ρ2 => retX ((view ρ2 y).bind fun w => f (.str s) w) ρ2
  | _ => .no) := by unfold mM1; exact Eq.trans rfl rfl
theorem join_run {s : Str} {u d : PyData} (hf : fJoin (.str s) u = some d) {G H : Hp} (e : Ex G H) {y : V} (hy : Vw K G H y u) {Q : VK} (q : ∀ v G' H', Grow [] G H G' H' → Da K G' v d → Q v H') : kJoin K (.str s) [y] H Q := by
  have tail : ∀ {ds : List PyData}, ((strsD ds).bind fun ys => if (ys.map (·.length)).sum + ys.length * s.length ≤ 16777216 then some (PyData.str (Txt.join s ys)) else none) = some d → ∃ ys, strsD ds = some ys ∧ (ys.map (·.length)).sum + ys.length * s.length ≤ 16777216 ∧ d = .str (Txt.join s ys) := fun {ds} h => by
    cases e1 : strsD ds with
    | none => rw [e1] at h; cases h
    | some ys =>
      rw [e1, Option.bind_some] at h
      split at h
      · cases h; exact ⟨ys, rfl, by assumption, rfl⟩
      · cases h
  match u, hf, hy with
  | .list ds, hf, hy =>
    obtain ⟨ys, h1, h2, rfl⟩ := tail hf
    obtain ⟨p, xs, rfl, h3, h4⟩ := hy.list e
    rw [strs_da h4 h1] at h3
    exact ⟨s, p, ys, rfl, rfl, .inl (SqL.of h3), h2, done e q (.str _)⟩
  | .tuple ds, hf, hy =>
    obtain ⟨ys, h1, h2, rfl⟩ := tail hf
    obtain ⟨p, xs, rfl, h3, h4⟩ := hy.tuple e
    rw [strs_da h4 h1] at h3
    exact ⟨s, p, ys, rfl, rfl, .inr (ex_t e h3), h2, done e q (.str _)⟩
theorem rf_join {to : TE} {mo : ME} (ho : RfE K Z E to mo) (ha : RfE K Z E ta ma) : RfE K Z E (tM1 (kJoin K) to ta) (mM1 fJoin mo ma) := fun W bs F ρ σ G M H Q rl w hp =>
  ho.use rl w hp fun x ρ1 v G1 M1 H1 e1 r1 w1 hx hp1 => by
    cases h1 : plain ρ1 x with
    | none => rw [h1] at hp1; exact hp1.elim
    | some s =>
      rw [h1] at hp1
      cases s with
      | str s =>
        obtain rfl := (rel_plain hx h1).str_eq
        refine ⟨⟨s, rfl⟩, Rf.use (Q := Q) ha r1 w1 hp1 fun y ρ2 u G2 M2 H2 e2 r2 w2 hy hp2 => ?_⟩
        cases h2 : view ρ2 y with
        | none => rw [h2] at hp2; exact hp2.elim
        | some b =>
          rw [h2, Option.bind_some] at hp2
          cases h3 : fJoin (.str s) b with
          | none => rw [h3] at hp2; exact hp2.elim
          | some d =>
            rw [h3] at hp2
            exact join_run h3 w2.gh (rel_view r2 w2 hy h2) (Post.data hp2 r2 w2)
      | _ => exact hp1.elim
/-- a method of a list that writes nothing -/
def OpM (K : PySem.W.Frag) (r : V → List V → Hp → VK → Prop) (f : PyData → List PyData → Option PyData) : Prop := ∀ u ws d, f u ws = some d → ∀ G H, Ex G H → ∀ x ys, Vw K G H x u → Vws K G H ys ws → ∀ Q : VK, (∀ v G' H', Grow [] G H G' H' → Da K G' v d → Q v H') → r x ys H Q
def mBM (f : PyData → List PyData → Option PyData) (o : ME) (a : MA) : ME := fun ρ => (o ρ).bind fun x ρ1 => match view ρ1 x with
  | some (.list _) => (a ρ1).bind fun ys ρ2 => retX ((view ρ2 x).bind fun u => (views ρ2 ys).bind fun ws => f u ws) ρ2
  | _ => .no
@[simp] theorem mBM_eq (f : PyData → List PyData → Option PyData) (o : ME) (a : MA) (ρ : Env) : mBM f o a ρ = ((o ρ).bind fun x ρ1 => match view ρ1 x with
  | some (.list _) => (a ρ1).bind fun ys ρ2 => retX ((view ρ2 x).bind fun u => (views ρ2 ys).bind fun ws => f u ws) ρ2
  | _ => .no) := by unfold mBM; exact Eq.trans rfl rfl
theorem rf_bm {to : TE} {mo : ME} {r : V → List V → Hp → VK → Prop} {f : PyData → List PyData → Option PyData} (hf : OpM K r f) (ho : RfE K Z E to mo) (ha : RfA K Z E tr mr) : RfE K Z E (tBM K "list" r to tr) (mBM f mo mr) := fun W bs F ρ σ G M H Q rl w hp =>
  ho.use rl w hp fun x ρ1 v G1 M1 H1 e1 r1 w1 hx hp1 => by
    cases h1 : view ρ1 x with
    | none => rw [h1] at hp1; exact hp1.elim
    | some u =>
      rw [h1] at hp1
      cases u with
      | list es =>
        obtain ⟨p, xs, rfl, k1, k2⟩ := (rel_view r1 w1 hx h1).list w1.gh
        refine ⟨.inl ⟨rfl, _, SqL.of k1⟩, Rf.use (Q := Q) ha r1 w1 hp1 fun ys ρ2 us G2 M2 H2 e2 r2 w2 hy hp2 => ?_⟩
        cases h2 : view ρ2 x with
        | none => rw [h2] at hp2; exact hp2.elim
        | some u =>
          rw [h2, Option.bind_some] at hp2
          cases h3 : views ρ2 ys with
          | none => rw [h3] at hp2; exact hp2.elim
          | some ws =>
            rw [h3, Option.bind_some] at hp2
            cases h4 : f u ws with
            | none => rw [h4] at hp2; exact hp2.elim
            | some d =>
              rw [h4] at hp2
              exact hf u ws d h4 G2 H2 w2.gh _ us (rel_view r2 w2 (hx.mono e2) h2) (rel_views r2 w2 hy h3) Q (Post.data hp2 r2 w2)
      | _ => exact hp1.elim
def findF (x : PyData) : List PyData → Option Nat
  | [] => none
  | y :: r => if eqF y x then some 0 else (findF x r).map (· + 1)
@[simp] def fIndex : PyData → List PyData → Option PyData
  | .list ds, [x] => if flatD x && ds.all flatD then (findF x ds).map fun (n : Nat) => .int (n : Int) else none
  | _, _ => none
theorem findF_run {x : PyData} {v : V} (hv : Da K G v x) (fx : flatD x = true) : ∀ {ds : List PyData} {vs : List V} {n : Nat}, DaL K G vs ds → ds.all flatD = true → findF x ds = some n → ∃ z, vs[n]? = some z ∧ eqV z v = true ∧ ∀ m z', m < n → vs[m]? = some z' → eqV z' v = false
  | _, _, _, .nil, _, h => by cases h
  | _, _, n, .cons (d := d) a r, f, h => by
    rw [List.all_cons, Bool.and_eq_true] at f
    unfold findF at h
    have ea := a.eqF hv f.1 fx
    by_cases c : eqF d x = true
    · rw [if_pos c] at h
      cases h
      exact ⟨_, rfl, by rw [ea, c], fun m z' hm => absurd hm (Nat.not_lt_zero m)⟩
    · rw [if_neg c] at h
      obtain ⟨k, h1, rfl⟩ := Option.map_eq_some_iff.mp h
      obtain ⟨z, h2, h3, h4⟩ := findF_run hv fx r f.2 h1
      refine ⟨z, h2, h3, fun m z' hm hz => ?_⟩
      cases m with
      | zero => cases hz; rw [ea]; exact Bool.eq_false_iff.mpr c
      | succ m => exact h4 m z' (Nat.lt_of_succ_lt_succ hm) hz
theorem o_index : OpM K (rIndex K) fIndex := fun u ws d hf G H e x ys hx hy Q q => by
  match u, ws, hf, hx, hy with
  | .list ds, [y], hf, hx, hy =>
    have hf : (if (flatD y && ds.all flatD) = true then (findF y ds).map fun (n : Nat) => PyData.int (n : Int) else none) = some d := hf
    split at hf
    · rename_i c
      rw [Bool.and_eq_true] at c
      obtain ⟨n, h1, rfl⟩ := Option.map_eq_some_iff.mp hf
      obtain ⟨v, rfl, hv⟩ := hy.one
      have hv := vw_flat hv c.1
      obtain ⟨p, xs, rfl, h2, h3⟩ := hx.list e
      obtain ⟨z, k1, k2, k3⟩ := findF_run hv c.1 h3 c.2 h1
      exact ⟨p, xs, v, n, z, rfl, rfl, SqL.of h2, hv.flat c.1, h3.flat c.2, k1, k2, k3, done e q (.int _)⟩
    · cases hf
/-! # dicts that are written -/
@[simp] def keyOf : PyData → Option Key
  | .int i => some (.inl i)
  | .str x => some (.inr x)
  | _ => none
def putD (kvs : List (Key × PyData)) (k : Key) (v : PyData) : List (Key × PyData) :=
  if (kvs.any fun kv => decide (kv.1 = k)) = true then kvs.map (fun kv => if kv.1 = k then (kv.1, v) else kv) else kvs ++ [(k, v)]
def getD (kvs : List (Key × PyData)) (k : Key) : Option PyData := (kvs.find? fun kv => decide (kv.1 = k)).map (·.2)
def mDPut (i : Nat) (k v : ME) : MS := fun ρ => (v ρ).bind fun x ρ1 => match dctAt ρ1 i with
  | none => .no
  | some _ => (k ρ1).bind fun y ρ2 => match plain ρ2 x, (plain ρ2 y).bind keyOf, dctAt ρ2 i with
    | some u, some k, some kvs => if kvs.length < 100000 then .ok .nx (putAt ρ2 i (.dct (putD kvs k u))) else .no
    | _, _, _ => .no
@[simp] theorem mDPut_eq (i : Nat) (k v : ME) (ρ : Env) : mDPut i k v ρ = ((v ρ).bind fun x ρ1 => match dctAt ρ1 i with
  | none => .no
  | some _ => (k ρ1).bind fun y ρ2 => match plain ρ2 x, (plain ρ2 y).bind keyOf, dctAt ρ2 i with
    | some u, some k, some kvs => if kvs.length < 100000 then .ok .nx (putAt ρ2 i (.dct (putD kvs k u))) else .no
    | _, _, _ => .no) := by unfold mDPut; exact Eq.trans rfl rfl
def mDGet (i : Nat) (k : ME) : ME := fun ρ => match dctAt ρ i with
  | none => .no
  | some _ => (k ρ).bind fun y ρ1 => retX ((dctAt ρ1 i).bind fun kvs => ((plain ρ1 y).bind keyOf).bind fun k => getD kvs k) ρ1
@[simp] theorem mDGet_eq (i : Nat) (k : ME) (ρ : Env) : mDGet i k ρ = (match dctAt ρ i with
  | none => .no
  | some _ => (k ρ).bind fun y ρ1 => retX ((dctAt ρ1 i).bind fun kvs => ((plain ρ1 y).bind keyOf).bind fun k => getD kvs k) ρ1) := by unfold mDGet; exact Eq.trans rfl rfl
def mDGet2 (i : Nat) (k z : ME) : ME := fun ρ => match dctAt ρ i with
  | none => .no
  | some _ => (k ρ).bind fun y ρ1 => (z ρ1).bind fun z ρ2 => retX ((dctAt ρ2 i).bind fun kvs => ((plain ρ2 y).bind keyOf).bind fun k => (plain ρ2 z).bind fun z => some ((getD kvs k).getD z)) ρ2
@[simp] theorem mDGet2_eq (i : Nat) (k z : ME) (ρ : Env) : mDGet2 i k z ρ = (match dctAt ρ i with
  | none => .no
  | some _ => (k ρ).bind fun y ρ1 => (z ρ1).bind fun z ρ2 => retX ((dctAt ρ2 i).bind fun kvs => ((plain ρ2 y).bind keyOf).bind fun k => (plain ρ2 z).bind fun z => some ((getD kvs k).getD z)) ρ2) := by unfold mDGet2; exact Eq.trans rfl rfl
def mDIn (k : ME) (i : Nat) : ME := fun ρ => (k ρ).bind fun y ρ1 => retX ((dctAt ρ1 i).bind fun kvs => ((plain ρ1 y).bind keyOf).bind fun k => some (.bool (getD kvs k).isSome)) ρ1
@[simp] theorem mDIn_eq (k : ME) (i : Nat) (ρ : Env) : mDIn k i ρ = ((k ρ).bind fun y ρ1 => retX ((dctAt ρ1 i).bind fun kvs => ((plain ρ1 y).bind keyOf).bind fun k => some (.bool (getD kvs k).isSome)) ρ1) := by unfold mDIn; exact Eq.trans rfl rfl
theorem dctAt_own {i : Nat} {ds : List (Key × PyData)} (h : dctAt ρ i = some ds) : ownE ρ i := by
  unfold dctAt at h
  split at h
  · exact ⟨_, .inl (by assumption)⟩
  · exact ⟨_, .inr (by assumption)⟩
  · cases h
theorem rel_dct {i : Nat} {ds : List (Key × PyData)} (r : Rel K W bs F ρ σ G M) (h : dctAt ρ i = some ds) : ∃ p xs, σ[i]? = some (some (.ref p)) ∧ (p, .dK xs) ∈ M ∧ DaK K G xs ds := by
  unfold dctAt at h
  split at h
  · cases h
    rename_i e
    obtain ⟨p, o, a, b, c, _⟩ := r.own i _ e
    cases o with
    | dK xs => exact ⟨p, xs, a, b, c⟩
    | _ => exact c.elim
  · cases h
    rename_i e
    obtain ⟨p, o, a, b, c, _⟩ := r.bor i _ e
    cases o with
    | dK xs => exact ⟨p, xs, a, b, c⟩
    | _ => exact c.elim
  · cases h
theorem DaK.len : ∀ {vs : List (Key × V)} {ds : List (Key × PyData)}, DaK K G vs ds → vs.length = ds.length
  | _, _, .nil => rfl
  | _, _, .cons _ r => congrArg (· + 1) (DaK.len r)
theorem DaK.any (k : Key) : ∀ {vs : List (Key × V)} {ds : List (Key × PyData)}, DaK K G vs ds → (vs.any fun kv => decide (kv.1 = k)) = ds.any fun kv => decide (kv.1 = k)
  | _, _, .nil => rfl
  | _, _, .cons _ r => by rw [List.any_cons, List.any_cons, DaK.any k r]
theorem DaK.putIn {k : Key} {v : V} {d : PyData} (hv : Da K G v d) : ∀ {vs : List (Key × V)} {ds : List (Key × PyData)}, DaK K G vs ds → DaK K G (vs.map fun kv => if kv.1 = k then (kv.1, v) else kv) (ds.map fun kv => if kv.1 = k then (kv.1, d) else kv)
  | _, _, .nil => .nil
  | _, _, .cons (k := k2) a r => by
    rw [List.map_cons, List.map_cons]
    show DaK K G ((if k2 = k then _ else _) :: _) ((if k2 = k then _ else _) :: _)
    by_cases c : k2 = k
    · rw [if_pos c, if_pos c]; exact .cons hv (DaK.putIn hv r)
    · rw [if_neg c, if_neg c]; exact .cons a (DaK.putIn hv r)
theorem DaK.snoc {k : Key} {v : V} {d : PyData} (hv : Da K G v d) : ∀ {vs : List (Key × V)} {ds : List (Key × PyData)}, DaK K G vs ds → DaK K G (vs ++ [(k, v)]) (ds ++ [(k, d)])
  | _, _, .nil => .cons hv .nil
  | _, _, .cons a r => .cons a (DaK.snoc hv r)
theorem DaK.put {k : Key} {v : V} {d : PyData} {vs : List (Key × V)} {ds : List (Key × PyData)} (h : DaK K G vs ds) (hv : Da K G v d) : DaK K G (putK vs k v) (putD ds k d) := by
  unfold putK putD
  rw [h.any k]
  split
  · exact DaK.putIn hv h
  · exact DaK.snoc hv h
theorem DaK.get (k : Key) : ∀ {vs : List (Key × V)} {ds : List (Key × PyData)}, DaK K G vs ds → (valV vs k = none ∧ getD ds k = none) ∨ ∃ v d, valV vs k = some v ∧ getD ds k = some d ∧ Da K G v d
  | _, _, .nil => .inl ⟨rfl, rfl⟩
  | _, _, .cons (k := k2) (v := v) (d := d) (vs := vs) (ds := ds) a r => by
    by_cases c : k2 = k
    · refine .inr ⟨v, d, valV_pos (p := (k2, v)) c, ?_, a⟩
      show (List.find? _ ((k2, d) :: ds)).map (·.2) = _
      rw [List.find?_cons_of_pos (by simpa using c)]; rfl
    · have e1 : valV ((k2, v) :: vs) k = valV vs k := valV_neg (p := (k2, v)) c
      have e2 : getD ((k2, d) :: ds) k = getD ds k := by
        show (List.find? _ ((k2, d) :: ds)).map (·.2) = (List.find? _ ds).map (·.2)
        rw [List.find?_cons_of_neg (by simpa using c)]
      rw [e1, e2]
      exact DaK.get k r
theorem key_eq {u : V} {x : PyData} {k : Key} (h : Da K G u x) (hk : keyOf x = some k) : u = kV k := by
  cases x with
  | int i => cases hk; exact h.int_eq
  | str i => cases hk; exact h.str_eq
  | _ => cases hk
theorem rf_dPut {i : Nat} (hi : RfE K Z E ti mi) (ha : RfE K Z E ta ma) : RfS K Z E (sDPut (tVar i) ti ta) (mDPut i mi ma) := fun W bs F ρ σ G M H D rl w hp =>
  ha.useS rl w hp fun x ρ1 v G1 M1 H1 e1 r1 w1 hx hp1 => by
    cases e2 : dctAt ρ1 i with
    | none => rw [e2] at hp1; exact hp1.elim
    | some d0 =>
      rw [e2] at hp1
      obtain ⟨p, xs, h1, h2, h3⟩ := rel_dct r1 e2
      refine ⟨.ref p, h1, ?_⟩
      refine Rf.useS hi r1 w1 hp1 fun y ρ2 u G2 M2 H2 e3 r2 w2 hy hp2 => ?_
      cases e4 : plain ρ2 x with
      | none => simp only [e4] at hp2; exact hp2.elim
      | some a =>
        cases e5 : plain ρ2 y with
        | none => simp only [e4, e5] at hp2; exact hp2.elim
        | some b =>
          cases e8 : keyOf b with
          | none => simp only [e4, e5, Option.bind_some, e8] at hp2; exact hp2.elim
          | some k =>
            cases e6 : dctAt ρ2 i with
            | none => simp only [e4, e5, e6, Option.bind_some, e8] at hp2; exact hp2.elim
            | some ds =>
              simp only [e4, e5, e6, Option.bind_some, e8] at hp2
              by_cases c : ds.length < 100000
              · rw [if_pos c] at hp2
                obtain ⟨p', ys, k1, k2, k3⟩ := rel_dct r2 e6
                rw [h1] at k1; cases k1
                have da : Da K G2 v a := rel_plain (hx.mono e3) e4
                have db : Da K G2 u b := rel_plain hy e5
                obtain rfl := key_eq db e8
                obtain ⟨w3, r3⟩ := r2.write (o' := .dK (putK ys k v)) w2 (dctAt_own e6) h1 (show RO K G2 (.dct (putD ds k a)) (.dK (putK ys k v)) from k3.put da)
                exact ⟨p, _, rfl, DPut.k (w2.own p _ k2) (by rw [k3.len]; exact sz_lt c), hp2 σ G2 _ _ (Ex.refl G2) r3 w3⟩
              · rw [if_neg c] at hp2; exact hp2.elim
theorem rf_dGet {i : Nat} (hi : RfE K Z E ti mi) : RfE K Z E (tDGet (tVar i) ti) (mDGet i mi) := fun W bs F ρ σ G M H Q rl w hp => by
  unfold mDGet at hp
  cases e : dctAt ρ i with
  | none => rw [e] at hp; exact hp.elim
  | some d0 =>
    rw [e] at hp
    obtain ⟨p, xs, h1, h2, h3⟩ := rel_dct rl e
    refine ⟨.ref p, h1, Rf.use (Q := Q) hi rl w hp fun y ρ1 u G1 M1 H1 e1 r1 w1 hy hp1 => ?_⟩
    cases e2 : dctAt ρ1 i with
    | none => rw [e2] at hp1; exact hp1.elim
    | some ds =>
      rw [e2, Option.bind_some] at hp1
      obtain ⟨p', ys, k1, k2, k3⟩ := rel_dct r1 e2
      rw [h1] at k1; cases k1
      cases e3 : plain ρ1 y with
      | none => rw [e3] at hp1; exact hp1.elim
      | some b =>
        rw [e3, Option.bind_some] at hp1
        cases e4 : keyOf b with
        | none => rw [e4] at hp1; exact hp1.elim
        | some k =>
          rw [e4, Option.bind_some] at hp1
          obtain rfl := key_eq (rel_plain hy e3) e4
          rcases k3.get k with ⟨q1, q2⟩ | ⟨v, d, q1, q2, q3⟩
          · rw [q2] at hp1; exact hp1.elim
          · rw [q2] at hp1
            exact ⟨p, v, rfl, by rw [← q1]; exact DGet.k (w1.own p _ k2), Post.val v hp1 r1 w1 q3⟩
theorem rf_dIn {i : Nat} (hi : RfE K Z E ti mi) : RfE K Z E (tDIn ti (tVar i)) (mDIn mi i) := fun W bs F ρ σ G M H Q rl w hp =>
  hi.use rl w hp fun y ρ1 u G1 M1 H1 e1 r1 w1 hy hp1 => by
    cases e2 : dctAt ρ1 i with
    | none => rw [e2] at hp1; exact hp1.elim
    | some ds =>
      rw [e2, Option.bind_some] at hp1
      obtain ⟨p, ys, k1, k2, k3⟩ := rel_dct r1 e2
      cases e3 : plain ρ1 y with
      | none => rw [e3] at hp1; exact hp1.elim
      | some b =>
        rw [e3, Option.bind_some] at hp1
        cases e4 : keyOf b with
        | none => rw [e4] at hp1; exact hp1.elim
        | some k =>
          rw [e4, Option.bind_some] at hp1
          obtain rfl := key_eq (rel_plain hy e3) e4
          refine ⟨.ref p, k1, p, _, rfl, DGet.k (w1.own p _ k2), ?_⟩
          rcases k3.get k with ⟨q1, q2⟩ | ⟨v, d, q1, q2, q3⟩
          · rw [q2] at hp1; rw [q1]; exact Post.val (.bl false) hp1 r1 w1 (Da.bl false)
          · rw [q2] at hp1; rw [q1]; exact Post.val (.bl true) hp1 r1 w1 (Da.bl true)
theorem rf_dGet2 {i : Nat} {tx : TE} {mx : ME} (hi : RfE K Z E ti mi) (hx : RfE K Z E tx mx) : RfE K Z E (tDGet2 (tVar i) ti tx) (mDGet2 i mi mx) := fun W bs F ρ σ G M H Q rl w hp => by
  unfold mDGet2 at hp
  cases e : dctAt ρ i with
  | none => rw [e] at hp; exact hp.elim
  | some d0 =>
    rw [e] at hp
    obtain ⟨p, xs, h1, h2, h3⟩ := rel_dct rl e
    refine ⟨.ref p, h1, p, rfl, (.inl ⟨_, .inl (w.own p _ h2)⟩), Rf.use (Q := Q) hi rl w hp fun y ρ1 u G1 M1 H1 e1 r1 w1 hy hp1 => Rf.use (Q := Q) hx r1 w1 hp1 fun z ρ2 v G2 M2 H2 e2 r2 w2 hz hp2 => ?_⟩
    cases e3 : dctAt ρ2 i with
    | none => rw [e3] at hp2; exact hp2.elim
    | some ds =>
      rw [e3, Option.bind_some] at hp2
      obtain ⟨p', ys, k1, k2, k3⟩ := rel_dct r2 e3
      rw [h1] at k1; cases k1
      cases e4 : plain ρ2 y with
      | none => rw [e4] at hp2; exact hp2.elim
      | some b =>
        rw [e4, Option.bind_some] at hp2
        cases e5 : keyOf b with
        | none => rw [e5] at hp2; exact hp2.elim
        | some k =>
          rw [e5, Option.bind_some] at hp2
          cases e6 : plain ρ2 z with
          | none => rw [e6] at hp2; exact hp2.elim
          | some c =>
            rw [e6, Option.bind_some] at hp2
            obtain rfl := key_eq (rel_plain (hy.mono e2) e4) e5
            refine ⟨_, DGet.k (w2.own p _ k2), ?_⟩
            rcases k3.get k with ⟨q1, q2⟩ | ⟨v', d, q1, q2, q3⟩
            · rw [q2] at hp2; rw [q1]; exact Post.val v hp2 r2 w2 (rel_plain hz e6)
            · rw [q2] at hp2; rw [q1]; exact Post.val v' hp2 r2 w2 q3
end
/-! # sorting -/
def leS (x y : Str) : Bool := !ltS y x
def leI (x y : Int) : Bool := decide (x ≤ y)
def le3 (x y : Key3) : Bool := !lex3 y x
def sortS (xs : List Str) : List Str := xs.mergeSort leS
def sortI (xs : List Int) : List Int := xs.mergeSort leI
def sort3 (xs : List Key3) : List Key3 := xs.mergeSort le3
theorem leS_iff {x y : Str} : leS x y = true ↔ x.cps.toList ≤ y.cps.toList := by
  unfold leS
  rw [Bool.not_eq_true', decide_eq_false_iff_not]; exact List.not_lt
theorem leS_trans (a b c : Str) (h1 : leS a b = true) (h2 : leS b c = true) : leS a c = true := leS_iff.mpr (List.le_trans (leS_iff.mp h1) (leS_iff.mp h2))
theorem leS_total (a b : Str) : (leS a b || leS b a) = true := by
  rw [Bool.or_eq_true, leS_iff, leS_iff]; exact List.le_total _ _
theorem leS_antisymm {a b : Str} (h1 : leS a b = true) (h2 : leS b a = true) : a = b := Str.of_toList (List.le_antisymm (leS_iff.mp h1) (leS_iff.mp h2))
theorem sortS_perm (xs : List Str) : (sortS xs).Perm xs := List.mergeSort_perm _ _
theorem sortS_sorted (xs : List Str) : (sortS xs).Pairwise fun a b => leS a b = true := List.pairwise_mergeSort leS_trans leS_total xs
theorem sortedS_pw : ∀ {ss : List Str}, PyProof.Rows.sortedS ss = true → ss.Pairwise fun a b => leS a b = true
  | [], _ => List.Pairwise.nil
  | [_], _ => List.pairwise_singleton _ _
  | x :: y :: r, h => by
    have h2 : (!PySem.Spec.ltCps y.cps.toList x.cps.toList && PyProof.Rows.risingS y r) = true := h
    rw [Bool.and_eq_true, ltCps_eq] at h2
    have ih := sortedS_pw (ss := y :: r) h2.2
    refine List.pairwise_cons.mpr ⟨fun z hz => ?_, ih⟩
    have hxy : leS x y = true := h2.1
    rcases List.mem_cons.mp hz with e | e
    · rw [e]; exact hxy
    · exact leS_trans _ _ _ hxy ((List.pairwise_cons.mp ih).1 z e)
theorem sortS_eq {xs ys : List Str} (h : ys.Perm xs) (hs : PyProof.Rows.sortedS ys = true) : ys = sortS xs :=
  List.Perm.eq_of_pairwise (fun a b _ _ h1 h2 => leS_antisymm h1 h2) (sortedS_pw hs) (sortS_sorted xs) (h.trans (sortS_perm xs).symm)
theorem sortI_perm (xs : List Int) : (sortI xs).Perm xs := List.mergeSort_perm _ _
theorem sortI_sorted (xs : List Int) : (sortI xs).Pairwise fun a b => a ≤ b := (List.pairwise_mergeSort (le := leI) (fun a b c h1 h2 => by unfold leI at *; simp at *; omega) (fun a b => by unfold leI; simp; omega) xs).imp fun {a b} h => of_decide_eq_true h
theorem sortI_eq {xs ys : List Int} (h : ys.Perm xs) (hs : ys.Pairwise fun a b => a ≤ b) : ys = sortI xs :=
  List.Perm.eq_of_pairwise (fun a b _ _ h1 h2 => Int.le_antisymm h1 h2) hs (sortI_sorted xs) (h.trans (sortI_perm xs).symm)
theorem sort3_perm (xs : List Key3) : (sort3 xs).Perm xs := List.mergeSort_perm _ _
theorem le3_iff {a b : Key3} : le3 a b = true ↔ lex3 b a = false := by unfold le3; rw [Bool.not_eq_true']
theorem sort3_sorted (xs : List Key3) : (sort3 xs).Pairwise fun a b => lex3 b a = false := (List.pairwise_mergeSort (le := le3) (fun a b c h1 h2 => by
    rw [le3_iff, lex3_no] at *; omega) (fun a b => by
    rw [Bool.or_eq_true, le3_iff, le3_iff, lex3_no, lex3_no]; omega) xs).imp fun {a b} h => le3_iff.mp h
theorem sort3_eq {xs ys : List Key3} (h : ys.Perm xs) (hs : ys.Pairwise fun a b => lex3 b a = false) : ys = sort3 xs :=
  List.Perm.eq_of_pairwise (fun a b _ _ h1 h2 => (key3_ext h1 h2).symm) hs (sort3_sorted xs) (h.trans (sort3_perm xs).symm)
/-- texts once each -/
def uniqS : List Str → List Str
  | [] => []
  | x :: r => if x ∈ uniqS r then uniqS r else x :: uniqS r
theorem uniqS_mem : ∀ {xs : List Str} {y : Str}, y ∈ uniqS xs ↔ y ∈ xs
  | [], y => Iff.rfl
  | x :: r, y => by
    unfold uniqS
    have ih := fun y => uniqS_mem (xs := r) (y := y)
    split
    · rename_i c
      rw [ih, List.mem_cons]
      exact ⟨.inr, fun h => h.elim (fun e => by rw [e]; exact (ih x).mp c) id⟩
    · rw [List.mem_cons, List.mem_cons, ih]
theorem uniqS_nodup : ∀ xs : List Str, (uniqS xs).Nodup
  | [] => List.nodup_nil
  | x :: r => by
    unfold uniqS
    split
    · exact uniqS_nodup r
    · exact List.nodup_cons.mpr ⟨by assumption, uniqS_nodup r⟩
def uniqI : List Int → List Int
  | [] => []
  | x :: r => if x ∈ uniqI r then uniqI r else x :: uniqI r
theorem uniqI_mem : ∀ {xs : List Int} {y : Int}, y ∈ uniqI xs ↔ y ∈ xs
  | [], y => Iff.rfl
  | x :: r, y => by
    unfold uniqI
    have ih := fun y => uniqI_mem (xs := r) (y := y)
    split
    · rename_i c
      rw [ih, List.mem_cons]
      exact ⟨.inr, fun h => h.elim (fun e => by rw [e]; exact (ih x).mp c) id⟩
    · rw [List.mem_cons, List.mem_cons, ih]
theorem uniqI_nodup : ∀ xs : List Int, (uniqI xs).Nodup
  | [] => List.nodup_nil
  | x :: r => by
    unfold uniqI
    split
    · exact uniqI_nodup r
    · exact List.nodup_cons.mpr ⟨by assumption, uniqI_nodup r⟩
theorem nodup_perm {α : Type} [DecidableEq α] {xs ys : List α} (h1 : xs.Nodup) (h2 : ys.Nodup) (h : ∀ z, z ∈ xs ↔ z ∈ ys) : xs.Perm ys := List.perm_iff_count.mpr fun a => by
  have c1 := List.nodup_iff_count.mp h1 a
  have c2 := List.nodup_iff_count.mp h2 a
  by_cases m : a ∈ xs
  · have m2 := (h a).mp m
    have p1 := List.count_pos_iff.mpr m
    have p2 := List.count_pos_iff.mpr m2
    omega
  · have m2 : a ∉ ys := fun z => m ((h a).mpr z)
    rw [List.count_eq_zero.mpr m, List.count_eq_zero.mpr m2]
@[simp] def fSort : PyData → Option PyData
  | .list ds => match intsD ds with
    | some ns => if ns.length < 64 then some (.list ((sortI ns).map .int)) else none
    | none => (strsD ds).bind fun ss => if ss.length < 64 then some (.list ((sortS ss).map .str)) else none
  | _ => none
@[simp] def fSortSetS : PyData → Option PyData
  | .list ds => (strsD ds).bind fun ss => if ss.length + 1 < scanBound then some (.list ((sortS (uniqS ss)).map .str)) else none
  | _ => none
@[simp] def fSortSetI : PyData → Option PyData
  | .list ds => (intsD ds).bind fun ss => if ss.length + 1 < scanBound then some (.list ((sortI (uniqI ss)).map .int)) else none
  | _ => none
def triOf (c : Bool) : PyData → Option Key3
  | .tuple [.int a, .int m, .int b] => if c then none else some (a, m, b)
  | .tuple [.int a, .bool m, .int b] => if c then some (a, if m then 1 else 0, b) else none
  | _ => none
def trisOf (c : Bool) : List PyData → Option (List Key3)
  | [] => some []
  | d :: r => (triOf c d).bind fun k => (trisOf c r).bind fun ks => some (k :: ks)
@[simp] def fSort3 : PyData → Option PyData
  | .list ds => match trisOf false ds with
    | some ks => some (.list ((sort3 ks).map (triD false)))
    | none => (trisOf true ds).bind fun ks => some (.list ((sort3 ks).map (triD true)))
  | _ => none
section
variable {K : PySem.W.Frag} {Z : Er} {W : Ent} {bs : Nat → Option Addr} {F : Mem} {E : L2.St → XK} {ρ : Env} {σ : L2.St} {G G' H : Hp} {M : Mem} {te ta : TE} {ma : ME}
theorem o_sorted : OpA K (kSorted K) (f1 fSort) := o_1 fun a d hf G H e x hx Q q => by
  match a, hf, hx with
  | .list ds, hf, hx =>
    obtain ⟨p, xs, rfl, h1, h2⟩ := hx.list e
    unfold fSort at hf
    cases e1 : intsD ds with
    | some ns =>
      simp only [e1] at hf
      split at hf
      · cases hf
        rw [ints_da h2 e1] at h1
        refine .inr (.inr ⟨p, ns, rfl, SqL.of h1, by assumption, fun ns' p' hp hs hn => ?_⟩)
        rw [sortI_eq hp hs]
        exact new_lst e q hn (DaL.ofInts _)
      · cases hf
    | none =>
      simp only [e1] at hf
      cases e2 : strsD ds with
      | none => rw [e2] at hf; cases hf
      | some ss =>
        rw [e2, Option.bind_some] at hf
        split at hf
        · cases hf
          rw [strs_da h2 e2] at h1
          refine .inr (.inl ⟨p, ss, rfl, SqL.of h1, by assumption, fun ys p' hp hs hn => ?_⟩)
          rw [sortS_eq hp hs]
          exact new_lst e q hn (DaL.ofStrs _)
        · cases hf
theorem rf_sortS (ha : RfE K Z E ta ma) : RfE K Z E (tSortS K ta) (mUn fSortSetS ma) := fun W bs F ρ σ G M H Q rl w hp =>
  ha.use rl w hp fun x ρ1 v G1 M1 H1 e1 r1 w1 hx hp1 => by
    cases h1 : view ρ1 x with
    | none => rw [h1] at hp1; exact hp1.elim
    | some a =>
      rw [h1, Option.bind_some] at hp1
      have hv := rel_view r1 w1 hx h1
      cases a with
      | list ds =>
        unfold fSortSetS at hp1
        cases h2 : strsD ds with
        | none => simp only [h2] at hp1; exact hp1.elim
        | some ss =>
          simp only [h2, Option.bind_some] at hp1
          by_cases c : ss.length + 1 < scanBound
          · rw [if_pos c] at hp1
            obtain ⟨p, xs, rfl, k1, k2⟩ := hv.list w1.gh
            rw [strs_da k2 h2] at k1
            refine ⟨p, ss, rfl, SqL.of k1, c, fun ys a p' o nd hl hm hs ha hn => ?_⟩
            have e0 : ys = sortS (uniqS ss) := sortS_eq (nodup_perm nd (uniqS_nodup ss) fun z => (hm z).trans uniqS_mem.symm) hs
            have w2 := w1.ext (Ex.new (o := o) ha)
            subst e0
            exact hp1 (.ref p') _ M1 _ (Ex.new (fresh_back w2.gh hn)) (r1.ex (Ex.new (fresh_back w2.gh hn))) (w2.grow (Grow.new w2.gh hn)) (Da.lst upd_same (DaL.ofStrs _))
          · rw [if_neg c] at hp1; exact hp1.elim
      | _ => exact hp1.elim
theorem rf_sortI (ha : RfE K Z E ta ma) : RfE K Z E (tSortI K ta) (mUn fSortSetI ma) := fun W bs F ρ σ G M H Q rl w hp =>
  ha.use rl w hp fun x ρ1 v G1 M1 H1 e1 r1 w1 hx hp1 => by
    cases h1 : view ρ1 x with
    | none => rw [h1] at hp1; exact hp1.elim
    | some a =>
      rw [h1, Option.bind_some] at hp1
      have hv := rel_view r1 w1 hx h1
      cases a with
      | list ds =>
        unfold fSortSetI at hp1
        cases h2 : intsD ds with
        | none => simp only [h2] at hp1; exact hp1.elim
        | some ss =>
          simp only [h2, Option.bind_some] at hp1
          by_cases c : ss.length + 1 < scanBound
          · rw [if_pos c] at hp1
            obtain ⟨p, xs, rfl, k1, k2⟩ := hv.list w1.gh
            rw [ints_da k2 h2] at k1
            refine ⟨p, ss, rfl, SqL.of k1, c, fun ys a p' o hl hm hs ha hn => ?_⟩
            have nd : ys.Nodup := hs.imp fun {a b} h z => by omega
            have e0 : ys = sortI (uniqI ss) := sortI_eq (nodup_perm nd (uniqI_nodup ss) fun z => (hm z).trans uniqI_mem.symm) (hs.imp fun {a b} h => Int.le_of_lt h)
            have w2 := w1.ext (Ex.new (o := o) ha)
            subst e0
            exact hp1 (.ref p') _ M1 _ (Ex.new (fresh_back w2.gh hn)) (r1.ex (Ex.new (fresh_back w2.gh hn))) (w2.grow (Grow.new w2.gh hn)) (Da.lst upd_same (DaL.ofInts _))
          · rw [if_neg c] at hp1; exact hp1.elim
      | _ => exact hp1.elim
/-- sorted(d), d's keys texts -/
def keysS : List (Key × PyData) → Option (List Str)
  | [] => some []
  | (.inr x, _) :: r => (keysS r).map fun s => x :: s
  | _ => none
theorem keysS_eq : ∀ {vs : List (Key × V)} {ds : List (Key × PyData)} {ks : List Str}, DaK K G vs ds → keysS ds = some ks → vs.map (·.1) = ks.map Sum.inr ∧ ks.length = ds.length
  | _, _, _, .nil, h => by cases h; exact ⟨rfl, rfl⟩
  | _, (.inr x, d) :: ds, ks, .cons a r, h => by
    obtain ⟨ss, h1, rfl⟩ := Option.map_eq_some_iff.mp (show (keysS ds).map (fun s => x :: s) = some ks from h)
    obtain ⟨e1, e2⟩ := keysS_eq r h1
    exact ⟨by rw [List.map_cons, e1]; rfl, by rw [List.length_cons, List.length_cons, e2]⟩
def mSortD (i : Nat) : ME := fun ρ => retX ((dctAt ρ i).bind fun kvs => (keysS kvs).bind fun ks => if ks.length < 64 then some (.list ((sortS ks).map .str)) else none) ρ
@[simp] theorem mSortD_eq (i : Nat) (ρ : Env) : mSortD i ρ = (retX ((dctAt ρ i).bind fun kvs => (keysS kvs).bind fun ks => if ks.length < 64 then some (.list ((sortS ks).map .str)) else none) ρ) := by unfold mSortD; exact Eq.trans rfl rfl
theorem rf_sortD {i : Nat} : RfE K Z E (tCB (kSorted K) (tCons (tVar i) tNil)) (mSortD i) := fun W bs F ρ σ G M H Q rl w hp => by
  unfold mSortD at hp
  cases e : dctAt ρ i with
  | none => rw [e] at hp; exact hp.elim
  | some ds =>
    rw [e, Option.bind_some] at hp
    obtain ⟨p, xs, h1, h2, h3⟩ := rel_dct rl e
    cases e2 : keysS ds with
    | none => rw [e2] at hp; exact hp.elim
    | some ks =>
      rw [e2, Option.bind_some] at hp
      by_cases c : ks.length < 64
      · rw [if_pos c] at hp
        obtain ⟨k1, k2⟩ := keysS_eq h3 e2
        refine ⟨.ref p, h1, .inl ⟨p, xs, ks, rfl, .inl (w.own p _ h2), k1, c, fun ys p' hp' hs hn => ?_⟩⟩
        rw [sortS_eq hp' hs]
        exact new_lst w.gh (Post.data hp rl w) hn (DaL.ofStrs _)
      · rw [if_neg c] at hp; exact hp.elim
theorem triOf_eq {c : Bool} {d : PyData} {k : Key3} (h : triOf c d = some k) : d = triD c k ∧ midOk c k.2.1 := by
  unfold triOf at h
  split at h
  · split at h
    · cases h
    · rename_i hc
      cases h
      have : c = false := Bool.eq_false_iff.mpr hc
      subst this
      exact ⟨rfl, fun z => nomatch z⟩
  · split at h
    · rename_i m _ hc
      cases h
      subst hc
      cases m
      · exact ⟨rfl, fun _ => .inl rfl⟩
      · exact ⟨rfl, fun _ => .inr rfl⟩
    · cases h
  · cases h
theorem trisOf_eq {c : Bool} : ∀ {ds : List PyData} {ks : List Key3}, trisOf c ds = some ks → ds = ks.map (triD c) ∧ ∀ k ∈ ks, midOk c k.2.1
  | [], _, h => by cases h; exact ⟨rfl, fun _ h => nomatch h⟩
  | d :: r, ks, h => by
    have h : ((triOf c d).bind fun k => (trisOf c r).bind fun ks => some (k :: ks)) = some ks := h
    cases e1 : triOf c d with
    | none => rw [e1] at h; cases h
    | some k =>
      rw [e1, Option.bind_some] at h
      cases e2 : trisOf c r with
      | none => rw [e2] at h; cases h
      | some ls =>
        rw [e2] at h
        cases h
        obtain ⟨a, b⟩ := triOf_eq e1
        obtain ⟨p, q⟩ := trisOf_eq e2
        refine ⟨by rw [List.map_cons, ← p, ← a], fun z hz => ?_⟩
        rcases List.mem_cons.mp hz with e | e
        · rw [e]; exact b
        · exact q z e
theorem sorted3_run {c : Bool} {ks : List Key3} {a : Addr} {xs : List V} (hm : ∀ k ∈ ks, midOk c k.2.1) (e : Ex G H) (h : H a = some (.lst xs)) (r : DaL K G xs (ks.map (triD c))) {Q : VK} (q : ∀ v G' H', Grow [] G H G' H' → Da K G' v (.list ((sort3 ks).map (triD c))) → Q v H') : rSorted3 K [.ref a] H Q := by
  have hl := r.len
  rw [List.length_map] at hl
  refine ⟨c, a, xs, ks, rfl, SqL.of h, hl, fun i x k h1 h2 => ⟨hm k (List.mem_of_getElem? h2), ?_⟩, fun ys zs' p hl' hp hs' hpn => ?_⟩
  · obtain ⟨d, hd, dx⟩ := r.getV h1
    rw [List.getElem?_map, h2] at hd
    cases hd
    cases dx with
    | @tup t us _ ht ru =>
      obtain ⟨u1, u2, u3, rfl, d1, d2, d3⟩ := ru.three_inv
      obtain rfl := d1.int_eq
      obtain rfl := d3.int_eq
      have e2 : u2 = midV c k.2.1 := by
        unfold midD at d2
        unfold midV
        cases c with
        | true => rw [if_pos rfl] at d2 ⊢; exact d2.bl_eq
        | false => rw [if_neg (by decide)] at d2 ⊢; exact d2.int_eq
      subst e2
      exact ⟨t, rfl, ex_t e ht⟩
  · have hzp : zs'.Perm ks := by
      have z := hp.map Prod.snd
      rw [List.map_snd_zip (by omega), List.map_snd_zip (by omega)] at z
      exact z
    obtain rfl := sort3_eq hzp hs'
    refine new_lst e q hpn (DaL.of_get (by rw [List.length_map]; exact hl') fun i v d h1 h2 => ?_)
    rw [List.getElem?_map] at h2
    cases hk : (sort3 ks)[i]? with
    | none => rw [hk] at h2; cases h2
    | some k =>
    rw [hk] at h2
    cases h2
    have hmem : (v, k) ∈ ys.zip (sort3 ks) := List.mem_of_getElem? (List.getElem?_zip_eq_some.mpr ⟨h1, hk⟩)
    obtain ⟨j, hj⟩ := List.mem_iff_getElem?.mp (hp.mem_iff.mp hmem)
    obtain ⟨j1, j2⟩ := List.getElem?_zip_eq_some.mp hj
    obtain ⟨d, hd, dx⟩ := r.getV j1
    rw [List.getElem?_map, j2] at hd
    cases hd
    exact dx
theorem o_sorted3 : OpA K (rSorted3 K) (f1 fSort3) := o_1 fun a d hf G H e x hx Q q => by
  match a, hf, hx with
  | .list ds, hf, hx =>
    obtain ⟨p, xs, rfl, h1, h2⟩ := hx.list e
    unfold fSort3 at hf
    cases e1 : trisOf false ds with
    | some ks =>
      simp only [e1] at hf
      cases hf
      obtain ⟨rfl, b⟩ := trisOf_eq e1
      exact sorted3_run b e h1 h2 q
    | none =>
      simp only [e1] at hf
      cases e2 : trisOf true ds with
      | none => rw [e2] at hf; cases hf
      | some ks =>
        rw [e2, Option.bind_some] at hf
        cases hf
        obtain ⟨rfl, b⟩ := trisOf_eq e2
        exact sorted3_run b e h1 h2 q
/-- list(e), one's own -/
def oList (a : ME) : MO := fun ρ => (a ρ).bind fun x ρ1 => retD ((view ρ1 x).bind fun u => match u with
  | .list ds => some (.lst ds)
  | .tuple ds => some (.lst ds)
  | _ => none) ρ1
@[simp] theorem oList_eq (a : ME) (ρ : Env) : oList a ρ = ((a ρ).bind fun x ρ1 => retD ((view ρ1 x).bind fun u => match u with
  | .list ds => some (.lst ds)
  | .tuple ds => some (.lst ds)
  | _ => none) ρ1) := by unfold oList; exact Eq.trans rfl rfl
theorem rf_oList (ha : RfE K Z E ta ma) : RfO K Z E (tCB (kList K) (tCons ta tNil)) (oList ma) := fun W bs F ρ σ G M H Q rl w hp =>
  ha.useO rl w hp fun x ρ1 v G1 M1 H1 e1 r1 w1 hx hp1 => by
    cases h1 : view ρ1 x with
    | none => rw [h1] at hp1; exact hp1.elim
    | some u =>
      rw [h1, Option.bind_some] at hp1
      have hv := rel_view r1 w1 hx h1
      cases u with
      | list ds =>
        obtain ⟨p, xs, rfl, k1, k2⟩ := hv.list w1.gh
        refine ⟨_, _, rfl, .inl (SqL.of k1), fun p' hn => ?_⟩
        obtain ⟨w2, r2, h0, hF⟩ := r1.newF (o := .lst xs) w1 hn
        exact hp1 p' (.lst xs) G1 _ _ (Ex.refl G1) r2 w2 h0 hF k2
      | tuple ds =>
        obtain ⟨p, xs, rfl, k1, k2⟩ := hv.tuple w1.gh
        refine ⟨_, _, rfl, .inr (ex_t w1.gh k1), fun p' hn => ?_⟩
        obtain ⟨w2, r2, h0, hF⟩ := r1.newF (o := .lst xs) w1 hn
        exact hp1 p' (.lst xs) G1 _ _ (Ex.refl G1) r2 w2 h0 hF k2
      | _ => exact hp1.elim
/-- zip of two lists, of two tuples -/
theorem rf_zip {tr : TA} {mr : MA} (hr : RfA K Z E tr mr) : RfI K Z E (RZ.iZipA K tr) (jArgs zip2 mr) := rf_args (wi := RZ.iZipA K) (fun vs H1 R => ∃ a b xs ys, vs = [.ref a, .ref b] ∧ ((SqL K H1 a xs ∧ SqL K H1 b ys ∧ R (Itz K a b) H1) ∨ (SqT K H1 a xs ∧ SqT K H1 b ys ∧ R (RZ.ItzT K a b) H1))) (fun _ _ _ h => h) (fun vs G H1 ds es R e dv hf k => by
  match ds, dv, hf with
  | [.list as, .list bs], dv, hf =>
    cases hf
    obtain ⟨v, w, rfl, hv, hw⟩ := dv.two_inv
    cases hv with
    | lst h r =>
      cases hw with
      | lst h' r' => exact ⟨_, _, _, _, rfl, .inl ⟨SqL.of (e _ _ h), SqL.of (e _ _ h'), k _ (steps_zip h r h' r')⟩⟩
  | [.tuple as, .tuple bs], dv, hf =>
    cases hf
    obtain ⟨v, w, rfl, hv, hw⟩ := dv.two_inv
    cases hv with
    | tup h r =>
      cases hw with
      | tup h' r' => exact ⟨_, _, _, _, rfl, .inr ⟨ex_t e h, ex_t e h', k _ (steps_zipT h r h' r')⟩⟩) hr
end
/-! # min, max -/
def keyD (c : Bool) : PyData → Option (List Int)
  | .int i => if c then some [i] else none
  | .tuple ds => if c then none else intsD ds
  | _ => none
def keysD (c : Bool) : List PyData → Option (List (List Int))
  | [] => some []
  | d :: r => (keyD c d).bind fun k => (keysD c r).bind fun ks => some (k :: ks)
def fMin : PyData → Option PyData
  | .list ds => match keysD true ds with
    | some ks => ds[bestMin ks]?
    | none => (keysD false ds).bind fun ks => ds[bestMin ks]?
  | _ => none
def fMax : PyData → Option PyData
  | .list ds => (keysD true ds).bind fun ks => ds[bestMax ks]?
  | _ => none
@[simp] def fMinD : List PyData → List PyData → Option PyData
  | [.list []], [z] => some z
  | [x], [_] => fMin x
  | _, _ => none
@[simp] def fMaxD : List PyData → List PyData → Option PyData
  | [.list []], [z] => some z
  | [x], [_] => fMax x
  | _, _ => none
section
variable {K : PySem.W.Frag} {Z : Er} {E : L2.St → XK} {G H : Hp} {ta tk : TA} {ma mk : MA}
theorem keysD_len {c : Bool} : ∀ {ds : List PyData} {ks : List (List Int)}, keysD c ds = some ks → ds.length = ks.length
  | [], _, h => by cases h; rfl
  | d :: r, ks, h => by
    have h : ((keyD c d).bind fun k => (keysD c r).bind fun ks => some (k :: ks)) = some ks := h
    cases e1 : keyD c d with
    | none => rw [e1] at h; cases h
    | some k =>
      rw [e1, Option.bind_some] at h
      cases e2 : keysD c r with
      | none => rw [e2] at h; cases h
      | some ls => rw [e2] at h; cases h; exact congrArg (· + 1) (keysD_len e2)
theorem keysD_at {c : Bool} : ∀ {ds : List PyData} {ks : List (List Int)} {i : Nat} {d : PyData} {k : List Int}, keysD c ds = some ks → ds[i]? = some d → ks[i]? = some k → keyD c d = some k
  | [], _, _, _, _, _, h, _ => by simp at h
  | d :: r, ks, i, d', k', h, h1, h2 => by
    have h : ((keyD c d).bind fun k => (keysD c r).bind fun ks => some (k :: ks)) = some ks := h
    cases e1 : keyD c d with
    | none => rw [e1] at h; cases h
    | some k =>
      rw [e1, Option.bind_some] at h
      cases e2 : keysD c r with
      | none => rw [e2] at h; cases h
      | some ls =>
        rw [e2] at h
        cases h
        cases i with
        | zero => cases h1; cases h2; exact e1
        | succ i => exact keysD_at e2 h1 h2
theorem items_of {c : Bool} {p : Addr} {xs : List V} {ds : List PyData} {ks : List (List Int)} (e : Ex G H) (h : H p = some (.lst xs)) (r : DaL K G xs ds) (hk : keysD c ds = some ks) : Items K H c p xs ks := by
  refine ⟨SqL.of h, by rw [r.len]; exact keysD_len hk, fun i x k h1 h2 => ?_⟩
  obtain ⟨d, h3, h4⟩ := r.getV h1
  have h5 := keysD_at hk h3 h2
  unfold KeyV
  cases d with
  | int i =>
    unfold keyD at h5
    cases c with
    | true => cases h5; rw [if_pos rfl]; exact ⟨i, h4.int_eq, rfl⟩
    | false => cases h5
  | tuple es =>
    unfold keyD at h5
    cases c with
    | true => cases h5
    | false =>
      rw [if_neg (by decide)]
      have h5 : intsD es = some k := h5
      cases h4 with
      | tup h6 h7 =>
        rw [ints_da h7 h5] at h6
        exact ⟨_, rfl, ex_t e h6⟩
  | _ => cases h5
theorem min_pick {ds : List PyData} {d : PyData} (h : fMin (.list ds) = some d) : ∃ c ks, keysD c ds = some ks ∧ ds[bestMin ks]? = some d := by
  unfold fMin at h
  cases e : keysD true ds with
  | some ks => simp only [e] at h; exact ⟨true, ks, e, h⟩
  | none =>
    simp only [e] at h
    cases e2 : keysD false ds with
    | none => rw [e2] at h; cases h
    | some ks => rw [e2, Option.bind_some] at h; exact ⟨false, ks, e2, h⟩
theorem ne_of_get {α : Type} {xs : List α} {i : Nat} {x : α} (h : xs[i]? = some x) : xs ≠ [] := fun z => by rw [z] at h; simp at h
theorem o_min : OpA K (rMn K) (f1 fMin) := o_1 fun a d hf G H e x hx Q q => by
  match a, hf, hx with
  | .list ds, hf, hx =>
    obtain ⟨p, xs, rfl, h1, h2⟩ := hx.list e
    obtain ⟨c, ks, h3, h4⟩ := min_pick hf
    obtain ⟨v, h5, h6⟩ := h2.get h4
    exact ⟨c, p, xs, ks, rfl, items_of e h1 h2 h3, ne_of_get h5, fun x hx => by rw [h5] at hx; cases hx; exact done e q h6⟩
theorem o_max : OpA K (rMx K) (f1 fMax) := o_1 fun a d hf G H e x hx Q q => by
  match a, hf, hx with
  | .list ds, hf, hx =>
    obtain ⟨p, xs, rfl, h1, h2⟩ := hx.list e
    have hf : ((keysD true ds).bind fun ks => ds[bestMax ks]?) = some d := hf
    cases e3 : keysD true ds with
    | none => rw [e3] at hf; cases hf
    | some ks =>
      rw [e3, Option.bind_some] at hf
      obtain ⟨v, h5, h6⟩ := h2.get hf
      exact ⟨p, xs, ks, rfl, items_of e h1 h2 e3, ne_of_get h5, fun x hx => by rw [h5] at hx; cases hx; exact done e q h6⟩
/-- a built-in function with a keyword -/
def OpK (K : PySem.W.Frag) (r : List V → List V → Hp → VK → Prop) (f : List PyData → List PyData → Option PyData) : Prop := ∀ us ws d, f us ws = some d → ∀ G H, Ex G H → ∀ xs zs, Vws K G H xs us → Vws K G H zs ws → ∀ Q : VK, (∀ v G' H', Grow [] G H G' H' → Da K G' v d → Q v H') → r xs zs H Q
def mCKw (f : List PyData → List PyData → Option PyData) (a k : MA) : ME := fun ρ => (a ρ).bind fun xs ρ1 => (k ρ1).bind fun zs ρ2 => retX ((views ρ2 xs).bind fun us => (views ρ2 zs).bind fun ws => f us ws) ρ2
@[simp] theorem mCKw_eq (f : List PyData → List PyData → Option PyData) (a k : MA) (ρ : Env) : mCKw f a k ρ = ((a ρ).bind fun xs ρ1 => (k ρ1).bind fun zs ρ2 => retX ((views ρ2 xs).bind fun us => (views ρ2 zs).bind fun ws => f us ws) ρ2) := by unfold mCKw; exact Eq.trans rfl rfl
theorem rf_ckw {r : List V → List V → Hp → VK → Prop} {f : List PyData → List PyData → Option PyData} (ho : OpK K r f) (ha : RfA K Z E ta ma) (hk : RfA K Z E tk mk) : RfE K Z E (tCKw r ta tk) (mCKw f ma mk) := fun W bs F ρ σ G M H Q rl w hp =>
  ha.use rl w hp fun xs ρ1 vs G1 M1 H1 e1 r1 w1 hx hp1 => hk.use r1 w1 hp1 fun zs ρ2 us G2 M2 H2 e2 r2 w2 hz hp2 => by
    cases h1 : views ρ2 xs with
    | none => rw [h1] at hp2; exact hp2.elim
    | some as =>
      rw [h1, Option.bind_some] at hp2
      cases h2 : views ρ2 zs with
      | none => rw [h2] at hp2; exact hp2.elim
      | some cs =>
        rw [h2, Option.bind_some] at hp2
        cases h3 : f as cs with
        | none => rw [h3] at hp2; exact hp2.elim
        | some d =>
          rw [h3] at hp2
          exact ho as cs d h3 G2 H2 w2.gh vs us (rel_views r2 w2 (hx.mono e2) h1) (rel_views r2 w2 hz h2) Q (Post.data hp2 r2 w2)
theorem vw_data {v : V} {x d : PyData} {Q : VK} (e : Ex G H) (h : Vw K G H v x) (hd : ∀ ds, x ≠ .list ds) (q : ∀ v G' H', Grow [] G H G' H' → Da K G' v x → Q v H') : Q v H := by
  rcases h with h | ⟨a, xs, ds, rfl, rfl, _, _⟩
  · exact done e q h
  · exact absurd rfl (hd ds)
theorem fMinD_cases {us ws : List PyData} {d : PyData} (h : fMinD us ws = some d) : ∃ ds z, us = [.list ds] ∧ ws = [z] ∧ ((ds = [] ∧ z = d) ∨ (ds ≠ [] ∧ fMin (.list ds) = some d)) := by
  unfold fMinD at h
  split at h
  · cases h; exact ⟨[], _, rfl, rfl, .inl ⟨rfl, rfl⟩⟩
  · rename_i x z hn
    cases x with
    | list ds => exact ⟨ds, z, rfl, rfl, .inr ⟨fun e => by rw [e] at hn; exact hn rfl, h⟩⟩
    | _ => cases h
  · cases h
theorem fMaxD_cases {us ws : List PyData} {d : PyData} (h : fMaxD us ws = some d) : ∃ ds z, us = [.list ds] ∧ ws = [z] ∧ ((ds = [] ∧ z = d) ∨ (ds ≠ [] ∧ fMax (.list ds) = some d)) := by
  unfold fMaxD at h
  split at h
  · cases h; exact ⟨[], _, rfl, rfl, .inl ⟨rfl, rfl⟩⟩
  · rename_i x z hn
    cases x with
    | list ds => exact ⟨ds, z, rfl, rfl, .inr ⟨fun e => by rw [e] at hn; exact hn rfl, h⟩⟩
    | _ => cases h
  · cases h
/-- the default is no list of one's own -/
@[simp] def noL (f : List PyData → List PyData → Option PyData) : List PyData → List PyData → Option PyData := fun us ws => if ws.all flatD then f us ws else none
theorem noL_eq {f : List PyData → List PyData → Option PyData} {us ws : List PyData} {d : PyData} (h : noL f us ws = some d) : ws.all flatD = true ∧ f us ws = some d := by
  unfold noL at h
  split at h
  · exact ⟨by assumption, h⟩
  · cases h
theorem o_minD : OpK K (rMnD K) (noL fMinD) := fun us ws d hf G H e xs zs hx hz Q q => by
  obtain ⟨fl, hf⟩ := noL_eq hf
  obtain ⟨ds, z, rfl, rfl, h⟩ := fMinD_cases hf
  obtain ⟨v, rfl, hv⟩ := hx.one
  obtain ⟨u, rfl, hu⟩ := hz.one
  have hu := vw_flat hu (by simpa using fl)
  obtain ⟨p, ys, rfl, h1, h2⟩ := hv.list e
  rcases h with ⟨rfl, rfl⟩ | ⟨hn, hm⟩
  · obtain rfl := h2.nil_inv
    exact ⟨true, p, [], [], u, rfl, rfl, items_of e h1 .nil rfl, fun _ => done e q hu, fun z => absurd rfl z⟩
  · obtain ⟨c, ks, h3, h4⟩ := min_pick hm
    obtain ⟨v, h5, h6⟩ := h2.get h4
    exact ⟨c, p, ys, ks, u, rfl, rfl, items_of e h1 h2 h3, fun z => absurd z (ne_of_get h5), fun _ x hx => by rw [h5] at hx; cases hx; exact done e q h6⟩
theorem o_maxD : OpK K (rMxD K) (noL fMaxD) := fun us ws d hf G H e xs zs hx hz Q q => by
  obtain ⟨fl, hf⟩ := noL_eq hf
  obtain ⟨ds, z, rfl, rfl, h⟩ := fMaxD_cases hf
  obtain ⟨v, rfl, hv⟩ := hx.one
  obtain ⟨u, rfl, hu⟩ := hz.one
  have hu := vw_flat hu (by simpa using fl)
  obtain ⟨p, ys, rfl, h1, h2⟩ := hv.list e
  rcases h with ⟨rfl, rfl⟩ | ⟨hn, hm⟩
  · obtain rfl := h2.nil_inv
    exact ⟨p, [], [], u, rfl, rfl, items_of e h1 .nil rfl, fun _ => done e q hu, fun z => absurd rfl z⟩
  · have hm : ((keysD true ds).bind fun ks => ds[bestMax ks]?) = some d := hm
    cases e3 : keysD true ds with
    | none => rw [e3] at hm; cases hm
    | some ks =>
      rw [e3, Option.bind_some] at hm
      obtain ⟨v, h5, h6⟩ := h2.get hm
      exact ⟨p, ys, ks, u, rfl, rfl, items_of e h1 h2 e3, fun z => absurd z (ne_of_get h5), fun _ x hx => by rw [h5] at hx; cases hx; exact done e q h6⟩
end
/-- a, b = e, f -/
def mPar (i j : Nat) (a : MA) : MS := fun ρ => (a ρ).bind fun xs ρ1 => match datas xs with
  | some [u, w] => .ok .nx ((ρ1.set i (some (.d u))).set j (some (.d w)))
  | _ => .no
@[simp] theorem mPar_eq (i j : Nat) (a : MA) (ρ : Env) : mPar i j a ρ = ((a ρ).bind fun xs ρ1 => match datas xs with
  | some [u, w] => .ok .nx ((ρ1.set i (some (.d u))).set j (some (.d w)))
  | _ => .no) := by unfold mPar; exact Eq.trans rfl rfl
theorem rf_par {K : PySem.W.Frag} {Z : Er} {E : L2.St → XK} {i j : Nat} {ta : TA} {ma : MA} (hij : i ≠ j) (ha : RfA K Z E ta ma) : RfS K Z E (tPar i j ta) (mPar i j ma) := fun W bs F ρ σ G M H D rl w hp =>
  ha.useS rl w hp fun xs ρ1 vs G1 M1 H1 e1 r1 w1 hx hp1 => by
    match h : datas xs, hp1 with
    | none, hp1 => exact hp1.elim
    | some [], hp1 => exact hp1.elim
    | some [_], hp1 => exact hp1.elim
    | some (_ :: _ :: _ :: _), hp1 => exact hp1.elim
    | some [u, v], hp1 =>
      obtain ⟨x, y, rfl, dx, dy⟩ := (rel_datas hx h).two_inv
      exact ⟨x, y, rfl, hp1 _ G1 M1 H1 (Ex.refl G1) ((r1.setD i dx).setD j dy) w1⟩
/-! # the law's own end -/
theorem fn_imp {P : Program} {w : PySem.World} {K : PySem.W.Frag} {mg : Str → Option Value} {base : Heap} {CX : CXT} {k : Nat} {f : Addr} {fd : FuncData} {ps : List Str} {sp sp' : Sp} (F : FnOk P w K mg base CX k f fd ps sp) (imp : ∀ vs H Q E, sp' vs H Q E → sp vs H Q E) : FnOk P w K mg base CX k f fd ps sp' :=
  ⟨fun vs H Q E h => F.len vs H Q E (imp vs H Q E h), fun A outer s H args us vs Q E h1 h2 h3 h4 h5 => F.run A outer s H args us vs Q E h1 h2 h3 h4 (imp vs H Q E h5)⟩
def sp_law (K : PySem.W.Frag) : Sp := sp_script K 63
theorem sp_law_start {K : PySem.W.Frag} {H : Hp} (a : Addr) (ns : List Int) (hl : ns.length ≤ 63) (hb : ∀ z ∈ ns, Builtin.Int.intBits z ≤ 1048576) (hS : SqL K H a (ns.map V.int)) : sp_law K [.ref a] H (fun v _ => v = .bl true) fun _ _ _ => False := ⟨a, ns, rfl, hS, hl, fun _ => rfl⟩
theorem law_in {K : PySem.W.Frag} {Z : Er} {m : MF} (h : ∀ ns : List Int, ns.length ≤ 63 → m [.z ns] = .ok (.bool true) []) : ∀ vs H Q E, sp_law K vs H Q E → spF K Z m vs H Q E := fun vs H Q E ⟨a, ns, e, hS, hl, q⟩ => by
  subst e
  refine ⟨fun p => if p = a then H p else none, [.z ns], [], fun p o z => ?_, .z ?_ .nil, List.nodup_nil, ?_⟩
  · have z : (if p = a then H p else none) = some o := z
    by_cases c : p = a
    · rw [if_pos c] at z; exact z
    · rw [if_neg c] at z; cases z
  · rcases hS with hS | hS
    · refine .inl ?_
      rcases hS with hS | ⟨o, hS⟩
      · exact .inl (by show (if a = a then H a else none) = _; rw [if_pos rfl]; exact hS)
      · exact .inr ⟨o, by show (if a = a then H a else none) = _; rw [if_pos rfl]; exact hS⟩
    · exact .inr hS
  · rw [h ns hl]
    intro v G' H' g fr dv
    rw [dv.bl_eq]; exact q H'
abbrev ns_is_within : List Str := ["thing", "low", "high"]
abbrev ps_is_within : List Str := ["thing", "low", "high"]
def b_is_within : MS :=
  (mRet (mAndV (mUn (fIsi "int") (mVar 0)) (mAndV (mNotV (mUn (fIsi "bool") (mVar 0))) (mChain fLe fLe (mVar 1) (mVar 0) (mVar 2)))))
def m_is_within : MF := mDef0 3 0 b_is_within
abbrev ns_is_name : List Str := ["thing", "sign"]
abbrev ps_is_name : List Str := ["thing"]
def c_is_name_0 : ME :=
  (mOp fIn (mVar 1) (mC (.str "abcdefghijklmnopqrstuvwxyz")))
def b_is_name : MS :=
  (mRet (mAndV (mUn (fIsi "str") (mVar 0)) (mAndV (mChain fLe fLe (mC (.int 1)) (mUnZ fLen (mVar 0)) (mC (.int 8))) (mCB (f1 fAll) (mCons (mLc (jSeq (mVar 0)) (gN 1) mYes c_is_name_0 [1]) mNil)))))
def m_is_name : MF := mDef0 1 1 b_is_name
abbrev ns_rises : List Str := ["some", "one", "other"]
abbrev ps_rises : List Str := ["some"]
def c_rises_0 : ME :=
  (mOp fLt (mVar 1) (mVar 2))
def b_rises : MS :=
  (mRet (mCB (f1 fAll) (mCons (mLc (jArgs zip2 (mCons (mVar 0) (mCons (mSl fSl (mVar 0) (mPart (mC (.int 1))) mNoPart) mNil))) (gT ((gN 1) :: ((gN 2) :: []))) mYes c_rises_0 [1, 2]) mNil)))
def m_rises : MF := mDef0 1 2 b_rises
abbrev ns_is_gate : List Str := ["thing"]
abbrev ps_is_gate : List Str := ["thing"]
def b_is_gate : MS :=
  (mSeq (mIfS (mOr (mNot (mTest (mUn (fIsi "tuple") (mVar 0)))) (mOr (mTest (mOp fNe (mUnZ fLen (mVar 0)) (mC (.int 4)))) (mOr (mNot (mTest (mCall m_is_name (mCons (mOpZ fIx (mVar 0) (mC (.int 0))) mNil)))) (mNot (mTest (mUn (fIsi "bool") (mOpZ fIx (mVar 0) (mC (.int 3)))))))))
  (mRet (mC (.bool false)))
  mNext)
  (mRet (mAndV (mCall m_is_within (mCons (mOpZ fIx (mVar 0) (mC (.int 1))) (mCons (mC (.int 0)) (mCons (mOp fSub (mC (.int 24)) (mC (.int 1))) mNil)))) (mCall m_is_within (mCons (mOpZ fIx (mVar 0) (mC (.int 2))) (mCons (mC (.int 0)) (mCons (mOp fSub (mC (.int 24)) (mC (.int 1))) mNil)))))))
def m_is_gate : MF := mDef0 1 0 b_is_gate
abbrev ns_is_town : List Str := ["thing", "part"]
abbrev ps_is_town : List Str := ["thing"]
def c_is_town_0 : ME :=
  (mCall m_is_gate (mCons (mVar 1) mNil))
def c_is_town_1 : ME :=
  (mOpZ fIx (mVar 1) (mC (.int 0)))
def b_is_town : MS :=
  (mSeq (mIfS (mOr (mNot (mTest (mUn (fIsi "tuple") (mVar 0)))) (mOr (mNot (mTest (mChain fLe fLe (mC (.int 1)) (mUnZ fLen (mVar 0)) (mC (.int 8))))) (mNot (mTest (mCB (f1 fAll) (mCons (mLc (jSeq (mVar 0)) (gN 1) mYes c_is_town_0 [1]) mNil))))))
  (mRet (mC (.bool false)))
  mNext)
  (mRet (mCall m_rises (mCons (mLc (jSeq (mVar 0)) (gN 1) mYes c_is_town_1 [1]) mNil))))
def m_is_town : MF := mDef0 1 1 b_is_town
abbrev ns_look_at_town : List Str := ["town"]
abbrev ps_look_at_town : List Str := ["town"]
def b_look_at_town : MS :=
  (mIfS (mNot (mTest (mCall m_is_town (mCons (mVar 0) mNil))))
  mNever
  mNext)
def m_look_at_town : MF := mDef0 1 0 b_look_at_town
abbrev ns_names_of : List Str := ["town", "gate"]
abbrev ps_names_of : List Str := ["town"]
def c_names_of_0 : ME :=
  (mOpZ fIx (mVar 1) (mC (.int 0)))
def b_names_of : MS :=
  (mRet (mLc (jSeq (mVar 0)) (gN 1) mYes c_names_of_0 [1]))
def m_names_of : MF := mDef0 1 1 b_names_of
abbrev ns_open_by : List Str := ["gate", "hour"]
abbrev ps_open_by : List Str := ["gate", "hour"]
def b_open_by : MS :=
  (mSeq (mIfS (mTest (mOp fEq (mOpZ fIx (mVar 0) (mC (.int 1))) (mOpZ fIx (mVar 0) (mC (.int 2)))))
  (mRet (mC (.bool true)))
  mNext)
  (mRet (mOp fLt (mOp fMod (mOp fSub (mVar 1) (mOpZ fIx (mVar 0) (mC (.int 1)))) (mC (.int 24))) (mOp fMod (mOp fSub (mOpZ fIx (mVar 0) (mC (.int 2))) (mOpZ fIx (mVar 0) (mC (.int 1)))) (mC (.int 24))))))
def m_open_by : MF := mDef0 2 0 b_open_by
abbrev ns_shut_at : List Str := ["town", "hour", "gate"]
abbrev ps_shut_at : List Str := ["town", "hour"]
def d_shut_at_0 : MT :=
  (mNot (mTest (mCall m_open_by (mCons (mVar 2) (mCons (mVar 1) mNil)))))
def c_shut_at_0 : ME :=
  (mOpZ fIx (mVar 2) (mC (.int 0)))
def b_shut_at : MS :=
  (mRet (mLc (jSeq (mVar 0)) (gN 2) d_shut_at_0 c_shut_at_0 [2]))
def m_shut_at : MF := mDef0 2 1 b_shut_at
abbrev ns_is_track_page : List Str := ["town", "thing"]
abbrev ps_is_track_page : List Str := ["town", "thing"]
def b_is_track_page : MS :=
  (mSeq (mIfS (mOr (mNot (mTest (mUn (fIsi "tuple") (mVar 1)))) (mOr (mTest (mOp fNotIn (mUnZ fLen (mVar 1)) (mTup (mCons (mC (.int 4)) (mCons (mC (.int 5)) mNil))))) (mNot (mTest (mUn (fIsi "str") (mOpZ fIx (mVar 1) (mC (.int 0))))))))
  (mRet (mC (.bool false)))
  mNext)
  (mSeq (mIfS (mOr (mNot (mTest (mCall m_is_name (mCons (mOpZ fIx (mVar 1) (mC (.int 1))) mNil)))) (mOr (mNot (mTest (mCall m_is_within (mCons (mOpZ fIx (mVar 1) (mC (.int 2))) (mCons (mC (.int 0)) (mCons (mC (.int 1000000000000)) mNil)))))) (mNot (mTest (mUn (fIsi "str") (mOpZ fIx (mVar 1) (mUn fNeg (mC (.int 1)))))))))
  (mRet (mC (.bool false)))
  mNext)
  (mSeq (mIfS (mTest (mOp fEq (mUnZ fLen (mVar 1)) (mC (.int 4))))
  (mRet (mAndV (mOp fEq (mOpZ fIx (mVar 1) (mC (.int 0))) (mC (.str "seen"))) (mOp fIn (mOpZ fIx (mVar 1) (mC (.int 3))) (mTup (mCons (mC (.str "within")) (mCons (mC (.str "without")) mNil))))))
  mNext)
  (mSeq (mIfS (mOr (mNot (mTest (mUn (fIsi "str") (mOpZ fIx (mVar 1) (mC (.int 3)))))) (mTest (mOp fNotIn (mOpZ fIx (mVar 1) (mC (.int 3))) (mCall m_names_of (mCons (mVar 0) mNil)))))
  (mRet (mC (.bool false)))
  mNext)
  (mRet (mAndV (mOp fEq (mOpZ fIx (mVar 1) (mC (.int 0))) (mC (.str "gate"))) (mOp fIn (mOpZ fIx (mVar 1) (mC (.int 4))) (mTup (mCons (mC (.str "in")) (mCons (mC (.str "out")) mNil))))))))))
def m_is_track_page : MF := mDef0 2 0 b_is_track_page
abbrev ns_look_at_tracks : List Str := ["town", "pages", "page"]
abbrev ps_look_at_tracks : List Str := ["town", "pages"]
def c_look_at_tracks_0 : ME :=
  (mCall m_is_track_page (mCons (mVar 0) (mCons (mVar 2) mNil)))
def b_look_at_tracks : MS :=
  (mSeq (mDrop (mCall m_look_at_town (mCons (mVar 0) mNil)))
  (mIfS (mOr (mNot (mTest (mUn (fIsi "list") (mVar 1)))) (mOr (mTest (mOp fGt (mUnZ fLen (mVar 1)) (mC (.int 200)))) (mNot (mTest (mCB (f1 fAll) (mCons (mLc (jSeq (mVar 1)) (gN 2) mYes c_look_at_tracks_0 [2]) mNil))))))
  mNever
  mNext))
def m_look_at_tracks : MF := mDef0 2 1 b_look_at_tracks
abbrev ns_finds : List Str := ["page"]
abbrev ps_finds : List Str := ["page"]
def b_finds : MS :=
  (mRet (mOp fIn (mOpZ fIx (mVar 0) (mUn fNeg (mC (.int 1)))) (mTup (mCons (mC (.str "within")) (mCons (mC (.str "out")) mNil)))))
def m_finds : MF := mDef0 1 0 b_finds
abbrev ns_leaves : List Str := ["page"]
abbrev ps_leaves : List Str := ["page"]
def b_leaves : MS :=
  (mRet (mOp fIn (mOpZ fIx (mVar 0) (mUn fNeg (mC (.int 1)))) (mTup (mCons (mC (.str "within")) (mCons (mC (.str "in")) mNil)))))
def m_leaves : MF := mDef0 1 0 b_leaves
abbrev ns_gainsay : List Str := ["one", "other"]
abbrev ps_gainsay : List Str := ["one", "other"]
def b_gainsay : MS :=
  (mSeq (mIfS (mTest (mOp fNe (mSl fSl (mVar 0) mNoPart (mPart (mC (.int 3)))) (mSl fSl (mVar 1) mNoPart (mPart (mC (.int 3))))))
  (mRet (mC (.bool false)))
  mNext)
  (mRet (mOrV (mOp fEq (mOpZ fIx (mVar 0) (mC (.int 0))) (mC (.str "gate"))) (mOp fNe (mOpZ fIx (mVar 0) (mC (.int 3))) (mOpZ fIx (mVar 1) (mC (.int 3)))))))
def m_gainsay : MF := mDef0 2 0 b_gainsay
abbrev ns_lie_of_tracks : List Str := ["pages", "place", "one", "behind"]
abbrev ps_lie_of_tracks : List Str := ["pages"]
def l_lie_of_tracks_0 : MS :=
  (mIfS (mTest (mCall m_gainsay (mCons (mVar 2) (mCons (mOpZ fIx (mVar 0) (mVar 3)) mNil))))
  (mRet (mTup (mCons (mVar 1) (mCons (mVar 3) mNil))))
  mNext)
def l_lie_of_tracks_1 : MS :=
  (mFor (jArgs rng2 (mCons (mOp fAdd (mVar 1) (mC (.int 1))) (mCons (mUnZ fLen (mVar 0)) mNil))) (gN 3) [3]
  l_lie_of_tracks_0)
def b_lie_of_tracks : MS :=
  (mSeq (mFor (jArgs enum1 (mCons (mVar 0) mNil)) (gT ((gN 1) :: ((gN 2) :: []))) [1, 2, 3]
  l_lie_of_tracks_1)
  (mRet (mC .none)))
def m_lie_of_tracks : MF := mDef0 1 3 b_lie_of_tracks
abbrev ns_look_at_ways : List Str := ["town", "pages", "lie"]
abbrev ps_look_at_ways : List Str := ["town", "pages"]
def b_look_at_ways : MS :=
  (mSeq (mDrop (mCall m_look_at_tracks (mCons (mVar 0) (mCons (mVar 1) mNil))))
  (mSeq (mAsg (mCall m_lie_of_tracks (mCons (mVar 1) mNil)) (gN 2))
  (mIfS (mTest (mOp fNotN (mVar 2) (mC .none)))
  mNever
  mNext)))
def m_look_at_ways : MF := mDef0 2 1 b_look_at_ways
abbrev ns_track_of : List Str := ["pages", "who", "some", "found", "hour", "kind", "place", "page"]
abbrev ps_track_of : List Str := ["pages", "who"]
def d_track_of_0 : MT :=
  (mTest (mOp fEq (mOpZ fIx (mVar 7) (mC (.int 1))) (mVar 1)))
def c_track_of_0 : ME :=
  (mTup (mCons (mOpZ fIx (mVar 7) (mC (.int 2))) (mCons (mCB (f1 fInt) (mCons (mOp fEq (mOpZ fIx (mVar 7) (mC (.int 0))) (mC (.str "gate"))) mNil)) (mCons (mVar 6) mNil))))
def l_track_of_0 : MS :=
  (mIfS (mOr (mTest (mOp fEq (mVar 3) (mLst mNil))) (mTest (mOp fNe (mOpZ fIx (mVar 0) (mOpZ fIx (mVar 3) (mUn fNeg (mC (.int 1))))) (mOpZ fIx (mVar 0) (mVar 6)))))
  (mDrop (mMeth wAppend 3 (mCons (mVar 6) mNil)))
  mNext)
def b_track_of : MS :=
  (mSeq (mAsg (mLc (jArgs enum1 (mCons (mVar 0) mNil)) (gT ((gN 6) :: ((gN 7) :: []))) d_track_of_0 c_track_of_0 [6, 7]) (gN 2))
  (mSeq (mAsgO (oLst mNil) 3)
  (mSeq (mFor (jSeq (mCB (f1 fSort3) (mCons (mVar 2) mNil))) (gT ((gN 4) :: ((gN 5) :: ((gN 6) :: [])))) [4, 5, 6]
  l_track_of_0)
  (mRet (mVar 3)))))
def m_track_of : MF := mDef0 2 6 b_track_of
abbrev ns_shut_hours : List Str := ["town", "low", "high", "first", "last", "hour"]
abbrev ps_shut_hours : List Str := ["town", "low", "high"]
def d_shut_hours_0 : MT :=
  (mTest (mOp fNe (mCall m_shut_at (mCons (mVar 0) (mCons (mVar 5) mNil))) (mLst mNil)))
def c_shut_hours_0 : ME :=
  (mVar 5)
def d_shut_hours_1 : MT :=
  (mTest (mOp fNe (mCall m_shut_at (mCons (mVar 0) (mCons (mVar 5) mNil))) (mLst mNil)))
def c_shut_hours_1 : ME :=
  (mVar 5)
def b_shut_hours : MS :=
  (mSeq (mAsg (mLc (jArgs rng2 (mCons (mVar 1) (mCons (mOp fAdd (mCB (f2 fMin2) (mCons (mVar 2) (mCons (mOp fSub (mOp fAdd (mVar 1) (mC (.int 24))) (mC (.int 1))) mNil))) (mC (.int 1))) mNil))) (gN 5) d_shut_hours_0 c_shut_hours_0 [5]) (gN 3))
  (mSeq (mIfS (mTest (mOp fEq (mVar 3) (mLst mNil)))
  (mRet (mTup (mCons (mC .none) (mCons (mC .none) mNil))))
  mNext)
  (mSeq (mAsg (mLc (jArgs rng2 (mCons (mCB (f2 fMax2) (mCons (mVar 1) (mCons (mOp fAdd (mOp fSub (mVar 2) (mC (.int 24))) (mC (.int 1))) mNil))) (mCons (mOp fAdd (mVar 2) (mC (.int 1))) mNil))) (gN 5) d_shut_hours_1 c_shut_hours_1 [5]) (gN 4))
  (mRet (mTup (mCons (mOpZ fIx (mVar 3) (mC (.int 0))) (mCons (mOpZ fIx (mVar 4) (mUn fNeg (mC (.int 1)))) mNil)))))))
def m_shut_hours : MF := mDef0 3 3 b_shut_hours
abbrev ns_gap_between : List Str := ["town", "pages", "one", "other", "high"]
abbrev ps_gap_between : List Str := ["town", "pages", "one", "other"]
def b_gap_between : MS :=
  (mSeq (mAsg (mOp fSub (mOpZ fIx (mOpZ fIx (mVar 1) (mVar 3)) (mC (.int 2))) (mCB (f1 fInt) (mCons (mOp fEq (mOpZ fIx (mOpZ fIx (mVar 1) (mVar 3)) (mC (.int 0))) (mC (.str "seen"))) mNil))) (gN 4))
  (mRet (mCall m_shut_hours (mCons (mVar 0) (mCons (mOpZ fIx (mOpZ fIx (mVar 1) (mVar 2)) (mC (.int 2))) (mCons (mVar 4) mNil))))))
def m_gap_between : MF := mDef0 4 1 b_gap_between
abbrev ns_gaps_in : List Str := ["town", "pages", "found", "who", "row", "one", "other", "page"]
abbrev ps_gaps_in : List Str := ["town", "pages"]
def c_gaps_in_0 : ME :=
  (mOpZ fIx (mVar 7) (mC (.int 1)))
def l_gaps_in_0 : MS :=
  (mIfS (mTest (mOp fNe (mCall m_leaves (mCons (mOpZ fIx (mVar 1) (mVar 5)) mNil)) (mCall m_finds (mCons (mOpZ fIx (mVar 1) (mVar 6)) mNil))))
  (mDrop (mMeth wAppend 2 (mCons (mOp fAdd (mTup (mCons (mVar 3) (mCons (mVar 5) (mCons (mVar 6) mNil)))) (mCall m_gap_between (mCons (mVar 0) (mCons (mVar 1) (mCons (mVar 5) (mCons (mVar 6) mNil)))))) mNil)))
  mNext)
def l_gaps_in_1 : MS :=
  (mSeq (mAsg (mCall m_track_of (mCons (mVar 1) (mCons (mVar 3) mNil))) (gN 4))
  (mFor (jArgs zip2 (mCons (mVar 4) (mCons (mSl fSl (mVar 4) (mPart (mC (.int 1))) mNoPart) mNil))) (gT ((gN 5) :: ((gN 6) :: []))) [5, 6]
  l_gaps_in_0))
def b_gaps_in : MS :=
  (mSeq (mAsgO (oLst mNil) 2)
  (mSeq (mFor (jSeq (mUn fSortSetS (mLc (jSeq (mVar 1)) (gN 7) mYes c_gaps_in_0 [7]))) (gN 3) [3, 4, 5, 6]
  l_gaps_in_1)
  (mRet (mVar 2))))
def m_gaps_in : MF := mDef0 2 6 b_gaps_in
abbrev ns_gaps : List Str := ["town", "pages"]
abbrev ps_gaps : List Str := ["town", "pages"]
def b_gaps : MS :=
  (mSeq (mDrop (mCall m_look_at_ways (mCons (mVar 0) (mCons (mVar 1) mNil))))
  (mRetO (oCall m_gaps_in (mCons (mVar 0) (mCons (mVar 1) mNil)))))
def m_gaps : MF := mDef0 2 0 b_gaps
abbrev ns__law_well : List Str := ["cell", "turn"]
abbrev ps__law_well : List Str := ["cell", "turn"]
def b__law_well : MS :=
  (mSeq (mIfS (mTest (mOp fGe (mVar 0) (mOp fPow (mC (.int 10)) (mC (.int 18)))))
  (mRetO (oLst (mCons (mOp fSub (mVar 0) (mOp fPow (mC (.int 10)) (mC (.int 18)))) (mCons (mOp fMod (mVar 0) (mC (.int 2305843009213693951))) (mCons (mVar 1) mNil)))))
  mNext)
  (mRetO (oLst (mCons (mC (.int 0)) (mCons (mOp fMod (mVar 0) (mC (.int 2305843009213693951))) (mCons (mVar 1) mNil))))))
def m__law_well : MF := mDef0 2 0 b__law_well
abbrev ns__law_take : List Str := ["bag", "many", "found", "p", "n"]
abbrev ps__law_take : List Str := ["bag", "many"]
def b__law_take : MS :=
  (mSeq (mIfS (mTest (mOp fGt (mOpZ fIx (mVar 0) (mC (.int 0))) (mC (.int 0))))
  (mSeq (mAsg (mOp fMod (mOpZ fIx (mVar 0) (mC (.int 0))) (mVar 1)) (gN 2))
  (mSeq (mSetI 0 (mC (.int 0)) (mOp fDiv (mOpZ fIx (mVar 0) (mC (.int 0))) (mVar 1)))
  (mRet (mVar 2))))
  mNext)
  (mSeq (mSetI 0 (mC (.int 2)) (mOp fAdd (mOpZ fIx (mVar 0) (mC (.int 2))) (mC (.int 1))))
  (mSeq (mAsg (mC (.int 2305843009213693951)) (gN 3))
  (mSeq (mAsg (mOp fMod (mOp fAdd (mOpZ fIx (mVar 0) (mC (.int 1))) (mOp fMul (mC (.int 1000003)) (mOpZ fIx (mVar 0) (mC (.int 2))))) (mVar 3)) (gN 4))
  (mSeq (mAsg (mOp fMod (mOp fAdd (mOp fAdd (mOp fMul (mVar 4) (mVar 4)) (mOp fMul (mC (.int 7919)) (mOp fPow (mOpZ fIx (mVar 0) (mC (.int 2))) (mC (.int 2))))) (mC (.int 5))) (mVar 3)) (gN 4))
  (mRet (mOp fMod (mOp fDiv (mOp fMod (mOp fPow (mVar 4) (mC (.int 3))) (mVar 3)) (mC (.int 13))) (mVar 1))))))))
def m__law_take : MF := mDef0 2 3 b__law_take
abbrev ns__law_shuffled : List Str := ["bag", "some", "left", "found"]
abbrev ps__law_shuffled : List Str := ["bag", "some"]
def w__law_shuffled_0 : MT :=
  (mTest (mOp fNe (mVar 2) (mLst mNil)))
def l__law_shuffled_0 : MS :=
  (mDrop (mMeth wAppend 3 (mCons (mMeth wPopAt 2 (mCons (mCall m__law_take (mCons (mVar 0) (mCons (mUnZ fLen (mVar 2)) mNil))) mNil)) mNil)))
def b__law_shuffled : MS :=
  (mSeq (mAsgO (oList (mVar 1)) 2)
  (mSeq (mAsgO (oLst mNil) 3)
  (mSeq (mWhile 1000 w__law_shuffled_0 []
  l__law_shuffled_0)
  (mRet (mVar 3)))))
def m__law_shuffled : MF := mDef0 2 2 b__law_shuffled
abbrev ns__law_name : List Str := ["bag", "way", "letters", "many", "k"]
abbrev ps__law_name : List Str := ["bag"]
def c__law_name_0 : ME :=
  (mOpZ fIx (mVar 2) (mCall m__law_take (mCons (mVar 0) (mCons (mC (.int 26)) mNil))))
def b__law_name : MS :=
  (mSeq (mAsg (mCall m__law_take (mCons (mVar 0) (mCons (mC (.int 9)) mNil))) (gN 1))
  (mSeq (mIfS (mTest (mOp fLt (mVar 1) (mC (.int 7))))
  (mRet (mOpZ fIx (mLst (mCons (mC (.str "ann")) (mCons (mC (.str "bo")) (mCons (mC (.str "cy")) (mCons (mC (.str "dan")) (mCons (mC (.str "eve")) (mCons (mC (.str "flo")) (mCons (mC (.str "gus")) mNil)))))))) (mVar 1)))
  mNext)
  (mSeq (mAsg (mC (.str "abcdefghijklmnopqrstuvwxyz")) (gN 2))
  (mSeq (mAsg (mOpZ fIx (mLst (mCons (mC (.int 1)) (mCons (mC (.int 2)) (mCons (mC (.int 8)) mNil)))) (mCall m__law_take (mCons (mVar 0) (mCons (mC (.int 3)) mNil)))) (gN 3))
  (mRet (mM1 fJoin (mC (.str "")) (mLc (jArgs rng1 (mCons (mVar 3) mNil)) (gN 4) mYes c__law_name_0 [4])))))))
def m__law_name : MF := mDef0 1 4 b__law_name
abbrev ns__law_rising : List Str := ["bag", "most", "found", "k"]
abbrev ps__law_rising : List Str := ["bag", "most"]
def l__law_rising_0 : MS :=
  (mDPut 2 (mCall m__law_name (mCons (mVar 0) mNil)) (mC (.bool true)))
def b__law_rising : MS :=
  (mSeq (mAsgO oDct0 2)
  (mSeq (mFor (jArgs rng1 (mCons (mOp fAdd (mC (.int 1)) (mCall m__law_take (mCons (mVar 0) (mCons (mVar 1) mNil)))) mNil)) (gN 3) [3]
  l__law_rising_0)
  (mRet (mSortD 2))))
def m__law_rising : MF := mDef0 2 2 b__law_rising
abbrev ns__law_town : List Str := ["bag", "most", "found", "name", "opens", "wide"]
abbrev ps__law_town : List Str := ["bag", "most"]
def l__law_town_0 : MS :=
  (mSeq (mAsg (mCall m__law_take (mCons (mVar 0) (mCons (mC (.int 24)) mNil))) (gN 4))
  (mSeq (mAsg (mOpZ fIx (mLst (mCons (mCall m__law_take (mCons (mVar 0) (mCons (mC (.int 24)) mNil))) (mCons (mC (.int 0)) (mCons (mC (.int 1)) (mCons (mC (.int 23)) mNil))))) (mOp fDiv (mOp fMul (mOp fDiv (mOp fMul (mCall m__law_take (mCons (mVar 0) (mCons (mC (.int 8)) mNil))) (mC (.int 5))) (mC (.int 8))) (mC (.int 3))) (mC (.int 4)))) (gN 5))
  (mDrop (mMeth wAppend 2 (mCons (mTup (mCons (mVar 3) (mCons (mVar 4) (mCons (mOp fMod (mOp fAdd (mVar 4) (mVar 5)) (mC (.int 24))) (mCons (mOp fEq (mCall m__law_take (mCons (mVar 0) (mCons (mC (.int 2)) mNil))) (mC (.int 1))) mNil))))) mNil)))))
def b__law_town : MS :=
  (mSeq (mAsgO (oLst mNil) 2)
  (mSeq (mFor (jSeq (mCall m__law_rising (mCons (mVar 0) (mCons (mVar 1) mNil)))) (gN 3) [3, 4, 5]
  l__law_town_0)
  (mRet (mCB (f1 fTuple) (mCons (mVar 2) mNil)))))
def m__law_town : MF := mDef0 2 4 b__law_town
abbrev ns__law_clocks : List Str := ["gate", "found", "turn", "clock"]
abbrev ps__law_clocks : List Str := ["gate"]
def l__law_clocks_0 : MS :=
  (mSeq (mAsg (mOp fMod (mOp fAdd (mOp fAdd (mOpZ fIx (mVar 0) (mC (.int 1))) (mVar 2)) (mC (.int 1))) (mC (.int 24))) (gN 3))
  (mSeq (mIfS (mTest (mOp fEq (mVar 3) (mOpZ fIx (mVar 0) (mC (.int 2)))))
  (mRet (mVar 1))
  mNext)
  (mDrop (mMeth wAppend 1 (mCons (mVar 3) mNil)))))
def b__law_clocks : MS :=
  (mSeq (mAsgO (oLst (mCons (mOpZ fIx (mVar 0) (mC (.int 1))) mNil)) 1)
  (mSeq (mFor (jArgs rng1 (mCons (mC (.int 23)) mNil)) (gN 2) [2, 3]
  l__law_clocks_0)
  (mRet (mVar 1))))
def m__law_clocks : MF := mDef0 1 3 b__law_clocks
abbrev ns__law_is_open : List Str := ["gate", "hour"]
abbrev ps__law_is_open : List Str := ["gate", "hour"]
def b__law_is_open : MS :=
  (mRet (mOp fIn (mOp fMod (mVar 1) (mC (.int 24))) (mCall m__law_clocks (mCons (mVar 0) mNil))))
def m__law_is_open : MF := mDef0 2 0 b__law_is_open
abbrev ns__law_far : List Str := ["bag", "near"]
abbrev ps__law_far : List Str := ["bag"]
def b__law_far : MS :=
  (mSeq (mAsg (mCall m__law_take (mCons (mVar 0) (mCons (mC (.int 200)) mNil))) (gN 1))
  (mRet (mOpZ fIx (mLst (mCons (mVar 1) (mCons (mOp fSub (mOp fPow (mC (.int 10)) (mC (.int 12))) (mVar 1)) (mCons (mCall m__law_take (mCons (mVar 0) (mCons (mOp fAdd (mOp fPow (mC (.int 10)) (mC (.int 12))) (mC (.int 1))) mNil))) mNil)))) (mCall m__law_take (mCons (mVar 0) (mCons (mC (.int 3)) mNil))))))
def m__law_far : MF := mDef0 1 1 b__law_far
abbrev ns__law_track_page : List Str := ["bag", "town", "hour", "who"]
abbrev ps__law_track_page : List Str := ["bag", "town"]
def b__law_track_page : MS :=
  (mSeq (mAsg (mOpZ fIx (mLst (mCons (mCall m__law_take (mCons (mVar 0) (mCons (mC (.int 40)) mNil))) (mCons (mCall m__law_far (mCons (mVar 0) mNil)) mNil))) (mOp fDiv (mCall m__law_take (mCons (mVar 0) (mCons (mC (.int 9)) mNil))) (mC (.int 8)))) (gN 2))
  (mSeq (mAsg (mOpZ fIx (mLst (mCons (mC (.str "ann")) (mCons (mC (.str "bo")) (mCons (mC (.str "cy")) mNil)))) (mCall m__law_take (mCons (mVar 0) (mCons (mC (.int 3)) mNil)))) (gN 3))
  (mSeq (mIfS (mTest (mOp fEq (mCall m__law_take (mCons (mVar 0) (mCons (mC (.int 2)) mNil))) (mC (.int 0))))
  (mRet (mTup (mCons (mC (.str "seen")) (mCons (mVar 3) (mCons (mVar 2) (mCons (mOpZ fIx (mLst (mCons (mC (.str "within")) (mCons (mC (.str "without")) mNil))) (mCall m__law_take (mCons (mVar 0) (mCons (mC (.int 2)) mNil)))) mNil))))))
  mNext)
  (mRet (mTup (mCons (mC (.str "gate")) (mCons (mVar 3) (mCons (mVar 2) (mCons (mOpZ fIx (mOpZ fIx (mVar 1) (mCall m__law_take (mCons (mVar 0) (mCons (mUnZ fLen (mVar 1)) mNil)))) (mC (.int 0))) (mCons (mOpZ fIx (mLst (mCons (mC (.str "in")) (mCons (mC (.str "out")) mNil))) (mCall m__law_take (mCons (mVar 0) (mCons (mC (.int 2)) mNil)))) mNil))))))))))
def m__law_track_page : MF := mDef0 2 2 b__law_track_page
abbrev ns__law_tracks_lie : List Str := ["pages", "found", "k", "j", "one", "other"]
abbrev ps__law_tracks_lie : List Str := ["pages"]
def l__law_tracks_lie_0 : MS :=
  (mSeq (mPar 4 5 (mCons (mOpZ fIx (mVar 0) (mVar 3)) (mCons (mOpZ fIx (mVar 0) (mVar 2)) mNil)))
  (mIfS (mAnd (mTest (mOp fEq (mSl fSl (mVar 4) mNoPart (mPart (mC (.int 3)))) (mSl fSl (mVar 5) mNoPart (mPart (mC (.int 3)))))) (mOr (mTest (mOp fEq (mOpZ fIx (mVar 4) (mC (.int 0))) (mC (.str "gate")))) (mTest (mOp fNe (mVar 4) (mVar 5)))))
  (mDrop (mMeth wAppend 1 (mCons (mTup (mCons (mVar 3) (mCons (mVar 2) mNil))) mNil)))
  mNext))
def l__law_tracks_lie_1 : MS :=
  (mFor (jArgs rng1 (mCons (mVar 2) mNil)) (gN 3) [3, 4, 5]
  l__law_tracks_lie_0)
def b__law_tracks_lie : MS :=
  (mSeq (mAsgO (oLst mNil) 1)
  (mSeq (mFor (jArgs rng1 (mCons (mUnZ fLen (mVar 0)) mNil)) (gN 2) [2, 3, 4, 5]
  l__law_tracks_lie_1)
  (mRet (mCKw (noL fMinD) (mCons (mVar 1) mNil) (mCons (mC .none) mNil)))))
def m__law_tracks_lie : MF := mDef0 1 5 b__law_tracks_lie
abbrev ns__law_tracks : List Str := ["bag", "town", "many", "found", "k", "page"]
abbrev ps__law_tracks : List Str := ["bag", "town", "many"]
def l__law_tracks_0 : MS :=
  (mSeq (mAsg (mCall m__law_track_page (mCons (mVar 0) (mCons (mVar 1) mNil))) (gN 5))
  (mIfS (mTest (mOp fIsN (mCall m__law_tracks_lie (mCons (mOp fAdd (mVar 3) (mLst (mCons (mVar 5) mNil))) mNil)) (mC .none)))
  (mDrop (mMeth wAppend 3 (mCons (mVar 5) mNil)))
  mNext))
def b__law_tracks : MS :=
  (mSeq (mAsgO (oLst mNil) 3)
  (mSeq (mFor (jArgs rng1 (mCons (mCall m__law_take (mCons (mVar 0) (mCons (mOp fAdd (mVar 2) (mC (.int 1))) mNil))) mNil)) (gN 4) [4, 5]
  l__law_tracks_0)
  (mRet (mVar 3))))
def m__law_tracks : MF := mDef0 3 3 b__law_tracks
abbrev ns__law_track : List Str := ["pages", "who", "rows", "k", "page", "row"]
abbrev ps__law_track : List Str := ["pages", "who"]
def d__law_track_0 : MT :=
  (mTest (mOp fEq (mOpZ fIx (mVar 4) (mC (.int 1))) (mVar 1)))
def c__law_track_0 : ME :=
  (mTup (mCons (mOpZ fIx (mVar 4) (mC (.int 2))) (mCons (mOp fEq (mOpZ fIx (mVar 4) (mC (.int 0))) (mC (.str "gate"))) (mCons (mVar 3) mNil))))
def d__law_track_1 : MT :=
  (mTest (mOp fEq (mOpZ fIx (mVar 0) (mVar 3)) (mOpZ fIx (mVar 0) (mOpZ fIx (mVar 5) (mC (.int 2))))))
def c__law_track_1 : ME :=
  (mVar 3)
def d__law_track_2 : MT :=
  (mTest (mOp fEq (mLc (jArgs rng1 (mCons (mOpZ fIx (mVar 5) (mC (.int 2))) mNil)) (gN 3) d__law_track_1 c__law_track_1 [3]) (mLst mNil)))
def c__law_track_2 : ME :=
  (mOpZ fIx (mVar 5) (mC (.int 2)))
def b__law_track : MS :=
  (mSeq (mAsg (mCB (f1 fSort3) (mCons (mLc (jArgs enum1 (mCons (mVar 0) mNil)) (gT ((gN 3) :: ((gN 4) :: []))) d__law_track_0 c__law_track_0 [3, 4]) mNil)) (gN 2))
  (mRet (mLc (jSeq (mVar 2)) (gN 5) d__law_track_2 c__law_track_2 [5])))
def m__law_track : MF := mDef0 2 4 b__law_track
abbrev ns__law_found_in : List Str := ["page"]
abbrev ps__law_found_in : List Str := ["page"]
def b__law_found_in : MS :=
  (mRet (mOrV (mOp fEq (mOpZ fIx (mVar 0) (mUn fNeg (mC (.int 1)))) (mC (.str "within"))) (mOp fEq (mOpZ fIx (mVar 0) (mUn fNeg (mC (.int 1)))) (mC (.str "out")))))
def m__law_found_in : MF := mDef0 1 0 b__law_found_in
abbrev ns__law_left_in : List Str := ["page"]
abbrev ps__law_left_in : List Str := ["page"]
def b__law_left_in : MS :=
  (mRet (mOrV (mOp fEq (mOpZ fIx (mVar 0) (mUn fNeg (mC (.int 1)))) (mC (.str "within"))) (mOp fEq (mOpZ fIx (mVar 0) (mUn fNeg (mC (.int 1)))) (mC (.str "in")))))
def m__law_left_in : MF := mDef0 1 0 b__law_left_in
abbrev ns__law_shut : List Str := ["town", "hour", "gate"]
abbrev ps__law_shut : List Str := ["town", "hour"]
def d__law_shut_0 : MT :=
  (mNot (mTest (mCall m__law_is_open (mCons (mVar 2) (mCons (mVar 1) mNil)))))
def c__law_shut_0 : ME :=
  (mOpZ fIx (mVar 2) (mC (.int 0)))
def b__law_shut : MS :=
  (mRet (mLc (jSeq (mVar 0)) (gN 2) d__law_shut_0 c__law_shut_0 [2]))
def m__law_shut : MF := mDef0 2 1 b__law_shut
abbrev ns__law_edges : List Str := ["town", "low", "high", "first", "last"]
abbrev ps__law_edges : List Str := ["town", "low", "high"]
def w__law_edges_0 : MT :=
  (mAnd (mTest (mOp fLe (mVar 3) (mVar 2))) (mAnd (mTest (mOp fLt (mVar 3) (mOp fAdd (mVar 1) (mC (.int 24))))) (mTest (mOp fEq (mCall m__law_shut (mCons (mVar 0) (mCons (mVar 3) mNil))) (mLst mNil)))))
def l__law_edges_0 : MS :=
  (mAsg (mOp fAdd (mVar 3) (mC (.int 1))) (gN 3))
def w__law_edges_1 : MT :=
  (mAnd (mTest (mOp fGe (mVar 4) (mVar 1))) (mAnd (mTest (mOp fGt (mVar 4) (mOp fSub (mVar 2) (mC (.int 24))))) (mTest (mOp fEq (mCall m__law_shut (mCons (mVar 0) (mCons (mVar 4) mNil))) (mLst mNil)))))
def l__law_edges_1 : MS :=
  (mAsg (mOp fSub (mVar 4) (mC (.int 1))) (gN 4))
def b__law_edges : MS :=
  (mSeq (mPar 3 4 (mCons (mVar 1) (mCons (mVar 2) mNil)))
  (mSeq (mWhile 1000 w__law_edges_0 []
  l__law_edges_0)
  (mSeq (mWhile 1000 w__law_edges_1 []
  l__law_edges_1)
  (mSeq (mIfS (mOr (mTest (mOp fGt (mVar 3) (mVar 2))) (mTest (mOp fEq (mCall m__law_shut (mCons (mVar 0) (mCons (mVar 3) mNil))) (mLst mNil))))
  (mRet (mTup (mCons (mC .none) (mCons (mC .none) mNil))))
  mNext)
  (mRet (mTup (mCons (mVar 3) (mCons (mVar 4) mNil))))))))
def m__law_edges : MF := mDef0 3 2 b__law_edges
abbrev ns__law_gaps : List Str := ["town", "pages", "found", "who", "row", "one", "other", "high", "page"]
abbrev ps__law_gaps : List Str := ["town", "pages"]
def c__law_gaps_0 : ME :=
  (mOpZ fIx (mVar 8) (mC (.int 1)))
def l__law_gaps_0 : MS :=
  (mIfS (mTest (mOp fNe (mCall m__law_left_in (mCons (mOpZ fIx (mVar 1) (mVar 5)) mNil)) (mCall m__law_found_in (mCons (mOpZ fIx (mVar 1) (mVar 6)) mNil))))
  (mSeq (mAsg (mOp fSub (mOpZ fIx (mOpZ fIx (mVar 1) (mVar 6)) (mC (.int 2))) (mCB (f1 fInt) (mCons (mOp fEq (mOpZ fIx (mOpZ fIx (mVar 1) (mVar 6)) (mC (.int 0))) (mC (.str "seen"))) mNil))) (gN 7))
  (mDrop (mMeth wAppend 2 (mCons (mOp fAdd (mTup (mCons (mVar 3) (mCons (mVar 5) (mCons (mVar 6) mNil)))) (mCall m__law_edges (mCons (mVar 0) (mCons (mOpZ fIx (mOpZ fIx (mVar 1) (mVar 5)) (mC (.int 2))) (mCons (mVar 7) mNil))))) mNil))))
  mNext)
def l__law_gaps_1 : MS :=
  (mSeq (mAsg (mCall m__law_track (mCons (mVar 1) (mCons (mVar 3) mNil))) (gN 4))
  (mFor (jArgs zip2 (mCons (mVar 4) (mCons (mSl fSl (mVar 4) (mPart (mC (.int 1))) mNoPart) mNil))) (gT ((gN 5) :: ((gN 6) :: []))) [5, 6, 7]
  l__law_gaps_0))
def b__law_gaps : MS :=
  (mSeq (mAsgO (oLst mNil) 2)
  (mSeq (mFor (jSeq (mUn fSortSetS (mLc (jSeq (mVar 1)) (gN 8) mYes c__law_gaps_0 [8]))) (gN 3) [3, 4, 5, 6, 7]
  l__law_gaps_1)
  (mRet (mVar 2))))
def m__law_gaps : MF := mDef0 2 7 b__law_gaps
abbrev ns__law_places : List Str := ["rows", "pages", "row"]
abbrev ps__law_places : List Str := ["rows", "pages"]
def c__law_places_0 : ME :=
  (mOp fAdd (mTup (mCons (mOpZ fIx (mVar 2) (mC (.int 0))) (mCons (mOpZ fIx (mVar 1) (mOpZ fIx (mVar 2) (mC (.int 1)))) (mCons (mOpZ fIx (mVar 1) (mOpZ fIx (mVar 2) (mC (.int 2)))) mNil)))) (mSl fSl (mVar 2) (mPart (mC (.int 3))) mNoPart))
def b__law_places : MS :=
  (mRet (mLc (jSeq (mVar 0)) (gN 2) mYes c__law_places_0 [2]))
def m__law_places : MF := mDef0 2 1 b__law_places
abbrev ns_law : List Str := ["script", "cell", "bag", "town", "pages", "handed", "due", "found", "other", "told", "gate"]
abbrev ps_law : List Str := ["script"]
def c_law_0 : ME :=
  (mTup (mCons (mOpZ fIx (mVar 10) (mC (.int 0))) (mCons (mOpZ fIx (mVar 10) (mC (.int 1))) (mCons (mOpZ fIx (mVar 10) (mC (.int 1))) (mCons (mOpZ fIx (mVar 10) (mC (.int 3))) mNil)))))
def l_law_0 : MS :=
  (mSeq (mAsgO (oCall m__law_well (mCons (mVar 1) (mCons (mC (.int 0)) mNil))) 2)
  (mSeq (mAsg (mCall m__law_town (mCons (mVar 2) (mCons (mC (.int 3)) mNil))) (gN 3))
  (mSeq (mIfS (mTest (mOp fEq (mCall m__law_take (mCons (mVar 2) (mCons (mC (.int 3)) mNil))) (mC (.int 0))))
  (mAsg (mCB (f1 fTuple) (mCons (mLc (jSeq (mVar 3)) (gN 10) mYes c_law_0 [10]) mNil)) (gN 3))
  mNext)
  (mSeq (mAsg (mCall m__law_tracks (mCons (mVar 2) (mCons (mVar 3) (mCons (mC (.int 14)) mNil)))) (gN 4))
  (mSeq (mAsg (mCB (f1 fList) (mCons (mVar 4) mNil)) (gN 5))
  (mSeq (mAsg (mCall m__law_gaps (mCons (mVar 3) (mCons (mVar 4) mNil))) (gN 6))
  (mSeq (mAsgO (oCall m_gaps (mCons (mVar 3) (mCons (mVar 5) mNil))) 7)
  (mSeq (mIfS (mOr (mNot (mTest (mUn (fIsi "list") (mVar 7)))) (mOr (mTest (mOp fNe (mVar 7) (mVar 6))) (mTest (mOp fNe (mVar 5) (mVar 4)))))
  (mRet (mC (.bool false)))
  mNext)
  (mSeq (mDrop (mMeth wAppend 7 (mCons (mC .none) mNil)))
  (mSeq (mAsg (mCall m__law_shuffled (mCons (mVar 2) (mCons (mVar 4) mNil))) (gN 8))
  (mSeq (mAsg (mCall m_gaps (mCons (mVar 3) (mCons (mVar 8) mNil))) (gN 9))
  (mSeq (mIfS (mOr (mTest (mOp fNe (mVar 9) (mCall m__law_gaps (mCons (mVar 3) (mCons (mVar 8) mNil))))) (mTest (mOp fNe (mCall m_gaps (mCons (mVar 3) (mCons (mVar 4) mNil))) (mVar 6))))
  (mRet (mC (.bool false)))
  mNext)
  (mIfS (mTest (mOp fNe (mCall m__law_places (mCons (mVar 9) (mCons (mVar 8) mNil))) (mCall m__law_places (mCons (mVar 6) (mCons (mVar 4) mNil)))))
  (mRet (mC (.bool false)))
  mNext)))))))))))))
def b_law : MS :=
  (mSeq (mFor (jSeq (mOp fAdd (mSl fSl (mVar 0) mNoPart (mPart (mC (.int 14)))) (mLst (mCons (mC (.int 0)) mNil)))) (gN 1) [1, 2, 3, 4, 5, 6, 7, 8, 9]
  l_law_0)
  (mRet (mC (.bool true))))
def m_law : MF := mDef0 1 10 b_law
local macro_rules | `(tactic| walk_at "fx") => `(tactic| simp only [Rs.bind_ok, Rs.bind_er, Rs.bind_no, viewP, viewZP, atE_zero, atE_succ, view, viewZ, views, datas, plain, retD_some, retD_none, retX_some, retX_none, mC_eq, mVar_eq, mOp_eq, mOpZ_eq, mUn_eq, toB, mTest_eq, mYes_eq, mAnd_eq, mOr_eq, mNot_eq, mAndV_eq, mOrV_eq, mNotV_eq, mIf_eq, mChain_eq, mNil_eq, mCons_eq, small, mTup_eq, oLst_eq, freeze, mFz_eq, mLst, mCB_eq, mSl_eq, mNoPart_eq, toI, mPart_eq, lend, argOf, argsOf, lentX, putW, giveBack, lentB, lent, mCall_eq, oCall_eq, itemsD, jSeq_eq, grd_true, rng1, rng2, zip2, enum1, jArgs_eq, gN, gL, gT, wipeE, oLc_eq, mLc, mNext_eq, seqK_nx, seqK_rt, seqK_rw, seqK_bk, seqK_ct, seqK_er, seqK_no, mSeq_eq, mNever, mBreak_eq, mCont_eq, mAsg_eq, mAsgO_eq, oDct0_eq, mDrop_eq, mRet_eq, mRetO_eq, mRetN_eq, mIfS_eq, mRaise_eq, mFrz_eq, turnK_rw, turnK_nx, turnK_ct, turnK_bk, turnK_rt, turnK_er, mFor_eq, mWhile, lstAt, dctAt, putAt, setI, mSetI_eq, finals, endQ_nx, endQ_d, endQ_s, endQ_w, endQ_er, endQ_bk, endQ_no, mDef_eq, quiet_ok, quiet_fr, quiet_er, quiet_no, mDef0_eq, fAdd, fSub, fMul, fDiv, fMod, fPow, fCmpI, fLe, fGt, fGe, fLt, eqD, fEq, fNe, flatD, eqF, fInB, fIn, fNotIn, fIsN, fNotN, fIx, fSl, fNeg, fLen, f1, f2, fAll, fAny, fSum, fTuple, fList, fInt, fMax2, fMin2, fDivmod, fIsi, mUnZ_eq, mMeth_eq, wAppend, wPopAt, wInsert, wExtend, fJoin, mM1_eq, mBM_eq, fIndex, keyOf, mDPut_eq, mDGet_eq, mDGet2_eq, mDIn_eq, fSort, fSortSetS, fSortSetI, fSort3, mSortD_eq, oList_eq, fMinD, fMaxD, mCKw_eq, noL, mPar_eq, Option.bind_some, Option.bind_none, Option.map_some, Option.map_none, List.map_cons, List.map_nil, List.cons_append, List.nil_append, List.replicate_succ, List.replicate_zero, List.length_cons, List.length_nil, List.set_cons_zero, List.set_cons_succ, List.nodup_cons, List.nodup_nil, List.not_mem_nil, List.mem_cons, or_false, false_or, not_false_eq_true, and_true, true_and, and_self, if_true, if_false, ite_true, ite_false, reduceIte, reduceCtorEq, Bool.not_true, Bool.not_false, Bool.true_and, Bool.and_true, Bool.false_and, Bool.and_false, Bool.or_true, Bool.true_or, Bool.false_or, Bool.or_false, decide_true, decide_false, Nat.reduceAdd, Nat.reduceLeDiff, Nat.reduceEqDiff, Nat.reduceLT, Nat.reduceBEq, Int.reduceNeg, beq_self_eq_true, Bool.false_eq_true, Int.reduceLE, Int.reduceLT, Int.reduceToNat, List.getElem?_cons_zero, List.getElem?_cons_succ, *])
theorem atI0 {α : Type} (xs : List α) (n : Nat) : atI xs (OfNat.ofNat n : Int) = (ixN xs.length (OfNat.ofNat n : Int)).bind fun j => xs[j]? := rfl
/-! # loops and comprehensions of plain readings -/
theorem lc_run {α : Type} {g : MG} {tt : MT} {te : ME} {vs : List Nat} {ρ : Env} (hρ : wipeE ρ vs = ρ) (enc : α → PyData) (p : α → Bool) (f : α → PyData) : ∀ (xs : List α) (acc : List PyData), acc.length + xs.length ≤ 100000 →
    (∀ x ∈ xs, ∃ ρ1, g (enc x) ρ = some ρ1 ∧ wipeE ρ1 vs = ρ ∧ tt ρ1 = .ok (p x) ρ1 ∧ (p x = true → te ρ1 = .ok (.d (f x)) ρ1)) → lcL g tt te vs (xs.map enc) acc ρ = .ok (acc ++ (xs.filter p).map f) ρ
  | [], acc, _, _ => by simp [lcL]
  | x :: r, acc, hl, h => by
    obtain ⟨ρ1, h1, h2, h3, h4⟩ := h x List.mem_cons_self
    rw [List.map_cons]
    unfold lcL
    rw [hρ, h1, retD_some, Rs.bind_ok, h3]
    have ih := fun acc' hl' => lc_run hρ enc p f r acc' hl' fun y hy => h y (List.mem_cons_of_mem _ hy)
    have hl2 : acc.length + (r.length + 1) ≤ 100000 := hl
    cases hp : p x with
    | true =>
      simp only [h4 hp, if_pos (show acc.length < 100000 by omega), h2]
      rw [ih _ (by rw [List.length_append]; show acc.length + 1 + r.length ≤ _; omega), List.filter_cons_of_pos hp]
      simp
    | false =>
      simp only [h2]
      rw [ih _ (by omega), List.filter_cons_of_neg (by rw [hp]; decide)]
theorem lc_all {α : Type} {g : MG} {te : ME} {vs : List Nat} {ρ : Env} (hρ : wipeE ρ vs = ρ) (enc f : α → PyData) (xs : List α) (hl : xs.length ≤ 100000) (h : ∀ x ∈ xs, ∃ ρ1, g (enc x) ρ = some ρ1 ∧ wipeE ρ1 vs = ρ ∧ te ρ1 = .ok (.d (f x)) ρ1) : lcL g mYes te vs (xs.map enc) [] ρ = .ok (xs.map f) ρ := by
  rw [lc_run hρ enc (fun _ => true) f xs [] (by simpa using hl) fun x hx => by
    obtain ⟨ρ1, a, b, c⟩ := h x hx
    exact ⟨ρ1, a, b, rfl, fun _ => c⟩, List.filter_eq_self.mpr (fun _ _ => rfl)]
  rfl
/-- a loop by what holds between two turns -/
theorem for_inv {α : Type} {g : MG} {tb : MS} {ks : List Nat} (enc : α → PyData) : ∀ (xs : List α) (I : Nat → Env → Prop) (ρ : Env), I 0 ρ →
    (∀ (i : Nat) x ρ, xs[i]? = some x → I i ρ → ∃ ρ1 ρ2, g (enc x) ρ = some ρ1 ∧ (tb ρ1 = .ok .nx ρ2 ∨ tb ρ1 = .ok .ct ρ2) ∧ I (i + 1) (wipeE ρ2 ks)) → ∃ ρ', forL g tb ks (xs.map enc) ρ = .ok .nx ρ' ∧ I xs.length ρ'
  | [], I, ρ, h0, _ => ⟨ρ, rfl, h0⟩
  | x :: r, I, ρ, h0, h => by
    obtain ⟨ρ1, ρ2, h1, h2, h3⟩ := h 0 x ρ rfl h0
    obtain ⟨ρ', e, h4⟩ := for_inv enc r (fun i => I (i + 1)) (wipeE ρ2 ks) h3 fun i y ρ hy hi => h (i + 1) y ρ hy hi
    refine ⟨ρ', ?_, h4⟩
    rw [List.map_cons, forL_cons h1]
    rcases h2 with h2 | h2 <;> (rw [h2]; exact e)
/-- .. over range(n) -/
theorem rngD_eq (lo : Int) (n : Nat) : rngD lo n = (List.range n).map fun i : Nat => PyData.int (lo + (i : Int)) := rfl
theorem rngD0 (n : Nat) : rngD 0 n = (List.range n).map fun i : Nat => PyData.int (i : Int) := by
  rw [rngD_eq]
  exact List.map_congr_left fun i _ => by rw [Int.zero_add]
theorem for_rng {g : MG} {tb : MS} {ks : List Nat} (lo : Int) (n : Nat) (I : Nat → Env → Prop) (ρ : Env) (h0 : I 0 ρ)
    (h : ∀ (i : Nat) ρ, i < n → I i ρ → ∃ ρ1 ρ2, g (.int (lo + (i : Int))) ρ = some ρ1 ∧ (tb ρ1 = .ok .nx ρ2 ∨ tb ρ1 = .ok .ct ρ2) ∧ I (i + 1) (wipeE ρ2 ks)) : ∃ ρ', forL g tb ks (rngD lo n) ρ = .ok .nx ρ' ∧ I n ρ' := by
  obtain ⟨ρ', e, h1⟩ := for_inv (g := g) (tb := tb) (ks := ks) (fun i : Nat => PyData.int (lo + (i : Int))) (List.range n) I ρ h0 fun i x ρ hx hi => by
    obtain ⟨h2, h3⟩ := List.getElem?_eq_some_iff.mp hx
    rw [List.getElem_range] at h3
    subst h3
    exact h i ρ (by simpa using h2) hi
  rw [List.length_range] at h1
  exact ⟨ρ', e, h1⟩
/-- a comprehension with deeds, by what holds between two turns -/
theorem lc_inv {α : Type} {g : MG} {te : ME} {vs : List Nat} (enc : α → PyData) (N : Nat) (hN : N ≤ 100000) (I : Nat → List PyData → Env → Prop) : ∀ (xs : List α) (acc : List PyData) (ρ : Env), acc.length + xs.length = N → I acc.length acc ρ →
    (∀ x ∈ xs, ∀ acc ρ, acc.length < N → I acc.length acc ρ → ∃ ρ1 ρ2 y, g (enc x) (wipeE ρ vs) = some ρ1 ∧ te ρ1 = .ok (.d y) ρ2 ∧ I (acc.length + 1) (acc ++ [y]) (wipeE ρ2 vs)) → ∃ ds ρ', lcL g mYes te vs (xs.map enc) acc ρ = .ok ds ρ' ∧ ds.length = N ∧ I N ds ρ'
  | [], acc, ρ, hl, h0, _ => ⟨acc, ρ, by simp [lcL], hl, by have : acc.length = N := hl; rw [← this]; exact h0⟩
  | x :: r, acc, ρ, hl, h0, h => by
    have hl2 : acc.length + (r.length + 1) = N := hl
    obtain ⟨ρ1, ρ2, y, h1, h2, h3⟩ := h x List.mem_cons_self acc ρ (by omega) h0
    have el : (acc ++ [y]).length = acc.length + 1 := by simp
    obtain ⟨ds, ρ', e, h4, h5⟩ := lc_inv enc N hN I r (acc ++ [y]) (wipeE ρ2 vs) (by rw [el]; omega) (by rw [el]; exact h3) fun z hz => h z (List.mem_cons_of_mem _ hz)
    refine ⟨ds, ρ', ?_, h4, h5⟩
    rw [List.map_cons]
    unfold lcL
    rw [h1, retD_some, Rs.bind_ok]
    simp only [mYes, h2, if_pos (show acc.length < 100000 by omega)]
    exact e
/-! # the bag of draws -/
def Bg (n : Nat) (w : Ow) : Prop := ∃ a x c : Int, w = .lst [.int a, .int x, .int c] ∧ 0 ≤ x ∧ x < P61 ∧ 0 ≤ c ∧ c ≤ n
theorem Bg.mono {n m : Nat} {w : Ow} (h : Bg n w) (e : n ≤ m) : Bg m w := by
  obtain ⟨a, x, c, h1, h2, h3, h4, h5⟩ := h
  exact ⟨a, x, c, h1, h2, h3, h4, by omega⟩
theorem take_pos {a x c m : Int} (ha : 0 < a) (hm : 0 < m) (hm2 : m < 2 ^ 64) : m__law_take [.b (.lst [.int a, .int x, .int c]), .d (.int m)] = .ok (.int (a % m)) [.lst [.int (a / m), .int x, .int c]] := by
  have h1 : CDivW a m := wide_div (b := 64) hm (by omega) (by decide) (by decide)
  simp [m__law_take, b__law_take, atI, ixN, ha, hm, h1]
theorem mulW_b {i j : Int} (a b : Nat) (hi : i.natAbs < 2 ^ a) (hj : j.natAbs < 2 ^ b) (h0 : 0 < a) (h1 : 0 < b) (h : a + b ≤ 1000000) : CMulW i j := wide_mul hi hj h0 h1 h
theorem take_zero {a x c m : Int} (ha : ¬ 0 < a) (hx : 0 ≤ x ∧ x < P61) (hc : 0 ≤ c ∧ c < 1000000000000) (hm : 0 < m) (hm2 : m < 2 ^ 64) : ∃ r, m__law_take [.b (.lst [.int a, .int x, .int c]), .d (.int m)] = .ok (.int r) [.lst [.int a, .int x, .int (c + 1)]] ∧ 0 ≤ r ∧ r < m := by
  unfold P61 at hx
  have p0 : (0 : Int) < 2305843009213693951 := by decide
  have k1 : CMulW 1000003 (c + 1) := mulW_b 64 64 (by decide) (by omega) (by decide) (by decide) (by decide)
  have k2 : CPow (c + 1) 2 := ⟨by decide, by decide, by omega⟩
  have s1 : (c + 1) ^ 2 ≤ 1000000000001 ^ 2 := by
    rw [Int.pow_succ, Int.pow_succ, Int.pow_zero, Int.one_mul, Int.pow_succ, Int.pow_succ, Int.pow_zero, Int.one_mul]
    exact Int.mul_le_mul (by omega) (by omega) (by omega) (by decide)
  have s0 : 0 ≤ (c + 1) ^ 2 := by
    rw [Int.pow_succ, Int.pow_succ, Int.pow_zero, Int.one_mul]; exact Int.mul_nonneg (by omega) (by omega)
  have k3 : CMulW 7919 ((c + 1) ^ 2) := mulW_b 64 200 (by decide) (by have : (1000000000001 : Int) ^ 2 < 2 ^ 200 := by decide
                                                                      omega) (by decide) (by decide) (by decide)
  have hn1 := Int.emod_nonneg (x + 1000003 * (c + 1)) (show (2305843009213693951 : Int) ≠ 0 by decide)
  have hn2 := Int.emod_lt_of_pos (x + 1000003 * (c + 1)) p0
  generalize hn : (x + 1000003 * (c + 1)) % 2305843009213693951 = n at hn1 hn2
  have k4 : CMulW n n := mulW_b 64 64 (by omega) (by omega) (by decide) (by decide) (by decide)
  have hq1 := Int.emod_nonneg (n * n + 7919 * (c + 1) ^ 2 + 5) (show (2305843009213693951 : Int) ≠ 0 by decide)
  have hq2 := Int.emod_lt_of_pos (n * n + 7919 * (c + 1) ^ 2 + 5) p0
  generalize hq : (n * n + 7919 * (c + 1) ^ 2 + 5) % 2305843009213693951 = q at hq1 hq2
  have k5 : CPow q 3 := ⟨by decide, by decide, by omega⟩
  have k6 : CDivW (q ^ 3 % 2305843009213693951) 13 := wide_div (b := 64) (by decide) (by decide) (by decide) (by decide)
  refine ⟨q ^ 3 % 2305843009213693951 / 13 % m, ?_, Int.emod_nonneg _ (by omega), Int.emod_lt_of_pos _ hm⟩
  simp [m__law_take, b__law_take, atI, ixN, ha, hm, k1, k2, k3, k4, k5, k6, hn, hq]
theorem take_ok {n : Nat} {w : Ow} {m : Int} (h : Bg n w) (hn : n < 1000000000000) (hm : 0 < m) (hm2 : m < 2 ^ 64) : ∃ r w', m__law_take [.b w, .d (.int m)] = .ok (.int r) [w'] ∧ 0 ≤ r ∧ r < m ∧ Bg (n + 1) w' := by
  obtain ⟨a, x, c, rfl, h2, h3, h4, h5⟩ := h
  by_cases ha : 0 < a
  · exact ⟨_, _, take_pos ha hm hm2, Int.emod_nonneg _ (by omega), Int.emod_lt_of_pos _ hm, _, _, _, rfl, h2, h3, h4, by omega⟩
  · obtain ⟨r, e, r0, r1⟩ := take_zero ha ⟨h2, h3⟩ ⟨h4, by omega⟩ hm hm2
    exact ⟨r, _, e, r0, r1, _, _, _, rfl, h2, h3, by omega, by omega⟩
theorem well_ok (cell : Int) (turn : Nat) : ∃ w, m__law_well [.d (.int cell), .d (.int turn)] = .fr w [] ∧ Bg turn w := by
  have h1 : CPow 10 18 := by decide
  have h0 := Int.emod_nonneg cell (show (2305843009213693951 : Int) ≠ 0 by decide)
  have h2 := Int.emod_lt_of_pos cell (show (0 : Int) < 2305843009213693951 by decide)
  by_cases c : (1000000000000000000 : Int) ≤ cell
  · refine ⟨.lst [.int (cell - 1000000000000000000), .int (cell % 2305843009213693951), .int turn], ?_, _, _, _, rfl, h0, h2, by omega, by omega⟩
    simp [m__law_well, b__law_well, h1, c]
  · refine ⟨.lst [.int 0, .int (cell % 2305843009213693951), .int turn], ?_, _, _, _, rfl, h0, h2, by omega, by omega⟩
    simp [m__law_well, b__law_well, h1, c]
/-! # names that are drawn -/
def lettersS : Str := "abcdefghijklmnopqrstuvwxyz"
def isLetter (c : Nat) : Bool := decide (c ∈ lettersS.cps.toList)
def nameS (x : Str) : Bool := (decide ((1 : Int) ≤ (x.length : Int)) && decide ((x.length : Int) ≤ 8)) && x.cps.toList.all isLetter
def sevenNames : List Str := ["ann", "bo", "cy", "dan", "eve", "flo", "gus"]
def drawnName (x : Str) : Prop := nameS x = true ∧ (x ∈ sevenNames ∨ x.length = 1 ∨ x.length = 2 ∨ x.length = 8)
theorem seven_drawn : ∀ x ∈ sevenNames, drawnName x := fun x h => ⟨(List.all_eq_true (p := nameS) (l := sevenNames)).mp (by decide +kernel) x h, .inl h⟩
theorem letter_get {r : Int} (h0 : 0 ≤ r) (h1 : r < 26) : ∃ c, atI lettersS.cps.toList r = some c ∧ isLetter c = true := by
  obtain ⟨j, rfl⟩ := Int.eq_ofNat_of_zero_le h0
  have hl : lettersS.cps.toList.length = 26 := by decide +kernel
  have hj : j < lettersS.cps.toList.length := by omega
  exact ⟨lettersS.cps.toList[j], atI_nat (List.getElem?_eq_getElem hj), decide_eq_true (List.getElem_mem hj)⟩
theorem name_of_letters {cs : List Nat} (h : ∀ c ∈ cs, isLetter c = true) (hl : cs.length = 1 ∨ cs.length = 2 ∨ cs.length = 8) : drawnName (Txt.join (Str.ofString "") (cs.map fun c => (⟨#[c]⟩ : Str))) := by
  have e := join_empty cs
  have el : (Txt.join (Str.ofString "") (cs.map fun c => (⟨#[c]⟩ : Str))).length = cs.length := by
    conv => rhs; rw [← e, Array.length_toList]
    rfl
  refine ⟨?_, .inr (by rw [el]; exact hl)⟩
  unfold nameS
  rw [e, el, List.all_eq_true.mpr h, Bool.and_true, Bool.and_eq_true, decide_eq_true_eq, decide_eq_true_eq]
  omega
def oneS (c : Nat) : Str := ⟨#[c]⟩
theorem strsD_map (ss : List Str) : strsD (ss.map .str) = some ss := by
  induction ss with
  | nil => rfl
  | cons a r ih => show (strsD (r.map .str)).map (fun s => a :: s) = _; rw [ih]; rfl
theorem intsD_map (ss : List Int) : intsD (ss.map .int) = some ss := by
  induction ss with
  | nil => rfl
  | cons a r ih => show (intsD (r.map .int)).map (fun s => a :: s) = _; rw [ih]; rfl
theorem boolsD_map (ss : List Bool) : boolsD (ss.map .bool) = some ss := by
  induction ss with
  | nil => rfl
  | cons a r ih => show (boolsD (r.map .bool)).map (fun s => a :: s) = _; rw [ih]; rfl
theorem sum_ones : ∀ l : List Nat, (l.map ((fun x : Str => x.length) ∘ oneS)).sum = l.length := by
  intro l
  induction l with
  | nil => rfl
  | cons a r ih => rw [List.map_cons, List.sum_cons, ih, List.length_cons]; show 1 + _ = _; omega
theorem join_ones {cs : List Nat} (h : cs.length ≤ 8) : fJoin (.str (Str.ofString "")) (.list ((cs.map oneS).map .str)) = some (.str (Txt.join (Str.ofString "") (cs.map oneS))) := by
  have es : (Str.ofString "").length = 0 := by decide +kernel
  show ((strsD ((cs.map oneS).map .str)).bind fun ys => if (ys.map (·.length)).sum + ys.length * (Str.ofString "").length ≤ 16777216 then some (PyData.str (Txt.join (Str.ofString "") ys)) else none) = _
  rw [strsD_map, Option.bind_some, if_pos]
  rw [es, Nat.mul_zero, Nat.add_zero, List.map_map, sum_ones]; omega
theorem name_low {w w1 : Ow} {r : Int} (e1 : m__law_take [.b w, .d (.int 9)] = .ok (.int r) [w1]) (this : r = 0 ∨ r = 1 ∨ r = 2 ∨ r = 3 ∨ r = 4 ∨ r = 5 ∨ r = 6) : ∃ x ∈ sevenNames, m__law_name [.b w] = .ok (.str x) [w1] := by
  rcases this with rfl | rfl | rfl | rfl | rfl | rfl | rfl
  · exact ⟨"ann", by simp [sevenNames], by simp [m__law_name, b__law_name, e1, atI, ixN]⟩
  · exact ⟨"bo", by simp [sevenNames], by simp [m__law_name, b__law_name, e1, atI, ixN]⟩
  · exact ⟨"cy", by simp [sevenNames], by simp [m__law_name, b__law_name, e1, atI, ixN]⟩
  · exact ⟨"dan", by simp [sevenNames], by simp [m__law_name, b__law_name, e1, atI, ixN]⟩
  · exact ⟨"eve", by simp [sevenNames], by simp [m__law_name, b__law_name, e1, atI, ixN]⟩
  · exact ⟨"flo", by simp [sevenNames], by simp [m__law_name, b__law_name, e1, atI, ixN]⟩
  · exact ⟨"gus", by simp [sevenNames], by simp [m__law_name, b__law_name, e1, atI, ixN]⟩
theorem name_high {n : Nat} {w w1 : Ow} {r : Int} (h1 : Bg (n + 1) w1) (hn : n + 10 < 1000000000000) (e1 : m__law_take [.b w, .d (.int 9)] = .ok (.int r) [w1]) (c : ¬ r < 7) : ∃ x w', m__law_name [.b w] = .ok (.str x) [w'] ∧ drawnName x ∧ Bg (n + 10) w' := by
  obtain ⟨r2, w2, e2, p0, p1, h2⟩ := take_ok (m := 3) h1 (by omega) (by decide) (by decide)
  obtain ⟨m, hm, hm2⟩ : ∃ m : Nat, atI [PyData.int 1, .int 2, .int 8] r2 = some (.int (m : Int)) ∧ (m = 1 ∨ m = 2 ∨ m = 8) := by
    have : r2 = 0 ∨ r2 = 1 ∨ r2 = 2 := by omega
    rcases this with rfl | rfl | rfl
    · exact ⟨1, rfl, .inl rfl⟩
    · exact ⟨2, rfl, .inr (.inl rfl)⟩
    · exact ⟨8, rfl, .inr (.inr rfl)⟩
  have hro : rngOk (m : Int) = true := rngOk_iff.mpr (by omega)
  have h8 : m ≤ 8 := by omega
  obtain ⟨ds, ρ', e3, h3, w3, cs, rfl, rfl, h5, h6, h7⟩ := lc_inv (g := gN 4) (te := c__law_name_0) (vs := [4]) (fun i : Nat => PyData.int (i : Int)) m (by omega)
    (fun i acc ρ => ∃ w cs, ρ = [some (.b w), some (.d (.int r)), some (.d (.str lettersS)), some (.d (.int m)), none] ∧ acc = (cs.map oneS).map .str ∧ Bg (n + 2 + i) w ∧ (∀ c ∈ cs, isLetter c = true) ∧ cs.length = i) (List.range m) [] [some (.b w2), some (.d (.int r)), some (.d (.str lettersS)), some (.d (.int m)), none] (by simp) ⟨w2, [], rfl, rfl, h2, (fun _ h => nomatch h), rfl⟩ (by
      rintro x hx acc ρ ha ⟨w, cs, rfl, rfl, hb, hc, hl⟩
      obtain ⟨q, w', e4, q0, q1, hb'⟩ := take_ok (m := 26) hb (by omega) (by decide) (by decide)
      obtain ⟨c, hc1, hc2⟩ := letter_get q0 q1
      have hlen : lettersS.length ≤ 100000 := by decide +kernel
      refine ⟨_, [some (.b w'), some (.d (.int r)), some (.d (.str lettersS)), some (.d (.int m)), some (.d (.int (x : Int)))], .str (oneS c), rfl, by simp [c__law_name_0, e4, hc1, hlen, oneS], w', cs ++ [c], rfl, by simp, hb'.mono (by omega), fun z hz => ?_, by simp⟩
      rcases List.mem_append.mp hz with h | h
      · exact hc z h
      · rw [List.mem_singleton.mp h]; exact hc2)
  have eo : (cs.map fun c => (⟨#[c]⟩ : Str)) = cs.map oneS := rfl
  have dn := name_of_letters h6 (by omega)
  rw [eo] at dn
  refine ⟨Txt.join (Str.ofString "") (cs.map oneS), w3, ?_, dn, h5.mono (by omega)⟩
  have e5 := join_ones (cs := cs) (by omega)
  simp only [lettersS] at e3
  simp [m__law_name, b__law_name, e1, c, e2, hm, hro, rngD0, e3, e5, -fJoin, -List.map_map]
theorem name_ok {n : Nat} {w : Ow} (h : Bg n w) (hn : n + 10 < 1000000000000) : ∃ x w', m__law_name [.b w] = .ok (.str x) [w'] ∧ drawnName x ∧ Bg (n + 10) w' := by
  obtain ⟨r, w1, e1, r0, r1, h1⟩ := take_ok (m := 9) h (by omega) (by decide) (by decide)
  by_cases c : r < 7
  · have : r = 0 ∨ r = 1 ∨ r = 2 ∨ r = 3 ∨ r = 4 ∨ r = 5 ∨ r = 6 := by omega
    obtain ⟨x, hx, e⟩ : ∃ x ∈ sevenNames, m__law_name [.b w] = .ok (.str x) [w1] := name_low e1 this
    exact ⟨x, w1, e, seven_drawn x hx, h1.mono (by omega)⟩
  · exact name_high h1 hn e1 c
/-! # towns that are drawn -/
theorem keysS_put {v : PyData} {x : Str} : ∀ {kvs : List (Key × PyData)} {ks : List Str}, keysS kvs = some ks → keysS (putD kvs (.inr x) v) = some (if x ∈ ks then ks else ks ++ [x]) := by
  have key : ∀ {kvs : List (Key × PyData)} {ks : List Str}, keysS kvs = some ks → (kvs.any (fun kv => decide (kv.1 = Sum.inr x)) = decide (x ∈ ks)) ∧ keysS (kvs.map fun kv => if kv.1 = Sum.inr x then (kv.1, v) else kv) = some ks ∧ keysS (kvs ++ [(.inr x, v)]) = some (ks ++ [x]) := by
    intro kvs
    induction kvs with
    | nil => intro ks h; cases h; exact ⟨rfl, rfl, rfl⟩
    | cons p r ih =>
      intro ks h
      obtain ⟨k, d⟩ := p
      cases k with
      | inl i => cases h
      | inr y =>
        obtain ⟨ls, h1, rfl⟩ := Option.map_eq_some_iff.mp (show (keysS r).map (fun s => y :: s) = some ks from h)
        obtain ⟨a, b, c⟩ := ih h1
        refine ⟨?_, ?_, ?_⟩
        · rw [List.any_cons, a, Bool.eq_iff_iff]
          simp only [Bool.or_eq_true, decide_eq_true_eq, List.mem_cons, Sum.inr.injEq]
          exact ⟨fun h => h.imp (fun e => e.symm) id, fun h => h.imp (fun e => e.symm) id⟩
        · rw [List.map_cons]
          by_cases e : y = x
          · subst e
            rw [if_pos rfl]
            show (keysS _).map (fun s => y :: s) = _
            rw [b]; rfl
          · rw [if_neg (fun z => e (Sum.inr.inj z))]
            show (keysS _).map (fun s => y :: s) = _
            rw [b]; rfl
        · show (keysS (r ++ [(Sum.inr x, v)])).map (fun s => y :: s) = _
          rw [c]; rfl
  intro kvs ks h
  obtain ⟨a, b, c⟩ := key h
  unfold putD
  rw [a]
  by_cases m : x ∈ ks
  · rw [if_pos (decide_eq_true m), if_pos m]; exact b
  · rw [if_neg (by simpa using m), if_neg m]; exact c
theorem keysS_len : ∀ {kvs : List (Key × PyData)} {ks : List Str}, keysS kvs = some ks → kvs.length = ks.length
  | [], _, h => by cases h; rfl
  | (.inl _, _) :: _, _, h => by cases h
  | (.inr x, _) :: r, ks, h => by
    obtain ⟨ls, h1, rfl⟩ := Option.map_eq_some_iff.mp (show (keysS r).map (fun s => x :: s) = some ks from h)
    exact congrArg (· + 1) (keysS_len h1)
theorem rises_of_pw : ∀ {ss : List Str}, ss.Pairwise (fun a b => leS a b = true) → ss.Nodup → risesS ss = true
  | [], _, _ => rfl
  | [_], _, _ => rfl
  | x :: y :: r, h, hn => by
    obtain ⟨h1, h2⟩ := List.pairwise_cons.mp h
    obtain ⟨n1, n2⟩ := List.nodup_cons.mp hn
    rw [rises_cons, Bool.and_eq_true]
    refine ⟨decide_eq_true ?_, rises_of_pw h2 n2⟩
    have hne : x.cps.toList ≠ y.cps.toList := fun e => n1 (by rw [Str.of_toList e]; exact List.mem_cons_self)
    exact (List.le_iff_lt_or_eq.mp (leS_iff.mp (h1 y List.mem_cons_self))).resolve_right hne
theorem rising_ok {n : Nat} {w : Ow} {m : Int} (h : Bg n w) (hn : n + 401 < 1000000000000) (m1 : 1 ≤ m) (m2 : m ≤ 40) : ∃ ss w', m__law_rising [.b w, .d (.int m)] = .ok (.list (ss.map .str)) [w'] ∧ risesS ss = true ∧ 1 ≤ ss.length ∧ (ss.length : Int) ≤ m ∧ (∀ s ∈ ss, drawnName s) ∧ Bg (n + 401) w' := by
  obtain ⟨r, w1, e1, r0, r1, h1⟩ := take_ok (m := m) h (by omega) (by omega) (by omega)
  obtain ⟨k, rfl⟩ := Int.eq_ofNat_of_zero_le r0
  have ek : (1 + (k : Int)).toNat = k + 1 := by omega
  have hro : rngOk (1 + (k : Int)) = true := rngOk_iff.mpr (by omega)
  obtain ⟨ρ', e2, w2, kvs, ks, rfl, h2, h3, h4, h5, h6, h7⟩ := for_inv (g := gN 3) (tb := l__law_rising_0) (ks := [3]) (fun i : Nat => PyData.int (i : Int)) (List.range (k + 1))
    (fun i ρ => ∃ w kvs ks, ρ = [some (.b w), some (.d (.int m)), some (.o (.dct kvs)), none] ∧ Bg (n + 1 + i * 10) w ∧ keysS kvs = some ks ∧ ks.Nodup ∧ (∀ s ∈ ks, drawnName s) ∧ ks.length ≤ i ∧ (0 < i → 1 ≤ ks.length)) [some (.b w1), some (.d (.int m)), some (.o (.dct [])), none] ⟨w1, [], [], rfl, h1, rfl, List.nodup_nil, (fun _ h => nomatch h), Nat.le_refl _, (fun h => absurd h (by omega))⟩ (by
      rintro i x ρ hx ⟨w, kvs, ks, rfl, hb, hk, hnd, hdr, hle, hpos⟩
      have hi : i < k + 1 := by have := (List.getElem?_eq_some_iff.mp hx).1; simpa using this
      obtain ⟨nm, w', e3, hd, hb'⟩ := name_ok hb (by omega)
      have hl : kvs.length < 100000 := by rw [keysS_len hk]; omega
      refine ⟨_, [some (.b w'), some (.d (.int m)), some (.o (.dct (putD kvs (.inr nm) (.bool true)))), some (.d (.int x))], rfl, .inl (by simp [l__law_rising_0, e3, hl]), w', _, _, rfl, hb'.mono (by omega), keysS_put hk, ?_, fun s hs => ?_, ?_, fun _ => ?_⟩
      · split
        · exact hnd
        · rename_i c
          rw [List.nodup_append]
          exact ⟨hnd, by simp, fun a ha b hb => by rw [List.mem_singleton.mp hb]; exact fun z => c (z ▸ ha)⟩
      · split at hs
        · exact hdr s hs
        · rcases List.mem_append.mp hs with z | z
          · exact hdr s z
          · rw [List.mem_singleton.mp z]; exact hd
      · split
        · omega
        · simp; omega
      · split
        · rename_i c; exact List.length_pos_of_mem c
        · simp)
  rw [List.length_range] at h2 h6 h7
  have pm := sortS_perm ks
  refine ⟨sortS ks, w2, ?_, rises_of_pw (sortS_sorted ks) (pm.nodup_iff.mpr h4), by rw [pm.length_eq]; exact h7 (by omega), by rw [pm.length_eq]; omega, fun s hs => h5 s (pm.mem_iff.mp hs), h2.mono (by omega)⟩
  have h64 : ks.length < 64 := by omega
  simp [m__law_rising, b__law_rising, e1, hro, ek, rngD0, e2, h3, h64]
structure Gate where
  name : Str
  opens : Int
  shuts : Int
  small : Bool
def Gate.enc (g : Gate) : PyData := .tuple [.str g.name, .int g.opens, .int g.shuts, .bool g.small]
structure Gate.Ok (g : Gate) : Prop where
  nm : nameS g.name = true
  o0 : 0 ≤ g.opens
  o1 : g.opens < 24
  s0 : 0 ≤ g.shuts
  s1 : g.shuts < 24
def townEnc (t : List Gate) : PyData := .tuple (t.map Gate.enc)
structure TownOk (t : List Gate) : Prop where
  l1 : 1 ≤ t.length
  l8 : t.length ≤ 8
  ok : ∀ g ∈ t, g.Ok
  rs : risesS (t.map Gate.name) = true
theorem town_ok {n : Nat} {w : Ow} {m : Int} (h : Bg n w) (hn : n + 600 < 1000000000000) (m1 : 1 ≤ m) (m2 : m ≤ 8) : ∃ t w', m__law_town [.b w, .d (.int m)] = .ok (townEnc t) [w'] ∧ TownOk t ∧ (t.length : Int) ≤ m ∧ (∀ g ∈ t, drawnName g.name) ∧ Bg (n + 600) w' := by
  obtain ⟨ss, w1, e1, hr, l1, l2, hd, h1⟩ := rising_ok h (by omega) m1 (by omega)
  have hs8 : ss.length ≤ 8 := by omega
  obtain ⟨ρ', e2, w2, gs, rfl, h2, h3, h4⟩ := for_inv (g := gN 3) (tb := l__law_town_0) (ks := [3, 4, 5]) PyData.str ss
    (fun i ρ => ∃ w gs, ρ = [some (.b w), some (.d (.int m)), some (.o (.lst (gs.map Gate.enc))), none, none, none] ∧ Bg (n + 401 + i * 5) w ∧ gs.map Gate.name = ss.take i ∧ ∀ g ∈ gs, 0 ≤ g.opens ∧ g.opens < 24 ∧ 0 ≤ g.shuts ∧ g.shuts < 24) [some (.b w1), some (.d (.int m)), some (.o (.lst [])), none, none, none] ⟨w1, [], rfl, h1, rfl, (fun _ h => nomatch h)⟩ (by
      rintro i x ρ hx ⟨w, gs, rfl, hb, hg, ho⟩
      have hi : i < ss.length := (List.getElem?_eq_some_iff.mp hx).1
      obtain ⟨r1, w2, e3, a0, a1, b2⟩ := take_ok (m := 24) hb (by omega) (by decide) (by decide)
      obtain ⟨r2, w3, e4, c0, c1, b3⟩ := take_ok (m := 24) b2 (by omega) (by decide) (by decide)
      obtain ⟨r3, w4, e5, d0, d1, b4⟩ := take_ok (m := 8) b3 (by omega) (by decide) (by decide)
      obtain ⟨r4, w5, e6, f0, f1, b5⟩ := take_ok (m := 2) b4 (by omega) (by decide) (by decide)
      obtain ⟨wd, hw, g0, g1⟩ : ∃ wd : Int, atI [PyData.int r2, .int 0, .int 1, .int 23] (r3 * 5 / 8 * 3 / 4) = some (.int wd) ∧ 0 ≤ wd ∧ wd < 24 := by
        have : r3 = 0 ∨ r3 = 1 ∨ r3 = 2 ∨ r3 = 3 ∨ r3 = 4 ∨ r3 = 5 ∨ r3 = 6 ∨ r3 = 7 := by omega
        rcases this with rfl | rfl | rfl | rfl | rfl | rfl | rfl | rfl
        · exact ⟨r2, rfl, c0, c1⟩
        · exact ⟨r2, rfl, c0, c1⟩
        · exact ⟨r2, rfl, c0, c1⟩
        · exact ⟨r2, rfl, c0, c1⟩
        · exact ⟨0, rfl, by decide, by decide⟩
        · exact ⟨1, rfl, by decide, by decide⟩
        · exact ⟨1, rfl, by decide, by decide⟩
        · exact ⟨23, rfl, by decide, by decide⟩
      have k1 : CMulW r3 5 := mulW_b 64 64 (by omega) (by decide) (by decide) (by decide) (by decide)
      have k2 : CDivW (r3 * 5) 8 := wide_div (b := 64) (by decide) (by decide) (by decide) (by decide)
      have k3 : CMulW (r3 * 5 / 8) 3 := mulW_b 64 64 (by omega) (by decide) (by decide) (by decide) (by decide)
      have k4 : CDivW (r3 * 5 / 8 * 3) 4 := wide_div (b := 64) (by decide) (by decide) (by decide) (by decide)
      have hl : gs.length < 100000 := by
        have := congrArg List.length hg
        rw [List.length_map, List.length_take] at this
        omega
      have m0 := Int.emod_nonneg (r1 + wd) (show (24 : Int) ≠ 0 by decide)
      have m1 := Int.emod_lt_of_pos (r1 + wd) (show (0 : Int) < 24 by decide)
      refine ⟨_, [some (.b w5), some (.d (.int m)), some (.o (.lst ((gs ++ [(⟨x, r1, (r1 + wd) % 24, decide (r4 = 1)⟩ : Gate)]).map Gate.enc))), some (.d (.str x)), some (.d (.int r1)), some (.d (.int wd))], rfl, .inl ?_, w5, _, rfl, b5.mono (by omega), ?_, fun g hg => ?_⟩
      · simp [l__law_town_0, e3, e4, e5, e6, k1, k2, k3, k4, hw, hl, Gate.enc]
      · rw [List.map_append, hg, List.take_succ, hx]; rfl
      · rcases List.mem_append.mp hg with z | z
        · exact ho g z
        · rw [List.mem_singleton.mp z]; exact ⟨a0, a1, m0, m1⟩)
  rw [List.take_length] at h3
  have hgl : gs.length = ss.length := by rw [← h3, List.length_map]
  refine ⟨gs, w2, ?_, ⟨by omega, by omega, fun g hg => ?_, by rw [h3]; exact hr⟩, by omega, fun g hg => hd _ (by rw [← h3]; exact List.mem_map_of_mem hg), h2.mono (by omega)⟩
  · simp [m__law_town, b__law_town, e1, e2, townEnc]
  · obtain ⟨a, b, c, d⟩ := h4 g hg
    exact ⟨(hd g.name (by rw [← h3]; exact List.mem_map_of_mem hg)).1, a, b, c, d⟩
/-! # what the program says of numbers, names, gates, towns -/
def withinD (x : PyData) (lo hi : Int) : Bool := isInt x && (!isBool x && (decide (lo ≤ intOf x) && decide (intOf x ≤ hi)))
theorem is_within_any (x : PyData) (lo hi : Int) : m_is_within [.d x, .d (.int lo), .d (.int hi)] = .ok (.bool (withinD x lo hi)) [] := by
  cases x with
  | int i =>
    by_cases h : lo ≤ i
    · by_cases h2 : i ≤ hi <;> simp [m_is_within, b_is_within, isInt, isBool, withinD, intOf, h, h2]
    · simp [m_is_within, b_is_within, isInt, isBool, withinD, intOf, h]
  | _ => simp [m_is_within, b_is_within, isInt, isBool, withinD]
theorem is_within_int (i lo hi : Int) : m_is_within [.d (.int i), .d (.int lo), .d (.int hi)] = .ok (.bool (decide (lo ≤ i) && decide (i ≤ hi))) [] := is_within_any _ _ _
theorem lay_name {x : Str} (h : nameS x = true) : x.length ≤ 8 ∧ PyData.canLay0 (.str x) = true := by
  unfold nameS at h
  rw [Bool.and_eq_true, Bool.and_eq_true, decide_eq_true_eq, decide_eq_true_eq] at h
  refine ⟨by omega, ?_⟩
  have k : ∀ c ∈ lettersS.cps.toList, c < 0x110000 := fun c hc => of_decide_eq_true ((List.all_eq_true (p := fun c => decide (c < 0x110000)) (l := lettersS.cps.toList)).mp (by decide +kernel) c hc)
  show x.cps.all (fun c => decide (c < 0x110000)) = true
  rw [← Array.all_toList]
  exact List.all_eq_true.mpr fun c hc => decide_eq_true (k c (of_decide_eq_true (List.all_eq_true.mp h.2 c hc)))
theorem letters_run (x : Str) (hl : x.length ≤ 100000) (ρ0 : Env) : lcL (gN 1) mYes c_is_name_0 [1] (chrD x) [] [some (.d (.str x)), none] = .ok (x.cps.toList.map fun c => .bool (isLetter c)) [some (.d (.str x)), none] := by
  refine lc_all (by rfl) (fun c : Nat => PyData.str ⟨#[c]⟩) (fun c => .bool (isLetter c)) x.cps.toList (by rw [Array.length_toList]; exact hl) fun c hc => ⟨_, rfl, rfl, ?_⟩
  simp [c_is_name_0, isLetter, lettersS]
theorem is_name_str (x : Str) (hl : x.length ≤ 100000) : m_is_name [.d (.str x)] = .ok (.bool (nameS x)) [] := by
  have e := letters_run x hl []
  have eb : boolsD (x.cps.toList.map fun c => PyData.bool (isLetter c)) = some (x.cps.toList.map isLetter) := by
    have := boolsD_map (x.cps.toList.map isLetter)
    rw [List.map_map] at this
    exact this
  unfold nameS
  by_cases h1 : (1 : Int) ≤ x.length
  · by_cases h2 : (x.length : Int) ≤ 8
    · simp [m_is_name, b_is_name, hl, h1, h2, e, eb, isStr, -Array.toList_map, -List.map_map]
    · simp [m_is_name, b_is_name, hl, h1, h2, isStr]
  · simp [m_is_name, b_is_name, hl, h1, isStr]
theorem is_name_any (x : PyData) (hs : ∀ s, x = .str s → s.length ≤ 100000) : m_is_name [.d x] = .ok (.bool (isStr x && nameS (strOf x))) [] := by
  cases x with
  | str s => exact is_name_str s (hs s rfl)
  | _ => simp [m_is_name, b_is_name, isStr]
theorem is_name_ok {x : Str} (h : nameS x = true) : m_is_name [.d (.str x)] = .ok (.bool true) [] := by
  rw [is_name_str x (Nat.le_trans (lay_name h).1 (by decide)), h]
theorem is_gate_ok {g : Gate} (h : g.Ok) : m_is_gate [.d g.enc] = .ok (.bool true) [] := by
  have := h.o0; have := h.o1; have := h.s0; have := h.s1
  have a1 : decide ((0 : Int) ≤ g.opens) = true := decide_eq_true h.o0
  have a2 : decide (g.opens ≤ 23) = true := decide_eq_true (by omega)
  have a3 : decide ((0 : Int) ≤ g.shuts) = true := decide_eq_true h.s0
  have a4 : decide (g.shuts ≤ 23) = true := decide_eq_true (by omega)
  simp [m_is_gate, b_is_gate, Gate.enc, isTup, isBool, atI, ixN, is_name_ok h.nm, is_within_int, a1, a2, a3, a4]
theorem strs_zip (ss : List Str) : zipD (ss.map .str) ((ss.drop 1).map .str) = (ss.zip (ss.drop 1)).map fun p => PyData.tuple [.str p.1, .str p.2] := by
  unfold zipD
  rw [List.zip_map, List.map_map]
  rfl
theorem cut1 {α : Type} (xs : List α) : cutG xs (some 1) none = xs.drop 1 := cutG_from xs 1
theorem boolsD_mapF {α : Type} (xs : List α) (f : α → Bool) : boolsD (xs.map fun x => .bool (f x)) = some (xs.map f) := by
  have := boolsD_map (xs.map f)
  rw [List.map_map] at this
  exact this
theorem rises_strs (ss : List Str) (hl : ss.length ≤ 50000) : m_rises [.d (.list (ss.map .str))] = .ok (.bool (risesS ss)) [] := by
  have ec : cutG (ss.map PyData.str) (some 1) none = (ss.drop 1).map .str := by rw [cut1, List.map_drop]
  have e : lcL (gT [gN 1, gN 2]) mYes c_rises_0 [1, 2] (zipD (ss.map .str) ((ss.drop 1).map .str)) [] [some (.d (.list (ss.map .str))), none, none] = .ok ((ss.zip (ss.drop 1)).map fun p => .bool (ltS p.1 p.2)) [some (.d (.list (ss.map .str))), none, none] := by
    rw [strs_zip]
    refine lc_all (by rfl) _ (fun p : Str × Str => PyData.bool (ltS p.1 p.2)) _ (by rw [List.length_zip]; omega) fun p hp => ⟨_, rfl, rfl, ?_⟩
    unfold c_rises_0
    walk_at "fx"
  have eb := boolsD_mapF (ss.zip (ss.drop 1)) fun p => ltS p.1 p.2
  unfold m_rises b_rises
  walk_at "fx"
  rw [List.all_map]; rfl
theorem names_of_ok (t : List Gate) (hl : t.length ≤ 100000) : m_names_of [.d (townEnc t)] = .ok (.list ((t.map Gate.name).map .str)) [] := by
  unfold townEnc
  have e : lcL (gN 1) mYes c_names_of_0 [1] (t.map Gate.enc) [] [some (.d (.tuple (t.map Gate.enc))), none] = .ok ((t.map Gate.name).map .str) [some (.d (.tuple (t.map Gate.enc))), none] := by
    rw [List.map_map]
    refine lc_all (by rfl) _ (fun g : Gate => PyData.str g.name) _ hl fun g hg => ⟨_, rfl, rfl, ?_⟩
    simp [c_names_of_0, Gate.enc, atI, ixN]
  unfold m_names_of b_names_of
  walk_at "fx"
theorem is_town_ok {t : List Gate} (h : TownOk t) : m_is_town [.d (townEnc t)] = .ok (.bool true) [] := by
  have l1 := h.l1; have l8 := h.l8
  have e0 : lcL (gN 1) mYes c_is_town_0 [1] (t.map Gate.enc) [] [some (.d (.tuple (t.map Gate.enc))), none] = .ok (t.map fun g => .bool true) [some (.d (.tuple (t.map Gate.enc))), none] := by
    refine lc_all (by rfl) _ (fun g : Gate => PyData.bool true) _ (by omega) fun g hg => ⟨_, rfl, rfl, ?_⟩
    simp [c_is_town_0, is_gate_ok (h.ok g hg)]
  have e1 : lcL (gN 1) mYes c_is_town_1 [1] (t.map Gate.enc) [] [some (.d (.tuple (t.map Gate.enc))), none] = .ok ((t.map Gate.name).map .str) [some (.d (.tuple (t.map Gate.enc))), none] := by
    rw [List.map_map]
    refine lc_all (by rfl) _ (fun g : Gate => PyData.str g.name) _ (by omega) fun g hg => ⟨_, rfl, rfl, ?_⟩
    simp [c_is_town_1, Gate.enc, atI, ixN]
  have eb := boolsD_mapF t fun _ => true
  have ea : (t.map fun _ => true).all id = true := by rw [List.all_map]; exact List.all_eq_true.mpr fun _ _ => rfl
  have er := rises_strs (t.map Gate.name) (by rw [List.length_map]; omega)
  rw [h.rs] at er
  have a0 : (t.map Gate.enc).length = t.length := List.length_map _
  have a1 : decide ((1 : Int) ≤ t.length) = true := decide_eq_true (by omega)
  have a2 : decide ((t.length : Int) ≤ 8) = true := decide_eq_true (by omega)
  have et : isTup (.tuple (t.map Gate.enc)) = true := rfl
  unfold m_is_town b_is_town townEnc
  clear l1 l8 h
  walk_at "fx"
/-! # open and shut -/
def openBy (g : Gate) (h : Int) : Bool := decide (g.opens = g.shuts) || decide ((h - g.opens) % 24 < (g.shuts - g.opens) % 24)
theorem open_by_ok (g : Gate) (h : Int) : m_open_by [.d g.enc, .d (.int h)] = .ok (.bool (openBy g h)) [] := by
  by_cases c : g.opens = g.shuts
  · simp [m_open_by, b_open_by, Gate.enc, atI, ixN, c, openBy]
  · simp [m_open_by, b_open_by, Gate.enc, atI, ixN, c, openBy]
def shutB (t : List Gate) (h : Int) : List Str := (t.filter fun g => !openBy g h).map Gate.name
theorem shut_at_ok (t : List Gate) (h : Int) (hl : t.length ≤ 100000) : m_shut_at [.d (townEnc t), .d (.int h)] = .ok (.list ((shutB t h).map .str)) [] := by
  unfold townEnc
  have e : lcL (gN 2) d_shut_at_0 c_shut_at_0 [2] (t.map Gate.enc) [] [some (.d (.tuple (t.map Gate.enc))), some (.d (.int h)), none] = .ok ((shutB t h).map .str) [some (.d (.tuple (t.map Gate.enc))), some (.d (.int h)), none] := by
    unfold shutB
    rw [List.map_map]
    refine lc_run (by rfl) _ (fun g => !openBy g h) (fun g : Gate => PyData.str g.name) t [] (by simpa using hl) fun g hg => ⟨_, rfl, rfl, ?_, fun _ => ?_⟩
    · simp [d_shut_at_0, open_by_ok]
    · simp [c_shut_at_0, Gate.enc, atI, ixN]
  unfold m_shut_at b_shut_at
  walk_at "fx"
/-! # track pages -/
structure Tr where
  who : Str
  hour : Int
  gate : Option Str
  inn : Bool
deriving DecidableEq
instance : Inhabited Tr := ⟨⟨"", 0, none, false⟩⟩
def Tr.kind (p : Tr) : Str := if p.gate.isSome = true then "gate" else "seen"
def Tr.word (p : Tr) : Str := if p.gate.isSome = true then (if p.inn = true then "in" else "out") else (if p.inn = true then "within" else "without")
def Tr.rest (p : Tr) : List PyData := match p.gate with
  | none => [.str p.word]
  | some g => [.str g, .str p.word]
def Tr.enc (p : Tr) : PyData := .tuple (.str p.kind :: .str p.who :: .int p.hour :: p.rest)
structure Tr.Ok (t : List Gate) (p : Tr) : Prop where
  nm : nameS p.who = true
  h0 : 0 ≤ p.hour
  h1 : p.hour ≤ 1000000000000
  gt : ∀ g, p.gate = some g → g ∈ t.map Gate.name ∧ nameS g = true
def Tr.finds (p : Tr) : Bool := if p.gate.isSome = true then !p.inn else p.inn
theorem enc_seen {p : Tr} (h : p.gate = none) : p.enc = .tuple [.str "seen", .str p.who, .int p.hour, .str (if p.inn = true then "within" else "without")] := by
  unfold Tr.enc Tr.rest Tr.kind Tr.word; rw [h]; rfl
theorem enc_gate {p : Tr} {g : Str} (h : p.gate = some g) : p.enc = .tuple [.str "gate", .str p.who, .int p.hour, .str g, .str (if p.inn = true then "in" else "out")] := by
  unfold Tr.enc Tr.rest Tr.kind Tr.word; rw [h]; rfl
theorem s1 : ((("within" : Str) == ("without" : Str)) = false) ∧ ((("within" : Str) == ("in" : Str)) = false) ∧ ((("within" : Str) == ("out" : Str)) = false) ∧ ((("out" : Str) == ("in" : Str)) = false) ∧ ((("out" : Str) == ("without" : Str)) = false) ∧ ((("in" : Str) == ("without" : Str)) = false) ∧ ((("in" : Str) == ("out" : Str)) = false) := by decide +kernel
theorem finds_ok (p : Tr) : m_finds [.d p.enc] = .ok (.bool p.finds) [] := by
  obtain ⟨a1, a2, a3, a4, a5, a6, a7⟩ := s1
  cases h : p.gate with
  | none =>
    rw [enc_seen h]
    cases hi : p.inn <;> simp [m_finds, b_finds, atI, ixN, inF, Tr.finds, h, hi, a1, a2, a3, a4, a5, a6, a7]
  | some g =>
    rw [enc_gate h]
    cases hi : p.inn <;> simp [m_finds, b_finds, atI, ixN, inF, Tr.finds, h, hi, a1, a2, a3, a4, a5, a6, a7]
theorem leaves_ok (p : Tr) : m_leaves [.d p.enc] = .ok (.bool p.inn) [] := by
  obtain ⟨a1, a2, a3, a4, a5, a6, a7⟩ := s1
  cases h : p.gate with
  | none =>
    rw [enc_seen h]
    cases hi : p.inn <;> simp [m_leaves, b_leaves, atI, ixN, inF, h, hi, a1, a2, a3, a4, a5, a6, a7]
  | some g =>
    rw [enc_gate h]
    cases hi : p.inn <;> simp [m_leaves, b_leaves, atI, ixN, inF, h, hi, a1, a2, a3, a4, a5, a6, a7]
theorem s2 : (("within" : Str) = ("without" : Str)) = False ∧ (("within" : Str) = ("in" : Str)) = False ∧ (("within" : Str) = ("out" : Str)) = False ∧ (("out" : Str) = ("within" : Str)) = False ∧ (("without" : Str) = ("within" : Str)) = False ∧ (("in" : Str) = ("within" : Str)) = False ∧ (("without" : Str) = ("out" : Str)) = False ∧ (("in" : Str) = ("out" : Str)) = False ∧ (("without" : Str) = ("in" : Str)) = False ∧ (("out" : Str) = ("in" : Str)) = False ∧ (("seen" : Str) = ("gate" : Str)) = False ∧ (("gate" : Str) = ("seen" : Str)) = False := by
  refine ⟨?_, ?_, ?_, ?_, ?_, ?_, ?_, ?_, ?_, ?_, ?_, ?_⟩ <;> exact eq_false (by decide +kernel)
theorem law_found_in_ok (p : Tr) : m__law_found_in [.d p.enc] = .ok (.bool p.finds) [] := by
  obtain ⟨a1, a2, a3, a4, a5, a6, a7, a8, a9, a10, a11, a12⟩ := s2
  cases h : p.gate with
  | none =>
    rw [enc_seen h]
    cases hi : p.inn <;> simp [m__law_found_in, b__law_found_in, atI, ixN, Tr.finds, h, hi, a1, a2, a3, a4, a5, a6, a7, a8, a9, a10]
  | some g =>
    rw [enc_gate h]
    cases hi : p.inn <;> simp [m__law_found_in, b__law_found_in, atI, ixN, Tr.finds, h, hi, a1, a2, a3, a4, a5, a6, a7, a8, a9, a10]
theorem law_left_in_ok (p : Tr) : m__law_left_in [.d p.enc] = .ok (.bool p.inn) [] := by
  obtain ⟨a1, a2, a3, a4, a5, a6, a7, a8, a9, a10, a11, a12⟩ := s2
  cases h : p.gate with
  | none =>
    rw [enc_seen h]
    cases hi : p.inn <;> simp [m__law_left_in, b__law_left_in, atI, ixN, h, hi, a1, a2, a3, a4, a5, a6, a7, a8, a9, a10]
  | some g =>
    rw [enc_gate h]
    cases hi : p.inn <;> simp [m__law_left_in, b__law_left_in, atI, ixN, h, hi, a1, a2, a3, a4, a5, a6, a7, a8, a9, a10]
/-! # equality of pages -/
theorem shaped_of {d : PyData} {n : Nat} (h : Sh n d) (hn : n ≤ 64) : SeqAt.shaped d = true := h.ok hn
theorem word_lay (p : Tr) : PyData.canLay0 (.str p.word) = true := by
  unfold Tr.word
  cases p.gate.isSome <;> cases p.inn <;> decide +kernel
theorem kind_lay (p : Tr) : PyData.canLay0 (.str p.kind) = true := by
  unfold Tr.kind
  cases p.gate.isSome <;> decide +kernel
theorem sh_tr {t : List Gate} {p : Tr} (h : p.Ok t) : Sh 1 p.enc := by
  refine sh_tuple (n := 0) (sh_cons (sh_str (kind_lay p)) (sh_cons (sh_str (lay_name h.nm).2) (sh_cons sh_int ?_)))
  unfold Tr.rest
  cases e : p.gate with
  | none => exact sh_cons (sh_str (word_lay p)) sh_nil
  | some g => exact sh_cons (sh_str (lay_name (h.gt g e).2).2) (sh_cons (sh_str (word_lay p)) sh_nil)
theorem eqv_str (x y : Str) : PyData.eqv (.str x) (.str y) = decide (x = y) := by
  show (x == y) = decide (x = y)
  rw [Bool.eq_iff_iff, beq_iff_eq, decide_eq_true_eq]
theorem eqv_int (x y : Int) : PyData.eqv (.int x) (.int y) = decide (x = y) := by
  show (x == y) = decide (x = y)
  rw [Bool.eq_iff_iff, beq_iff_eq, decide_eq_true_eq]
theorem tr_eqv (a b : Tr) : PyData.eqv a.enc b.enc = decide (a = b) := by
  obtain ⟨a1, a2, a3, a4, a5, a6, a7, a8, a9, a10, a11, a12⟩ := s2
  rw [Bool.eq_iff_iff, decide_eq_true_eq]
  constructor
  · intro h
    cases ha : a.gate with
    | none =>
      cases hb : b.gate with
      | none =>
        rw [enc_seen ha, enc_seen hb] at h
        have h : (PyData.eqv (.str "seen") (.str "seen") && (PyData.eqv (.str a.who) (.str b.who) && (PyData.eqv (.int a.hour) (.int b.hour) && (PyData.eqv (.str (if a.inn = true then "within" else "without")) (.str (if b.inn = true then "within" else "without")) && true)))) = true := h
        simp only [eqv_str, eqv_int, Bool.and_eq_true, decide_eq_true_eq, and_true] at h
        obtain ⟨_, h1, h2, h3⟩ := h
        have h4 : a.inn = b.inn := by cases x : a.inn <;> cases y : b.inn <;> simp [x, y, a1, a5] at h3 ⊢
        obtain ⟨w, o, g, i⟩ := a
        obtain ⟨w', o', g', i'⟩ := b
        simp only at *
        subst h1 h2 h4 ha hb; rfl
      | some g =>
        rw [enc_seen ha, enc_gate hb] at h
        have h : (PyData.eqv (.str "seen") (.str "gate") && (PyData.eqv (.str a.who) (.str b.who) && (PyData.eqv (.int a.hour) (.int b.hour) && (PyData.eqv (.str (if a.inn = true then "within" else "without")) (.str g) && false)))) = true := h
        simp only [Bool.and_false, Bool.false_eq_true] at h
    | some g =>
      cases hb : b.gate with
      | none =>
        rw [enc_gate ha, enc_seen hb] at h
        have h : (PyData.eqv (.str "gate") (.str "seen") && (PyData.eqv (.str a.who) (.str b.who) && (PyData.eqv (.int a.hour) (.int b.hour) && (PyData.eqv (.str g) (.str (if b.inn = true then "within" else "without")) && false)))) = true := h
        simp only [Bool.and_false, Bool.false_eq_true] at h
      | some g2 =>
        rw [enc_gate ha, enc_gate hb] at h
        have h : (PyData.eqv (.str "gate") (.str "gate") && (PyData.eqv (.str a.who) (.str b.who) && (PyData.eqv (.int a.hour) (.int b.hour) && (PyData.eqv (.str g) (.str g2) && (PyData.eqv (.str (if a.inn = true then "in" else "out")) (.str (if b.inn = true then "in" else "out")) && true))))) = true := h
        simp only [eqv_str, eqv_int, Bool.and_eq_true, decide_eq_true_eq, and_true] at h
        obtain ⟨_, h1, h2, h5, h3⟩ := h
        have h4 : a.inn = b.inn := by cases x : a.inn <;> cases y : b.inn <;> simp [x, y, a8, a10] at h3 ⊢
        obtain ⟨w, o, gg, i⟩ := a
        obtain ⟨w', o', gg', i'⟩ := b
        simp only at *
        subst h1 h2 h4 h5 ha hb; rfl
  · rintro rfl
    cases ha : a.gate with
    | none =>
      rw [enc_seen ha]
      show (PyData.eqv (.str "seen") (.str "seen") && (PyData.eqv (.str a.who) (.str a.who) && (PyData.eqv (.int a.hour) (.int a.hour) && (PyData.eqv (.str (if a.inn = true then "within" else "without")) (.str (if a.inn = true then "within" else "without")) && true)))) = true
      simp [eqv_str, eqv_int]
    | some g =>
      rw [enc_gate ha]
      show (PyData.eqv (.str "gate") (.str "gate") && (PyData.eqv (.str a.who) (.str a.who) && (PyData.eqv (.int a.hour) (.int a.hour) && (PyData.eqv (.str g) (.str g) && (PyData.eqv (.str (if a.inn = true then "in" else "out")) (.str (if a.inn = true then "in" else "out")) && true))))) = true
      simp [eqv_str, eqv_int]
theorem eqD_tr {t : List Gate} {a b : Tr} (ha : a.Ok t) (hb : b.Ok t) : eqD a.enc b.enc = some (decide (a = b)) := by
  have h : eqD a.enc b.enc = if SeqAt.shaped a.enc && SeqAt.shaped b.enc then some (PyData.eqv a.enc b.enc) else none := rfl
  rw [h, shaped_of (sh_tr ha) (by decide), shaped_of (sh_tr hb) (by decide), tr_eqv]; rfl
/-! # pages that gainsay each other -/
def Tr.same (a b : Tr) : Bool := decide (a.kind = b.kind) && (decide (a.who = b.who) && decide (a.hour = b.hour))
def gainB (a b : Tr) : Bool := a.same b && (a.gate.isSome || (a.inn != b.inn))
theorem cut3 (p : Tr) : cutG (.str p.kind :: .str p.who :: .int p.hour :: p.rest) none (some 3) = [PyData.str p.kind, .str p.who, .int p.hour] := by
  exact cutG_to _ 3
theorem same_eqv (a b : Tr) : PyData.eqv (.tuple [.str a.kind, .str a.who, .int a.hour]) (.tuple [.str b.kind, .str b.who, .int b.hour]) = a.same b := by
  show (PyData.eqv (.str a.kind) (.str b.kind) && (PyData.eqv (.str a.who) (.str b.who) && (PyData.eqv (.int a.hour) (.int b.hour) && true))) = _
  rw [eqv_str, eqv_str, eqv_int, Bool.and_true]; rfl
theorem sh_three {t : List Gate} {a : Tr} (h : a.Ok t) : Sh 1 (.tuple [.str a.kind, .str a.who, .int a.hour]) := sh_tuple (n := 0) (sh_cons (sh_str (kind_lay a)) (sh_cons (sh_str (lay_name h.nm).2) (sh_cons sh_int sh_nil)))
theorem shaped_three {t : List Gate} {a : Tr} (h : a.Ok t) : SeqAt.shaped (.tuple [.str a.kind, .str a.who, .int a.hour]) = true := shaped_of (sh_three h) (by decide)
theorem kind_gate (a : Tr) : decide (a.kind = "gate") = a.gate.isSome := by
  unfold Tr.kind
  cases a.gate.isSome <;> decide +kernel
theorem kind_seen (a : Tr) : decide (a.kind = "seen") = !a.gate.isSome := by
  unfold Tr.kind
  cases a.gate.isSome <;> decide +kernel
theorem kind_eq {a b : Tr} (h : a.kind = b.kind) : a.gate.isSome = b.gate.isSome := by rw [← kind_gate, ← kind_gate, h]
theorem gainsay_ok {t : List Gate} {a b : Tr} (ha : a.Ok t) (hb : b.Ok t) : m_gainsay [.d a.enc, .d b.enc] = .ok (.bool (gainB a b)) [] := by
  obtain ⟨a1, a2, a3, a4, a5, a6, a7, a8, a9, a10, a11, a12⟩ := s2
  have e1 := shaped_three ha
  have e2 := shaped_three hb
  have e := same_eqv a b
  have c1 := cut3 a
  have c2 := cut3 b
  have ea : a.enc = .tuple (.str a.kind :: .str a.who :: .int a.hour :: a.rest) := rfl
  have eb : b.enc = .tuple (.str b.kind :: .str b.who :: .int b.hour :: b.rest) := rfl
  have k : (a.kind = ("gate" : Str)) = (a.gate.isSome = true) := by
    have := kind_gate a
    rw [← this, decide_eq_true_eq]
  unfold gainB
  cases hs : a.same b with
  | false =>
    rw [ea, eb]
    rw [hs] at e
    unfold m_gainsay b_gainsay
    simp [c1, c2, e, e1, e2, fNe, fSl]
  | true =>
    rw [hs] at e
    have hk : a.gate.isSome = b.gate.isSome := kind_eq (of_decide_eq_true (Bool.and_eq_true_iff.mp hs).1)
    cases h1 : a.gate with
    | some g =>
      rw [h1] at k
      have r1 : a.rest = [.str g, .str a.word] := by unfold Tr.rest; rw [h1]
      rw [r1] at c1 ea
      rw [ea, eb]
      unfold m_gainsay b_gainsay
      simp [c1, c2, e, e1, e2, fNe, fSl, atI, ixN, k]
    | none =>
      rw [h1] at hk k
      have h2 : b.gate = none := by cases h : b.gate with
        | none => rfl
        | some g => rw [h] at hk; cases hk
      have r1 : a.rest = [.str (if a.inn = true then "within" else "without")] := by unfold Tr.rest Tr.word; rw [h1]; rfl
      have r2 : b.rest = [.str (if b.inn = true then "within" else "without")] := by unfold Tr.rest Tr.word; rw [h2]; rfl
      rw [r1] at c1 ea
      rw [r2] at c2 eb
      rw [ea, eb]
      unfold m_gainsay b_gainsay
      have c4 : ∀ x y z w : PyData, cutG [x, y, z, w] none (some 3) = [x, y, z] := fun _ _ _ _ => cutG_to _ 3
      cases x : a.inn <;> cases y : b.inn <;> simp [c4, e, e1, e2, fNe, fSl, atI, ixN, k, a1, a5]
def NoLie (ps : List Tr) : Prop := ∀ (i j : Nat) (a b : Tr), i < j → ps[i]? = some a → ps[j]? = some b → gainB a b = false
theorem enum_of {α : Type} (enc : α → PyData) (d : α) (ps : List α) : enumD (ps.map enc) = (List.range ps.length).map fun i : Nat => PyData.tuple [.int (i : Int), enc (ps.getD i d)] := by
  refine List.ext_getElem? fun i => ?_
  by_cases hi : i < ps.length
  · have h1 : i < (enumD (ps.map enc)).length := by rw [enumD_len, List.length_map]; exact hi
    obtain ⟨x, hx, e⟩ := enumD_get (List.getElem?_eq_getElem h1)
    rw [List.getElem?_eq_getElem h1, e, List.getElem?_map, List.getElem?_range hi]
    rw [List.getElem?_map, List.getElem?_eq_getElem hi] at hx
    cases hx
    show some _ = some (PyData.tuple [PyData.int (i : Int), enc (ps.getD i d)])
    rw [List.getD_eq_getElem?_getD, List.getElem?_eq_getElem hi]; rfl
  · rw [List.getElem?_eq_none (by rw [enumD_len, List.length_map]; omega), List.getElem?_eq_none (by rw [List.length_map, List.length_range]; omega)]
def Tr.at (ps : List Tr) (i : Nat) : Tr := ps.getD i default
theorem at_some {ps : List Tr} {i : Nat} (h : i < ps.length) : ps[i]? = some (Tr.at ps i) := by
  unfold Tr.at; rw [List.getD_eq_getElem?_getD, List.getElem?_eq_getElem h]; rfl
theorem at_mem {ps : List Tr} {i : Nat} (h : i < ps.length) : Tr.at ps i ∈ ps := List.mem_of_getElem? (at_some h)
theorem atI_trs {ps : List Tr} {i : Nat} (h : i < ps.length) : atI (ps.map Tr.enc) (i : Int) = some (Tr.at ps i).enc := by
  unfold atI
  rw [List.length_map, ixN_nat h]
  show (ps.map Tr.enc)[i]? = _
  rw [List.getElem?_map, at_some h]; rfl
theorem rngOk_nat {n : Nat} (h : n ≤ 1000000) : rngOk (n : Int) = true := rngOk_iff.mpr (by omega)
theorem for_same {α : Type} {g : MG} {tb : MS} {ks : List Nat} (enc : α → PyData) (xs : List α) {ρ : Env} (h : ∀ x ∈ xs, ∃ ρ1, g (enc x) ρ = some ρ1 ∧ wipeE ρ1 ks = ρ ∧ tb ρ1 = .ok .nx ρ1) : forL g tb ks (xs.map enc) ρ = .ok .nx ρ := by
  obtain ⟨ρ', e, rfl⟩ := for_inv (g := g) (tb := tb) (ks := ks) enc xs (fun _ ρ' => ρ' = ρ) ρ rfl fun i x ρ' hx hρ => by
    obtain ⟨ρ1, a, b, c⟩ := h x (List.mem_of_getElem? hx)
    rw [hρ]
    exact ⟨ρ1, ρ1, a, Or.inl c, b⟩
  exact e
theorem lie_of_tracks_ok {t : List Gate} {ps : List Tr} (hok : ∀ p ∈ ps, p.Ok t) (hl : ps.length ≤ 50000) (hn : NoLie ps) : m_lie_of_tracks [.d (.list (ps.map Tr.enc))] = .ok .none [] := by
  have inner : ∀ i, i < ps.length → forL (gN 3) l_lie_of_tracks_0 [3] (rngD ((i : Int) + 1) (((ps.length : Int) - ((i : Int) + 1)).toNat)) [some (.d (.list (ps.map Tr.enc))), some (.d (.int (i : Int))), some (.d (Tr.at ps i).enc), none] = .ok .nx [some (.d (.list (ps.map Tr.enc))), some (.d (.int (i : Int))), some (.d (Tr.at ps i).enc), none] := by
    intro i hi
    rw [rngD_eq]
    refine for_same _ _ fun j hj => ⟨_, rfl, rfl, ?_⟩
    have hj := List.mem_range.mp hj
    have e : ((i : Int) + 1 + (j : Int)) = ((i + 1 + j : Nat) : Int) := by omega
    have hj2 : i + 1 + j < ps.length := by omega
    have g1 := gainsay_ok (hok _ (at_mem hi)) (hok _ (at_mem hj2))
    rw [hn i (i + 1 + j) _ _ (by omega) (at_some hi) (at_some hj2)] at g1
    have g2 := atI_trs hj2
    rw [e]
    unfold l_lie_of_tracks_0
    walk_at "fx"
  have outer : forL (gT [gN 1, gN 2]) l_lie_of_tracks_1 [1, 2, 3] (enumD (ps.map Tr.enc)) [some (.d (.list (ps.map Tr.enc))), none, none, none] = .ok .nx [some (.d (.list (ps.map Tr.enc))), none, none, none] := by
    rw [enum_of Tr.enc default]
    refine for_same _ _ fun i hi => ⟨_, rfl, rfl, ?_⟩
    have hi : i < ps.length := List.mem_range.mp hi
    have e := inner i hi
    unfold Tr.at at e
    have e1 : rngOk ((i : Int) + 1) = true := rngOk_iff.mpr (by omega)
    have e2 : rngOk (ps.length : Int) = true := rngOk_iff.mpr (by omega)
    have e3 : (ps.map Tr.enc).length = ps.length := List.length_map _
    unfold l_lie_of_tracks_1
    walk_at "fx"
  unfold m_lie_of_tracks b_lie_of_tracks
  walk_at "fx"
/-! # the hours at which a gate is shut, and gaps -/
theorem open_per (g : Gate) (h : Int) : openBy g (h + 24) = openBy g h := by
  unfold openBy
  rw [show (h + 24 - g.opens) % 24 = (h - g.opens) % 24 by omega]
theorem atI_last {ds : List PyData} (h : 0 < ds.length) : atI ds (-1) = some (ds.getD (ds.length - 1) .none) := by
  unfold atI ixN
  rw [if_neg (by decide), if_pos (by omega)]
  show ds[((-1 : Int) + (ds.length : Int)).toNat]? = _
  have e : ((-1 : Int) + (ds.length : Int)).toNat = ds.length - 1 := by omega
  rw [e, List.getD_eq_getElem?_getD, List.getElem?_eq_getElem (by omega)]; rfl
def isShut (t : List Gate) (h : Int) : Bool := !(shutB t h).isEmpty
theorem shut_per (t : List Gate) (h : Int) (k : Nat) : isShut t (h + 24 * (k : Int)) = isShut t h := by
  induction k with
  | zero => rw [show h + 24 * ((0 : Nat) : Int) = h by omega]
  | succ k ih =>
    rw [← ih, show h + 24 * ((k + 1 : Nat) : Int) = h + 24 * (k : Int) + 24 by omega]
    unfold isShut shutB
    have e : (fun g : Gate => !openBy g (h + 24 * (k : Int) + 24)) = fun g => !openBy g (h + 24 * (k : Int)) := funext fun g => by rw [open_per]
    rw [e]
/-- the hours from lo on, n of them, at which some gate is shut -/
def shutIn (t : List Gate) (lo : Int) (n : Nat) : List Int := (((List.range n).map fun k : Nat => lo + (k : Int)).filter (isShut t))
def firstN (lo hi : Int) : Nat := (min hi (lo + 24 - 1) + 1 - lo).toNat
def lastLo (lo hi : Int) : Int := max lo (hi - 24 + 1)
def lastN (lo hi : Int) : Nat := (hi + 1 - lastLo lo hi).toNat
def edges (t : List Gate) (lo hi : Int) : Option (Int × Int) :=
  match shutIn t lo (firstN lo hi), (shutIn t (lastLo lo hi) (lastN lo hi)).getLast? with
  | a :: _, some b => some (a, b)
  | _, _ => none
def edgesD : Option (Int × Int) → PyData
  | none => .tuple [.none, .none]
  | some (a, b) => .tuple [.int a, .int b]
theorem shut_in_mem {t : List Gate} {lo h : Int} {n : Nat} : h ∈ shutIn t lo n ↔ lo ≤ h ∧ h < lo + (n : Int) ∧ isShut t h = true := by
  unfold shutIn
  rw [List.mem_filter, List.mem_map]
  constructor
  · rintro ⟨⟨k, hk, rfl⟩, hs⟩
    have := List.mem_range.mp hk
    exact ⟨by omega, by omega, hs⟩
  · rintro ⟨h1, h2, hs⟩
    exact ⟨⟨(h - lo).toNat, List.mem_range.mpr (by omega), by omega⟩, hs⟩
theorem last_there {t : List Gate} {lo hi : Int} (h : shutIn t lo (firstN lo hi) ≠ []) : shutIn t (lastLo lo hi) (lastN lo hi) ≠ [] := by
  obtain ⟨x, hx⟩ := List.exists_mem_of_ne_nil _ h
  obtain ⟨h1, h2, hs⟩ := shut_in_mem.mp hx
  unfold firstN at h2
  by_cases hle : hi ≤ lo + 23
  · have : x ∈ shutIn t (lastLo lo hi) (lastN lo hi) := shut_in_mem.mpr ⟨by unfold lastLo; omega, by unfold lastN lastLo; omega, hs⟩
    exact List.ne_nil_of_mem this
  · -- some hour of the last day is at the same clock
    have e : ∃ k : Nat, hi - 24 + 1 ≤ x + 24 * (k : Int) ∧ x + 24 * (k : Int) ≤ hi := ⟨((hi - x) / 24).toNat, by omega, by omega⟩
    obtain ⟨k, k1, k2⟩ := e
    have : x + 24 * (k : Int) ∈ shutIn t (lastLo lo hi) (lastN lo hi) := shut_in_mem.mpr ⟨by unfold lastLo; omega, by unfold lastN lastLo; omega, by rw [shut_per]; exact hs⟩
    exact List.ne_nil_of_mem this
theorem rngD_ints (lo : Int) (n : Nat) : rngD lo n = ((List.range n).map fun k : Nat => lo + (k : Int)).map .int := by
  unfold rngD
  rw [List.map_map]; rfl
theorem shaped_nil : SeqAt.shaped (.list []) = true := by decide
theorem shaped_ints (l : List Int) : SeqAt.shaped (.list (l.map .int)) = true := shaped_of (sh_list (n := 0) (sh_map fun _ _ => sh_int)) (by decide)
theorem shaped_names {l : List Str} (h : ∀ s ∈ l, nameS s = true) : SeqAt.shaped (.list (l.map .str)) = true := shaped_of (sh_list (n := 0) (sh_map fun s hs => sh_str (lay_name (h s hs)).2)) (by decide)
theorem shut_nm {t : List Gate} (h : ∀ g ∈ t, g.Ok) (x : Int) : ∀ s ∈ shutB t x, nameS s = true := fun s hs => by
  obtain ⟨g, hg, rfl⟩ := List.mem_map.mp hs
  exact (h g (List.mem_filter.mp hg).1).nm
theorem shut_some {t : List Gate} {x : Int} : (!((shutB t x).map PyData.str).isEmpty) = isShut t x := by
  unfold isShut; rw [List.isEmpty_map]
theorem shut_hours_ok {t : List Gate} (ht : ∀ g ∈ t, g.Ok) (hl : t.length ≤ 50000) {lo hi : Int} (l0 : -1 ≤ lo) (l1 : lo ≤ 1000000000000) (h0 : -1 ≤ hi) (h1 : hi ≤ 1000000000000) : m_shut_hours [.d (townEnc t), .d (.int lo), .d (.int hi)] = .ok (edgesD (edges t lo hi)) [] := by
  have hf : firstN lo hi ≤ 24 := by unfold firstN; omega
  have hn : lastN lo hi ≤ 24 := by unfold lastN lastLo; omega
  have hll : -100 ≤ lastLo lo hi ∧ lastLo lo hi ≤ 1000000000100 := by unfold lastLo; omega
  have e1 : rngOk lo = true := rngOk_iff.mpr (by omega)
  have e2 : rngOk (min hi (lo + 24 - 1) + 1) = true := rngOk_iff.mpr (by omega)
  have e3 : rngOk (max lo (hi - 24 + 1)) = true := rngOk_iff.mpr (by omega)
  have e4 : rngOk (hi + 1) = true := rngOk_iff.mpr (by omega)
  have c1 : lcL (gN 5) d_shut_hours_0 c_shut_hours_0 [5] (rngD lo (min hi (lo + 24 - 1) + 1 - lo).toNat) [] [some (.d (townEnc t)), some (.d (.int lo)), some (.d (.int hi)), none, none, none] = .ok ((shutIn t lo (firstN lo hi)).map .int) [some (.d (townEnc t)), some (.d (.int lo)), some (.d (.int hi)), none, none, none] := by
    rw [rngD_ints]
    refine lc_run (by rfl) PyData.int (isShut t) PyData.int _ [] (by rw [List.length_map, List.length_range]; unfold firstN at hf; simp only [List.length_nil]; omega) fun x hx => ⟨_, rfl, rfl, ?_, fun _ => ?_⟩
    · have k := shut_at_ok t x (by omega)
      have k2 := shaped_names (shut_nm ht x)
      have k3 := shaped_nil
      have k4 := eqv_nil ((shutB t x).map .str)
      have k5 := shut_some (t := t) (x := x)
      unfold d_shut_hours_0
      walk_at "fx"
    · unfold c_shut_hours_0
      walk_at "fx"
  have sh1 := shaped_ints (shutIn t lo (firstN lo hi))
  have sh2 := eqv_nil ((shutIn t lo (firstN lo hi)).map .int)
  have sh3 := shaped_nil
  rw [List.isEmpty_map] at sh2
  cases hb : (shutIn t lo (firstN lo hi)).isEmpty with
  | true =>
    have e0 : edges t lo hi = none := by unfold edges; rw [List.isEmpty_iff.mp hb]
    rw [e0]
    unfold edgesD
    unfold m_shut_hours b_shut_hours
    walk_at "fx"
  | false =>
    have hne : shutIn t lo (firstN lo hi) ≠ [] := fun z => by rw [z] at hb; cases hb
    obtain ⟨b, hb2⟩ : ∃ b, (shutIn t (lastLo lo hi) (lastN lo hi)).getLast? = some b := by
      cases e : (shutIn t (lastLo lo hi) (lastN lo hi)).getLast? with
      | none => exact absurd (List.getLast?_eq_none_iff.mp e) (last_there hne)
      | some b => exact ⟨b, rfl⟩
    obtain ⟨a, r, ea⟩ : ∃ a r, shutIn t lo (firstN lo hi) = a :: r := List.exists_cons_of_ne_nil hne
    have e0 : edges t lo hi = some (a, b) := by unfold edges; rw [ea, hb2]
    have hlast : atI ((shutIn t (lastLo lo hi) (lastN lo hi)).map PyData.int) (-1) = some (.int b) := by
      have hpos : 0 < ((shutIn t (lastLo lo hi) (lastN lo hi)).map PyData.int).length := by
        rw [List.length_map]; exact List.length_pos_iff.mpr (last_there hne)
      rw [atI_last hpos, List.getD_eq_getElem?_getD, List.length_map, List.getElem?_map]
      rw [List.getLast?_eq_getElem?] at hb2
      rw [hb2]; rfl
    have hfirst : atI ((shutIn t lo (firstN lo hi)).map PyData.int) 0 = some (.int a) := by rw [ea]; simp [atI, ixN]
    have c2 : lcL (gN 5) d_shut_hours_1 c_shut_hours_1 [5] (rngD (max lo (hi - 24 + 1)) (hi + 1 - max lo (hi - 24 + 1)).toNat) [] [some (.d (townEnc t)), some (.d (.int lo)), some (.d (.int hi)), some (.d (.list ((shutIn t lo (firstN lo hi)).map .int))), none, none] = .ok ((shutIn t (lastLo lo hi) (lastN lo hi)).map .int) [some (.d (townEnc t)), some (.d (.int lo)), some (.d (.int hi)), some (.d (.list ((shutIn t lo (firstN lo hi)).map .int))), none, none] := by
      rw [rngD_ints]
      refine lc_run (by rfl) PyData.int (isShut t) PyData.int _ [] (by rw [List.length_map, List.length_range]; unfold lastN lastLo at hn; simp only [List.length_nil]; omega) fun x hx => ⟨_, rfl, rfl, ?_, fun _ => ?_⟩
      · have k := shut_at_ok t x (by omega)
        have k2 := shaped_names (shut_nm ht x)
        have k3 := shaped_nil
        have k4 := eqv_nil ((shutB t x).map .str)
        have k5 := shut_some (t := t) (x := x)
        unfold d_shut_hours_1
        walk_at "fx"
      · unfold c_shut_hours_1
        walk_at "fx"
    rw [e0]
    unfold edgesD
    unfold m_shut_hours b_shut_hours
    clear ea e0 hb2 hne
    walk_at "fx"
theorem tr_len (p : Tr) : (PyData.str p.kind :: .str p.who :: .int p.hour :: p.rest).length = 4 ∨ (PyData.str p.kind :: .str p.who :: .int p.hour :: p.rest).length = 5 := by
  unfold Tr.rest
  cases p.gate with
  | none => exact Or.inl rfl
  | some g => exact Or.inr rfl
def Tr.cells (p : Tr) : List PyData := .str p.kind :: .str p.who :: .int p.hour :: p.rest
theorem enc_cells (p : Tr) : p.enc = .tuple p.cells := rfl
theorem ix_tr (p : Tr) (k : Nat) (hk : k < 4) : atI p.cells (k : Int) = (PyData.str p.kind :: .str p.who :: .int p.hour :: p.rest)[k]? := by
  show atI (PyData.str p.kind :: .str p.who :: .int p.hour :: p.rest) (k : Int) = _
  unfold atI
  rw [ixN_nat (by rcases tr_len p with e | e <;> rw [e] <;> omega)]; rfl
theorem ix_kind (p : Tr) : atI p.cells 0 = some (.str p.kind) := ix_tr p 0 (by decide)
theorem ix_who (p : Tr) : atI p.cells 1 = some (.str p.who) := ix_tr p 1 (by decide)
theorem ix_hour (p : Tr) : atI p.cells 2 = some (.int p.hour) := ix_tr p 2 (by decide)
def gapHi (p : Tr) : Int := p.hour - (if p.gate.isSome then 0 else 1)
def gapOf (t : List Gate) (ps : List Tr) (i j : Nat) : Option (Int × Int) := edges t (Tr.at ps i).hour (gapHi (Tr.at ps j))
theorem gap_between_ok {t : List Gate} (ht : ∀ g ∈ t, g.Ok) (hl : t.length ≤ 50000) {ps : List Tr} (hok : ∀ p ∈ ps, p.Ok t) {i j : Nat} (hi : i < ps.length) (hj : j < ps.length) : m_gap_between [.d (townEnc t), .d (.list (ps.map Tr.enc)), .d (.int (i : Int)), .d (.int (j : Int))] = .ok (edgesD (gapOf t ps i j)) [] := by
  have k1 := atI_trs hi
  have k2 := atI_trs hj
  have a := hok _ (at_mem hi)
  have b := hok _ (at_mem hj)
  have a0 := a.h0; have a1 := a.h1; have b0 := b.h0; have b1 := b.h1
  have e := shut_hours_ok ht hl (lo := (Tr.at ps i).hour) (hi := gapHi (Tr.at ps j)) (by omega) a1 (by unfold gapHi; split <;> omega) (by unfold gapHi; split <;> omega)
  rw [enc_cells] at k1 k2
  have k3 := ix_kind (Tr.at ps j)
  have k4 := ix_hour (Tr.at ps j)
  have k5 := ix_hour (Tr.at ps i)
  have k6 : (Tr.at ps j).hour - (if decide ((Tr.at ps j).kind = "seen") = true then 1 else 0) = gapHi (Tr.at ps j) := by
    rw [kind_seen]; unfold gapHi
    cases (Tr.at ps j).gate <;> rfl
  unfold gapOf
  unfold m_gap_between b_gap_between
  walk_at "fx"
/-! # one's track -/
def kindI (p : Tr) : Int := if p.gate.isSome then 1 else 0
def keyAt (ps : List Tr) (i : Nat) : Key3 := ((Tr.at ps i).hour, kindI (Tr.at ps i), (i : Int))
def keysOf (ps : List Tr) (who : Str) : List Key3 := ((List.range ps.length).filter fun i => decide ((Tr.at ps i).who = who)).map (keyAt ps)
def rowOf (ps : List Tr) (who : Str) : List Nat := (sort3 (keysOf ps who)).map fun k => k.2.2.toNat
def newP (ps : List Tr) (i : Nat) : Bool := (List.range i).all fun k => !decide (Tr.at ps k = Tr.at ps i)
def trackOf (ps : List Tr) (who : Str) : List Nat := (rowOf ps who).filter (newP ps)
def stepT (ps : List Tr) (found : List Nat) (i : Nat) : List Nat := match found.getLast? with
  | none => [i]
  | some l => if Tr.at ps l = Tr.at ps i then found else found ++ [i]
def kl (ps : List Tr) (i j : Nat) : Prop := lex3 (keyAt ps i) (keyAt ps j) = true
theorem key_place {ps : List Tr} {who : Str} {k : Key3} (h : k ∈ keysOf ps who) : ∃ i : Nat, i < ps.length ∧ (Tr.at ps i).who = who ∧ k = keyAt ps i := by
  obtain ⟨i, hi, rfl⟩ := List.mem_map.mp h
  obtain ⟨h1, h2⟩ := List.mem_filter.mp hi
  exact ⟨i, List.mem_range.mp h1, of_decide_eq_true h2, rfl⟩
theorem keys_nodup (ps : List Tr) (who : Str) : (keysOf ps who).Nodup := by
  unfold keysOf
  have hn : ((List.range ps.length).filter fun i => decide ((Tr.at ps i).who = who)).Nodup := List.Pairwise.sublist List.filter_sublist List.nodup_range
  refine List.pairwise_map.mpr (hn.imp fun {a b} h z => h ?_)
  have : (a : Int) = (b : Int) := congrArg (fun k : Key3 => k.2.2) z
  omega
theorem sort_row (ps : List Tr) (who : Str) : sort3 (keysOf ps who) = (rowOf ps who).map (keyAt ps) := by
  unfold rowOf
  rw [List.map_map]
  refine (List.map_id _).symm.trans (List.map_congr_left fun k hk => ?_)
  obtain ⟨i, hi, hw, rfl⟩ := key_place ((sort3_perm _).mem_iff.mp hk)
  show keyAt ps i = keyAt ps ((i : Int).toNat)
  rw [Int.toNat_natCast]
theorem row_mem {ps : List Tr} {who : Str} {i : Nat} : i ∈ rowOf ps who ↔ i < ps.length ∧ (Tr.at ps i).who = who := by
  unfold rowOf
  rw [List.mem_map]
  constructor
  · rintro ⟨k, hk, rfl⟩
    obtain ⟨i, hi, hw, rfl⟩ := key_place ((sort3_perm _).mem_iff.mp hk)
    show (i : Int).toNat < _ ∧ (Tr.at ps (i : Int).toNat).who = who
    rw [Int.toNat_natCast]; exact ⟨hi, hw⟩
  · rintro ⟨hi, hw⟩
    refine ⟨keyAt ps i, (sort3_perm _).mem_iff.mpr (List.mem_map.mpr ⟨i, List.mem_filter.mpr ⟨List.mem_range.mpr hi, decide_eq_true hw⟩, rfl⟩), ?_⟩
    show (i : Int).toNat = i
    exact Int.toNat_natCast i
theorem row_len (ps : List Tr) (who : Str) : (rowOf ps who).length ≤ ps.length := by
  unfold rowOf
  rw [List.length_map, (sort3_perm _).length_eq]
  unfold keysOf
  rw [List.length_map]
  exact Nat.le_trans (List.length_filter_le _ _) (by rw [List.length_range]; exact Nat.le_refl _)
theorem row_sorted (ps : List Tr) (who : Str) : (rowOf ps who).Pairwise (kl ps) := by
  have h1 := sort3_sorted (keysOf ps who)
  have h2 : (sort3 (keysOf ps who)).Nodup := (sort3_perm _).nodup_iff.mpr (keys_nodup ps who)
  rw [sort_row] at h1 h2
  have h3 := List.pairwise_map.mp h1
  have h4 := List.pairwise_map.mp h2
  refine (h3.and h4).imp fun {a b} h => ?_
  show lex3 (keyAt ps a) (keyAt ps b) = true
  cases e : lex3 (keyAt ps a) (keyAt ps b) with
  | true => rfl
  | false => exact absurd (key3_ext e h.1) h.2
theorem nolie_eq {ps : List Tr} (hn : NoLie ps) {i j : Nat} (hi : i < ps.length) (hj : j < ps.length) (hne : i ≠ j) (hw : (Tr.at ps i).who = (Tr.at ps j).who) (hh : (Tr.at ps i).hour = (Tr.at ps j).hour) (hk : kindI (Tr.at ps i) = kindI (Tr.at ps j)) : Tr.at ps i = Tr.at ps j := by
  have main : ∀ a b : Tr, a.who = b.who → a.hour = b.hour → kindI a = kindI b → gainB a b = false → a = b := by
    intro a b hw hh hk hg
    have hs : a.gate.isSome = b.gate.isSome := by
      unfold kindI at hk
      cases x : a.gate.isSome <;> cases y : b.gate.isSome <;> rw [x, y] at hk <;> first | rfl | cases hk
    have hkk : a.kind = b.kind := by unfold Tr.kind; rw [hs]
    unfold gainB Tr.same at hg
    rw [decide_eq_true hkk, decide_eq_true hw, decide_eq_true hh] at hg
    simp only [Bool.true_and, Bool.or_eq_false_iff] at hg
    have ga : a.gate = none := by cases h : a.gate with
      | none => rfl
      | some g => rw [h] at hg; cases hg.1
    have gb : b.gate = none := by cases h : b.gate with
      | none => rfl
      | some g => rw [hs, h] at hg; cases hg.1
    have hin : a.inn = b.inn := by have := hg.2; revert this; cases a.inn <;> cases b.inn <;> intro h <;> first | rfl | cases h
    obtain ⟨w, o, g, i⟩ := a
    obtain ⟨w', o', g', i'⟩ := b
    simp only at *
    subst hw hh hin ga gb; rfl
  rcases Nat.lt_or_ge i j with h | h
  · exact main _ _ hw hh hk (hn i j _ _ h (at_some hi) (at_some hj))
  · exact (main _ _ hw.symm hh.symm hk.symm (hn j i _ _ (by omega) (at_some hj) (at_some hi))).symm
theorem fresh_no {ps : List Tr} {k i : Nat} (h : k < i) (e : Tr.at ps k = Tr.at ps i) : newP ps i = false := by
  unfold newP
  rw [List.all_eq_false]
  exact ⟨k, List.mem_range.mpr h, by rw [decide_eq_true e]; decide⟩
theorem fresh_yes {ps : List Tr} {i : Nat} (h : ∀ k, k < i → ¬ Tr.at ps k = Tr.at ps i) : newP ps i = true := by
  unfold newP
  rw [List.all_eq_true]
  intro k hk
  rw [decide_eq_false (h k (List.mem_range.mp hk))]; rfl
theorem kl_iff {ps : List Tr} {i j : Nat} : kl ps i j ↔ (Tr.at ps i).hour < (Tr.at ps j).hour ∨ ((Tr.at ps i).hour = (Tr.at ps j).hour ∧ (kindI (Tr.at ps i) < kindI (Tr.at ps j) ∨ (kindI (Tr.at ps i) = kindI (Tr.at ps j) ∧ (i : Int) < (j : Int)))) := lex3_iff
theorem fold_fresh {ps : List Tr} {who : Str} {L : List Nat} (hs : L.Pairwise (kl ps)) (hm : ∀ i, i ∈ L ↔ i < ps.length ∧ (Tr.at ps i).who = who) (hn : NoLie ps) : ∀ (S P : List Nat), L = P ++ S → (P = [] ∨ ∃ l f, l ∈ P ∧ (∀ x ∈ P, x = l ∨ kl ps x l) ∧ (P.filter (newP ps)).getLast? = some f ∧ Tr.at ps f = Tr.at ps l) → S.foldl (stepT ps) (P.filter (newP ps)) = L.filter (newP ps)
  | [], P, e, _ => by rw [e, List.append_nil]; rfl
  | i :: S, P, e, h => by
    have hpw := hs
    rw [e] at hpw
    obtain ⟨hP, hS, hPS⟩ := List.pairwise_append.mp hpw
    obtain ⟨hi1, hi2⟩ := (hm i).mp (by rw [e]; exact List.mem_append_right _ List.mem_cons_self)
    have before : ∀ k, k < i → Tr.at ps k = Tr.at ps i → k ∈ P := by
      intro k hk he
      have hk2 : k ∈ L := (hm k).mpr ⟨by omega, by rw [he]; exact hi2⟩
      rw [e] at hk2
      rcases List.mem_append.mp hk2 with z | z
      · exact z
      · rcases List.mem_cons.mp z with z | z
        · omega
        · have := kl_iff.mp ((List.pairwise_cons.mp hS).1 k z)
          rw [he] at this
          omega
    have e2 : L = (P ++ [i]) ++ S := by rw [e, List.append_assoc]; rfl
    have hf : (P ++ [i]).filter (newP ps) = P.filter (newP ps) ++ (if newP ps i = true then [i] else []) := by
      rw [List.filter_append]
      congr 1
      by_cases c : newP ps i = true
      · rw [if_pos c, List.filter_cons_of_pos c]; rfl
      · rw [if_neg c, List.filter_cons_of_neg c]; rfl
    rcases h with rfl | ⟨l, f, hl, hall, hlast, hfl⟩
    · have fi : newP ps i = true := fresh_yes fun k hk he => nomatch before k hk he
      have step : stepT ps (([] : List Nat).filter (newP ps)) i = ([] ++ [i]).filter (newP ps) := by
        rw [hf, if_pos fi]; rfl
      show S.foldl (stepT ps) (stepT ps _ i) = _
      rw [step]
      refine fold_fresh hs hm hn S _ e2 (Or.inr ⟨i, i, List.mem_singleton.mpr rfl, fun x hx => Or.inl (List.mem_singleton.mp hx), ?_, rfl⟩)
      rw [hf, if_pos fi]; rfl
    · have hli : kl ps l i := hPS l hl i List.mem_cons_self
      have hl2 := (hm l).mp (by rw [e]; exact List.mem_append_left _ hl)
      have hall2 : ∀ x ∈ P ++ [i], x = i ∨ kl ps x i := by
        intro x hx
        rcases List.mem_append.mp hx with z | z
        · exact Or.inr (hPS x z i List.mem_cons_self)
        · exact Or.inl (List.mem_singleton.mp z)
      by_cases c : Tr.at ps f = Tr.at ps i
      · have hlt : l < i := by
          have := kl_iff.mp hli
          rw [← hfl, c] at this
          omega
        have fi : newP ps i = false := fresh_no hlt (by rw [← hfl]; exact c)
        have step : stepT ps (P.filter (newP ps)) i = (P ++ [i]).filter (newP ps) := by
          rw [hf, if_neg (by rw [fi]; decide), List.append_nil]
          unfold stepT
          rw [hlast]
          show (if _ then _ else _) = _
          rw [if_pos c]
        show S.foldl (stepT ps) (stepT ps _ i) = _
        rw [step]
        refine fold_fresh hs hm hn S _ e2 (Or.inr ⟨i, f, List.mem_append_right _ (List.mem_singleton.mpr rfl), hall2, ?_, c⟩)
        rw [hf, if_neg (by rw [fi]; decide), List.append_nil]; exact hlast
      · have fi : newP ps i = true := fresh_yes fun k hk he => by
          have hkP := before k hk he
          have h1 := kl_iff.mp hli
          rcases hall k hkP with z | z
          · subst z
            exact c (by rw [hfl]; exact he)
          · have h2 := kl_iff.mp z
            rw [he] at h2
            exact c (by
              rw [hfl]
              exact nolie_eq hn hl2.1 hi1 (fun z => by subst z; omega) (by rw [hl2.2, hi2]) (by omega) (by omega))
        have step : stepT ps (P.filter (newP ps)) i = (P ++ [i]).filter (newP ps) := by
          rw [hf, if_pos fi]
          unfold stepT
          rw [hlast]
          show (if _ then _ else _) = _
          rw [if_neg c]
        show S.foldl (stepT ps) (stepT ps _ i) = _
        rw [step]
        refine fold_fresh hs hm hn S _ e2 (Or.inr ⟨i, i, List.mem_append_right _ (List.mem_singleton.mpr rfl), hall2, ?_, rfl⟩)
        rw [hf, if_pos fi, List.getLast?_append]; rfl
theorem track_fold {ps : List Tr} (hn : NoLie ps) (who : Str) : (rowOf ps who).foldl (stepT ps) [] = trackOf ps who :=
  fold_fresh (row_sorted ps who) (fun i => row_mem) hn _ [] rfl (Or.inl rfl)
/-! # track_of and the law's own -/
theorem step_lt {ps : List Tr} {n : Nat} : ∀ {l found : List Nat}, (∀ i ∈ l, i < n) → (∀ i ∈ found, i < n) → ∀ i ∈ l.foldl (stepT ps) found, i < n
  | [], _, _, h => h
  | a :: r, found, hl, h => by
    refine step_lt (l := r) (fun i hi => hl i (List.mem_cons_of_mem _ hi)) fun i hi => ?_
    have ha := hl a List.mem_cons_self
    unfold stepT at hi
    split at hi
    · rw [List.mem_singleton.mp hi]; exact ha
    · split at hi
      · exact h i hi
      · rcases List.mem_append.mp hi with z | z
        · exact h i z
        · rw [List.mem_singleton.mp z]; exact ha
theorem step_len {ps : List Tr} : ∀ (l found : List Nat), (l.foldl (stepT ps) found).length ≤ found.length + l.length
  | [], _ => Nat.le_refl _
  | a :: r, found => by
    have h1 := step_len (ps := ps) r (stepT ps found a)
    have h2 : (stepT ps found a).length ≤ found.length + 1 := by
      unfold stepT
      split
      · exact Nat.le_add_left _ _
      · split
        · omega
        · rw [List.length_append]; exact Nat.le_refl _
    show (r.foldl (stepT ps) (stepT ps found a)).length ≤ found.length + (r.length + 1)
    omega
theorem tris_map : ∀ ks : List Key3, trisOf false (ks.map (triD false)) = some ks
  | [] => rfl
  | k :: r => by
    show (triOf false (triD false k)).bind (fun k => (trisOf false (r.map (triD false))).bind fun ks => some (k :: ks)) = _
    rw [tris_map r]; rfl
theorem sort_false (ks : List Key3) : fSort3 (.list (ks.map (triD false))) = some (.list ((sort3 ks).map (triD false))) := by
  simp only [fSort3, tris_map]
theorem tris_mapT : ∀ ks : List Key3, (∀ k ∈ ks, k.2.1 = 0 ∨ k.2.1 = 1) → trisOf true (ks.map (triD true)) = some ks
  | [], _ => rfl
  | k :: r, h => by
    show (triOf true (triD true k)).bind (fun k => (trisOf true (r.map (triD true))).bind fun ks => some (k :: ks)) = _
    rw [tris_mapT r fun x hx => h x (List.mem_cons_of_mem _ hx)]
    obtain ⟨a, m, b⟩ := k
    rcases h _ List.mem_cons_self with e | e <;> (simp only at e; subst e; rfl)
theorem sort_true (ks : List Key3) (h : ∀ k ∈ ks, k.2.1 = 0 ∨ k.2.1 = 1) : fSort3 (.list (ks.map (triD true))) = some (.list ((sort3 ks).map (triD true))) := by
  cases ks with
  | nil =>
    have e : sort3 [] = [] := List.Perm.eq_nil (sort3_perm [])
    unfold fSort3
    simp only [List.map_nil, trisOf, e]
  | cons k r =>
    have e : trisOf false ((k :: r).map (triD true)) = none := rfl
    have e2 := tris_mapT _ h
    simp only [fSort3, e, e2, Option.bind_some]
theorem eqv_cells (a b : Tr) : PyData.eqv (.tuple a.cells) (.tuple b.cells) = decide (a = b) := tr_eqv a b
theorem shaped_cells {t : List Gate} {a : Tr} (h : a.Ok t) : SeqAt.shaped (.tuple a.cells) = true := shaped_of (sh_tr h) (by decide)
def natD (i : Nat) : PyData := .int (i : Int)
theorem nat_ints (l : List Nat) : l.map natD = (l.map fun i : Nat => (i : Int)).map .int := by rw [List.map_map]; rfl
theorem shaped_nats (l : List Nat) : SeqAt.shaped (.list (l.map natD)) = true := by rw [nat_ints]; exact shaped_ints _
theorem last_nats {l : List Nat} {x : Nat} (h : l.getLast? = some x) : atI (l.map natD) (-1) = some (.int (x : Int)) := by
  have hpos : 0 < (l.map natD).length := by
    rw [List.length_map]
    cases l with
    | nil => cases h
    | cons a r => exact Nat.succ_pos _
  rw [atI_last hpos, List.getD_eq_getElem?_getD, List.length_map, List.getElem?_map]
  rw [List.getLast?_eq_getElem?] at h
  rw [h]; rfl
theorem track_of_ok {t : List Gate} {ps : List Tr} (hok : ∀ p ∈ ps, p.Ok t) (hl : ps.length ≤ 1000) (hn : NoLie ps) (who : Str) : m_track_of [.d (.list (ps.map Tr.enc)), .d (.str who)] = .fr (.lst ((trackOf ps who).map natD)) [] := by
  have c1 : lcL (gT [gN 6, gN 7]) d_track_of_0 c_track_of_0 [6, 7] (enumD (ps.map Tr.enc)) [] [some (.d (.list (ps.map Tr.enc))), some (.d (.str who)), none, none, none, none, none, none] = .ok ((keysOf ps who).map (triD false)) [some (.d (.list (ps.map Tr.enc))), some (.d (.str who)), none, none, none, none, none, none] := by
    rw [enum_of Tr.enc default]
    unfold keysOf
    rw [List.map_map]
    refine lc_run (by rfl) _ (fun i => decide ((Tr.at ps i).who = who)) (triD false ∘ keyAt ps) _ [] (by rw [List.length_range]; simp only [List.length_nil]; omega) fun i hi => ⟨_, rfl, rfl, ?_, fun _ => ?_⟩
    · have k1 := ix_who (Tr.at ps i)
      show d_track_of_0 [some (.d (.list (ps.map Tr.enc))), some (.d (.str who)), none, none, none, none, some (.d (.int (i : Int))), some (.d (.tuple (Tr.at ps i).cells))] = .ok _ [some (.d (.list (ps.map Tr.enc))), some (.d (.str who)), none, none, none, none, some (.d (.int (i : Int))), some (.d (.tuple (Tr.at ps i).cells))]
      unfold d_track_of_0
      walk_at "fx"
    · have k1 := ix_hour (Tr.at ps i)
      have k2 := ix_kind (Tr.at ps i)
      have k3 : triD false (keyAt ps i) = .tuple [.int (Tr.at ps i).hour, .int (if decide ((Tr.at ps i).kind = "gate") = true then 1 else 0), .int (i : Int)] := by rw [kind_gate]; rfl
      show c_track_of_0 [some (.d (.list (ps.map Tr.enc))), some (.d (.str who)), none, none, none, none, some (.d (.int (i : Int))), some (.d (.tuple (Tr.at ps i).cells))] = .ok (.d (triD false (keyAt ps i))) [some (.d (.list (ps.map Tr.enc))), some (.d (.str who)), none, none, none, none, some (.d (.int (i : Int))), some (.d (.tuple (Tr.at ps i).cells))]
      rw [k3]
      unfold c_track_of_0
      walk_at "fx"
  have c2 : ∃ ρ', forL (gT [gN 4, gN 5, gN 6]) l_track_of_0 [4, 5, 6] ((rowOf ps who).map fun i => triD false (keyAt ps i)) [some (.d (.list (ps.map Tr.enc))), some (.d (.str who)), some (.d (.list ((keysOf ps who).map (triD false)))), some (.o (.lst [])), none, none, none, none] = .ok .nx ρ' ∧ ρ' = [some (.d (.list (ps.map Tr.enc))), some (.d (.str who)), some (.d (.list ((keysOf ps who).map (triD false)))), some (.o (.lst ((((rowOf ps who).take (rowOf ps who).length).foldl (stepT ps) []).map natD))), none, none, none, none] := by
    refine for_inv _ _ (fun n ρ => ρ = [some (.d (.list (ps.map Tr.enc))), some (.d (.str who)), some (.d (.list ((keysOf ps who).map (triD false)))), some (.o (.lst ((((rowOf ps who).take n).foldl (stepT ps) []).map natD))), none, none, none, none]) _ rfl ?_
    rintro n i ρ hi rfl
    have hin := row_mem.mp (List.mem_of_getElem? hi)
    have hnl : n < (rowOf ps who).length := (List.getElem?_eq_some_iff.mp hi).1
    have hrl := row_len ps who
    have hstep : ((rowOf ps who).take (n + 1)).foldl (stepT ps) [] = stepT ps (((rowOf ps who).take n).foldl (stepT ps) []) i := by
      rw [List.take_succ, hi, List.foldl_append]; rfl
    have hall : ∀ j ∈ ((rowOf ps who).take n).foldl (stepT ps) [], j < ps.length := step_lt (fun j hj => (row_mem.mp (List.mem_of_mem_take hj)).1) (fun _ h => nomatch h)
    have hfl : (((rowOf ps who).take n).foldl (stepT ps) []).length ≤ 1000 := by
      refine Nat.le_trans (step_len _ _) ?_
      rw [List.length_take]
      show 0 + _ ≤ _
      omega
    rw [hstep]
    generalize ((rowOf ps who).take n).foldl (stepT ps) [] = found at hall hfl
    have hlen : (found.map natD).length < 100000 := by rw [List.length_map]; omega
    have k1 := shaped_nats found
    have k2 := shaped_nil
    have k3 := eqv_nil (found.map natD)
    rw [List.isEmpty_map] at k3
    have k4 := atI_trs hin.1
    rw [enc_cells] at k4
    have k5 := shaped_cells (hok _ (at_mem hin.1))
    refine ⟨[some (.d (.list (ps.map Tr.enc))), some (.d (.str who)), some (.d (.list ((keysOf ps who).map (triD false)))), some (.o (.lst (found.map natD))), some (.d (.int (Tr.at ps i).hour)), some (.d (.int (kindI (Tr.at ps i)))), some (.d (.int (i : Int))), none], [some (.d (.list (ps.map Tr.enc))), some (.d (.str who)), some (.d (.list ((keysOf ps who).map (triD false)))), some (.o (.lst ((stepT ps found i).map natD))), some (.d (.int (Tr.at ps i).hour)), some (.d (.int (kindI (Tr.at ps i)))), some (.d (.int (i : Int))), none], rfl, Or.inl ?_, rfl⟩
    unfold stepT
    cases hlst : found.getLast? with
    | none =>
      obtain rfl := List.getLast?_eq_none_iff.mp hlst
      unfold l_track_of_0
      simp only [List.map_nil] at k1
      have k3 : PyData.eqv (.list []) (.list []) = true := eqv_nil []
      simp only [List.map_nil, List.map_cons, natD]
      walk_at "fx"
    | some l =>
      have hlm : l ∈ found := List.mem_of_getLast? hlst
      have k6 := last_nats hlst
      have k7 := atI_trs (hall l hlm)
      rw [enc_cells] at k7
      have k8 := shaped_cells (hok _ (at_mem (hall l hlm)))
      have k9 := eqv_cells (Tr.at ps l) (Tr.at ps i)
      have hne : found.isEmpty = false := by cases found with
        | nil => cases hlst
        | cons a r => rfl
      show l_track_of_0 _ = .ok .nx [_, _, _, some (.o (.lst ((if Tr.at ps l = Tr.at ps i then found else found ++ [i]).map natD))), _, _, _, _]
      by_cases c : Tr.at ps l = Tr.at ps i
      · rw [decide_eq_true c] at k9
        rw [if_pos c]
        unfold l_track_of_0
        clear c hlst
        walk_at "fx"
      · rw [decide_eq_false c] at k9
        have e : (found ++ [i]).map natD = found.map natD ++ [.int (i : Int)] := by rw [List.map_append]; rfl
        rw [if_neg c, e]
        unfold l_track_of_0
        clear c hlst
        walk_at "fx"
  obtain ⟨ρ', e2, rfl⟩ := c2
  rw [List.take_length, track_fold hn] at e2
  have e3 := sort_false (keysOf ps who)
  rw [sort_row, List.map_map] at e3
  have e4 : (triD false ∘ keyAt ps) = fun i => triD false (keyAt ps i) := rfl
  rw [e4] at e3
  have e5 : trisOf false ((keysOf ps who).map (triD false)) = some (keysOf ps who) := tris_map _
  have e6 : (sort3 (keysOf ps who)).map (triD false) = (rowOf ps who).map fun i => triD false (keyAt ps i) := by rw [sort_row, List.map_map]; rfl
  unfold m_track_of b_track_of
  walk_at "fx"
/-! # the law's own track -/
theorem new_empty (ps : List Tr) (i : Nat) : (((List.range i).filter fun k => decide (Tr.at ps k = Tr.at ps i)).map natD).isEmpty = newP ps i := by
  rw [List.isEmpty_map, Bool.eq_iff_iff, List.isEmpty_iff, List.filter_eq_nil_iff]
  unfold newP
  rw [List.all_eq_true]
  constructor
  · intro h k hk
    have := h k hk
    cases e : decide (Tr.at ps k = Tr.at ps i) with
    | true => exact absurd e this
    | false => rfl
  · intro h k hk e
    have := h k hk
    rw [e] at this; cases this
theorem rngD_nat (n : Nat) : rngD 0 n = (List.range n).map natD := rngD0 n
theorem key_true (ps : List Tr) (i : Nat) : triD true (keyAt ps i) = .tuple [.int (Tr.at ps i).hour, .bool (decide ((Tr.at ps i).kind = "gate")), .int (i : Int)] := by
  rw [kind_gate]
  show PyData.tuple [.int (Tr.at ps i).hour, .bool (decide (kindI (Tr.at ps i) = 1)), .int (i : Int)] = _
  have : decide (kindI (Tr.at ps i) = 1) = (Tr.at ps i).gate.isSome := by
    unfold kindI
    cases (Tr.at ps i).gate.isSome <;> rfl
  rw [this]
theorem law_track_ok {t : List Gate} {ps : List Tr} (hok : ∀ p ∈ ps, p.Ok t) (hl : ps.length ≤ 1000) (who : Str) : m__law_track [.d (.list (ps.map Tr.enc)), .d (.str who)] = .ok (.list ((trackOf ps who).map natD)) [] := by
  have c1 : lcL (gT [gN 3, gN 4]) d__law_track_0 c__law_track_0 [3, 4] (enumD (ps.map Tr.enc)) [] [some (.d (.list (ps.map Tr.enc))), some (.d (.str who)), none, none, none, none] = .ok ((keysOf ps who).map (triD true)) [some (.d (.list (ps.map Tr.enc))), some (.d (.str who)), none, none, none, none] := by
    rw [enum_of Tr.enc default]
    unfold keysOf
    rw [List.map_map]
    refine lc_run (by rfl) _ (fun i => decide ((Tr.at ps i).who = who)) (triD true ∘ keyAt ps) _ [] (by rw [List.length_range]; simp only [List.length_nil]; omega) fun i hi => ⟨_, rfl, rfl, ?_, fun _ => ?_⟩
    · have k1 := ix_who (Tr.at ps i)
      show d__law_track_0 [some (.d (.list (ps.map Tr.enc))), some (.d (.str who)), none, some (.d (.int (i : Int))), some (.d (.tuple (Tr.at ps i).cells)), none] = .ok _ [some (.d (.list (ps.map Tr.enc))), some (.d (.str who)), none, some (.d (.int (i : Int))), some (.d (.tuple (Tr.at ps i).cells)), none]
      unfold d__law_track_0
      walk_at "fx"
    · have k1 := ix_hour (Tr.at ps i)
      have k2 := ix_kind (Tr.at ps i)
      have k3 := key_true ps i
      show c__law_track_0 [some (.d (.list (ps.map Tr.enc))), some (.d (.str who)), none, some (.d (.int (i : Int))), some (.d (.tuple (Tr.at ps i).cells)), none] = .ok (.d (triD true (keyAt ps i))) [some (.d (.list (ps.map Tr.enc))), some (.d (.str who)), none, some (.d (.int (i : Int))), some (.d (.tuple (Tr.at ps i).cells)), none]
      rw [k3]
      unfold c__law_track_0
      walk_at "fx"
  have e3 := sort_true (keysOf ps who) fun k hk => by
    obtain ⟨i, hi, hw, rfl⟩ := key_place hk
    show kindI _ = 0 ∨ kindI _ = 1
    unfold kindI
    split
    · exact Or.inr rfl
    · exact Or.inl rfl
  rw [sort_row, List.map_map] at e3
  have e4 : (triD true ∘ keyAt ps) = fun i => triD true (keyAt ps i) := rfl
  rw [e4] at e3
  have c2 : lcL (gN 5) d__law_track_2 c__law_track_2 [5] ((rowOf ps who).map fun i => triD true (keyAt ps i)) [] [some (.d (.list (ps.map Tr.enc))), some (.d (.str who)), some (.d (.list ((rowOf ps who).map fun i => triD true (keyAt ps i)))), none, none, none] = .ok ((trackOf ps who).map natD) [some (.d (.list (ps.map Tr.enc))), some (.d (.str who)), some (.d (.list ((rowOf ps who).map fun i => triD true (keyAt ps i)))), none, none, none] := by
    generalize PyData.list ((rowOf ps who).map fun i => triD true (keyAt ps i)) = rows
    have hrl := row_len ps who
    refine lc_run (by rfl) _ (newP ps) natD _ [] (by simp only [List.length_nil]; omega) fun i hi => ?_
    have hin := (row_mem.mp hi).1
    rw [key_true]
    refine ⟨_, rfl, rfl, ?_, fun _ => ?_⟩
    · show d__law_track_2 [some (.d (.list (ps.map Tr.enc))), some (.d (.str who)), some (.d rows), none, none, some (.d (.tuple [.int (Tr.at ps i).hour, .bool (decide ((Tr.at ps i).kind = "gate")), .int (i : Int)]))] = .ok _ [some (.d (.list (ps.map Tr.enc))), some (.d (.str who)), some (.d rows), none, none, some (.d (.tuple [.int (Tr.at ps i).hour, .bool (decide ((Tr.at ps i).kind = "gate")), .int (i : Int)]))]
      generalize (Tr.at ps i).hour = hh
      generalize decide ((Tr.at ps i).kind = "gate") = kk
      have a2 : atI [PyData.int hh, .bool kk, .int (i : Int)] 2 = some (.int (i : Int)) := by simp [atI, ixN]
      have inner : lcL (gN 3) d__law_track_1 c__law_track_1 [3] (rngD 0 i) [] [some (.d (.list (ps.map Tr.enc))), some (.d (.str who)), some (.d rows), none, none, some (.d (.tuple [.int hh, .bool kk, .int (i : Int)]))] = .ok (((List.range i).filter fun k => decide (Tr.at ps k = Tr.at ps i)).map natD) [some (.d (.list (ps.map Tr.enc))), some (.d (.str who)), some (.d rows), none, none, some (.d (.tuple [.int hh, .bool kk, .int (i : Int)]))] := by
        rw [rngD_nat]
        refine lc_run (by rfl) natD (fun k => decide (Tr.at ps k = Tr.at ps i)) natD _ [] (by rw [List.length_range]; simp only [List.length_nil]; omega) fun k hk => ⟨_, rfl, rfl, ?_, fun _ => ?_⟩
        · have hk2 : k < ps.length := by have := List.mem_range.mp hk; omega
          have b1 := atI_trs hk2
          have b2 := atI_trs hin
          rw [enc_cells] at b1 b2
          have b3 := shaped_cells (hok _ (at_mem hk2))
          have b4 := shaped_cells (hok _ (at_mem hin))
          have b5 := eqv_cells (Tr.at ps k) (Tr.at ps i)
          unfold natD d__law_track_1
          walk_at "fx"
        · unfold natD c__law_track_1
          walk_at "fx"
      have r1 : rngOk (i : Int) = true := rngOk_iff.mpr (by omega)
      have r2 : (i : Int).toNat = i := Int.toNat_natCast i
      have k1 := shaped_nats ((List.range i).filter fun k => decide (Tr.at ps k = Tr.at ps i))
      have k2 := shaped_nil
      have k3 := (eqv_nil (((List.range i).filter fun k => decide (Tr.at ps k = Tr.at ps i)).map natD)).trans (new_empty ps i)
      unfold d__law_track_2
      walk_at "fx"
    · generalize (Tr.at ps i).hour = hh
      generalize decide ((Tr.at ps i).kind = "gate") = kk
      have a2 : atI [PyData.int hh, .bool kk, .int (i : Int)] 2 = some (.int (i : Int)) := by simp [atI, ixN]
      unfold natD c__law_track_2
      walk_at "fx"
  unfold m__law_track b__law_track
  clear e4
  simp only [fSort3] at e3
  walk_at "fx"
/-! # all gaps -/
def edgesL : Option (Int × Int) → List PyData
  | none => [.none, .none]
  | some (a, b) => [.int a, .int b]
theorem edges_tup (e : Option (Int × Int)) : edgesD e = .tuple (edgesL e) := by
  cases e with
  | none => rfl
  | some p => rfl
theorem edges_len (e : Option (Int × Int)) : (edgesL e).length = 2 := by
  cases e with
  | none => rfl
  | some p => rfl
def pairsOf (ps : List Tr) (who : Str) : List (Nat × Nat) := (trackOf ps who).zip ((trackOf ps who).drop 1)
def gapHere (ps : List Tr) (p : Nat × Nat) : Bool := !((Tr.at ps p.1).inn == (Tr.at ps p.2).finds)
def gapEnc (t : List Gate) (ps : List Tr) (who : Str) (p : Nat × Nat) : PyData := .tuple ([.str who, .int (p.1 : Int), .int (p.2 : Int)] ++ edgesL (gapOf t ps p.1 p.2))
def gapsTo (t : List Gate) (ps : List Tr) (who : Str) (l : List (Nat × Nat)) : List PyData := (l.filter (gapHere ps)).map (gapEnc t ps who)
def gapsWho (t : List Gate) (ps : List Tr) (who : Str) : List PyData := gapsTo t ps who (pairsOf ps who)
def whos (ps : List Tr) : List Str := sortS (uniqS (ps.map Tr.who))
def gapsOf (t : List Gate) (ps : List Tr) : List PyData := (whos ps).flatMap (gapsWho t ps)
theorem uniq_len : ∀ xs : List Str, (uniqS xs).length ≤ xs.length
  | [] => Nat.le_refl _
  | x :: r => by
    have := uniq_len r
    unfold uniqS
    split
    · simp only [List.length_cons]; omega
    · simp only [List.length_cons]; omega
theorem whos_len (ps : List Tr) : (whos ps).length ≤ ps.length := by
  unfold whos
  rw [(sortS_perm _).length_eq]
  exact Nat.le_trans (uniq_len _) (by rw [List.length_map]; exact Nat.le_refl _)
theorem track_len (ps : List Tr) (who : Str) : (trackOf ps who).length ≤ ps.length := Nat.le_trans (List.length_filter_le _ _) (row_len ps who)
theorem pairs_len (ps : List Tr) (who : Str) : (pairsOf ps who).length ≤ ps.length := by
  unfold pairsOf
  rw [List.length_zip]
  exact Nat.le_trans (Nat.min_le_left _ _) (track_len ps who)
theorem pairs_mem {ps : List Tr} {who : Str} {p : Nat × Nat} (h : p ∈ pairsOf ps who) : p.1 < ps.length ∧ p.2 < ps.length := by
  obtain ⟨a, b⟩ := p
  have h1 := List.of_mem_zip h
  exact ⟨(row_mem.mp (List.mem_filter.mp h1.1).1).1, (row_mem.mp (List.mem_filter.mp (List.mem_of_mem_drop h1.2)).1).1⟩
theorem gaps_to_len (t : List Gate) (ps : List Tr) (who : Str) (l : List (Nat × Nat)) : (gapsTo t ps who l).length ≤ l.length := by
  unfold gapsTo
  rw [List.length_map]
  exact List.length_filter_le _ _
theorem gaps_to_step (t : List Gate) (ps : List Tr) (who : Str) {l : List (Nat × Nat)} {n : Nat} {p : Nat × Nat} (h : l[n]? = some p) : gapsTo t ps who (l.take (n + 1)) = gapsTo t ps who (l.take n) ++ (if gapHere ps p = true then [gapEnc t ps who p] else []) := by
  unfold gapsTo
  rw [List.take_succ, h, List.filter_append, List.map_append]
  congr 1
  by_cases c : gapHere ps p = true
  · rw [if_pos c]
    show List.map _ (List.filter _ [p]) = _
    rw [List.filter_cons_of_pos c]; rfl
  · rw [if_neg c]
    show List.map _ (List.filter _ [p]) = _
    rw [List.filter_cons_of_neg c]; rfl
theorem flat_len (t : List Gate) (ps : List Tr) : ∀ l : List Str, (l.flatMap (gapsWho t ps)).length ≤ l.length * ps.length
  | [] => Nat.zero_le _
  | w :: r => by
    have h1 := flat_len t ps r
    have h2 : (gapsWho t ps w).length ≤ ps.length := Nat.le_trans (gaps_to_len _ _ _ _) (pairs_len ps w)
    rw [List.flatMap_cons, List.length_append, List.length_cons, Nat.succ_mul]
    omega
theorem nats_zip (l : List Nat) : zipD (l.map natD) ((l.drop 1).map natD) = (l.zip (l.drop 1)).map fun p => PyData.tuple [natD p.1, natD p.2] := by
  unfold zipD
  rw [List.zip_map, List.map_map]
  rfl
theorem gaps_in_ok {t : List Gate} (ht : ∀ g ∈ t, g.Ok) (htl : t.length ≤ 50000) {ps : List Tr} (hok : ∀ p ∈ ps, p.Ok t) (hl : ps.length ≤ 200) (hn : NoLie ps) : m_gaps_in [.d (townEnc t), .d (.list (ps.map Tr.enc))] = .fr (.lst (gapsOf t ps)) [] := by
  have inner : ∀ (who : Str) (base : List PyData), base.length ≤ 40000 → ∃ ρ', forL (gT [gN 5, gN 6]) l_gaps_in_0 [5, 6] ((pairsOf ps who).map fun p => PyData.tuple [natD p.1, natD p.2]) [some (.d (townEnc t)), some (.d (.list (ps.map Tr.enc))), some (.o (.lst base)), some (.d (.str who)), some (.d (.list ((trackOf ps who).map natD))), none, none, none] = .ok .nx ρ' ∧ ρ' = [some (.d (townEnc t)), some (.d (.list (ps.map Tr.enc))), some (.o (.lst (base ++ gapsTo t ps who ((pairsOf ps who).take (pairsOf ps who).length)))), some (.d (.str who)), some (.d (.list ((trackOf ps who).map natD))), none, none, none] := by
    intro who base hb
    refine for_inv _ _ (fun n ρ => ρ = [some (.d (townEnc t)), some (.d (.list (ps.map Tr.enc))), some (.o (.lst (base ++ gapsTo t ps who ((pairsOf ps who).take n)))), some (.d (.str who)), some (.d (.list ((trackOf ps who).map natD))), none, none, none]) _ (by rw [List.take_zero]; show _ = [_, _, some (P.o (Ow.lst (base ++ []))), _, _, _, _, _]; rw [List.append_nil]) ?_
    rintro n p ρ hp rfl
    have hpm := pairs_mem (List.mem_of_getElem? hp)
    have hnl := (List.getElem?_eq_some_iff.mp hp).1
    have hpl := pairs_len ps who
    have hlen : (base ++ gapsTo t ps who ((pairsOf ps who).take n)).length < 100000 := by
      have := gaps_to_len t ps who ((pairsOf ps who).take n)
      rw [List.length_take] at this
      rw [List.length_append]; omega
    rw [gaps_to_step t ps who hp, ← List.append_assoc]
    generalize base ++ gapsTo t ps who ((pairsOf ps who).take n) = found at hlen
    obtain ⟨i, j⟩ := p
    have k1 := atI_trs hpm.1
    have k2 := atI_trs hpm.2
    rw [enc_cells] at k1 k2
    have k3 : m_leaves [.d (.tuple (Tr.at ps i).cells)] = .ok (.bool (Tr.at ps i).inn) [] := leaves_ok _
    have k4 : m_finds [.d (.tuple (Tr.at ps j).cells)] = .ok (.bool (Tr.at ps j).finds) [] := finds_ok _
    have k5 := gap_between_ok ht htl hok hpm.1 hpm.2
    rw [edges_tup] at k5
    simp only at k5
    have hl2 := edges_len (gapOf t ps i j)
    have hl3 : [PyData.str who, .int (i : Int), .int (j : Int)].length + (edgesL (gapOf t ps i j)).length ≤ 100000 := by rw [hl2]; show 3 + 2 ≤ 100000; decide
    by_cases c : gapHere ps (i, j) = true
    · rw [if_pos c]
      unfold gapHere at c
      unfold gapEnc
      refine ⟨[some (.d (townEnc t)), some (.d (.list (ps.map Tr.enc))), some (.o (.lst found)), some (.d (.str who)), some (.d (.list ((trackOf ps who).map natD))), some (.d (.int (i : Int))), some (.d (.int (j : Int))), none], [some (.d (townEnc t)), some (.d (.list (ps.map Tr.enc))), some (.o (.lst (found ++ [.tuple ([.str who, .int (i : Int), .int (j : Int)] ++ edgesL (gapOf t ps i j))]))), some (.d (.str who)), some (.d (.list ((trackOf ps who).map natD))), some (.d (.int (i : Int))), some (.d (.int (j : Int))), none], rfl, Or.inl ?_, rfl⟩
      unfold l_gaps_in_0
      walk_at "fx"
    · rw [if_neg c, List.append_nil]
      unfold gapHere at c
      have c := Bool.eq_false_iff.mpr c
      refine ⟨[some (.d (townEnc t)), some (.d (.list (ps.map Tr.enc))), some (.o (.lst found)), some (.d (.str who)), some (.d (.list ((trackOf ps who).map natD))), some (.d (.int (i : Int))), some (.d (.int (j : Int))), none], [some (.d (townEnc t)), some (.d (.list (ps.map Tr.enc))), some (.o (.lst found)), some (.d (.str who)), some (.d (.list ((trackOf ps who).map natD))), some (.d (.int (i : Int))), some (.d (.int (j : Int))), none], rfl, Or.inl ?_, rfl⟩
      unfold l_gaps_in_0
      walk_at "fx"
  have outer : ∃ ρ', forL (gN 3) l_gaps_in_1 [3, 4, 5, 6] ((whos ps).map .str) [some (.d (townEnc t)), some (.d (.list (ps.map Tr.enc))), some (.o (.lst [])), none, none, none, none, none] = .ok .nx ρ' ∧ ρ' = [some (.d (townEnc t)), some (.d (.list (ps.map Tr.enc))), some (.o (.lst (((whos ps).take (whos ps).length).flatMap (gapsWho t ps)))), none, none, none, none, none] := by
    refine for_inv _ _ (fun n ρ => ρ = [some (.d (townEnc t)), some (.d (.list (ps.map Tr.enc))), some (.o (.lst (((whos ps).take n).flatMap (gapsWho t ps)))), none, none, none, none, none]) _ rfl ?_
    rintro n who ρ hw rfl
    have hnl := (List.getElem?_eq_some_iff.mp hw).1
    have hwl := whos_len ps
    have hb : (((whos ps).take n).flatMap (gapsWho t ps)).length ≤ 40000 := by
      refine Nat.le_trans (flat_len t ps _) ?_
      rw [List.length_take]
      exact Nat.le_trans (Nat.mul_le_mul (show min n (whos ps).length ≤ 200 by omega) hl) (by decide)
    have hstep : ((whos ps).take (n + 1)).flatMap (gapsWho t ps) = ((whos ps).take n).flatMap (gapsWho t ps) ++ gapsWho t ps who := by
      rw [List.take_succ, hw, List.flatMap_append]
      show _ ++ (gapsWho t ps who ++ []) = _
      rw [List.append_nil]
    rw [hstep]
    obtain ⟨ρ', e, rfl⟩ := inner who _ hb
    rw [List.take_length] at e
    generalize ((whos ps).take n).flatMap (gapsWho t ps) = base at hb e
    have k1 := track_of_ok hok (by omega) hn who
    have k2 := nats_zip (trackOf ps who)
    have k3 : cutG ((trackOf ps who).map natD) (some 1) none = ((trackOf ps who).drop 1).map natD := by rw [cut1, List.map_drop]
    unfold pairsOf at e
    refine ⟨[some (.d (townEnc t)), some (.d (.list (ps.map Tr.enc))), some (.o (.lst base)), some (.d (.str who)), none, none, none, none], [some (.d (townEnc t)), some (.d (.list (ps.map Tr.enc))), some (.o (.lst (base ++ gapsWho t ps who))), some (.d (.str who)), some (.d (.list ((trackOf ps who).map natD))), none, none, none], rfl, Or.inl ?_, rfl⟩
    unfold gapsWho pairsOf
    unfold l_gaps_in_1
    walk_at "fx"
  obtain ⟨ρ', e, rfl⟩ := outer
  rw [List.take_length] at e
  have c1 : lcL (gN 7) mYes c_gaps_in_0 [7] (ps.map Tr.enc) [] [some (.d (townEnc t)), some (.d (.list (ps.map Tr.enc))), some (.o (.lst [])), none, none, none, none, none] = .ok ((ps.map Tr.who).map .str) [some (.d (townEnc t)), some (.d (.list (ps.map Tr.enc))), some (.o (.lst [])), none, none, none, none, none] := by
    rw [List.map_map]
    refine lc_all (by rfl) Tr.enc (PyData.str ∘ Tr.who) ps (by omega) fun p hp => ⟨_, rfl, rfl, ?_⟩
    have k := ix_who p
    show c_gaps_in_0 [some (.d (townEnc t)), some (.d (.list (ps.map Tr.enc))), some (.o (.lst [])), none, none, none, none, some (.d (.tuple p.cells))] = .ok (.d (.str p.who)) [some (.d (townEnc t)), some (.d (.list (ps.map Tr.enc))), some (.o (.lst [])), none, none, none, none, some (.d (.tuple p.cells))]
    unfold c_gaps_in_0
    walk_at "fx"
  have k1 := strsD_map (ps.map Tr.who)
  have k2 : (ps.map Tr.who).length + 1 < scanBound := by
    rw [List.length_map]
    have : 1000 < scanBound := by decide
    omega
  unfold whos at e
  have e2 : gapsOf t ps = (sortS (uniqS (ps.map Tr.who))).flatMap (gapsWho t ps) := rfl
  rw [e2]
  unfold m_gaps_in b_gaps_in
  walk_at "fx"
/-! # the law's own clocks and edges -/
def upTo (g : Gate) (n : Nat) : List Int := (List.range n).map fun i : Nat => (g.opens + (i : Int)) % 24
def clocks (g : Gate) : List Int := upTo g (if g.opens = g.shuts then 24 else ((g.shuts - g.opens) % 24).toNat)
theorem clocks_open {g : Gate} (k : g.Ok) (h : Int) : decide (h % 24 ∈ clocks g) = openBy g h := by
  have o0 := k.o0; have o1 := k.o1; have s0 := k.s0; have s1 := k.s1
  unfold openBy clocks upTo
  rw [Bool.eq_iff_iff]
  simp only [decide_eq_true_eq, List.mem_map, List.mem_range, Bool.or_eq_true]
  by_cases e : g.opens = g.shuts
  · rw [if_pos e]
    refine ⟨fun _ => .inl e, fun _ => ⟨((h - g.opens) % 24).toNat, by omega, by omega⟩⟩
  · rw [if_neg e]
    constructor
    · rintro ⟨i, hi, hx⟩
      right; omega
    · rintro (h1 | h1)
      · exact absurd h1 e
      · exact ⟨((h - g.opens) % 24).toNat, by omega, by omega⟩
theorem upTo_succ (g : Gate) (n : Nat) : (upTo g (n + 1)).map PyData.int = (upTo g n).map .int ++ [.int ((g.opens + (n : Int)) % 24)] := by
  unfold upTo
  rw [List.range_succ, List.map_append, List.map_append]; rfl
theorem clocks_loop {g : Gate} (ok : g.Ok) : ∀ (m k : Nat), k + m = 23 → (∀ i : Nat, i < k → (g.opens + (i : Int) + 1) % 24 ≠ g.shuts) → ∃ a b, ((forL (gN 2) l__law_clocks_0 [2, 3] ((List.range' k m).map natD) [some (.d g.enc), some (.o (.lst ((upTo g (k + 1)).map .int))), none, none]).seqK (mRet (mVar 1))) = .ok (.rt (.s 1)) [some (.d g.enc), some (.o (.lst ((clocks g).map .int))), a, b]
  | 0, k, hk, hno => by
    have o0 := ok.o0; have o1 := ok.o1; have s0 := ok.s0; have s1 := ok.s1
    refine ⟨none, none, ?_⟩
    have e : g.opens = g.shuts := by
      by_cases c : g.opens = g.shuts
      · exact c
      · exact absurd (show (g.opens + ((((g.shuts - g.opens) % 24).toNat - 1 : Nat) : Int) + 1) % 24 = g.shuts by omega) (hno _ (by omega))
    have e2 : upTo g (k + 1) = clocks g := by
      unfold clocks
      rw [if_pos e]
      have : k = 23 := by omega
      rw [this]
    rw [e2]
    show (forL _ _ _ [] _).seqK _ = _
    rw [forL_nil]
    walk_at "fx"
  | m + 1, k, hk, hno => by
    have o0 := ok.o0; have o1 := ok.o1; have s0 := ok.s0; have s1 := ok.s1
    have a1 : atI [PyData.str g.name, .int g.opens, .int g.shuts, .bool g.small] 1 = some (.int g.opens) := by simp [atI, ixN]
    have a2 : atI [PyData.str g.name, .int g.opens, .int g.shuts, .bool g.small] 2 = some (.int g.shuts) := by simp [atI, ixN]
    have hr : (List.range' k (m + 1)).map natD = .int (k : Int) :: (List.range' (k + 1) m).map natD := by rw [List.range'_succ]; rfl
    rw [hr, forL_cons (ρ1 := [some (.d g.enc), some (.o (.lst ((upTo g (k + 1)).map .int))), some (.d (.int (k : Int))), none]) rfl]
    have hlen : ((upTo g (k + 1)).map PyData.int).length < 100000 := by
      rw [List.length_map]; unfold upTo; rw [List.length_map, List.length_range]; omega
    by_cases c : (g.opens + (k : Int) + 1) % 24 = g.shuts
    · refine ⟨some (.d (.int (k : Int))), some (.d (.int ((g.opens + (k : Int) + 1) % 24))), ?_⟩
      have e : ¬ g.opens = g.shuts := by omega
      have e2 : upTo g (k + 1) = clocks g := by
        unfold clocks
        rw [if_neg e]
        have : ((g.shuts - g.opens) % 24).toNat = k + 1 := by omega
        rw [this]
      have body : l__law_clocks_0 [some (.d g.enc), some (.o (.lst ((upTo g (k + 1)).map .int))), some (.d (.int (k : Int))), none] = .ok (.rt (.s 1)) [some (.d g.enc), some (.o (.lst ((upTo g (k + 1)).map .int))), some (.d (.int (k : Int))), some (.d (.int ((g.opens + (k : Int) + 1) % 24)))] := by
        unfold Gate.enc l__law_clocks_0
        have c2 := decide_eq_true c
        clear c
        walk_at "fx"
      rw [body, e2]
      walk_at "fx"
    · obtain ⟨a, b, ih⟩ := clocks_loop ok m (k + 1) (by omega) fun i hi => by
        by_cases z : i < k
        · exact hno i z
        · have : i = k := by omega
          rw [this]; exact c
      refine ⟨a, b, ?_⟩
      have e3 : (g.opens + ((k + 1 : Nat) : Int)) % 24 = (g.opens + (k : Int) + 1) % 24 := by omega
      have e4 := upTo_succ g (k + 1)
      rw [e3] at e4
      have body : l__law_clocks_0 [some (.d g.enc), some (.o (.lst ((upTo g (k + 1)).map .int))), some (.d (.int (k : Int))), none] = .ok .nx [some (.d g.enc), some (.o (.lst ((upTo g (k + 1 + 1)).map .int))), some (.d (.int (k : Int))), some (.d (.int ((g.opens + (k : Int) + 1) % 24)))] := by
        rw [e4]
        unfold Gate.enc l__law_clocks_0
        have c2 := decide_eq_false c
        clear c
        walk_at "fx"
      rw [body]
      exact ih
theorem law_clocks_ok {g : Gate} (ok : g.Ok) : m__law_clocks [.d g.enc] = .fr (.lst ((clocks g).map .int)) [] := by
  have o0 := ok.o0; have o1 := ok.o1
  obtain ⟨a, b, e⟩ := clocks_loop ok 23 0 rfl (fun i hi => absurd hi (Nat.not_lt_zero i))
  have e2 : (List.range' 0 23).map natD = rngD 0 23 := by rw [rngD_nat, List.range_eq_range']
  have e3 : (upTo g (0 + 1)).map PyData.int = [.int g.opens] := by
    show [PyData.int ((g.opens + ((0 : Nat) : Int)) % 24)] = _
    rw [show (g.opens + ((0 : Nat) : Int)) % 24 = g.opens by omega]
  rw [e2, e3] at e
  have a1 : atI [PyData.str g.name, .int g.opens, .int g.shuts, .bool g.small] 1 = some (.int g.opens) := by simp [atI, ixN]
  have r1 : rngOk 23 = true := by decide
  unfold Gate.enc at e ⊢
  unfold m__law_clocks b__law_clocks
  walk_at "fx"
/-! # the law's own edges -/
theorem first_is {t : List Gate} {lo a : Int} {n : Nat} {r : List Int} (h : shutIn t lo n = a :: r) : isShut t a = true ∧ lo ≤ a ∧ a < lo + (n : Int) ∧ ∀ x, lo ≤ x → x < a → isShut t x = false := by
  have hm : a ∈ shutIn t lo n := by rw [h]; exact List.mem_cons_self
  obtain ⟨h1, h2, h3⟩ := shut_in_mem.mp hm
  refine ⟨h3, h1, h2, fun x hx1 hx2 => ?_⟩
  cases hs : isShut t x with
  | false => rfl
  | true =>
    have hxm : x ∈ shutIn t lo n := shut_in_mem.mpr ⟨hx1, by omega, hs⟩
    have hp : (shutIn t lo n).Pairwise (· < ·) := by
      unfold shutIn
      refine List.Pairwise.sublist List.filter_sublist (List.pairwise_map.mpr ?_)
      exact (List.pairwise_lt_range).imp fun {a b} h => by omega
    rw [h] at hp hxm
    rcases List.mem_cons.mp hxm with e | e
    · omega
    · have := (List.pairwise_cons.mp hp).1 x e
      omega
theorem shutIn_pw (t : List Gate) (lo : Int) (n : Nat) : (shutIn t lo n).Pairwise (· < ·) := by
  unfold shutIn
  refine List.Pairwise.sublist List.filter_sublist (List.pairwise_map.mpr ?_)
  exact (List.pairwise_lt_range).imp fun {a b} h => by omega
theorem last_is {t : List Gate} {lo b : Int} {n : Nat} (h : (shutIn t lo n).getLast? = some b) : isShut t b = true ∧ lo ≤ b ∧ b < lo + (n : Int) ∧ ∀ x, b < x → x < lo + (n : Int) → isShut t x = false := by
  obtain ⟨h1, h2, h3⟩ := shut_in_mem.mp (List.mem_of_getLast? h)
  refine ⟨h3, h1, h2, fun x hx1 hx2 => ?_⟩
  cases hs : isShut t x with
  | false => rfl
  | true =>
    have hxm : x ∈ shutIn t lo n := shut_in_mem.mpr ⟨by omega, hx2, hs⟩
    have hp := shutIn_pw t lo n
    obtain ⟨ys, e⟩ := List.getLast?_eq_some_iff.mp h
    rw [e] at hp hxm
    rcases List.mem_append.mp hxm with z | z
    · have := (List.pairwise_append.mp hp).2.2 x z b (List.mem_singleton.mpr rfl)
      omega
    · have := List.mem_singleton.mp z
      omega
theorem edges_no {t : List Gate} {lo hi : Int} (h : ∀ x, lo ≤ x → x ≤ hi → x < lo + 24 → isShut t x = false) : edges t lo hi = none := by
  have e : shutIn t lo (firstN lo hi) = [] := by
    refine List.eq_nil_iff_forall_not_mem.mpr fun x hx => ?_
    obtain ⟨h1, h2, h3⟩ := shut_in_mem.mp hx
    rw [h x h1 (by unfold firstN at h2; omega) (by unfold firstN at h2; omega)] at h3
    cases h3
  unfold edges
  rw [e]
theorem edges_so {t : List Gate} {lo hi a b : Int} (ha : isShut t a = true) (a1 : lo ≤ a) (a2 : a ≤ hi) (a3 : a < lo + 24) (a4 : ∀ x, lo ≤ x → x < a → isShut t x = false) (hb : isShut t b = true) (b1 : lo ≤ b) (b2 : b ≤ hi) (b3 : hi - 24 < b) (b4 : ∀ x, b < x → x ≤ hi → isShut t x = false) : edges t lo hi = some (a, b) := by
  have hm : a ∈ shutIn t lo (firstN lo hi) := shut_in_mem.mpr ⟨a1, by unfold firstN; omega, ha⟩
  obtain ⟨c, r, ec⟩ := List.exists_cons_of_ne_nil (List.ne_nil_of_mem hm)
  obtain ⟨c1, c2, c3, c4⟩ := first_is ec
  have e1 : c = a := by
    rcases Int.lt_trichotomy c a with z | z | z
    · rw [a4 c c2 z] at c1; cases c1
    · exact z
    · rw [c4 a a1 z] at ha; cases ha
  have hm2 : b ∈ shutIn t (lastLo lo hi) (lastN lo hi) := shut_in_mem.mpr ⟨by unfold lastLo; omega, by unfold lastN lastLo; omega, hb⟩
  cases el : (shutIn t (lastLo lo hi) (lastN lo hi)).getLast? with
  | none => rw [List.getLast?_eq_none_iff.mp el] at hm2; cases hm2
  | some d =>
    obtain ⟨d1, d2, d3, d4⟩ := last_is el
    have hl : lastLo lo hi + (lastN lo hi : Int) = hi + 1 := by unfold lastN lastLo; omega
    have e2 : d = b := by
      rcases Int.lt_trichotomy d b with z | z | z
      · rw [d4 b z (by omega)] at hb; cases hb
      · exact z
      · rw [b4 d z (by omega)] at d1; cases d1
    unfold edges
    rw [ec, el, e1, e2]
theorem shut_day {t : List Gate} {x lo : Int} (h : isShut t x = true) (hx : x ≤ lo) : ∃ y, lo < y ∧ y ≤ lo + 24 ∧ isShut t y = true :=
  ⟨x + 24 * (((lo + 24 - x) / 24).toNat : Nat), by omega, by omega, by rw [shut_per]; exact h⟩
theorem flat_intsD (l : List Int) : (l.map PyData.int).all flatD = true := by
  rw [List.all_eq_true]
  intro d hd
  obtain ⟨i, _, rfl⟩ := List.mem_map.mp hd
  rfl
theorem inF_ints (x : Int) (l : List Int) : inF (.int x) (l.map .int) = decide (x ∈ l) := by
  unfold inF
  rw [Bool.eq_iff_iff, List.any_eq_true, decide_eq_true_eq]
  constructor
  · rintro ⟨y, hy, e⟩
    obtain ⟨i, hi, rfl⟩ := List.mem_map.mp hy
    have e : (i == x) = true := e
    rw [← beq_iff_eq.mp e]; exact hi
  · intro h
    exact ⟨.int x, List.mem_map.mpr ⟨x, h, rfl⟩, (beq_iff_eq.mpr rfl : (x == x) = true)⟩
theorem law_is_open_ok {g : Gate} (ok : g.Ok) (h : Int) : m__law_is_open [.d g.enc, .d (.int h)] = .ok (.bool (openBy g h)) [] := by
  have e := law_clocks_ok ok
  have f := flat_intsD (clocks g)
  have f2 : inF (.int (h % 24)) ((clocks g).map .int) = openBy g h := by
    rw [← clocks_open ok h]
    exact inF_ints _ _
  unfold m__law_is_open b__law_is_open
  walk_at "fx"
theorem law_shut_ok {t : List Gate} (ht : ∀ g ∈ t, g.Ok) (h : Int) (hl : t.length ≤ 100000) : m__law_shut [.d (townEnc t), .d (.int h)] = .ok (.list ((shutB t h).map .str)) [] := by
  unfold townEnc
  have e : lcL (gN 2) d__law_shut_0 c__law_shut_0 [2] (t.map Gate.enc) [] [some (.d (.tuple (t.map Gate.enc))), some (.d (.int h)), none] = .ok ((shutB t h).map .str) [some (.d (.tuple (t.map Gate.enc))), some (.d (.int h)), none] := by
    unfold shutB
    rw [List.map_map]
    refine lc_run (by rfl) _ (fun g => !openBy g h) (fun g : Gate => PyData.str g.name) t [] (by simpa using hl) fun g hg => ⟨_, rfl, rfl, ?_, fun _ => ?_⟩
    · have k := law_is_open_ok (ht g hg) h
      unfold d__law_shut_0
      walk_at "fx"
    · simp [c__law_shut_0, Gate.enc, atI, ixN]
  unfold m__law_shut b__law_shut
  walk_at "fx"
abbrev envE (t : List Gate) (lo hi f l : Int) : Env := [some (.d (townEnc t)), some (.d (.int lo)), some (.d (.int hi)), some (.d (.int f)), some (.d (.int l))]
theorem while_up {t : List Gate} (ht : ∀ g ∈ t, g.Ok) (htl : t.length ≤ 50000) {lo hi l : Int} : ∀ (n : Nat) (f : Int), lo ≤ f → f ≤ lo + 24 → (lo + 24 - f).toNat < n → (∀ x, lo ≤ x → x < f → isShut t x = false) → ∃ f', whileN w__law_edges_0 [] l__law_edges_0 n (envE t lo hi f l) = .ok .nx (envE t lo hi f' l) ∧ lo ≤ f' ∧ f' ≤ lo + 24 ∧ (∀ x, lo ≤ x → x < f' → isShut t x = false) ∧ (hi < f' ∨ lo + 24 ≤ f' ∨ isShut t f' = true)
  | 0, f, _, _, h, _ => absurd h (Nat.not_lt_zero _)
  | n + 1, f, f0, f1, hn, hno => by
    have k1 := law_shut_ok ht f (by omega)
    have k2 := shaped_names (shut_nm ht f)
    have k3 := shaped_nil
    have k4 := eqv_nil ((shutB t f).map .str)
    have k5 : ((shutB t f).map PyData.str).isEmpty = !isShut t f := by rw [← shut_some, Bool.not_not]
    have step : whileN w__law_edges_0 [] l__law_edges_0 (n + 1) (envE t lo hi f l) = (w__law_edges_0 (envE t lo hi f l)).bind fun b ρ1 => if b = true then turnK (fun ρ2 => whileN w__law_edges_0 [] l__law_edges_0 n ρ2) [] (l__law_edges_0 ρ1) else .ok .nx ρ1 := rfl
    have test : w__law_edges_0 (envE t lo hi f l) = .ok (decide (f ≤ hi) && (decide (f < lo + 24) && !isShut t f)) (envE t lo hi f l) := by
      unfold w__law_edges_0
      cases c1 : decide (f ≤ hi) <;> cases c2 : decide (f < lo + 24) <;> walk_at "fx"
    rw [step, test]
    cases c : (decide (f ≤ hi) && (decide (f < lo + 24) && !isShut t f)) with
    | true =>
      rw [Bool.and_eq_true, Bool.and_eq_true, decide_eq_true_eq, decide_eq_true_eq, Bool.not_eq_true'] at c
      obtain ⟨f', e, r⟩ := while_up ht htl (lo := lo) (hi := hi) (l := l) n (f + 1) (by omega) (by omega) (by omega) fun x h1 h2 => by
        by_cases z : x < f
        · exact hno x h1 z
        · have : x = f := by omega
          rw [this]; exact c.2.2
      refine ⟨f', ?_, r⟩
      have body : l__law_edges_0 (envE t lo hi f l) = .ok .nx (envE t lo hi (f + 1) l) := by
        unfold l__law_edges_0
        walk_at "fx"
      show turnK _ [] (l__law_edges_0 (envE t lo hi f l)) = _
      rw [body]
      exact e
    | false =>
      refine ⟨f, rfl, f0, f1, hno, ?_⟩
      rw [Bool.and_eq_false_iff, Bool.and_eq_false_iff, decide_eq_false_iff_not, decide_eq_false_iff_not, Bool.not_eq_false'] at c
      rcases c with h | h | h
      · exact .inl (by omega)
      · exact .inr (.inl (by omega))
      · exact .inr (.inr h)
theorem while_down {t : List Gate} (ht : ∀ g ∈ t, g.Ok) (htl : t.length ≤ 50000) {lo hi f : Int} : ∀ (n : Nat) (l : Int), l ≤ hi → hi - 24 ≤ l → (l - (hi - 24)).toNat < n → (∀ x, l < x → x ≤ hi → isShut t x = false) → ∃ l', whileN w__law_edges_1 [] l__law_edges_1 n (envE t lo hi f l) = .ok .nx (envE t lo hi f l') ∧ l' ≤ hi ∧ hi - 24 ≤ l' ∧ (∀ x, l' < x → x ≤ hi → isShut t x = false) ∧ (l' < lo ∨ l' ≤ hi - 24 ∨ isShut t l' = true)
  | 0, l, _, _, h, _ => absurd h (Nat.not_lt_zero _)
  | n + 1, l, l0, l1, hn, hno => by
    have k1 := law_shut_ok ht l (by omega)
    have k2 := shaped_names (shut_nm ht l)
    have k3 := shaped_nil
    have k4 := eqv_nil ((shutB t l).map .str)
    have k5 : ((shutB t l).map PyData.str).isEmpty = !isShut t l := by rw [← shut_some, Bool.not_not]
    have step : whileN w__law_edges_1 [] l__law_edges_1 (n + 1) (envE t lo hi f l) = (w__law_edges_1 (envE t lo hi f l)).bind fun b ρ1 => if b = true then turnK (fun ρ2 => whileN w__law_edges_1 [] l__law_edges_1 n ρ2) [] (l__law_edges_1 ρ1) else .ok .nx ρ1 := rfl
    have test : w__law_edges_1 (envE t lo hi f l) = .ok (decide (l ≥ lo) && (decide (l > hi - 24) && !isShut t l)) (envE t lo hi f l) := by
      unfold w__law_edges_1
      cases c1 : decide (l ≥ lo) <;> cases c2 : decide (l > hi - 24) <;> walk_at "fx"
    rw [step, test]
    cases c : (decide (l ≥ lo) && (decide (l > hi - 24) && !isShut t l)) with
    | true =>
      rw [Bool.and_eq_true, Bool.and_eq_true, decide_eq_true_eq, decide_eq_true_eq, Bool.not_eq_true'] at c
      obtain ⟨l', e, r⟩ := while_down ht htl (lo := lo) (hi := hi) (f := f) n (l - 1) (by omega) (by omega) (by omega) fun x h1 h2 => by
        by_cases z : l < x
        · exact hno x z h2
        · have : x = l := by omega
          rw [this]; exact c.2.2
      refine ⟨l', ?_, r⟩
      have body : l__law_edges_1 (envE t lo hi f l) = .ok .nx (envE t lo hi f (l - 1)) := by
        unfold l__law_edges_1
        walk_at "fx"
      show turnK _ [] (l__law_edges_1 (envE t lo hi f l)) = _
      rw [body]
      exact e
    | false =>
      refine ⟨l, rfl, l0, l1, hno, ?_⟩
      rw [Bool.and_eq_false_iff, Bool.and_eq_false_iff, decide_eq_false_iff_not, decide_eq_false_iff_not, Bool.not_eq_false'] at c
      rcases c with h | h | h
      · exact .inl (by omega)
      · exact .inr (.inl (by omega))
      · exact .inr (.inr h)
theorem law_edges_ok {t : List Gate} (ht : ∀ g ∈ t, g.Ok) (htl : t.length ≤ 50000) {lo hi : Int} (l0 : -1 ≤ lo) (l1 : lo ≤ 1000000000000) (h0 : -1 ≤ hi) (h1 : hi ≤ 1000000000000) : m__law_edges [.d (townEnc t), .d (.int lo), .d (.int hi)] = .ok (edgesD (edges t lo hi)) [] := by
  obtain ⟨f, ef, f0, f1, fno, hf⟩ := while_up ht htl (lo := lo) (hi := hi) (l := hi) 1000 lo (Int.le_refl _) (by omega) (by omega) fun x a b => by omega
  obtain ⟨l, el, l2, l3, lno, hll⟩ := while_down ht htl (lo := lo) (hi := hi) (f := f) 1000 hi (Int.le_refl _) (by omega) (by omega) fun x a b => by omega
  have k1 := law_shut_ok ht f (by omega)
  have k2 := shaped_names (shut_nm ht f)
  have k3 := shaped_nil
  have k4 := eqv_nil ((shutB t f).map .str)
  have k5 : ((shutB t f).map PyData.str).isEmpty = !isShut t f := by rw [← shut_some, Bool.not_not]
  cases hb : (decide (f > hi) || !isShut t f) with
  | true =>
    have e0 : edges t lo hi = none := edges_no fun x a b c => by
      rw [Bool.or_eq_true, decide_eq_true_eq, Bool.not_eq_true'] at hb
      rcases Int.lt_or_le x f with z | z
      · exact fno x a z
      · rcases hb with h | h
        · omega
        · rcases hf with k | k | k
          · omega
          · omega
          · rw [h] at k; cases k
    rw [e0]
    show _ = Rq.ok (.tuple [.none, .none]) []
    unfold m__law_edges b__law_edges
    clear fno lno hf hll
    cases c1 : decide (f > hi) <;> cases c2 : isShut t f <;> rw [c1, c2] at hb <;> first | exact absurd hb (by decide) | walk_at "fx"
  | false =>
    rw [Bool.or_eq_false_iff, Bool.not_eq_false'] at hb
    obtain ⟨hfh0, hfs⟩ := hb
    have hfh := of_decide_eq_false hfh0
    have f24 : f < lo + 24 := by
      rcases Int.lt_or_eq_of_le f1 with z | z
      · exact z
      · have := fno lo (Int.le_refl _) (by omega)
        have e := shut_per t lo 1
        rw [show lo + 24 * ((1 : Nat) : Int) = f by omega, hfs, this] at e
        cases e
    have hls : lo ≤ l ∧ hi - 24 < l ∧ isShut t l = true := by
      have nolow : ¬ l < f := fun z => by
        have := lno f z (by omega)
        rw [hfs] at this; cases this
      have n24 : ¬ l ≤ hi - 24 := fun z => by
        obtain ⟨y, y1, y2, y3⟩ := shut_day (lo := hi - 24) hfs (by omega)
        rw [lno y (by omega) (by omega)] at y3
        cases y3
      rcases hll with k | k | k
      · omega
      · omega
      · exact ⟨by omega, by omega, k⟩
    have e0 : edges t lo hi = some (f, l) := edges_so hfs f0 (by omega) f24 fno hls.2.2 hls.1 l2 hls.2.1 lno
    rw [e0]
    show _ = Rq.ok (.tuple [.int f, .int l]) []
    unfold m__law_edges b__law_edges
    clear fno lno hf hll hls e0 f24 hfh
    walk_at "fx"
theorem law_gaps_ok {t : List Gate} (ht : ∀ g ∈ t, g.Ok) (htl : t.length ≤ 50000) {ps : List Tr} (hok : ∀ p ∈ ps, p.Ok t) (hl : ps.length ≤ 200) : m__law_gaps [.d (townEnc t), .d (.list (ps.map Tr.enc))] = .fr (.lst (gapsOf t ps)) [] := by
  have inner : ∀ (who : Str) (base : List PyData), base.length ≤ 40000 → ∃ ρ', forL (gT [gN 5, gN 6]) l__law_gaps_0 [5, 6, 7] ((pairsOf ps who).map fun p => PyData.tuple [natD p.1, natD p.2]) [some (.d (townEnc t)), some (.d (.list (ps.map Tr.enc))), some (.o (.lst base)), some (.d (.str who)), some (.d (.list ((trackOf ps who).map natD))), none, none, none, none] = .ok .nx ρ' ∧ ρ' = [some (.d (townEnc t)), some (.d (.list (ps.map Tr.enc))), some (.o (.lst (base ++ gapsTo t ps who ((pairsOf ps who).take (pairsOf ps who).length)))), some (.d (.str who)), some (.d (.list ((trackOf ps who).map natD))), none, none, none, none] := by
    intro who base hb
    refine for_inv _ _ (fun n ρ => ρ = [some (.d (townEnc t)), some (.d (.list (ps.map Tr.enc))), some (.o (.lst (base ++ gapsTo t ps who ((pairsOf ps who).take n)))), some (.d (.str who)), some (.d (.list ((trackOf ps who).map natD))), none, none, none, none]) _ (by rw [List.take_zero]; show _ = [_, _, some (P.o (Ow.lst (base ++ []))), _, _, _, _, _, _]; rw [List.append_nil]) ?_
    rintro n p ρ hp rfl
    have hpm := pairs_mem (List.mem_of_getElem? hp)
    have hnl := (List.getElem?_eq_some_iff.mp hp).1
    have hpl := pairs_len ps who
    have hlen : (base ++ gapsTo t ps who ((pairsOf ps who).take n)).length < 100000 := by
      have := gaps_to_len t ps who ((pairsOf ps who).take n)
      rw [List.length_take] at this
      rw [List.length_append]; omega
    rw [gaps_to_step t ps who hp, ← List.append_assoc]
    generalize base ++ gapsTo t ps who ((pairsOf ps who).take n) = found at hlen
    obtain ⟨i, j⟩ := p
    have k1 := atI_trs hpm.1
    have k2 := atI_trs hpm.2
    rw [enc_cells] at k1 k2
    have k3 : m__law_left_in [.d (.tuple (Tr.at ps i).cells)] = .ok (.bool (Tr.at ps i).inn) [] := law_left_in_ok _
    have k4 : m__law_found_in [.d (.tuple (Tr.at ps j).cells)] = .ok (.bool (Tr.at ps j).finds) [] := law_found_in_ok _
    have a : (Tr.at ps i).Ok t := hok _ (at_mem hpm.1)
    have b : (Tr.at ps j).Ok t := hok _ (at_mem hpm.2)
    have a0 := a.h0; have a1 := a.h1; have b0 := b.h0; have b1 := b.h1
    have k5 : m__law_edges [.d (townEnc t), .d (.int (Tr.at ps i).hour), .d (.int (gapHi (Tr.at ps j)))] = .ok (.tuple (edgesL (gapOf t ps i j))) [] := by
      rw [← edges_tup]
      exact law_edges_ok ht htl (by omega) a1 (by unfold gapHi; split <;> omega) (by unfold gapHi; split <;> omega)
    have k6 := ix_kind (Tr.at ps j)
    have k7 := ix_hour (Tr.at ps j)
    have k8 := ix_hour (Tr.at ps i)
    have k9 : (Tr.at ps j).hour - (if decide ((Tr.at ps j).kind = "seen") = true then 1 else 0) = gapHi (Tr.at ps j) := by
      rw [kind_seen]; unfold gapHi
      cases (Tr.at ps j).gate <;> rfl
    have hl2 := edges_len (gapOf t ps i j)
    have hl3 : [PyData.str who, .int (i : Int), .int (j : Int)].length + (edgesL (gapOf t ps i j)).length ≤ 100000 := by rw [hl2]; show 3 + 2 ≤ 100000; decide
    by_cases c : gapHere ps (i, j) = true
    · rw [if_pos c]
      unfold gapHere at c
      unfold gapEnc
      refine ⟨[some (.d (townEnc t)), some (.d (.list (ps.map Tr.enc))), some (.o (.lst found)), some (.d (.str who)), some (.d (.list ((trackOf ps who).map natD))), some (.d (.int (i : Int))), some (.d (.int (j : Int))), none, none], [some (.d (townEnc t)), some (.d (.list (ps.map Tr.enc))), some (.o (.lst (found ++ [.tuple ([.str who, .int (i : Int), .int (j : Int)] ++ edgesL (gapOf t ps i j))]))), some (.d (.str who)), some (.d (.list ((trackOf ps who).map natD))), some (.d (.int (i : Int))), some (.d (.int (j : Int))), some (.d (.int (gapHi (Tr.at ps j)))), none], rfl, Or.inl ?_, rfl⟩
      unfold l__law_gaps_0
      walk_at "fx"
    · rw [if_neg c, List.append_nil]
      unfold gapHere at c
      have c := Bool.eq_false_iff.mpr c
      refine ⟨[some (.d (townEnc t)), some (.d (.list (ps.map Tr.enc))), some (.o (.lst found)), some (.d (.str who)), some (.d (.list ((trackOf ps who).map natD))), some (.d (.int (i : Int))), some (.d (.int (j : Int))), none, none], [some (.d (townEnc t)), some (.d (.list (ps.map Tr.enc))), some (.o (.lst found)), some (.d (.str who)), some (.d (.list ((trackOf ps who).map natD))), some (.d (.int (i : Int))), some (.d (.int (j : Int))), none, none], rfl, Or.inl ?_, rfl⟩
      unfold l__law_gaps_0
      walk_at "fx"
  have outer : ∃ ρ', forL (gN 3) l__law_gaps_1 [3, 4, 5, 6, 7] ((whos ps).map .str) [some (.d (townEnc t)), some (.d (.list (ps.map Tr.enc))), some (.o (.lst [])), none, none, none, none, none, none] = .ok .nx ρ' ∧ ρ' = [some (.d (townEnc t)), some (.d (.list (ps.map Tr.enc))), some (.o (.lst (((whos ps).take (whos ps).length).flatMap (gapsWho t ps)))), none, none, none, none, none, none] := by
    refine for_inv _ _ (fun n ρ => ρ = [some (.d (townEnc t)), some (.d (.list (ps.map Tr.enc))), some (.o (.lst (((whos ps).take n).flatMap (gapsWho t ps)))), none, none, none, none, none, none]) _ rfl ?_
    rintro n who ρ hw rfl
    have hnl := (List.getElem?_eq_some_iff.mp hw).1
    have hwl := whos_len ps
    have hb : (((whos ps).take n).flatMap (gapsWho t ps)).length ≤ 40000 := by
      refine Nat.le_trans (flat_len t ps _) ?_
      rw [List.length_take]
      exact Nat.le_trans (Nat.mul_le_mul (show min n (whos ps).length ≤ 200 by omega) hl) (by decide)
    have hstep : ((whos ps).take (n + 1)).flatMap (gapsWho t ps) = ((whos ps).take n).flatMap (gapsWho t ps) ++ gapsWho t ps who := by
      rw [List.take_succ, hw, List.flatMap_append]
      show _ ++ (gapsWho t ps who ++ []) = _
      rw [List.append_nil]
    rw [hstep]
    obtain ⟨ρ', e, rfl⟩ := inner who _ hb
    rw [List.take_length] at e
    generalize ((whos ps).take n).flatMap (gapsWho t ps) = base at hb e
    have k1 := law_track_ok hok (by omega) who
    have k2 := nats_zip (trackOf ps who)
    have k3 : cutG ((trackOf ps who).map natD) (some 1) none = ((trackOf ps who).drop 1).map natD := by rw [cut1, List.map_drop]
    unfold pairsOf at e
    refine ⟨[some (.d (townEnc t)), some (.d (.list (ps.map Tr.enc))), some (.o (.lst base)), some (.d (.str who)), none, none, none, none, none], [some (.d (townEnc t)), some (.d (.list (ps.map Tr.enc))), some (.o (.lst (base ++ gapsWho t ps who))), some (.d (.str who)), some (.d (.list ((trackOf ps who).map natD))), none, none, none, none], rfl, Or.inl ?_, rfl⟩
    unfold gapsWho pairsOf
    unfold l__law_gaps_1
    walk_at "fx"
  obtain ⟨ρ', e, rfl⟩ := outer
  rw [List.take_length] at e
  have c1 : lcL (gN 8) mYes c__law_gaps_0 [8] (ps.map Tr.enc) [] [some (.d (townEnc t)), some (.d (.list (ps.map Tr.enc))), some (.o (.lst [])), none, none, none, none, none, none] = .ok ((ps.map Tr.who).map .str) [some (.d (townEnc t)), some (.d (.list (ps.map Tr.enc))), some (.o (.lst [])), none, none, none, none, none, none] := by
    rw [List.map_map]
    refine lc_all (by rfl) Tr.enc (PyData.str ∘ Tr.who) ps (by omega) fun p hp => ⟨_, rfl, rfl, ?_⟩
    have k := ix_who p
    show c__law_gaps_0 [some (.d (townEnc t)), some (.d (.list (ps.map Tr.enc))), some (.o (.lst [])), none, none, none, none, none, some (.d (.tuple p.cells))] = .ok (.d (.str p.who)) [some (.d (townEnc t)), some (.d (.list (ps.map Tr.enc))), some (.o (.lst [])), none, none, none, none, none, some (.d (.tuple p.cells))]
    unfold c__law_gaps_0
    walk_at "fx"
  have k1 := strsD_map (ps.map Tr.who)
  have k2 : (ps.map Tr.who).length + 1 < scanBound := by
    rw [List.length_map]
    have : 1000 < scanBound := by decide
    omega
  unfold whos at e
  have e2 : gapsOf t ps = (sortS (uniqS (ps.map Tr.who))).flatMap (gapsWho t ps) := rfl
  rw [e2]
  unfold m__law_gaps b__law_gaps
  walk_at "fx"
/-! # drawing track pages -/
theorem is_track_page_ok {t : List Gate} (hl : t.length ≤ 50000) (htn : ∀ g ∈ t, g.Ok) {p : Tr} (h : p.Ok t) : m_is_track_page [.d (townEnc t), .d p.enc] = .ok (.bool true) [] := by
  obtain ⟨a1, a2, a3, a4, a5, a6, a7, a8, a9, a10, a11, a12⟩ := s2
  have h0 := h.h0; have h1 := h.h1
  have k1 := is_name_ok h.nm
  have k2 := is_within_int p.hour 0 1000000000000
  rw [decide_eq_true h0, decide_eq_true h1] at k2
  have k3 := names_of_ok t (by omega)
  cases e : p.gate with
  | none =>
    rw [enc_seen e]
    cases hi : p.inn <;> simp [m_is_track_page, b_is_track_page, atI, ixN, inF, isTup, isStr, k1, k2, a1, a5]
  | some g =>
    rw [enc_gate e]
    have hg := h.gt g e
    have f1 : ((t.map Gate.name).map PyData.str).all flatD = true := by
      rw [List.all_eq_true]
      intro d hd
      obtain ⟨i, _, rfl⟩ := List.mem_map.mp hd
      rfl
    have f2 : inF (.str g) ((t.map Gate.name).map .str) = true := by
      unfold inF
      rw [List.any_eq_true]
      exact ⟨.str g, List.mem_map.mpr ⟨g, hg.1, rfl⟩, (beq_iff_eq.mpr rfl : (g == g) = true)⟩
    have w1 : ∀ b : Bool, inF (.str (if b = true then "in" else "out")) [.str "in", .str "out"] = true := by
      intro b; cases b <;> decide +kernel
    have w2 : inF (.int 5) [.int 4, .int 5] = true := by decide
    have n0 : atI [PyData.str "gate", .str p.who, .int p.hour, .str g, .str (if p.inn = true then "in" else "out")] 0 = some (.str "gate") := by simp [atI, ixN]
    have n1 : atI [PyData.str "gate", .str p.who, .int p.hour, .str g, .str (if p.inn = true then "in" else "out")] 1 = some (.str p.who) := by simp [atI, ixN]
    have n2 : atI [PyData.str "gate", .str p.who, .int p.hour, .str g, .str (if p.inn = true then "in" else "out")] 2 = some (.int p.hour) := by simp [atI, ixN]
    have n3 : atI [PyData.str "gate", .str p.who, .int p.hour, .str g, .str (if p.inn = true then "in" else "out")] 3 = some (.str g) := by simp [atI, ixN]
    have n4 : atI [PyData.str "gate", .str p.who, .int p.hour, .str g, .str (if p.inn = true then "in" else "out")] 4 = some (.str (if p.inn = true then "in" else "out")) := by simp [atI, ixN]
    have n5 : atI [PyData.str "gate", .str p.who, .int p.hour, .str g, .str (if p.inn = true then "in" else "out")] (-1) = some (.str (if p.inn = true then "in" else "out")) := by simp [atI, ixN]
    have w3 := w1 p.inn
    generalize (if p.inn = true then ("in" : Str) else "out") = w at n0 n1 n2 n3 n4 n5 w3
    unfold m_is_track_page b_is_track_page
    clear w1
    simp [isTup, isStr, n0, n1, n2, n3, n4, n5, w2, w3, f1, f2, k1, k2, k3, -List.map_map]
theorem far_ok {n : Nat} {w : Ow} (h : Bg n w) (hn : n + 3 < 1000000000000) : ∃ r w', m__law_far [.b w] = .ok (.int r) [w'] ∧ 0 ≤ r ∧ r ≤ 1000000000000 ∧ Bg (n + 3) w' := by
  obtain ⟨r1, w1, e1, a1, b1, h1⟩ := take_ok (m := 200) h (by omega) (by omega) (by omega)
  obtain ⟨r2, w2, e2, a2, b2, h2⟩ := take_ok (m := 1000000000001) h1 (by omega) (by omega) (by omega)
  obtain ⟨r3, w3, e3, a3, b3, h3⟩ := take_ok (m := 3) h2 (by omega) (by omega) (by omega)
  have p1 : CPow 10 12 := by decide
  have p2 : (10 : Int) ^ (12 : Int).toNat = 1000000000000 := by decide
  have c : r3 = 0 ∨ r3 = 1 ∨ r3 = 2 := by omega
  rcases c with rfl | rfl | rfl
  · refine ⟨r1, w3, ?_, by omega, by omega, h3⟩
    have n0 : atI [PyData.int r1, .int (1000000000000 - r1), .int r2] 0 = some (.int r1) := by simp [atI, ixN]
    simp [m__law_far, b__law_far, e1, e2, e3, n0, p1, p2]
  · refine ⟨1000000000000 - r1, w3, ?_, by omega, by omega, h3⟩
    have n0 : atI [PyData.int r1, .int (1000000000000 - r1), .int r2] 1 = some (.int (1000000000000 - r1)) := by simp [atI, ixN]
    simp [m__law_far, b__law_far, e1, e2, e3, n0, p1, p2]
  · refine ⟨r2, w3, ?_, by omega, by omega, h3⟩
    have n0 : atI [PyData.int r1, .int (1000000000000 - r1), .int r2] 2 = some (.int r2) := by simp [atI, ixN]
    simp [m__law_far, b__law_far, e1, e2, e3, n0, p1, p2]
/-! # a track page is drawn -/
theorem atI_in {α : Type} {xs : List α} {i : Int} (h0 : 0 ≤ i) (h1 : i < (xs.length : Int)) : ∃ x ∈ xs, atI xs i = some x := by
  obtain ⟨k, rfl⟩ := Int.eq_ofNat_of_zero_le h0
  have hk : k < xs.length := by omega
  refine ⟨xs[k], List.getElem_mem hk, ?_⟩
  unfold atI
  rw [ixN_nat hk]
  show xs[k]? = _
  rw [List.getElem?_eq_getElem hk]
theorem word_in {x y : Str} {r : Int} (h0 : 0 ≤ r) (h1 : r < 2) : ∃ b : Bool, atI [PyData.str x, .str y] r = some (.str (if b = true then x else y)) := by
  have c : r = 0 ∨ r = 1 := by omega
  rcases c with rfl | rfl
  · exact ⟨true, by simp [atI, ixN]⟩
  · exact ⟨false, by simp [atI, ixN]⟩
theorem three_names : ∀ x ∈ ([.str "ann", .str "bo", .str "cy"] : List PyData), ∃ s, x = .str s ∧ nameS s = true := by
  intro x hx
  rcases List.mem_cons.mp hx with rfl | hx
  · exact ⟨_, rfl, by decide +kernel⟩
  rcases List.mem_cons.mp hx with rfl | hx
  · exact ⟨_, rfl, by decide +kernel⟩
  rcases List.mem_cons.mp hx with rfl | hx
  · exact ⟨_, rfl, by decide +kernel⟩
  · cases hx
theorem track_page_ok {n : Nat} {w : Ow} {t : List Gate} (h : Bg n w) (hn : n + 20 < 1000000000000) (ht : TownOk t) : ∃ p w', m__law_track_page [.b w, .d (townEnc t)] = .ok (Tr.enc p) [w'] ∧ p.Ok t ∧ Bg (n + 20) w' := by
  have l1 := ht.l1; have l8 := ht.l8
  obtain ⟨r1, w1, e1, a1, b1, h1⟩ := take_ok (m := 40) h (by omega) (by omega) (by omega)
  obtain ⟨r2, w2, e2, a2, b2, h2⟩ := far_ok h1 (by omega)
  obtain ⟨r3, w3, e3, a3, b3, h3⟩ := take_ok (m := 9) h2 (by omega) (by omega) (by omega)
  obtain ⟨r4, w4, e4, a4, b4, h4⟩ := take_ok (m := 3) h3 (by omega) (by omega) (by omega)
  obtain ⟨r5, w5, e5, a5, b5, h5⟩ := take_ok (m := 2) h4 (by omega) (by omega) (by omega)
  have d1 : CDivW r3 8 := wide_div (b := 64) (by omega) (by omega) (by decide) (by decide)
  obtain ⟨hr, hh, h0, h1e⟩ : ∃ hr : Int, atI [PyData.int r1, .int r2] (r3 / 8) = some (.int hr) ∧ 0 ≤ hr ∧ hr ≤ 1000000000000 := by
    obtain ⟨x, hx, e⟩ := atI_in (xs := [PyData.int r1, .int r2]) (i := r3 / 8) (by omega) (by show r3 / 8 < 2; omega)
    rcases List.mem_cons.mp hx with rfl | hx
    · exact ⟨r1, e, by omega, by omega⟩
    · rcases List.mem_cons.mp hx with rfl | hx
      · exact ⟨r2, e, by omega, by omega⟩
      · cases hx
  obtain ⟨x, hx, ew⟩ := atI_in (xs := [PyData.str "ann", .str "bo", .str "cy"]) (i := r4) a4 (by show r4 < 3; omega)
  obtain ⟨who, rfl, hnm⟩ := three_names x hx
  by_cases c : r5 = 0
  · obtain ⟨r6, w6, e6, a6, b6, h6⟩ := take_ok (m := 2) h5 (by omega) (by omega) (by omega)
    obtain ⟨b, eb⟩ := word_in (x := "within") (y := "without") a6 b6
    refine ⟨⟨who, hr, none, b⟩, w6, ?_, ⟨hnm, h0, h1e, fun g hg => by cases hg⟩, h6.mono (by omega)⟩
    rw [enc_seen rfl]
    subst c
    unfold m__law_track_page b__law_track_page
    generalize townEnc t = tn
    clear hx
    walk_at "fx"
  · obtain ⟨r6, w6, e6, a6, b6, h6⟩ := take_ok (m := (t.length : Int)) h5 (by omega) (by omega) (by omega)
    obtain ⟨r7, w7, e7, a7, b7, h7⟩ := take_ok (m := 2) h6 (by omega) (by omega) (by omega)
    obtain ⟨b, eb⟩ := word_in (x := "in") (y := "out") a7 b7
    obtain ⟨y, hy, ey⟩ := atI_in (xs := t.map Gate.enc) (i := r6) a6 (by rw [List.length_map]; exact b6)
    obtain ⟨g, hg, rfl⟩ := List.mem_map.mp hy
    refine ⟨⟨who, hr, some g.name, b⟩, w7, ?_, ⟨hnm, h0, h1e, fun g2 hg2 => by cases hg2; exact ⟨List.mem_map.mpr ⟨g, hg, rfl⟩, (ht.ok g hg).nm⟩⟩, h7.mono (by omega)⟩
    rw [enc_gate (g := g.name) rfl]
    have n0 : atI [PyData.str g.name, .int g.opens, .int g.shuts, .bool g.small] 0 = some (.str g.name) := by simp [atI, ixN]
    unfold Gate.enc at ey
    have hlen : (t.map Gate.enc).length = t.length := List.length_map _
    unfold Gate.enc at hlen
    unfold townEnc Gate.enc
    have c2 := decide_eq_false c
    unfold m__law_track_page b__law_track_page
    clear hx hy c
    walk_at "fx"
/-! # the law's own look for lies -/
def prD (p : Nat × Nat) : PyData := .tuple [.int (p.1 : Int), .int (p.2 : Int)]
theorem keys_prs : ∀ ls : List (Nat × Nat), keysD false (ls.map prD) = some (ls.map fun p => [(p.1 : Int), (p.2 : Int)])
  | [] => rfl
  | p :: r => by
    show (keyD false (prD p)).bind (fun k => (keysD false (r.map prD)).bind fun ks => some (k :: ks)) = _
    rw [keys_prs r]; rfl
theorem best_le (ks : List (List Int)) : bestMin ks ≤ ks.length - 1 := by
  unfold bestMin
  generalize ks.length - 1 = k
  generalize (fun i j => HT.lexLt (ks.getD i []) (ks.getD j [])) = bt
  induction k with
  | zero => exact Nat.le_refl _
  | succ k ih =>
    show (if bt (k + 1) _ = true then k + 1 else _) ≤ k + 1
    split
    · exact Nat.le_refl _
    · exact Nat.le_succ_of_le ih
theorem min_prs {ls : List (Nat × Nat)} (h : ls ≠ []) : ∃ d, fMin (.list (ls.map prD)) = some d ∧ isN d = false := by
  cases ls with
  | nil => exact absurd rfl h
  | cons p r =>
    have e1 : keysD true ((p :: r).map prD) = none := rfl
    have e2 := keys_prs (p :: r)
    have hb : bestMin ((p :: r).map fun p => [(p.1 : Int), (p.2 : Int)]) < (p :: r).length := by
      refine Nat.lt_of_le_of_lt (best_le _) ?_
      rw [List.length_map]; exact Nat.lt_succ_self _
    refine ⟨prD ((p :: r)[bestMin ((p :: r).map fun p => [(p.1 : Int), (p.2 : Int)])]), ?_, rfl⟩
    unfold fMin
    simp only [e1, e2, Option.bind_some]
    rw [List.getElem?_map, List.getElem?_eq_getElem hb]; rfl
theorem lie_eq (a b : Tr) : (a.same b && (a.gate.isSome || !decide (a = b))) = gainB a b := by
  unfold gainB
  cases hs : a.same b with
  | false => rfl
  | true =>
    have hk : a.gate.isSome = b.gate.isSome := kind_eq (of_decide_eq_true (Bool.and_eq_true_iff.mp hs).1)
    have h2 := (Bool.and_eq_true_iff.mp hs).2
    have hw := of_decide_eq_true (Bool.and_eq_true_iff.mp h2).1
    have hh := of_decide_eq_true (Bool.and_eq_true_iff.mp h2).2
    cases ga : a.gate with
    | some g => rfl
    | none =>
      have gb : b.gate = none := by
        cases h : b.gate with
        | none => rfl
        | some g => rw [ga, h] at hk; cases hk
      show (true && (false || !decide (a = b))) = (true && (false || (a.inn != b.inn)))
      simp only [Bool.true_and, Bool.false_or]
      by_cases c : a.inn = b.inn
      · have : a = b := by
          obtain ⟨w, o, g, i⟩ := a
          obtain ⟨w', o', g', i'⟩ := b
          simp only at *
          subst hw hh c ga gb; rfl
        rw [decide_eq_true this, c]; simp
      · have : ¬ a = b := fun z => c (by rw [z])
        rw [decide_eq_false this]
        cases x : a.inn <;> cases y : b.inn <;> first | rfl | (rw [x, y] at c; exact absurd rfl c)
def liesAt (ps : List Tr) (i m : Nat) : List (Nat × Nat) := ((List.range m).filter fun k => gainB (Tr.at ps k) (Tr.at ps i)).map fun k => (k, i)
def liesTo (ps : List Tr) (n : Nat) : List (Nat × Nat) := (List.range n).flatMap fun i => liesAt ps i i
theorem lies_len (ps : List Tr) (i m : Nat) : (liesAt ps i m).length ≤ m := by
  unfold liesAt
  rw [List.length_map]
  exact Nat.le_trans (List.length_filter_le _ _) (by rw [List.length_range]; exact Nat.le_refl _)
theorem lies_succ (ps : List Tr) (n : Nat) : liesTo ps (n + 1) = liesTo ps n ++ liesAt ps n n := by
  unfold liesTo
  rw [List.range_succ, List.flatMap_append]
  show _ ++ (liesAt ps n n ++ []) = _
  rw [List.append_nil]
theorem lies_to_len (ps : List Tr) : ∀ n, (liesTo ps n).length ≤ n * n
  | 0 => Nat.le_refl _
  | n + 1 => by
    have h1 := lies_to_len ps n
    have h2 := lies_len ps n n
    rw [lies_succ, List.length_append]
    have : (n + 1) * (n + 1) = n * n + n + n + 1 := by rw [Nat.add_mul, Nat.mul_add]; omega
    omega
theorem lies_at_succ (ps : List Tr) (i m : Nat) : (liesAt ps i (m + 1)).map prD = (liesAt ps i m).map prD ++ (if gainB (Tr.at ps m) (Tr.at ps i) = true then [prD (m, i)] else []) := by
  unfold liesAt
  rw [List.range_succ, List.filter_append, List.map_append, List.map_append]
  congr 1
  by_cases c : gainB (Tr.at ps m) (Tr.at ps i) = true
  · rw [if_pos c, List.filter_cons_of_pos (p := fun k => gainB (Tr.at ps k) (Tr.at ps i)) c]; rfl
  · rw [if_neg c, List.filter_cons_of_neg (p := fun k => gainB (Tr.at ps k) (Tr.at ps i)) c]; rfl
theorem lies_nil {ps : List Tr} : liesTo ps ps.length = [] ↔ NoLie ps := by
  unfold liesTo liesAt NoLie
  rw [List.flatMap_eq_nil_iff]
  constructor
  · intro h i j a b hij ha hb
    have hj := (List.getElem?_eq_some_iff.mp hb).1
    have hi : i < ps.length := by omega
    have := h j (List.mem_range.mpr hj)
    rw [List.map_eq_nil_iff, List.filter_eq_nil_iff] at this
    have := this i (List.mem_range.mpr hij)
    rw [at_some hi] at ha
    rw [at_some hj] at hb
    cases ha; cases hb
    exact Bool.eq_false_iff.mpr this
  · intro h i hi
    have hi := List.mem_range.mp hi
    rw [List.map_eq_nil_iff, List.filter_eq_nil_iff]
    intro k hk
    have hk := List.mem_range.mp hk
    rw [h k i _ _ hk (at_some (by omega)) (at_some hi)]
    exact Bool.false_ne_true
abbrev envL (ps : List Tr) (found : List PyData) (a b c d : Option P) : Env := [some (.d (.list (ps.map Tr.enc))), some (.o (.lst found)), a, b, c, d]
theorem lie_body {t : List Gate} {ps : List Tr} (hok : ∀ p ∈ ps, p.Ok t) {found : List PyData} (hf : found.length < 100000) {k i : Nat} (hk : k < ps.length) (hi : i < ps.length) : l__law_tracks_lie_0 (envL ps found (some (.d (.int (i : Int)))) (some (.d (.int (k : Int)))) none none) = .ok .nx (envL ps (found ++ (if gainB (Tr.at ps k) (Tr.at ps i) = true then [prD (k, i)] else [])) (some (.d (.int (i : Int)))) (some (.d (.int (k : Int)))) (some (.d (Tr.at ps k).enc)) (some (.d (Tr.at ps i).enc))) := by
  have k1 := atI_trs hk
  have k2 := atI_trs hi
  rw [enc_cells] at k1 k2
  rw [enc_cells, enc_cells]
  have c1 : cutG (Tr.at ps k).cells none (some 3) = [PyData.str (Tr.at ps k).kind, .str (Tr.at ps k).who, .int (Tr.at ps k).hour] := cut3 _
  have c2 : cutG (Tr.at ps i).cells none (some 3) = [PyData.str (Tr.at ps i).kind, .str (Tr.at ps i).who, .int (Tr.at ps i).hour] := cut3 _
  have s1 := shaped_three (hok _ (at_mem hk))
  have s2 := shaped_three (hok _ (at_mem hi))
  have s3 := shaped_cells (hok _ (at_mem hk))
  have s4 := shaped_cells (hok _ (at_mem hi))
  have q1 := same_eqv (Tr.at ps k) (Tr.at ps i)
  have q2 := eqv_cells (Tr.at ps k) (Tr.at ps i)
  have i1 := ix_kind (Tr.at ps k)
  have g1 := kind_gate (Tr.at ps k)
  rw [← lie_eq]
  unfold prD l__law_tracks_lie_0
  cases b1 : (Tr.at ps k).same (Tr.at ps i) with
  | false =>
    simp only [Bool.false_and, Bool.false_eq_true, if_false, List.append_nil]
    walk_at "fx"
  | true =>
    cases b2 : (Tr.at ps k).gate.isSome with
    | true =>
      simp only [Bool.true_and, Bool.true_or, if_true]
      walk_at "fx"
    | false =>
      cases b3 : decide (Tr.at ps k = Tr.at ps i) with
      | true =>
        simp only [Bool.true_and, Bool.false_or, Bool.not_true, Bool.false_eq_true, if_false, List.append_nil]
        walk_at "fx"
      | false =>
        simp only [Bool.true_and, Bool.false_or, Bool.not_false, if_true]
        walk_at "fx"
/-! # the law's own look for lies, whole; pages that don't lie -/
theorem tracks_lie_ok {t : List Gate} {ps : List Tr} (hok : ∀ p ∈ ps, p.Ok t) (hl : ps.length ≤ 200) : ∃ d, m__law_tracks_lie [.d (.list (ps.map Tr.enc))] = .ok d [] ∧ (isN d = true ↔ NoLie ps) := by
  have inner : ∀ (i : Nat) (base : List PyData), i < ps.length → base.length ≤ 40000 → ∃ ρ', forL (gN 3) l__law_tracks_lie_0 [3, 4, 5] ((List.range i).map natD) (envL ps base (some (.d (.int (i : Int)))) none none none) = .ok .nx ρ' ∧ ρ' = envL ps (base ++ (liesAt ps i (List.range i).length).map prD) (some (.d (.int (i : Int)))) none none none := by
    intro i base hi hb
    refine for_inv natD (List.range i) (fun n ρ => ρ = envL ps (base ++ (liesAt ps i n).map prD) (some (.d (.int (i : Int)))) none none none) _ (by show _ = envL ps (base ++ []) _ _ _ _; rw [List.append_nil]) ?_
    rintro n k ρ hk rfl
    obtain ⟨hn, hkn⟩ := List.getElem?_eq_some_iff.mp hk
    rw [List.length_range] at hn
    rw [List.getElem_range] at hkn
    subst hkn
    have hlen : (base ++ (liesAt ps i n).map prD).length < 100000 := by
      have := lies_len ps i n
      rw [List.length_append, List.length_map]; omega
    have b := lie_body hok hlen (k := n) (i := i) (by omega) hi
    rw [List.append_assoc, ← lies_at_succ] at b
    exact ⟨envL ps (base ++ (liesAt ps i n).map prD) (some (.d (.int (i : Int)))) (some (.d (.int (n : Int)))) none none, _, rfl, Or.inl b, rfl⟩
  have outer : ∃ ρ', forL (gN 2) l__law_tracks_lie_1 [2, 3, 4, 5] ((List.range ps.length).map natD) (envL ps [] none none none none) = .ok .nx ρ' ∧ ρ' = envL ps ((liesTo ps (List.range ps.length).length).map prD) none none none none := by
    refine for_inv natD (List.range ps.length) (fun n ρ => ρ = envL ps ((liesTo ps n).map prD) none none none none) _ rfl ?_
    rintro n i ρ hi rfl
    obtain ⟨hn, hin⟩ := List.getElem?_eq_some_iff.mp hi
    rw [List.length_range] at hn
    rw [List.getElem_range] at hin
    subst hin
    have hb : ((liesTo ps n).map prD).length ≤ 40000 := by
      rw [List.length_map]
      exact Nat.le_trans (lies_to_len ps n) (Nat.le_trans (Nat.mul_le_mul (show n ≤ 200 by omega) (show n ≤ 200 by omega)) (by decide))
    obtain ⟨ρ', e, rfl⟩ := inner n _ hn hb
    rw [List.length_range, ← List.map_append, ← lies_succ, ← rngD_nat] at e
    have r1 : rngOk (n : Int) = true := rngOk_iff.mpr (by omega)
    have r2 : (n : Int).toNat = n := Int.toNat_natCast n
    refine ⟨envL ps ((liesTo ps n).map prD) (some (.d (.int (n : Int)))) none none none, envL ps ((liesTo ps (n + 1)).map prD) (some (.d (.int (n : Int)))) none none none, rfl, Or.inl ?_, rfl⟩
    unfold l__law_tracks_lie_1
    walk_at "fx"
  obtain ⟨ρ', e, rfl⟩ := outer
  rw [List.length_range, ← rngD_nat] at e
  have r1 : rngOk (ps.length : Int) = true := rngOk_iff.mpr (by omega)
  have r2 : (ps.length : Int).toNat = ps.length := Int.toNat_natCast _
  have r3 : (ps.map Tr.enc).length = ps.length := List.length_map _
  have r4 : [PyData.none].all flatD = true := rfl
  by_cases c : liesTo ps ps.length = []
  · refine ⟨.none, ?_, fun _ => lies_nil.mp c, fun _ => rfl⟩
    rw [c] at e
    simp only [List.map_nil] at e
    unfold m__law_tracks_lie b__law_tracks_lie
    clear c
    walk_at "fx"
  · obtain ⟨d, ed, hd⟩ := min_prs c
    refine ⟨d, ?_, fun z => by (rw [hd] at z; cases z), fun z => absurd (lies_nil.mpr z) c⟩
    obtain ⟨a, r, er⟩ := List.exists_cons_of_ne_nil c
    rw [er] at e ed
    simp only [List.map_cons] at e ed
    unfold m__law_tracks_lie b__law_tracks_lie
    clear c er
    walk_at "fx"
theorem nolie_nil : NoLie [] := fun i j a b _ ha => by cases ha
theorem tracks_ok {n : Nat} {w : Ow} {t : List Gate} {m : Int} (h : Bg n w) (hn : n + 5000 < 1000000000000) (ht : TownOk t) (m0 : 0 ≤ m) (m1 : m ≤ 100) : ∃ ps w', m__law_tracks [.b w, .d (townEnc t), .d (.int m)] = .fr (.lst (ps.map Tr.enc)) [w'] ∧ (∀ p ∈ ps, p.Ok t) ∧ NoLie ps ∧ (ps.length : Int) ≤ m ∧ Bg (n + 5000) w' := by
  obtain ⟨r, w1, e1, r0, r1, h1⟩ := take_ok (m := m + 1) h (by omega) (by omega) (by omega)
  obtain ⟨k, rfl⟩ := Int.eq_ofNat_of_zero_le r0
  have loop : ∃ ρ', forL (gN 4) l__law_tracks_0 [4, 5] ((List.range k).map natD) [some (.b w1), some (.d (townEnc t)), some (.d (.int m)), some (.o (.lst [])), none, none] = .ok .nx ρ' ∧ ∃ ps w', ρ' = [some (.b w'), some (.d (townEnc t)), some (.d (.int m)), some (.o (.lst (ps.map Tr.enc))), none, none] ∧ (∀ p ∈ ps, p.Ok t) ∧ NoLie ps ∧ ps.length ≤ (List.range k).length ∧ Bg (n + 1 + 20 * (List.range k).length) w' := by
    refine for_inv natD (List.range k) (fun i ρ => ∃ ps w', ρ = [some (.b w'), some (.d (townEnc t)), some (.d (.int m)), some (.o (.lst (ps.map Tr.enc))), none, none] ∧ (∀ p ∈ ps, p.Ok t) ∧ NoLie ps ∧ ps.length ≤ i ∧ Bg (n + 1 + 20 * i) w') _ ⟨[], w1, rfl, (fun _ h => nomatch h), nolie_nil, Nat.le_refl _, h1⟩ ?_
    rintro i j ρ hj ⟨ps, w2, rfl, hok, hno, hl, h2⟩
    have hi : i < k := by have := (List.getElem?_eq_some_iff.mp hj).1; rw [List.length_range] at this; exact this
    obtain ⟨p, w3, e3, hp, h3⟩ := track_page_ok h2 (by omega) ht
    have hok2 : ∀ q ∈ ps ++ [p], q.Ok t := by
      intro q hq
      rcases List.mem_append.mp hq with z | z
      · exact hok q z
      · rw [List.mem_singleton.mp z]; exact hp
    obtain ⟨d, e4, h4⟩ := tracks_lie_ok hok2 (by rw [List.length_append]; show ps.length + 1 ≤ 200; omega)
    have e5 : (ps ++ [p]).map Tr.enc = ps.map Tr.enc ++ [p.enc] := by rw [List.map_append]; rfl
    rw [e5] at e4
    have l1 : (ps.map Tr.enc).length ≤ 99999 := by rw [List.length_map]; omega
    have l2 : (ps.map Tr.enc).length < 100000 := by rw [List.length_map]; omega
    generalize p.enc = pe at e3 e4 e5
    by_cases c : isN d = true
    · refine ⟨[some (.b w2), some (.d (townEnc t)), some (.d (.int m)), some (.o (.lst (ps.map Tr.enc))), some (.d (natD j)), none], [some (.b w3), some (.d (townEnc t)), some (.d (.int m)), some (.o (.lst (ps.map Tr.enc ++ [pe]))), some (.d (natD j)), some (.d pe)], rfl, Or.inl ?_, ps ++ [p], w3, by rw [e5]; rfl, hok2, h4.mp c, by rw [List.length_append]; show ps.length + 1 ≤ i + 1; omega, h3.mono (by omega)⟩
      unfold l__law_tracks_0
      clear e5 h4
      walk_at "fx"
    · have c2 := Bool.eq_false_iff.mpr c
      refine ⟨[some (.b w2), some (.d (townEnc t)), some (.d (.int m)), some (.o (.lst (ps.map Tr.enc))), some (.d (natD j)), none], [some (.b w3), some (.d (townEnc t)), some (.d (.int m)), some (.o (.lst (ps.map Tr.enc))), some (.d (natD j)), some (.d pe)], rfl, Or.inl ?_, ps, w3, rfl, hok, hno, by omega, h3.mono (by omega)⟩
      unfold l__law_tracks_0
      clear e5 h4 c
      walk_at "fx"
  obtain ⟨ρ', e, ps, w', rfl, hok, hno, hl, hb⟩ := loop
  rw [List.length_range] at hl hb
  rw [← rngD_nat] at e
  have q1 : rngOk (k : Int) = true := rngOk_iff.mpr (by omega)
  have q2 : (k : Int).toNat = k := Int.toNat_natCast k
  refine ⟨ps, w', ?_, hok, hno, by omega, hb.mono (by omega)⟩
  unfold m__law_tracks b__law_tracks
  clear hok hno
  walk_at "fx"
/-! # shuffling pages -/
theorem shaped_pages {t : List Gate} {ps : List Tr} (h : ∀ p ∈ ps, p.Ok t) : SeqAt.shaped (.list (ps.map Tr.enc)) = true := shaped_of (sh_list (n := 1) (sh_map fun p hp => sh_tr (h p hp))) (by decide)
theorem erase_map {α β : Type} (f : α → β) : ∀ (l : List α) (k : Nat), (l.map f).eraseIdx k = (l.eraseIdx k).map f
  | [], _ => rfl
  | _ :: _, 0 => rfl
  | a :: r, k + 1 => by
    show f a :: (r.map f).eraseIdx k = f a :: (r.eraseIdx k).map f
    rw [erase_map f r k]
theorem erase_perm {α : Type} : ∀ (l : List α) (k : Nat) (x : α), l[k]? = some x → (x :: l.eraseIdx k).Perm l
  | [], _, _, h => by cases h
  | a :: r, 0, x, h => by cases h; exact List.Perm.refl _
  | a :: r, k + 1, x, h => (List.Perm.swap a x (r.eraseIdx k)).trans ((erase_perm r k x h).cons a)
abbrev envS (w : Ow) (all : PyData) (left found : List Tr) : Env := [some (.b w), some (.d all), some (.o (.lst (left.map Tr.enc))), some (.o (.lst (found.map Tr.enc)))]
theorem shuf_loop {t : List Gate} {all : PyData} : ∀ (fuel : Nat) (left found : List Tr) (n : Nat) (w : Ow), left.length < fuel → (∀ p ∈ left, p.Ok t) → found.length + left.length ≤ 1000 → Bg n w → n + left.length < 1000000000 → ∃ qs w', whileN w__law_shuffled_0 [] l__law_shuffled_0 fuel (envS w all left found) = .ok .nx (envS w' all [] qs) ∧ qs.Perm (found ++ left) ∧ Bg (n + left.length) w'
  | 0, _, _, _, _, h, _, _, _, _ => absurd h (Nat.not_lt_zero _)
  | fuel + 1, left, found, n, w, hf, hok, hl, hb, hn => by
    have k1 := shaped_pages hok
    have k2 := shaped_nil
    have k3 := eqv_nil (left.map Tr.enc)
    rw [List.isEmpty_map] at k3
    have test : w__law_shuffled_0 (envS w all left found) = .ok (!left.isEmpty) (envS w all left found) := by
      unfold w__law_shuffled_0
      walk_at "fx"
    have step : whileN w__law_shuffled_0 [] l__law_shuffled_0 (fuel + 1) (envS w all left found) = (w__law_shuffled_0 (envS w all left found)).bind fun b ρ1 => if b = true then turnK (fun ρ2 => whileN w__law_shuffled_0 [] l__law_shuffled_0 fuel ρ2) [] (l__law_shuffled_0 ρ1) else .ok .nx ρ1 := rfl
    rw [step, test]
    cases hle : left with
    | nil =>
      refine ⟨found, w, rfl, by rw [List.append_nil], hb⟩
    | cons a0 r0 =>
      rw [← hle]
      have hpos : 0 < left.length := by rw [hle]; exact Nat.succ_pos _
      have hemp : (!left.isEmpty) = true := by rw [hle]; rfl
      obtain ⟨r, w1, e1, r1, r2, h1⟩ := take_ok (m := (left.length : Int)) hb (by omega) (by omega) (by omega)
      obtain ⟨k, rfl⟩ := Int.eq_ofNat_of_zero_le r1
      have hk : k < left.length := by omega
      have ek : left[k]? = some left[k] := List.getElem?_eq_getElem hk
      have pm := erase_perm left k _ ek
      generalize left[k] = x at ek pm
      have hl2 : (left.eraseIdx k).length + 1 = left.length := pm.length_eq
      have q1 : (left.map Tr.enc)[k]? = some x.enc := by rw [List.getElem?_map, ek]; rfl
      have q2 := erase_map Tr.enc left k
      have q3 : (k : Int).toNat = k := Int.toNat_natCast k
      have q4 : (left.map Tr.enc).length = left.length := List.length_map _
      have q5 : (0 : Int) ≤ (k : Int) ∧ (k : Int) < (left.length : Int) ∧ left.length ≤ 100000 := ⟨r1, r2, by omega⟩
      have q6 : (found.map Tr.enc).length < 100000 := by rw [List.length_map]; omega
      have body : l__law_shuffled_0 (envS w all left found) = .ok .nx (envS w1 all (left.eraseIdx k) (found ++ [x])) := by
        have e5 : (found ++ [x]).map Tr.enc = found.map Tr.enc ++ [x.enc] := by rw [List.map_append]; rfl
        unfold envS
        rw [e5, ← q2]
        generalize x.enc = xe at q1
        unfold l__law_shuffled_0
        clear e5 hle q2 pm ek
        obtain ⟨q7, q8, q9⟩ := q5
        walk_at "fx"
      obtain ⟨qs, w', e, pq, hq⟩ := shuf_loop (t := t) (all := all) fuel (left.eraseIdx k) (found ++ [x]) (n + 1) w1 (by omega) (fun p hp => hok p (pm.subset (List.mem_cons_of_mem _ hp))) (by rw [List.length_append]; show found.length + 1 + _ ≤ _; omega) h1 (by omega)
      refine ⟨qs, w', ?_, ?_, hq.mono (by omega)⟩
      · rw [hemp]
        show turnK _ [] (l__law_shuffled_0 (envS w all left found)) = _
        rw [body]
        exact e
      · refine pq.trans ?_
        rw [List.append_assoc]
        exact (List.Perm.refl found).append pm
theorem shuffled_ok {t : List Gate} {ps : List Tr} {n : Nat} {w : Ow} (hok : ∀ p ∈ ps, p.Ok t) (hl : ps.length ≤ 900) (hb : Bg n w) (hn : n + 2000 < 1000000000) : ∃ (qs : List Tr) (w' : Ow), m__law_shuffled [.b w, .d (.list (ps.map Tr.enc))] = .fr (.lst (qs.map Tr.enc)) [w'] ∧ qs.Perm ps ∧ Bg (n + 1000) w' := by
  obtain ⟨qs, w', e, pq, hq⟩ := shuf_loop (t := t) (all := .list (ps.map Tr.enc)) 1000 ps [] n w (by omega) hok (by show 0 + _ ≤ _; omega) hb (by omega)
  refine ⟨qs, w', ?_, pq, hq.mono (by omega)⟩
  unfold envS at e
  simp only [List.map_nil] at e
  have q6 : (ps.map Tr.enc).length ≤ 100000 := by rw [List.length_map]; omega
  unfold m__law_shuffled b__law_shuffled
  clear pq
  walk_at "fx"
/-! # tracks don't hang on the order of the pages -/
theorem same_comm (a b : Tr) : a.same b = b.same a := by
  unfold Tr.same
  rw [Bool.eq_iff_iff]
  simp only [Bool.and_eq_true, decide_eq_true_eq]
  constructor
  · rintro ⟨h1, h2, h3⟩; exact ⟨h1.symm, h2.symm, h3.symm⟩
  · rintro ⟨h1, h2, h3⟩; exact ⟨h1.symm, h2.symm, h3.symm⟩
theorem gain_comm (a b : Tr) : gainB a b = gainB b a := by
  unfold gainB
  rw [same_comm a b]
  cases hs : b.same a with
  | false => rfl
  | true =>
    have hk : b.gate.isSome = a.gate.isSome := kind_eq (of_decide_eq_true (Bool.and_eq_true_iff.mp hs).1)
    rw [hk]
    cases a.inn <;> cases b.inn <;> rfl
theorem nolie_pw {ps : List Tr} : NoLie ps ↔ ps.Pairwise fun a b => gainB a b = false := by
  rw [List.pairwise_iff_getElem]
  constructor
  · intro h i j hi hj hij
    exact h i j _ _ hij (List.getElem?_eq_getElem hi) (List.getElem?_eq_getElem hj)
  · intro h i j a b hij ha hb
    obtain ⟨hi, rfl⟩ := List.getElem?_eq_some_iff.mp ha
    obtain ⟨hj, rfl⟩ := List.getElem?_eq_some_iff.mp hb
    exact h i j hi hj hij
theorem nolie_perm {ps qs : List Tr} (h : qs.Perm ps) (hn : NoLie ps) : NoLie qs :=
  nolie_pw.mpr ((h.pairwise_iff fun {a b} z => by rw [gain_comm]; exact z).mpr (nolie_pw.mp hn))
def pl (a b : Tr) : Prop := a.hour < b.hour ∨ (a.hour = b.hour ∧ kindI a < kindI b)
def trackP (ps : List Tr) (who : Str) : List Tr := (trackOf ps who).map (Tr.at ps)
theorem trackP_pw {ps : List Tr} (hn : NoLie ps) (who : Str) : (trackP ps who).Pairwise pl := by
  unfold trackP
  refine List.pairwise_map.mpr ?_
  have h1 : (trackOf ps who).Pairwise (kl ps) := List.Pairwise.sublist List.filter_sublist (row_sorted ps who)
  refine h1.imp_of_mem fun {i j} hi hj h => ?_
  obtain ⟨hi1, hi2⟩ := List.mem_filter.mp hi
  obtain ⟨hj1, hj2⟩ := List.mem_filter.mp hj
  obtain ⟨hi3, hi4⟩ := row_mem.mp hi1
  obtain ⟨hj3, hj4⟩ := row_mem.mp hj1
  rcases kl_iff.mp h with z | ⟨z, y | ⟨y, x⟩⟩
  · exact .inl z
  · exact .inr ⟨z, y⟩
  · have hij : i < j := by omega
    have e := nolie_eq hn hi3 hj3 (by omega) (by rw [hi4, hj4]) z y
    rw [fresh_no hij e] at hj2
    cases hj2
theorem new_first {ps : List Tr} {p : Tr} : ∀ (n i : Nat), i < n → Tr.at ps i = p → ∃ j, j ≤ i ∧ Tr.at ps j = p ∧ newP ps j = true
  | 0, _, h, _ => absurd h (Nat.not_lt_zero _)
  | n + 1, i, hi, e => by
    cases c : newP ps i with
    | true => exact ⟨i, Nat.le_refl _, e, c⟩
    | false =>
      unfold newP at c
      obtain ⟨k, hk, hb⟩ := List.all_eq_false.mp c
      have hk := List.mem_range.mp hk
      have hb : Tr.at ps k = Tr.at ps i := by
        cases d : decide (Tr.at ps k = Tr.at ps i) with
        | true => exact of_decide_eq_true d
        | false => rw [d] at hb; exact absurd rfl hb
      obtain ⟨j, h1, h2, h3⟩ := new_first n k (by omega) (hb.trans e)
      exact ⟨j, by omega, h2, h3⟩
theorem trackP_mem {ps : List Tr} {who : Str} {p : Tr} : p ∈ trackP ps who ↔ p ∈ ps ∧ p.who = who := by
  unfold trackP
  rw [List.mem_map]
  constructor
  · rintro ⟨i, hi, rfl⟩
    obtain ⟨h1, h2⟩ := row_mem.mp (List.mem_filter.mp hi).1
    exact ⟨at_mem h1, h2⟩
  · rintro ⟨h1, h2⟩
    obtain ⟨i, hi, e⟩ := List.getElem_of_mem h1
    have e2 : Tr.at ps i = p := by
      have := at_some hi
      rw [List.getElem?_eq_getElem hi] at this
      exact (Option.some.inj this).symm.trans e
    obtain ⟨j, h3, h4, h5⟩ := new_first (ps := ps) (i + 1) i (Nat.lt_succ_self _) e2
    exact ⟨j, List.mem_filter.mpr ⟨row_mem.mpr ⟨by omega, by rw [h4]; exact h2⟩, h5⟩, h4⟩
theorem trackP_perm {ps qs : List Tr} (h : qs.Perm ps) (hn : NoLie ps) (who : Str) : trackP qs who = trackP ps who := by
  have a := trackP_pw hn who
  have b := trackP_pw (nolie_perm h hn) who
  have irr : ∀ {x y : Tr}, pl x y → x ≠ y := fun {x y} z e => by subst e; unfold pl at z; omega
  refine List.Perm.eq_of_pairwise (le := pl) (fun x y _ _ h1 h2 => by unfold pl at h1 h2; omega) b a ?_
  refine (List.perm_ext_iff_of_nodup (b.imp irr) (a.imp irr)).mpr fun p => ?_
  rw [trackP_mem, trackP_mem, h.mem_iff]
/-! # k19: gaps -/
theorem look_at_town_ok {t : List Gate} (h : TownOk t) : m_look_at_town [.d (townEnc t)] = .ok .none [] := by
  have k := is_town_ok h
  unfold m_look_at_town b_look_at_town
  walk_at "fx"
theorem look_at_tracks_ok {t : List Gate} (h : TownOk t) {ps : List Tr} (hok : ∀ p ∈ ps, p.Ok t) (hl : ps.length ≤ 200) : m_look_at_tracks [.d (townEnc t), .d (.list (ps.map Tr.enc))] = .ok .none [] := by
  have l8 := h.l8
  have k := look_at_town_ok h
  have c : lcL (gN 2) mYes c_look_at_tracks_0 [2] (ps.map Tr.enc) [] [some (.d (townEnc t)), some (.d (.list (ps.map Tr.enc))), none] = .ok (ps.map fun _ => .bool true) [some (.d (townEnc t)), some (.d (.list (ps.map Tr.enc))), none] := by
    refine lc_all (by rfl) Tr.enc (fun _ => .bool true) ps (by omega) fun p hp => ⟨_, rfl, rfl, ?_⟩
    have k := is_track_page_ok (t := t) (by omega) h.ok (hok p hp)
    generalize p.enc = pe at k
    unfold c_look_at_tracks_0
    walk_at "fx"
  have e1 : (ps.map Tr.enc).length = ps.length := List.length_map _
  have e2 : decide ((ps.length : Int) > 200) = false := decide_eq_false (by omega)
  have e3 := boolsD_mapF ps fun _ => true
  have e4 : (ps.map fun _ => true).all id = true := by
    rw [List.all_eq_true]
    intro x hx
    obtain ⟨_, _, rfl⟩ := List.mem_map.mp hx
    rfl
  have e5 : isLst (.list (ps.map Tr.enc)) = true := rfl
  unfold m_look_at_tracks b_look_at_tracks
  walk_at "fx"
theorem look_at_ways_ok {t : List Gate} (h : TownOk t) {ps : List Tr} (hok : ∀ p ∈ ps, p.Ok t) (hl : ps.length ≤ 200) (hn : NoLie ps) : m_look_at_ways [.d (townEnc t), .d (.list (ps.map Tr.enc))] = .ok .none [] := by
  have k1 := look_at_tracks_ok h hok hl
  have k2 := lie_of_tracks_ok hok (by omega) hn
  have k3 : isN .none = true := rfl
  unfold m_look_at_ways b_look_at_ways
  clear hn
  walk_at "fx"
theorem gaps_ok {t : List Gate} (h : TownOk t) {ps : List Tr} (hok : ∀ p ∈ ps, p.Ok t) (hl : ps.length ≤ 200) (hn : NoLie ps) : m_gaps [.d (townEnc t), .d (.list (ps.map Tr.enc))] = .fr (.lst (gapsOf t ps)) [] := by
  have l8 := h.l8
  have k1 := look_at_ways_ok h hok hl hn
  have k2 := gaps_in_ok h.ok (by omega) hok hl hn
  unfold m_gaps b_gaps
  clear hn
  walk_at "fx"
/-! # k19: places as pages -/
def gapIx (ps : List Tr) : List (Str × (Nat × Nat)) := (whos ps).flatMap fun who => ((pairsOf ps who).filter (gapHere ps)).map fun p => (who, p)
theorem gaps_ix (t : List Gate) (ps : List Tr) : gapsOf t ps = (gapIx ps).map fun x => gapEnc t ps x.1 x.2 := by
  unfold gapsOf gapIx
  rw [List.map_flatMap]
  congr 1
  funext who
  unfold gapsWho gapsTo
  rw [List.map_map]; rfl
def plEnc (t : List Gate) (who : Str) (p : Tr × Tr) : PyData := .tuple ([.str who, p.1.enc, p.2.enc] ++ edgesL (edges t p.1.hour (gapHi p.2)))
def plWho (t : List Gate) (ps : List Tr) (who : Str) : List PyData := (((trackP ps who).zip ((trackP ps who).drop 1)).filter fun p => !(p.1.inn == p.2.finds)).map (plEnc t who)
def placesOf (t : List Gate) (ps : List Tr) : List PyData := (whos ps).flatMap (plWho t ps)
theorem places_ix (t : List Gate) (ps : List Tr) : placesOf t ps = (gapIx ps).map fun x => plEnc t x.1 (Tr.at ps x.2.1, Tr.at ps x.2.2) := by
  unfold placesOf gapIx
  rw [List.map_flatMap]
  congr 1
  funext who
  unfold plWho trackP pairsOf
  rw [← List.map_drop, List.zip_map, List.filter_map, List.map_map, List.map_map]; rfl
theorem whos_perm {ps qs : List Tr} (h : qs.Perm ps) : whos qs = whos ps := by
  unfold whos
  refine List.Perm.eq_of_pairwise (le := fun a b => leS a b = true) (fun a b _ _ h1 h2 => leS_antisymm h1 h2) (sortS_sorted _) (sortS_sorted _) ?_
  refine (sortS_perm _).trans (List.Perm.trans ?_ (sortS_perm _).symm)
  refine (List.perm_ext_iff_of_nodup (uniqS_nodup _) (uniqS_nodup _)).mpr fun y => ?_
  rw [uniqS_mem, uniqS_mem, (h.map Tr.who).mem_iff]
theorem places_perm (t : List Gate) {ps qs : List Tr} (h : qs.Perm ps) (hn : NoLie ps) : placesOf t qs = placesOf t ps := by
  unfold placesOf
  rw [whos_perm h]
  congr 1
  funext who
  unfold plWho
  rw [trackP_perm h hn]
theorem ix_mem {ps : List Tr} {x : Str × (Nat × Nat)} (h : x ∈ gapIx ps) : x.2.1 < ps.length ∧ x.2.2 < ps.length := by
  unfold gapIx at h
  obtain ⟨who, hw, h⟩ := List.mem_flatMap.mp h
  obtain ⟨p, hp, rfl⟩ := List.mem_map.mp h
  exact pairs_mem (List.mem_filter.mp hp).1
theorem ix_len (t : List Gate) (ps : List Tr) : (gapIx ps).length = (gapsOf t ps).length := by rw [gaps_ix t ps, List.length_map]
theorem law_places_ok {t : List Gate} {ps : List Tr} (hl : ps.length ≤ 200) : m__law_places [.d (.list (gapsOf t ps)), .d (.list (ps.map Tr.enc))] = .ok (.list (placesOf t ps)) [] := by
  have hlen : (gapIx ps).length ≤ 100000 := by
    rw [ix_len t ps]
    refine Nat.le_trans (flat_len t ps _) ?_
    exact Nat.le_trans (Nat.mul_le_mul (Nat.le_trans (whos_len ps) hl) hl) (by decide)
  rw [gaps_ix, places_ix]
  generalize hR : PyData.list ((gapIx ps).map fun x => gapEnc t ps x.1 x.2) = R
  have c : lcL (gN 2) mYes c__law_places_0 [2] ((gapIx ps).map fun x => gapEnc t ps x.1 x.2) [] [some (.d R), some (.d (.list (ps.map Tr.enc))), none] = .ok ((gapIx ps).map fun x => plEnc t x.1 (Tr.at ps x.2.1, Tr.at ps x.2.2)) [some (.d R), some (.d (.list (ps.map Tr.enc))), none] := by
    refine lc_all (by rfl) (fun x : Str × (Nat × Nat) => gapEnc t ps x.1 x.2) (fun x => plEnc t x.1 (Tr.at ps x.2.1, Tr.at ps x.2.2)) _ hlen fun x hx => ⟨_, rfl, rfl, ?_⟩
    obtain ⟨who, i, j⟩ := x
    have hm := ix_mem hx
    have k1 := atI_trs hm.1
    have k2 := atI_trs hm.2
    simp only at k1 k2
    have el := edges_len (gapOf t ps i j)
    show c__law_places_0 [some (.d R), some (.d (.list (ps.map Tr.enc))), some (.d (.tuple (.str who :: .int (i : Int) :: .int (j : Int) :: edgesL (gapOf t ps i j))))] = .ok (.d (.tuple (.str who :: (Tr.at ps i).enc :: (Tr.at ps j).enc :: edgesL (gapOf t ps i j)))) [some (.d R), some (.d (.list (ps.map Tr.enc))), some (.d (.tuple (.str who :: .int (i : Int) :: .int (j : Int) :: edgesL (gapOf t ps i j))))]
    generalize edgesL (gapOf t ps i j) = es at el
    generalize (Tr.at ps i).enc = pi at k1
    generalize (Tr.at ps j).enc = pj at k2
    have n0 : atI (PyData.str who :: .int (i : Int) :: .int (j : Int) :: es) 0 = some (.str who) := by simp [atI, ixN, el]
    have n1 : atI (PyData.str who :: .int (i : Int) :: .int (j : Int) :: es) 1 = some (.int (i : Int)) := by simp [atI, ixN, el]
    have n2 : atI (PyData.str who :: .int (i : Int) :: .int (j : Int) :: es) 2 = some (.int (j : Int)) := by simp [atI, ixN, el]
    have n3 : cutG (PyData.str who :: .int (i : Int) :: .int (j : Int) :: es) (some 3) none = es := cutG_from _ 3
    unfold c__law_places_0
    walk_at "fx"
  unfold m__law_places b__law_places
  subst hR
  walk_at "fx"
/-! # k19: the law -/
theorem sh_edges (e : Option (Int × Int)) : ∀ d ∈ edgesL e, Sh 0 d := by
  cases e with
  | none => exact sh_cons sh_none (sh_cons sh_none sh_nil)
  | some p => exact sh_cons sh_int (sh_cons sh_int sh_nil)
theorem whos_nm {t : List Gate} {ps : List Tr} (hok : ∀ p ∈ ps, p.Ok t) {x : Str × (Nat × Nat)} (h : x ∈ gapIx ps) : nameS x.1 = true := by
  unfold gapIx at h
  obtain ⟨who, hw, h⟩ := List.mem_flatMap.mp h
  obtain ⟨p, hp, rfl⟩ := List.mem_map.mp h
  have h2 := uniqS_mem.mp ((sortS_perm _).mem_iff.mp hw)
  obtain ⟨q, hq, rfl⟩ := List.mem_map.mp h2
  exact (hok q hq).nm
theorem shaped_gaps {t : List Gate} {ps : List Tr} (hok : ∀ p ∈ ps, p.Ok t) : SeqAt.shaped (.list (gapsOf t ps)) = true := by
  rw [gaps_ix]
  refine shaped_of (sh_list (n := 1) (sh_map fun x hx => ?_)) (by decide)
  exact sh_tuple (n := 0) (sh_cons (sh_str (lay_name (whos_nm hok hx)).2) (sh_cons sh_int (sh_cons sh_int (sh_edges _))))
theorem shaped_places {t : List Gate} {ps : List Tr} (hok : ∀ p ∈ ps, p.Ok t) : SeqAt.shaped (.list (placesOf t ps)) = true := by
  rw [places_ix]
  refine shaped_of (sh_list (n := 2) (sh_map fun x hx => ?_)) (by decide)
  have hm := ix_mem hx
  refine sh_tuple (n := 1) (sh_cons (sh_str (lay_name (whos_nm hok hx)).2) (sh_cons (sh_tr (hok _ (at_mem hm.1))) (sh_cons (sh_tr (hok _ (at_mem hm.2))) fun d hd => (sh_edges _ d hd).mono (by decide))))
/-! # k19: the law's turn -/
def evenG (g : Gate) : Gate := ⟨g.name, g.opens, g.opens, g.small⟩
theorem even_ok {t : List Gate} (h : TownOk t) : TownOk (t.map evenG) := by
  refine ⟨by rw [List.length_map]; exact h.l1, by rw [List.length_map]; exact h.l8, fun g hg => ?_, ?_⟩
  · obtain ⟨g, hg2, rfl⟩ := List.mem_map.mp hg
    have k := h.ok g hg2
    exact ⟨k.nm, k.o0, k.o1, k.o0, k.o1⟩
  · rw [List.map_map]
    exact h.rs
theorem even_run {t : List Gate} (hl : t.length ≤ 8) {a b c : Option P} : lcL (gN 10) mYes c_law_0 [10] (t.map Gate.enc) [] [a, b, c, some (.d (townEnc t)), none, none, none, none, none, none, none] = .ok ((t.map evenG).map Gate.enc) [a, b, c, some (.d (townEnc t)), none, none, none, none, none, none, none] := by
  rw [List.map_map]
  refine lc_all (by rfl) Gate.enc (Gate.enc ∘ evenG) t (by omega) fun g hg => ⟨_, rfl, rfl, ?_⟩
  have n0 : atI [PyData.str g.name, .int g.opens, .int g.shuts, .bool g.small] 0 = some (.str g.name) := by simp [atI, ixN]
  have n1 : atI [PyData.str g.name, .int g.opens, .int g.shuts, .bool g.small] 1 = some (.int g.opens) := by simp [atI, ixN]
  have n3 : atI [PyData.str g.name, .int g.opens, .int g.shuts, .bool g.small] 3 = some (.bool g.small) := by simp [atI, ixN]
  show c_law_0 [a, b, c, some (.d (townEnc t)), none, none, none, none, none, none, some (.d (.tuple [PyData.str g.name, .int g.opens, .int g.shuts, .bool g.small]))] = .ok (.d (.tuple [PyData.str g.name, .int g.opens, .int g.opens, .bool g.small])) [a, b, c, some (.d (townEnc t)), none, none, none, none, none, none, some (.d (.tuple [PyData.str g.name, .int g.opens, .int g.shuts, .bool g.small]))]
  unfold c_law_0
  walk_at "fx"
/-! # k19: the law's turn, whole -/
theorem eqv_shaped {n : Nat} {d : PyData} (h : Sh n d) : PyData.eqv d d = true := SeqAt.eqv_refl d h.1
theorem eqv_gaps {t : List Gate} {ps : List Tr} (hok : ∀ p ∈ ps, p.Ok t) : PyData.eqv (.list (gapsOf t ps)) (.list (gapsOf t ps)) = true := by
  rw [gaps_ix]
  refine eqv_shaped (n := 2) (sh_list (n := 1) (sh_map fun x hx => ?_))
  exact sh_tuple (n := 0) (sh_cons (sh_str (lay_name (whos_nm hok hx)).2) (sh_cons sh_int (sh_cons sh_int (sh_edges _))))
theorem eqv_places {t : List Gate} {ps : List Tr} (hok : ∀ p ∈ ps, p.Ok t) : PyData.eqv (.list (placesOf t ps)) (.list (placesOf t ps)) = true := by
  rw [places_ix]
  refine eqv_shaped (n := 3) (sh_list (n := 2) (sh_map fun x hx => ?_))
  have hm := ix_mem hx
  refine sh_tuple (n := 1) (sh_cons (sh_str (lay_name (whos_nm hok hx)).2) (sh_cons (sh_tr (hok _ (at_mem hm.1))) (sh_cons (sh_tr (hok _ (at_mem hm.2))) fun d hd => (sh_edges _ d hd).mono (by decide))))
theorem eqv_pages {t : List Gate} {ps : List Tr} (hok : ∀ p ∈ ps, p.Ok t) : PyData.eqv (.list (ps.map Tr.enc)) (.list (ps.map Tr.enc)) = true := eqv_shaped (n := 2) (sh_list (n := 1) (sh_map fun p hp => sh_tr (hok p hp)))
theorem gaps_len (t : List Gate) {ps : List Tr} (hl : ps.length ≤ 200) : (gapsOf t ps).length < 100000 := by
  refine Nat.lt_of_le_of_lt (flat_len t ps _) ?_
  exact Nat.lt_of_le_of_lt (Nat.mul_le_mul (Nat.le_trans (whos_len ps) hl) hl) (by decide)
theorem turn_ok (ns : List Int) (cell : Int) : ∃ ρ', l_law_0 [some (.z ns), some (.d (.int cell)), none, none, none, none, none, none, none, none, none] = .ok .nx ρ' ∧ wipeE ρ' [1, 2, 3, 4, 5, 6, 7, 8, 9] = [some (.z ns), none, none, none, none, none, none, none, none, none, none] := by
  obtain ⟨w0, e0, b0⟩ := well_ok cell 0
  obtain ⟨t, w1, e1, ht, tl, _, b1⟩ := town_ok (m := 3) b0 (by decide) (by decide) (by decide)
  obtain ⟨r, w2, e2, r0, r1, b2⟩ := take_ok (m := 3) b1 (by decide) (by decide) (by decide)
  have l8 := ht.l8
  have e0 : m__law_well [.d (.int cell), .d (.int 0)] = .fr w0 [] := e0
  have rest : ∀ t : List Gate, TownOk t → ∃ ps w3, m__law_tracks [.b w2, .d (townEnc t), .d (.int 14)] = .fr (.lst (ps.map Tr.enc)) [w3] ∧ (∀ p ∈ ps, p.Ok t) ∧ NoLie ps ∧ (ps.length : Int) ≤ 14 ∧ Bg (0 + 600 + 1 + 5000) w3 := fun t h => tracks_ok b2 (by decide) h (by decide) (by decide)
  by_cases c : r = 0
  · subst c
    have hev := even_ok ht
    obtain ⟨ps, w3, e3, hok, hno, hl, b3⟩ := rest _ hev
    obtain ⟨qs, w4, e4, hq, b4⟩ := shuffled_ok hok (by omega) b3 (by decide)
    have hokq : ∀ p ∈ qs, p.Ok (t.map evenG) := fun p hp => hok p (hq.mem_iff.mp hp)
    have hlq := hq.length_eq
    have hnoq := nolie_perm hq hno
    have p1 := places_perm (t.map evenG) hq hno
    have g1 := gaps_ok hev hok (by omega) hno
    have g2 := gaps_ok hev hokq (by omega) hnoq
    have g3 := law_gaps_ok hev.ok (by have := hev.l8; omega) hok (by omega)
    have g4 := law_gaps_ok hev.ok (by have := hev.l8; omega) hokq (by omega)
    have g5 := law_places_ok (t := t.map evenG) (ps := ps) (by omega)
    have g6 := law_places_ok (t := t.map evenG) (ps := qs) (by omega)
    rw [p1] at g6
    have s1 := shaped_gaps hok
    have s2 := shaped_gaps hokq
    have s3 := shaped_places hok
    have s4 := shaped_pages hok
    have v1 := eqv_gaps hok
    have v2 := eqv_gaps hokq
    have v3 := eqv_places hok
    have v4 := eqv_pages hok
    have n1 := gaps_len (t.map evenG) (ps := ps) (by omega)
    have x3 : isLst (.list (gapsOf (t.map evenG) ps)) = true := rfl
    have x1 := even_run l8 (a := some (.z ns)) (b := some (.d (.int cell))) (c := some (.o w2))
    have x2 : PyData.tuple ((t.map evenG).map Gate.enc) = townEnc (t.map evenG) := rfl
    have x4 : townEnc t = .tuple (t.map Gate.enc) := rfl
    rw [x4] at e1 x1
    refine ⟨[some (.z ns), some (.d (.int cell)), some (.o w4), some (.d (townEnc (t.map evenG))), some (.d (.list (ps.map Tr.enc))), some (.d (.list (ps.map Tr.enc))), some (.d (.list (gapsOf (t.map evenG) ps))), some (.o (.lst (gapsOf (t.map evenG) ps ++ [.none]))), some (.d (.list (qs.map Tr.enc))), some (.d (.list (gapsOf (t.map evenG) qs))), none], ?_, rfl⟩
    clear rest hok hokq hno hnoq hq b0 b1 b2 b3 b4 hev ht p1
    unfold l_law_0
    walk_at "fx"
  · have c2 := decide_eq_false c
    clear c
    have hev := ht
    obtain ⟨ps, w3, e3, hok, hno, hl, b3⟩ := rest _ hev
    obtain ⟨qs, w4, e4, hq, b4⟩ := shuffled_ok hok (by omega) b3 (by decide)
    have hokq : ∀ p ∈ qs, p.Ok (t) := fun p hp => hok p (hq.mem_iff.mp hp)
    have hlq := hq.length_eq
    have hnoq := nolie_perm hq hno
    have p1 := places_perm (t) hq hno
    have g1 := gaps_ok hev hok (by omega) hno
    have g2 := gaps_ok hev hokq (by omega) hnoq
    have g3 := law_gaps_ok hev.ok (by have := hev.l8; omega) hok (by omega)
    have g4 := law_gaps_ok hev.ok (by have := hev.l8; omega) hokq (by omega)
    have g5 := law_places_ok (t := t) (ps := ps) (by omega)
    have g6 := law_places_ok (t := t) (ps := qs) (by omega)
    rw [p1] at g6
    have s1 := shaped_gaps hok
    have s2 := shaped_gaps hokq
    have s3 := shaped_places hok
    have s4 := shaped_pages hok
    have v1 := eqv_gaps hok
    have v2 := eqv_gaps hokq
    have v3 := eqv_places hok
    have v4 := eqv_pages hok
    have n1 := gaps_len (t) (ps := ps) (by omega)
    have x3 : isLst (.list (gapsOf (t) ps)) = true := rfl
    refine ⟨[some (.z ns), some (.d (.int cell)), some (.o w4), some (.d (townEnc (t))), some (.d (.list (ps.map Tr.enc))), some (.d (.list (ps.map Tr.enc))), some (.d (.list (gapsOf (t) ps))), some (.o (.lst (gapsOf (t) ps ++ [.none]))), some (.d (.list (qs.map Tr.enc))), some (.d (.list (gapsOf (t) qs))), none], ?_, rfl⟩
    clear rest hok hokq hno hnoq hq b0 b1 b2 b3 b4 hev p1
    unfold l_law_0
    walk_at "fx"
/-! # k19: the law -/
theorem cutG_map {α β : Type} (f : α → β) (l : List α) (lo hi : Option Int) : cutG (l.map f) lo hi = (cutG l lo hi).map f := by
  unfold cutG
  rw [List.length_map, List.map_take, List.map_drop]
theorem law_cells (ns : List Int) (k : Int) : cutG (ns.map PyData.int) none (some k) ++ [PyData.int 0] = (cutG ns none (some k) ++ [0]).map .int := by
  rw [cutG_map, List.map_append]; rfl
theorem cutG_len {α : Type} (l : List α) (lo hi : Option Int) : (cutG l lo hi).length ≤ l.length := by
  unfold cutG
  rw [List.length_take, List.length_drop]
  omega
theorem law_loop {lb : MS} {ks : List Nat} {ρ : Env} {i : Nat} (ns : List Int) (k : Int) (h : ∀ cell : Int, ∃ ρ', lb (ρ.set i (some (.d (.int cell)))) = .ok .nx ρ' ∧ wipeE ρ' ks = ρ) : forL (gN i) lb ks (cutG (ns.map PyData.int) none (some k) ++ [PyData.int 0]) ρ = .ok .nx ρ := by
  rw [law_cells]
  obtain ⟨ρ', e, rfl⟩ := for_inv (g := gN i) (tb := lb) (ks := ks) PyData.int (cutG ns none (some k) ++ [0]) (fun _ ρ' => ρ' = ρ) ρ rfl fun j x ρ' hx hρ => by
    obtain ⟨ρ2, a, b⟩ := h x
    rw [hρ]
    exact ⟨_, ρ2, rfl, Or.inl a, b⟩
  exact e
theorem law_true : ∀ ns : List Int, ns.length ≤ 63 → m_law [.z ns] = .ok (.bool true) [] := fun ns hl => by
  have e := law_loop (ρ := [some (.z ns), none, none, none, none, none, none, none, none, none, none]) (i := 1) ns 14 (turn_ok ns)
  have n1 : (cutG (ns.map PyData.int) none (some 14)).length ≤ 99999 := Nat.le_trans (cutG_len _ _ _) (by rw [List.length_map]; omega)
  have n2 : (cutG (ns.map PyData.int) none (some 14)).length + 1 ≤ 100000 := by omega
  unfold m_law b_law
  walk_at "fx"
def t_is_within (K : PySem.W.Frag) (Z : Er) : TS :=
  (tRet (tAndV (tIsi K (tVar 0) "int") (tAndV (tNotV (tIsi K (tVar 0) "bool")) (tChain kLe kLe (tVar 1) (tVar 0) (tVar 2)))))
theorem rf_is_within {K : PySem.W.Frag} {Z : Er} : RfS K Z (fun _ => E0) (t_is_within K Z) b_is_within := by
  exact (rf_ret (rf_andV (rf_isi rf_var) (rf_andV (rf_notV (rf_isi rf_var)) (rf_chain o_le o_le rf_var rf_var rf_var))))
def t_is_name (K : PySem.W.Frag) (Z : Er) : TS :=
  (tRet (tAndV (tIsi K (tVar 0) "str") (tAndV (tChain kLe kLe (tC (.int 1)) (tCB (kLen K) (tCons (tVar 0) tNil)) (tC (.int 8))) (tCB (rAll K) (tCons (tLc (iSeq K (tVar 0)) (gName 1) tYes (tOp (kIn K) (tVar 1) (tC (.str "abcdefghijklmnopqrstuvwxyz"))) [1]) tNil)))))
theorem rf_is_name {K : PySem.W.Frag} {Z : Er} : RfS K Z (fun _ => E0) (t_is_name K Z) b_is_name := by
  exact (rf_ret (rf_andV (rf_isi rf_var) (rf_andV (rf_chain o_le o_le rf_int (rf_len rf_var) rf_int) (rf_cb o_all (rf_cons (rf_lc (E1 := fun _ => E0) (rf_seqI rf_var) rf_gN rf_yes (rf_op o_in rf_var rf_str)) rf_nil)))))
def t_rises (K : PySem.W.Frag) (Z : Er) : TS :=
  (tRet (tCB (rAll K) (tCons (tLc (RZ.iZipA K (tCons (tVar 0) (tCons (tSl (kSl K) (tVar 0) (tPart (tC (.int 1))) tNoPart) tNil))) (gTup K 2 (gCons (gName 1) (gCons (gName 2) gNil))) tYes (tOp (kLt K) (tVar 1) (tVar 2)) [1, 2]) tNil)))
theorem rf_rises {K : PySem.W.Frag} {Z : Er} : RfS K Z (fun _ => E0) (t_rises K Z) b_rises := by
  exact (rf_ret (rf_cb o_all (rf_cons (rf_lc (E1 := fun _ => E0) (rf_zip (rf_cons rf_var (rf_cons (rf_sl o_sl rf_var (rf_part rf_int) rf_noPart) rf_nil))) (rf_gT (rf_gCons rf_gN (rf_gCons rf_gN rf_gNil)) rfl) rf_yes (rf_op o_lt rf_var rf_var)) rf_nil)))
def t_is_gate (K : PySem.W.Frag) (Z : Er) : TS :=
  (tSeq (tIfS (tOr (tNot (tB (tIsi K (tVar 0) "tuple"))) (tOr (tTest (tOp (kNe K) (tCB (kLen K) (tCons (tVar 0) tNil)) (tC (.int 4)))) (tOr (tNot (tB (tCall (spF K Z m_is_name) [] E0 (tCons (tOp (rIx K) (tVar 0) (tC (.int 0))) tNil)))) (tNot (tB (tIsi K (tOp (rIx K) (tVar 0) (tC (.int 3))) "bool")))))) (tRet (tC (.bl false))) tNext) (tRet (tAndV (tCall (spF K Z m_is_within) [] E0 (tCons (tOp (rIx K) (tVar 0) (tC (.int 1))) (tCons (tC (.int 0)) (tCons (tOp kSub (tC (.int 24)) (tC (.int 1))) tNil)))) (tCall (spF K Z m_is_within) [] E0 (tCons (tOp (rIx K) (tVar 0) (tC (.int 2))) (tCons (tC (.int 0)) (tCons (tOp kSub (tC (.int 24)) (tC (.int 1))) tNil)))))))
theorem rf_is_gate {K : PySem.W.Frag} {Z : Er} : RfS K Z (fun _ => E0) (t_is_gate K Z) b_is_gate := by
  exact (rf_seq (rf_ifS (rf_or (rf_not (rf_B (rf_isi rf_var))) (rf_or (rf_test (rf_op o_ne (rf_len rf_var) rf_int)) (rf_or (rf_not (rf_B (rf_call (rf_cons (rf_opZ o_ix rf_var rf_int) rf_nil)))) (rf_not (rf_B (rf_isi (rf_opZ o_ix rf_var rf_int)))))))
  (rf_ret rf_bl)
  rf_next)
  (rf_ret (rf_andV (rf_call (rf_cons (rf_opZ o_ix rf_var rf_int) (rf_cons rf_int (rf_cons (rf_op o_sub rf_int rf_int) rf_nil)))) (rf_call (rf_cons (rf_opZ o_ix rf_var rf_int) (rf_cons rf_int (rf_cons (rf_op o_sub rf_int rf_int) rf_nil)))))))
def t_is_town (K : PySem.W.Frag) (Z : Er) : TS :=
  (tSeq (tIfS (tOr (tNot (tB (tIsi K (tVar 0) "tuple"))) (tOr (tNot (tTest (tChain kLe kLe (tC (.int 1)) (tCB (kLen K) (tCons (tVar 0) tNil)) (tC (.int 8))))) (tNot (tB (tCB (rAll K) (tCons (tLc (iSeq K (tVar 0)) (gName 1) tYes (tCall (spF K Z m_is_gate) [] E0 (tCons (tVar 1) tNil)) [1]) tNil)))))) (tRet (tC (.bl false))) tNext) (tRet (tCall (spF K Z m_rises) [] E0 (tCons (tLc (iSeq K (tVar 0)) (gName 1) tYes (tOp (rIx K) (tVar 1) (tC (.int 0))) [1]) tNil))))
theorem rf_is_town {K : PySem.W.Frag} {Z : Er} : RfS K Z (fun _ => E0) (t_is_town K Z) b_is_town := by
  exact (rf_seq (rf_ifS (rf_or (rf_not (rf_B (rf_isi rf_var))) (rf_or (rf_not (rf_test (rf_chain o_le o_le rf_int (rf_len rf_var) rf_int))) (rf_not (rf_B (rf_cb o_all (rf_cons (rf_lc (E1 := fun _ => E0) (rf_seqI rf_var) rf_gN rf_yes (rf_call (rf_cons rf_var rf_nil))) rf_nil))))))
  (rf_ret rf_bl)
  rf_next)
  (rf_ret (rf_call (rf_cons (rf_lc (E1 := fun _ => E0) (rf_seqI rf_var) rf_gN rf_yes (rf_opZ o_ix rf_var rf_int)) rf_nil))))
def t_look_at_town (K : PySem.W.Frag) (Z : Er) : TS :=
  (tIfS (tNot (tB (tCall (spF K Z m_is_town) [] E0 (tCons (tVar 0) tNil)))) tNever tNext)
theorem rf_look_at_town {K : PySem.W.Frag} {Z : Er} : RfS K Z (fun _ => E0) (t_look_at_town K Z) b_look_at_town := by
  exact (rf_ifS (rf_not (rf_B (rf_call (rf_cons rf_var rf_nil))))
  rf_never
  rf_next)
def t_names_of (K : PySem.W.Frag) (Z : Er) : TS :=
  (tRet (tLc (iSeq K (tVar 0)) (gName 1) tYes (tOp (rIx K) (tVar 1) (tC (.int 0))) [1]))
theorem rf_names_of {K : PySem.W.Frag} {Z : Er} : RfS K Z (fun _ => E0) (t_names_of K Z) b_names_of := by
  exact (rf_ret (rf_lc (E1 := fun _ => E0) (rf_seqI rf_var) rf_gN rf_yes (rf_opZ o_ix rf_var rf_int)))
def t_open_by (K : PySem.W.Frag) (Z : Er) : TS :=
  (tSeq (tIfS (tTest (tOp (kEq K) (tOp (rIx K) (tVar 0) (tC (.int 1))) (tOp (rIx K) (tVar 0) (tC (.int 2))))) (tRet (tC (.bl true))) tNext) (tRet (tOp (kLt K) (tOp kMod (tOp kSub (tVar 1) (tOp (rIx K) (tVar 0) (tC (.int 1)))) (tC (.int 24))) (tOp kMod (tOp kSub (tOp (rIx K) (tVar 0) (tC (.int 2))) (tOp (rIx K) (tVar 0) (tC (.int 1)))) (tC (.int 24))))))
theorem rf_open_by {K : PySem.W.Frag} {Z : Er} : RfS K Z (fun _ => E0) (t_open_by K Z) b_open_by := by
  exact (rf_seq (rf_ifS (rf_test (rf_op o_eq (rf_opZ o_ix rf_var rf_int) (rf_opZ o_ix rf_var rf_int)))
  (rf_ret rf_bl)
  rf_next)
  (rf_ret (rf_op o_lt (rf_op o_mod (rf_op o_sub rf_var (rf_opZ o_ix rf_var rf_int)) rf_int) (rf_op o_mod (rf_op o_sub (rf_opZ o_ix rf_var rf_int) (rf_opZ o_ix rf_var rf_int)) rf_int))))
def t_shut_at (K : PySem.W.Frag) (Z : Er) : TS :=
  (tRet (tLc (iSeq K (tVar 0)) (gName 2) (tNot (tB (tCall (spF K Z m_open_by) [] E0 (tCons (tVar 2) (tCons (tVar 1) tNil))))) (tOp (rIx K) (tVar 2) (tC (.int 0))) [2]))
theorem rf_shut_at {K : PySem.W.Frag} {Z : Er} : RfS K Z (fun _ => E0) (t_shut_at K Z) b_shut_at := by
  exact (rf_ret (rf_lc (E1 := fun _ => E0) (rf_seqI rf_var) rf_gN (rf_not (rf_B (rf_call (rf_cons rf_var (rf_cons rf_var rf_nil))))) (rf_opZ o_ix rf_var rf_int)))
def t_is_track_page (K : PySem.W.Frag) (Z : Er) : TS :=
  (tSeq (tIfS (tOr (tNot (tB (tIsi K (tVar 1) "tuple"))) (tOr (tTest (tOp (kNotIn K) (tCB (kLen K) (tCons (tVar 1) tNil)) (tTup (tCons (tC (.int 4)) (tCons (tC (.int 5)) tNil))))) (tNot (tB (tIsi K (tOp (rIx K) (tVar 1) (tC (.int 0))) "str"))))) (tRet (tC (.bl false))) tNext) (tSeq (tIfS (tOr (tNot (tB (tCall (spF K Z m_is_name) [] E0 (tCons (tOp (rIx K) (tVar 1) (tC (.int 1))) tNil)))) (tOr (tNot (tB (tCall (spF K Z m_is_within) [] E0 (tCons (tOp (rIx K) (tVar 1) (tC (.int 2))) (tCons (tC (.int 0)) (tCons (tC (.int 1000000000000)) tNil)))))) (tNot (tB (tIsi K (tOp (rIx K) (tVar 1) (tUn (rU fun i => .int (-i)) (tC (.int 1)))) "str"))))) (tRet (tC (.bl false))) tNext) (tSeq (tIfS (tTest (tOp (kEq K) (tCB (kLen K) (tCons (tVar 1) tNil)) (tC (.int 4)))) (tRet (tAndV (tOp (kEq K) (tOp (rIx K) (tVar 1) (tC (.int 0))) (tC (.str "seen"))) (tOp (kIn K) (tOp (rIx K) (tVar 1) (tC (.int 3))) (tTup (tCons (tC (.str "within")) (tCons (tC (.str "without")) tNil)))))) tNext) (tSeq (tIfS (tOr (tNot (tB (tIsi K (tOp (rIx K) (tVar 1) (tC (.int 3))) "str"))) (tTest (tOp (kNotIn K) (tOp (rIx K) (tVar 1) (tC (.int 3))) (tCall (spF K Z m_names_of) [] E0 (tCons (tVar 0) tNil))))) (tRet (tC (.bl false))) tNext) (tRet (tAndV (tOp (kEq K) (tOp (rIx K) (tVar 1) (tC (.int 0))) (tC (.str "gate"))) (tOp (kIn K) (tOp (rIx K) (tVar 1) (tC (.int 4))) (tTup (tCons (tC (.str "in")) (tCons (tC (.str "out")) tNil))))))))))
theorem rf_is_track_page {K : PySem.W.Frag} {Z : Er} : RfS K Z (fun _ => E0) (t_is_track_page K Z) b_is_track_page := by
  exact (rf_seq (rf_ifS (rf_or (rf_not (rf_B (rf_isi rf_var))) (rf_or (rf_test (rf_op o_notIn (rf_len rf_var) (rf_tup (rf_cons rf_int (rf_cons rf_int rf_nil))))) (rf_not (rf_B (rf_isi (rf_opZ o_ix rf_var rf_int))))))
  (rf_ret rf_bl)
  rf_next)
  (rf_seq (rf_ifS (rf_or (rf_not (rf_B (rf_call (rf_cons (rf_opZ o_ix rf_var rf_int) rf_nil)))) (rf_or (rf_not (rf_B (rf_call (rf_cons (rf_opZ o_ix rf_var rf_int) (rf_cons rf_int (rf_cons rf_int rf_nil)))))) (rf_not (rf_B (rf_isi (rf_opZ o_ix rf_var (rf_un o_neg rf_int)))))))
  (rf_ret rf_bl)
  rf_next)
  (rf_seq (rf_ifS (rf_test (rf_op o_eq (rf_len rf_var) rf_int))
  (rf_ret (rf_andV (rf_op o_eq (rf_opZ o_ix rf_var rf_int) rf_str) (rf_op o_in (rf_opZ o_ix rf_var rf_int) (rf_tup (rf_cons rf_str (rf_cons rf_str rf_nil))))))
  rf_next)
  (rf_seq (rf_ifS (rf_or (rf_not (rf_B (rf_isi (rf_opZ o_ix rf_var rf_int)))) (rf_test (rf_op o_notIn (rf_opZ o_ix rf_var rf_int) (rf_call (rf_cons rf_var rf_nil)))))
  (rf_ret rf_bl)
  rf_next)
  (rf_ret (rf_andV (rf_op o_eq (rf_opZ o_ix rf_var rf_int) rf_str) (rf_op o_in (rf_opZ o_ix rf_var rf_int) (rf_tup (rf_cons rf_str (rf_cons rf_str rf_nil))))))))))
def t_look_at_tracks (K : PySem.W.Frag) (Z : Er) : TS :=
  (tSeq (tDrop (tCall (spF K Z m_look_at_town) [] E0 (tCons (tVar 0) tNil))) (tIfS (tOr (tNot (tB (tIsi K (tVar 1) "list"))) (tOr (tTest (tOp kGt (tCB (kLen K) (tCons (tVar 1) tNil)) (tC (.int 200)))) (tNot (tB (tCB (rAll K) (tCons (tLc (iSeq K (tVar 1)) (gName 2) tYes (tCall (spF K Z m_is_track_page) [] E0 (tCons (tVar 0) (tCons (tVar 2) tNil))) [2]) tNil)))))) tNever tNext))
theorem rf_look_at_tracks {K : PySem.W.Frag} {Z : Er} : RfS K Z (fun _ => E0) (t_look_at_tracks K Z) b_look_at_tracks := by
  exact (rf_seq (rf_drop (rf_call (rf_cons rf_var rf_nil)))
  (rf_ifS (rf_or (rf_not (rf_B (rf_isi rf_var))) (rf_or (rf_test (rf_op o_gt (rf_len rf_var) rf_int)) (rf_not (rf_B (rf_cb o_all (rf_cons (rf_lc (E1 := fun _ => E0) (rf_seqI rf_var) rf_gN rf_yes (rf_call (rf_cons rf_var (rf_cons rf_var rf_nil)))) rf_nil))))))
  rf_never
  rf_next))
def t_finds (K : PySem.W.Frag) (Z : Er) : TS :=
  (tRet (tOp (kIn K) (tOp (rIx K) (tVar 0) (tUn (rU fun i => .int (-i)) (tC (.int 1)))) (tTup (tCons (tC (.str "within")) (tCons (tC (.str "out")) tNil)))))
theorem rf_finds {K : PySem.W.Frag} {Z : Er} : RfS K Z (fun _ => E0) (t_finds K Z) b_finds := by
  exact (rf_ret (rf_op o_in (rf_opZ o_ix rf_var (rf_un o_neg rf_int)) (rf_tup (rf_cons rf_str (rf_cons rf_str rf_nil)))))
def t_leaves (K : PySem.W.Frag) (Z : Er) : TS :=
  (tRet (tOp (kIn K) (tOp (rIx K) (tVar 0) (tUn (rU fun i => .int (-i)) (tC (.int 1)))) (tTup (tCons (tC (.str "within")) (tCons (tC (.str "in")) tNil)))))
theorem rf_leaves {K : PySem.W.Frag} {Z : Er} : RfS K Z (fun _ => E0) (t_leaves K Z) b_leaves := by
  exact (rf_ret (rf_op o_in (rf_opZ o_ix rf_var (rf_un o_neg rf_int)) (rf_tup (rf_cons rf_str (rf_cons rf_str rf_nil)))))
def t_gainsay (K : PySem.W.Frag) (Z : Er) : TS :=
  (tSeq (tIfS (tTest (tOp (kNe K) (tSl (kSl K) (tVar 0) tNoPart (tPart (tC (.int 3)))) (tSl (kSl K) (tVar 1) tNoPart (tPart (tC (.int 3)))))) (tRet (tC (.bl false))) tNext) (tRet (tOrV (tOp (kEq K) (tOp (rIx K) (tVar 0) (tC (.int 0))) (tC (.str "gate"))) (tOp (kNe K) (tOp (rIx K) (tVar 0) (tC (.int 3))) (tOp (rIx K) (tVar 1) (tC (.int 3)))))))
theorem rf_gainsay {K : PySem.W.Frag} {Z : Er} : RfS K Z (fun _ => E0) (t_gainsay K Z) b_gainsay := by
  exact (rf_seq (rf_ifS (rf_test (rf_op o_ne (rf_sl o_sl rf_var rf_noPart (rf_part rf_int)) (rf_sl o_sl rf_var rf_noPart (rf_part rf_int))))
  (rf_ret rf_bl)
  rf_next)
  (rf_ret (rf_orV (rf_op o_eq (rf_opZ o_ix rf_var rf_int) rf_str) (rf_op o_ne (rf_opZ o_ix rf_var rf_int) (rf_opZ o_ix rf_var rf_int)))))
def t_lie_of_tracks (K : PySem.W.Frag) (Z : Er) : TS :=
  (tSeq (tFor (iEnum K (tCons (tVar 0) tNil)) (gTup K 2 (gCons (gName 1) (gCons (gName 2) gNil))) (tFor (iRng2 (tCons (tOp (kAdd K) (tVar 1) (tC (.int 1))) (tCons (tCB (kLen K) (tCons (tVar 0) tNil)) tNil))) (gName 3) (tIfS (tB (tCall (spF K Z m_gainsay) [] E0 (tCons (tVar 2) (tCons (tOp (rIx K) (tVar 0) (tVar 3)) tNil)))) (tRet (tTup (tCons (tVar 1) (tCons (tVar 3) tNil)))) tNext))) (tRet (tC .non)))
theorem rf_lie_of_tracks {K : PySem.W.Frag} {Z : Er} : RfS K Z (fun _ => E0) (t_lie_of_tracks K Z) b_lie_of_tracks := by
  exact (rf_seq (rf_for (rf_enum (rf_cons rf_var rf_nil)) (rf_gT (rf_gCons rf_gN (rf_gCons rf_gN rf_gNil)) rfl)
  (rf_for (rf_rng2 (rf_cons (rf_op o_add rf_var rf_int) (rf_cons (rf_len rf_var) rf_nil))) rf_gN
  (rf_ifS (rf_B (rf_call (rf_cons rf_var (rf_cons (rf_opZ o_ix rf_var rf_var) rf_nil))))
  (rf_ret (rf_tup (rf_cons rf_var (rf_cons rf_var rf_nil))))
  rf_next)))
  (rf_ret rf_non))
def t_look_at_ways (K : PySem.W.Frag) (Z : Er) : TS :=
  (tSeq (tDrop (tCall (spF K Z m_look_at_tracks) [] E0 (tCons (tVar 0) (tCons (tVar 1) tNil)))) (tSeq (tAsg (tCall (spF K Z m_lie_of_tracks) [] E0 (tCons (tVar 1) tNil)) (gName 2)) (tIfS (tTest (tOp kNotN (tVar 2) (tC .non))) tNever tNext)))
theorem rf_look_at_ways {K : PySem.W.Frag} {Z : Er} : RfS K Z (fun _ => E0) (t_look_at_ways K Z) b_look_at_ways := by
  exact (rf_seq (rf_drop (rf_call (rf_cons rf_var (rf_cons rf_var rf_nil))))
  (rf_seq (rf_asg (rf_call (rf_cons rf_var rf_nil)) rf_gN)
  (rf_ifS (rf_test (rf_op o_notN rf_var rf_non))
  rf_never
  rf_next)))
def t_track_of (K : PySem.W.Frag) (Z : Er) : TS :=
  (tSeq (tAsg (tLc (iEnum K (tCons (tVar 0) tNil)) (gTup K 2 (gCons (gName 6) (gCons (gName 7) gNil))) (tTest (tOp (kEq K) (tOp (rIx K) (tVar 7) (tC (.int 1))) (tVar 1))) (tTup (tCons (tOp (rIx K) (tVar 7) (tC (.int 2))) (tCons (tCB kInt (tCons (tOp (kEq K) (tOp (rIx K) (tVar 7) (tC (.int 0))) (tC (.str "gate"))) tNil)) (tCons (tVar 6) tNil)))) [6, 7]) (gName 2)) (tSeq (tAsg (tLst tNil) (gName 3)) (tSeq (tFor (iSeq K (tCB (rSorted3 K) (tCons (tVar 2) tNil))) (gTup K 3 (gCons (gName 4) (gCons (gName 5) (gCons (gName 6) gNil)))) (tIfS (tOr (tTest (tOp (kEq K) (tVar 3) (tLst tNil))) (tTest (tOp (kNe K) (tOp (rIx K) (tVar 0) (tOp (rIx K) (tVar 3) (tUn (rU fun i => .int (-i)) (tC (.int 1))))) (tOp (rIx K) (tVar 0) (tVar 6))))) (tDrop (tBM K "list" rAppend (tVar 3) (tCons (tVar 6) tNil))) tNext)) (tRet (tVar 3)))))
theorem rf_track_of {K : PySem.W.Frag} {Z : Er} : RfS K Z (fun _ => E0) (t_track_of K Z) b_track_of := by
  exact (rf_seq (rf_asg (rf_lc (E1 := fun _ => E0) (rf_enum (rf_cons rf_var rf_nil)) (rf_gT (rf_gCons rf_gN (rf_gCons rf_gN rf_gNil)) rfl) (rf_test (rf_op o_eq (rf_opZ o_ix rf_var rf_int) rf_var)) (rf_tup (rf_cons (rf_opZ o_ix rf_var rf_int) (rf_cons (rf_cb o_int (rf_cons (rf_op o_eq (rf_opZ o_ix rf_var rf_int) rf_str) rf_nil)) (rf_cons rf_var rf_nil))))) rf_gN)
  (rf_seq (rf_asgO (rf_oLst rf_nil))
  (rf_seq (rf_for (rf_seqI (rf_cb o_sorted3 (rf_cons rf_var rf_nil))) (rf_gT (rf_gCons rf_gN (rf_gCons rf_gN (rf_gCons rf_gN rf_gNil))) rfl)
  (rf_ifS (rf_or (rf_test (rf_op o_eq rf_var (rf_lst rf_nil))) (rf_test (rf_op o_ne (rf_opZ o_ix rf_var (rf_opZ o_ix rf_var (rf_un o_neg rf_int))) (rf_opZ o_ix rf_var rf_var))))
  (rf_drop (rf_meth w_append (rf_cons rf_var rf_nil)))
  rf_next))
  (rf_ret rf_var))))
def t_shut_hours (K : PySem.W.Frag) (Z : Er) : TS :=
  (tSeq (tAsg (tLc (iRng2 (tCons (tVar 1) (tCons (tOp (kAdd K) (tCB kMin2 (tCons (tVar 2) (tCons (tOp kSub (tOp (kAdd K) (tVar 1) (tC (.int 24))) (tC (.int 1))) tNil))) (tC (.int 1))) tNil))) (gName 5) (tTest (tOp (kNe K) (tCall (spF K Z m_shut_at) [] E0 (tCons (tVar 0) (tCons (tVar 5) tNil))) (tLst tNil))) (tVar 5) [5]) (gName 3)) (tSeq (tIfS (tTest (tOp (kEq K) (tVar 3) (tLst tNil))) (tRet (tTup (tCons (tC .non) (tCons (tC .non) tNil)))) tNext) (tSeq (tAsg (tLc (iRng2 (tCons (tCB kMax2 (tCons (tVar 1) (tCons (tOp (kAdd K) (tOp kSub (tVar 2) (tC (.int 24))) (tC (.int 1))) tNil))) (tCons (tOp (kAdd K) (tVar 2) (tC (.int 1))) tNil))) (gName 5) (tTest (tOp (kNe K) (tCall (spF K Z m_shut_at) [] E0 (tCons (tVar 0) (tCons (tVar 5) tNil))) (tLst tNil))) (tVar 5) [5]) (gName 4)) (tRet (tTup (tCons (tOp (rIx K) (tVar 3) (tC (.int 0))) (tCons (tOp (rIx K) (tVar 4) (tUn (rU fun i => .int (-i)) (tC (.int 1)))) tNil)))))))
theorem rf_shut_hours {K : PySem.W.Frag} {Z : Er} : RfS K Z (fun _ => E0) (t_shut_hours K Z) b_shut_hours := by
  exact (rf_seq (rf_asg (rf_lc (E1 := fun _ => E0) (rf_rng2 (rf_cons rf_var (rf_cons (rf_op o_add (rf_cb o_min2 (rf_cons rf_var (rf_cons (rf_op o_sub (rf_op o_add rf_var rf_int) rf_int) rf_nil))) rf_int) rf_nil))) rf_gN (rf_test (rf_op o_ne (rf_call (rf_cons rf_var (rf_cons rf_var rf_nil))) (rf_lst rf_nil))) rf_var) rf_gN)
  (rf_seq (rf_ifS (rf_test (rf_op o_eq rf_var (rf_lst rf_nil)))
  (rf_ret (rf_tup (rf_cons rf_non (rf_cons rf_non rf_nil))))
  rf_next)
  (rf_seq (rf_asg (rf_lc (E1 := fun _ => E0) (rf_rng2 (rf_cons (rf_cb o_max2 (rf_cons rf_var (rf_cons (rf_op o_add (rf_op o_sub rf_var rf_int) rf_int) rf_nil))) (rf_cons (rf_op o_add rf_var rf_int) rf_nil))) rf_gN (rf_test (rf_op o_ne (rf_call (rf_cons rf_var (rf_cons rf_var rf_nil))) (rf_lst rf_nil))) rf_var) rf_gN)
  (rf_ret (rf_tup (rf_cons (rf_opZ o_ix rf_var rf_int) (rf_cons (rf_opZ o_ix rf_var (rf_un o_neg rf_int)) rf_nil)))))))
def t_gap_between (K : PySem.W.Frag) (Z : Er) : TS :=
  (tSeq (tAsg (tOp kSub (tOp (rIx K) (tOp (rIx K) (tVar 1) (tVar 3)) (tC (.int 2))) (tCB kInt (tCons (tOp (kEq K) (tOp (rIx K) (tOp (rIx K) (tVar 1) (tVar 3)) (tC (.int 0))) (tC (.str "seen"))) tNil))) (gName 4)) (tRet (tCall (spF K Z m_shut_hours) [] E0 (tCons (tVar 0) (tCons (tOp (rIx K) (tOp (rIx K) (tVar 1) (tVar 2)) (tC (.int 2))) (tCons (tVar 4) tNil))))))
theorem rf_gap_between {K : PySem.W.Frag} {Z : Er} : RfS K Z (fun _ => E0) (t_gap_between K Z) b_gap_between := by
  exact (rf_seq (rf_asg (rf_op o_sub (rf_opZ o_ix (rf_opZ o_ix rf_var rf_var) rf_int) (rf_cb o_int (rf_cons (rf_op o_eq (rf_opZ o_ix (rf_opZ o_ix rf_var rf_var) rf_int) rf_str) rf_nil))) rf_gN)
  (rf_ret (rf_call (rf_cons rf_var (rf_cons (rf_opZ o_ix (rf_opZ o_ix rf_var rf_var) rf_int) (rf_cons rf_var rf_nil))))))
def t_gaps_in (K : PySem.W.Frag) (Z : Er) : TS :=
  (tSeq (tAsg (tLst tNil) (gName 2)) (tSeq (tFor (iSeq K (tSortS K (tLc (iSeq K (tVar 1)) (gName 7) tYes (tOp (rIx K) (tVar 7) (tC (.int 1))) [7]))) (gName 3) (tSeq (tAsg (tCall (spF K Z m_track_of) [] E0 (tCons (tVar 1) (tCons (tVar 3) tNil))) (gName 4)) (tFor (RZ.iZipA K (tCons (tVar 4) (tCons (tSl (kSl K) (tVar 4) (tPart (tC (.int 1))) tNoPart) tNil))) (gTup K 2 (gCons (gName 5) (gCons (gName 6) gNil))) (tIfS (tTest (tOp (kNe K) (tCall (spF K Z m_leaves) [] E0 (tCons (tOp (rIx K) (tVar 1) (tVar 5)) tNil)) (tCall (spF K Z m_finds) [] E0 (tCons (tOp (rIx K) (tVar 1) (tVar 6)) tNil)))) (tDrop (tBM K "list" rAppend (tVar 2) (tCons (tOp (kAdd K) (tTup (tCons (tVar 3) (tCons (tVar 5) (tCons (tVar 6) tNil)))) (tCall (spF K Z m_gap_between) [] E0 (tCons (tVar 0) (tCons (tVar 1) (tCons (tVar 5) (tCons (tVar 6) tNil)))))) tNil))) tNext)))) (tRet (tVar 2))))
theorem rf_gaps_in {K : PySem.W.Frag} {Z : Er} : RfS K Z (fun _ => E0) (t_gaps_in K Z) b_gaps_in := by
  exact (rf_seq (rf_asgO (rf_oLst rf_nil))
  (rf_seq (rf_for (rf_seqI (rf_sortS (rf_lc (E1 := fun _ => E0) (rf_seqI rf_var) rf_gN rf_yes (rf_opZ o_ix rf_var rf_int)))) rf_gN
  (rf_seq (rf_asg (rf_call (rf_cons rf_var (rf_cons rf_var rf_nil))) rf_gN)
  (rf_for (rf_zip (rf_cons rf_var (rf_cons (rf_sl o_sl rf_var (rf_part rf_int) rf_noPart) rf_nil))) (rf_gT (rf_gCons rf_gN (rf_gCons rf_gN rf_gNil)) rfl)
  (rf_ifS (rf_test (rf_op o_ne (rf_call (rf_cons (rf_opZ o_ix rf_var rf_var) rf_nil)) (rf_call (rf_cons (rf_opZ o_ix rf_var rf_var) rf_nil))))
  (rf_drop (rf_meth w_append (rf_cons (rf_op o_add (rf_tup (rf_cons rf_var (rf_cons rf_var (rf_cons rf_var rf_nil)))) (rf_call (rf_cons rf_var (rf_cons rf_var (rf_cons rf_var (rf_cons rf_var rf_nil)))))) rf_nil)))
  rf_next))))
  (rf_ret rf_var)))
def t_gaps (K : PySem.W.Frag) (Z : Er) : TS :=
  (tSeq (tDrop (tCall (spF K Z m_look_at_ways) [] E0 (tCons (tVar 0) (tCons (tVar 1) tNil)))) (tRet (tCall (spF K Z m_gaps_in) [] E0 (tCons (tVar 0) (tCons (tVar 1) tNil)))))
theorem rf_gaps {K : PySem.W.Frag} {Z : Er} : RfS K Z (fun _ => E0) (t_gaps K Z) b_gaps := by
  exact (rf_seq (rf_drop (rf_call (rf_cons rf_var (rf_cons rf_var rf_nil))))
  (rf_retO (rf_oCall (rf_cons rf_var (rf_cons rf_var rf_nil)))))
def t__law_well (K : PySem.W.Frag) (Z : Er) : TS :=
  (tSeq (tIfS (tTest (tOp kGe (tVar 0) (tOp kPow (tC (.int 10)) (tC (.int 18))))) (tRet (tLst (tCons (tOp kSub (tVar 0) (tOp kPow (tC (.int 10)) (tC (.int 18)))) (tCons (tOp kMod (tVar 0) (tC (.int 2305843009213693951))) (tCons (tVar 1) tNil))))) tNext) (tRet (tLst (tCons (tC (.int 0)) (tCons (tOp kMod (tVar 0) (tC (.int 2305843009213693951))) (tCons (tVar 1) tNil))))))
theorem rf__law_well {K : PySem.W.Frag} {Z : Er} : RfS K Z (fun _ => E0) (t__law_well K Z) b__law_well := by
  exact (rf_seq (rf_ifS (rf_test (rf_op o_ge rf_var (rf_op o_pow rf_int rf_int)))
  (rf_retO (rf_oLst (rf_cons (rf_op o_sub rf_var (rf_op o_pow rf_int rf_int)) (rf_cons (rf_op o_mod rf_var rf_int) (rf_cons rf_var rf_nil)))))
  rf_next)
  (rf_retO (rf_oLst (rf_cons rf_int (rf_cons (rf_op o_mod rf_var rf_int) (rf_cons rf_var rf_nil))))))
def t__law_take (K : PySem.W.Frag) (Z : Er) : TS :=
  (tSeq (tIfS (tTest (tOp kGt (tOp (rIx K) (tVar 0) (tC (.int 0))) (tC (.int 0)))) (tSeq (tAsg (tOp kMod (tOp (rIx K) (tVar 0) (tC (.int 0))) (tVar 1)) (gName 2)) (tSeq (tAsg (tOp kDiv (tOp (rIx K) (tVar 0) (tC (.int 0))) (tVar 1)) (gSub (tVar 0) (tC (.int 0)) rSetL)) (tRet (tVar 2)))) tNext) (tSeq (tAsg (tOp (kAdd K) (tOp (rIx K) (tVar 0) (tC (.int 2))) (tC (.int 1))) (gSub (tVar 0) (tC (.int 2)) rSetL)) (tSeq (tAsg (tC (.int 2305843009213693951)) (gName 3)) (tSeq (tAsg (tOp kMod (tOp (kAdd K) (tOp (rIx K) (tVar 0) (tC (.int 1))) (tOp kMul (tC (.int 1000003)) (tOp (rIx K) (tVar 0) (tC (.int 2))))) (tVar 3)) (gName 4)) (tSeq (tAsg (tOp kMod (tOp (kAdd K) (tOp (kAdd K) (tOp kMul (tVar 4) (tVar 4)) (tOp kMul (tC (.int 7919)) (tOp kPow (tOp (rIx K) (tVar 0) (tC (.int 2))) (tC (.int 2))))) (tC (.int 5))) (tVar 3)) (gName 4)) (tRet (tOp kMod (tOp kDiv (tOp kMod (tOp kPow (tVar 4) (tC (.int 3))) (tVar 3)) (tC (.int 13))) (tVar 1))))))))
theorem rf__law_take {K : PySem.W.Frag} {Z : Er} : RfS K Z (fun _ => E0) (t__law_take K Z) b__law_take := by
  exact (rf_seq (rf_ifS (rf_test (rf_op o_gt (rf_opZ o_ix rf_var rf_int) rf_int))
  (rf_seq (rf_asg (rf_op o_mod (rf_opZ o_ix rf_var rf_int) rf_var) rf_gN)
  (rf_seq (rf_setI rf_int (rf_op o_div (rf_opZ o_ix rf_var rf_int) rf_var))
  (rf_ret rf_var)))
  rf_next)
  (rf_seq (rf_setI rf_int (rf_op o_add (rf_opZ o_ix rf_var rf_int) rf_int))
  (rf_seq (rf_asg rf_int rf_gN)
  (rf_seq (rf_asg (rf_op o_mod (rf_op o_add (rf_opZ o_ix rf_var rf_int) (rf_op o_mul rf_int (rf_opZ o_ix rf_var rf_int))) rf_var) rf_gN)
  (rf_seq (rf_asg (rf_op o_mod (rf_op o_add (rf_op o_add (rf_op o_mul rf_var rf_var) (rf_op o_mul rf_int (rf_op o_pow (rf_opZ o_ix rf_var rf_int) rf_int))) rf_int) rf_var) rf_gN)
  (rf_ret (rf_op o_mod (rf_op o_div (rf_op o_mod (rf_op o_pow rf_var rf_int) rf_var) rf_int) rf_var)))))))
def t__law_shuffled (K : PySem.W.Frag) (Z : Er) : TS :=
  (tSeq (tAsg (tCB (kList K) (tCons (tVar 1) tNil)) (gName 2)) (tSeq (tAsg (tLst tNil) (gName 3)) (tSeq (tWhile (tTest (tOp (kNe K) (tVar 2) (tLst tNil))) (tDrop (tBM K "list" rAppend (tVar 3) (tCons (tBM K "list" rPopAt (tVar 2) (tCons (tCall (spF K Z m__law_take) [] E0 (tCons (tVar 0) (tCons (tCB (kLen K) (tCons (tVar 2) tNil)) tNil))) tNil)) tNil)))) (tRet (tVar 3)))))
theorem rf__law_shuffled {K : PySem.W.Frag} {Z : Er} : RfS K Z (fun _ => E0) (t__law_shuffled K Z) b__law_shuffled := by
  exact (rf_seq (rf_asgO (rf_oList rf_var))
  (rf_seq (rf_asgO (rf_oLst rf_nil))
  (rf_seq (rf_while (rf_test (rf_op o_ne rf_var (rf_lst rf_nil)))
  (rf_drop (rf_meth w_append (rf_cons (rf_meth w_popAt (rf_cons (rf_call (rf_cons rf_var (rf_cons (rf_len rf_var) rf_nil))) rf_nil)) rf_nil))))
  (rf_ret rf_var))))
def t__law_name (K : PySem.W.Frag) (Z : Er) : TS :=
  (tSeq (tAsg (tCall (spF K Z m__law_take) [] E0 (tCons (tVar 0) (tCons (tC (.int 9)) tNil))) (gName 1)) (tSeq (tIfS (tTest (tOp (kLt K) (tVar 1) (tC (.int 7)))) (tRet (tOp (rIx K) (tLst (tCons (tC (.str "ann")) (tCons (tC (.str "bo")) (tCons (tC (.str "cy")) (tCons (tC (.str "dan")) (tCons (tC (.str "eve")) (tCons (tC (.str "flo")) (tCons (tC (.str "gus")) tNil)))))))) (tVar 1))) tNext) (tSeq (tAsg (tC (.str "abcdefghijklmnopqrstuvwxyz")) (gName 2)) (tSeq (tAsg (tOp (rIx K) (tLst (tCons (tC (.int 1)) (tCons (tC (.int 2)) (tCons (tC (.int 8)) tNil)))) (tCall (spF K Z m__law_take) [] E0 (tCons (tVar 0) (tCons (tC (.int 3)) tNil)))) (gName 3)) (tRet (tM1 (kJoin K) (tC (.str "")) (tLc (iRng1 (tCons (tVar 3) tNil)) (gName 4) tYes (tOp (rIx K) (tVar 2) (tCall (spF K Z m__law_take) [] E0 (tCons (tVar 0) (tCons (tC (.int 26)) tNil)))) [4])))))))
theorem rf__law_name {K : PySem.W.Frag} {Z : Er} : RfS K Z (fun _ => E0) (t__law_name K Z) b__law_name := by
  exact (rf_seq (rf_asg (rf_call (rf_cons rf_var (rf_cons rf_int rf_nil))) rf_gN)
  (rf_seq (rf_ifS (rf_test (rf_op o_lt rf_var rf_int))
  (rf_ret (rf_opZ o_ix (rf_lst (rf_cons rf_str (rf_cons rf_str (rf_cons rf_str (rf_cons rf_str (rf_cons rf_str (rf_cons rf_str (rf_cons rf_str rf_nil)))))))) rf_var))
  rf_next)
  (rf_seq (rf_asg rf_str rf_gN)
  (rf_seq (rf_asg (rf_opZ o_ix (rf_lst (rf_cons rf_int (rf_cons rf_int (rf_cons rf_int rf_nil)))) (rf_call (rf_cons rf_var (rf_cons rf_int rf_nil)))) rf_gN)
  (rf_ret (rf_join rf_str (rf_lc (E1 := fun _ => E0) (rf_rng1 (rf_cons rf_var rf_nil)) rf_gN rf_yes (rf_opZ o_ix rf_var (rf_call (rf_cons rf_var (rf_cons rf_int rf_nil)))))))))))
def t__law_rising (K : PySem.W.Frag) (Z : Er) : TS :=
  (tSeq (tAsg tDNewK (gName 2)) (tSeq (tFor (iRng1 (tCons (tOp (kAdd K) (tC (.int 1)) (tCall (spF K Z m__law_take) [] E0 (tCons (tVar 0) (tCons (tVar 1) tNil)))) tNil)) (gName 3) (sDPut (tVar 2) (tCall (spF K Z m__law_name) [] E0 (tCons (tVar 0) tNil)) (tC (.bl true)))) (tRet (tCB (kSorted K) (tCons (tVar 2) tNil)))))
theorem rf__law_rising {K : PySem.W.Frag} {Z : Er} : RfS K Z (fun _ => E0) (t__law_rising K Z) b__law_rising := by
  exact (rf_seq (rf_asgO rf_oDct0)
  (rf_seq (rf_for (rf_rng1 (rf_cons (rf_op o_add rf_int (rf_call (rf_cons rf_var (rf_cons rf_var rf_nil)))) rf_nil)) rf_gN
  (rf_dPut (rf_call (rf_cons rf_var rf_nil)) rf_bl))
  (rf_ret rf_sortD)))
def t__law_town (K : PySem.W.Frag) (Z : Er) : TS :=
  (tSeq (tAsg (tLst tNil) (gName 2)) (tSeq (tFor (iSeq K (tCall (spF K Z m__law_rising) [] E0 (tCons (tVar 0) (tCons (tVar 1) tNil)))) (gName 3) (tSeq (tAsg (tCall (spF K Z m__law_take) [] E0 (tCons (tVar 0) (tCons (tC (.int 24)) tNil))) (gName 4)) (tSeq (tAsg (tOp (rIx K) (tLst (tCons (tCall (spF K Z m__law_take) [] E0 (tCons (tVar 0) (tCons (tC (.int 24)) tNil))) (tCons (tC (.int 0)) (tCons (tC (.int 1)) (tCons (tC (.int 23)) tNil))))) (tOp kDiv (tOp kMul (tOp kDiv (tOp kMul (tCall (spF K Z m__law_take) [] E0 (tCons (tVar 0) (tCons (tC (.int 8)) tNil))) (tC (.int 5))) (tC (.int 8))) (tC (.int 3))) (tC (.int 4)))) (gName 5)) (tDrop (tBM K "list" rAppend (tVar 2) (tCons (tTup (tCons (tVar 3) (tCons (tVar 4) (tCons (tOp kMod (tOp (kAdd K) (tVar 4) (tVar 5)) (tC (.int 24))) (tCons (tOp (kEq K) (tCall (spF K Z m__law_take) [] E0 (tCons (tVar 0) (tCons (tC (.int 2)) tNil))) (tC (.int 1))) tNil))))) tNil)))))) (tRet (tCB (kTuple K) (tCons (tVar 2) tNil)))))
theorem rf__law_town {K : PySem.W.Frag} {Z : Er} : RfS K Z (fun _ => E0) (t__law_town K Z) b__law_town := by
  exact (rf_seq (rf_asgO (rf_oLst rf_nil))
  (rf_seq (rf_for (rf_seqI (rf_call (rf_cons rf_var (rf_cons rf_var rf_nil)))) rf_gN
  (rf_seq (rf_asg (rf_call (rf_cons rf_var (rf_cons rf_int rf_nil))) rf_gN)
  (rf_seq (rf_asg (rf_opZ o_ix (rf_lst (rf_cons (rf_call (rf_cons rf_var (rf_cons rf_int rf_nil))) (rf_cons rf_int (rf_cons rf_int (rf_cons rf_int rf_nil))))) (rf_op o_div (rf_op o_mul (rf_op o_div (rf_op o_mul (rf_call (rf_cons rf_var (rf_cons rf_int rf_nil))) rf_int) rf_int) rf_int) rf_int)) rf_gN)
  (rf_drop (rf_meth w_append (rf_cons (rf_tup (rf_cons rf_var (rf_cons rf_var (rf_cons (rf_op o_mod (rf_op o_add rf_var rf_var) rf_int) (rf_cons (rf_op o_eq (rf_call (rf_cons rf_var (rf_cons rf_int rf_nil))) rf_int) rf_nil))))) rf_nil))))))
  (rf_ret (rf_cb o_tuple (rf_cons rf_var rf_nil)))))
def t__law_clocks (K : PySem.W.Frag) (Z : Er) : TS :=
  (tSeq (tAsg (tLst (tCons (tOp (rIx K) (tVar 0) (tC (.int 1))) tNil)) (gName 1)) (tSeq (tFor (iRng1 (tCons (tC (.int 23)) tNil)) (gName 2) (tSeq (tAsg (tOp kMod (tOp (kAdd K) (tOp (kAdd K) (tOp (rIx K) (tVar 0) (tC (.int 1))) (tVar 2)) (tC (.int 1))) (tC (.int 24))) (gName 3)) (tSeq (tIfS (tTest (tOp (kEq K) (tVar 3) (tOp (rIx K) (tVar 0) (tC (.int 2))))) (tRet (tVar 1)) tNext) (tDrop (tBM K "list" rAppend (tVar 1) (tCons (tVar 3) tNil)))))) (tRet (tVar 1))))
theorem rf__law_clocks {K : PySem.W.Frag} {Z : Er} : RfS K Z (fun _ => E0) (t__law_clocks K Z) b__law_clocks := by
  exact (rf_seq (rf_asgO (rf_oLst (rf_cons (rf_opZ o_ix rf_var rf_int) rf_nil)))
  (rf_seq (rf_for (rf_rng1 (rf_cons rf_int rf_nil)) rf_gN
  (rf_seq (rf_asg (rf_op o_mod (rf_op o_add (rf_op o_add (rf_opZ o_ix rf_var rf_int) rf_var) rf_int) rf_int) rf_gN)
  (rf_seq (rf_ifS (rf_test (rf_op o_eq rf_var (rf_opZ o_ix rf_var rf_int)))
  (rf_ret rf_var)
  rf_next)
  (rf_drop (rf_meth w_append (rf_cons rf_var rf_nil))))))
  (rf_ret rf_var)))
def t__law_is_open (K : PySem.W.Frag) (Z : Er) : TS :=
  (tRet (tOp (kIn K) (tOp kMod (tVar 1) (tC (.int 24))) (tCall (spF K Z m__law_clocks) [] E0 (tCons (tVar 0) tNil))))
theorem rf__law_is_open {K : PySem.W.Frag} {Z : Er} : RfS K Z (fun _ => E0) (t__law_is_open K Z) b__law_is_open := by
  exact (rf_ret (rf_op o_in (rf_op o_mod rf_var rf_int) (rf_call (rf_cons rf_var rf_nil))))
def t__law_far (K : PySem.W.Frag) (Z : Er) : TS :=
  (tSeq (tAsg (tCall (spF K Z m__law_take) [] E0 (tCons (tVar 0) (tCons (tC (.int 200)) tNil))) (gName 1)) (tRet (tOp (rIx K) (tLst (tCons (tVar 1) (tCons (tOp kSub (tOp kPow (tC (.int 10)) (tC (.int 12))) (tVar 1)) (tCons (tCall (spF K Z m__law_take) [] E0 (tCons (tVar 0) (tCons (tOp (kAdd K) (tOp kPow (tC (.int 10)) (tC (.int 12))) (tC (.int 1))) tNil))) tNil)))) (tCall (spF K Z m__law_take) [] E0 (tCons (tVar 0) (tCons (tC (.int 3)) tNil))))))
theorem rf__law_far {K : PySem.W.Frag} {Z : Er} : RfS K Z (fun _ => E0) (t__law_far K Z) b__law_far := by
  exact (rf_seq (rf_asg (rf_call (rf_cons rf_var (rf_cons rf_int rf_nil))) rf_gN)
  (rf_ret (rf_opZ o_ix (rf_lst (rf_cons rf_var (rf_cons (rf_op o_sub (rf_op o_pow rf_int rf_int) rf_var) (rf_cons (rf_call (rf_cons rf_var (rf_cons (rf_op o_add (rf_op o_pow rf_int rf_int) rf_int) rf_nil))) rf_nil)))) (rf_call (rf_cons rf_var (rf_cons rf_int rf_nil))))))
def t__law_track_page (K : PySem.W.Frag) (Z : Er) : TS :=
  (tSeq (tAsg (tOp (rIx K) (tLst (tCons (tCall (spF K Z m__law_take) [] E0 (tCons (tVar 0) (tCons (tC (.int 40)) tNil))) (tCons (tCall (spF K Z m__law_far) [] E0 (tCons (tVar 0) tNil)) tNil))) (tOp kDiv (tCall (spF K Z m__law_take) [] E0 (tCons (tVar 0) (tCons (tC (.int 9)) tNil))) (tC (.int 8)))) (gName 2)) (tSeq (tAsg (tOp (rIx K) (tLst (tCons (tC (.str "ann")) (tCons (tC (.str "bo")) (tCons (tC (.str "cy")) tNil)))) (tCall (spF K Z m__law_take) [] E0 (tCons (tVar 0) (tCons (tC (.int 3)) tNil)))) (gName 3)) (tSeq (tIfS (tTest (tOp (kEq K) (tCall (spF K Z m__law_take) [] E0 (tCons (tVar 0) (tCons (tC (.int 2)) tNil))) (tC (.int 0)))) (tRet (tTup (tCons (tC (.str "seen")) (tCons (tVar 3) (tCons (tVar 2) (tCons (tOp (rIx K) (tLst (tCons (tC (.str "within")) (tCons (tC (.str "without")) tNil))) (tCall (spF K Z m__law_take) [] E0 (tCons (tVar 0) (tCons (tC (.int 2)) tNil)))) tNil)))))) tNext) (tRet (tTup (tCons (tC (.str "gate")) (tCons (tVar 3) (tCons (tVar 2) (tCons (tOp (rIx K) (tOp (rIx K) (tVar 1) (tCall (spF K Z m__law_take) [] E0 (tCons (tVar 0) (tCons (tCB (kLen K) (tCons (tVar 1) tNil)) tNil)))) (tC (.int 0))) (tCons (tOp (rIx K) (tLst (tCons (tC (.str "in")) (tCons (tC (.str "out")) tNil))) (tCall (spF K Z m__law_take) [] E0 (tCons (tVar 0) (tCons (tC (.int 2)) tNil)))) tNil))))))))))
theorem rf__law_track_page {K : PySem.W.Frag} {Z : Er} : RfS K Z (fun _ => E0) (t__law_track_page K Z) b__law_track_page := by
  exact (rf_seq (rf_asg (rf_opZ o_ix (rf_lst (rf_cons (rf_call (rf_cons rf_var (rf_cons rf_int rf_nil))) (rf_cons (rf_call (rf_cons rf_var rf_nil)) rf_nil))) (rf_op o_div (rf_call (rf_cons rf_var (rf_cons rf_int rf_nil))) rf_int)) rf_gN)
  (rf_seq (rf_asg (rf_opZ o_ix (rf_lst (rf_cons rf_str (rf_cons rf_str (rf_cons rf_str rf_nil)))) (rf_call (rf_cons rf_var (rf_cons rf_int rf_nil)))) rf_gN)
  (rf_seq (rf_ifS (rf_test (rf_op o_eq (rf_call (rf_cons rf_var (rf_cons rf_int rf_nil))) rf_int))
  (rf_ret (rf_tup (rf_cons rf_str (rf_cons rf_var (rf_cons rf_var (rf_cons (rf_opZ o_ix (rf_lst (rf_cons rf_str (rf_cons rf_str rf_nil))) (rf_call (rf_cons rf_var (rf_cons rf_int rf_nil)))) rf_nil))))))
  rf_next)
  (rf_ret (rf_tup (rf_cons rf_str (rf_cons rf_var (rf_cons rf_var (rf_cons (rf_opZ o_ix (rf_opZ o_ix rf_var (rf_call (rf_cons rf_var (rf_cons (rf_len rf_var) rf_nil)))) rf_int) (rf_cons (rf_opZ o_ix (rf_lst (rf_cons rf_str (rf_cons rf_str rf_nil))) (rf_call (rf_cons rf_var (rf_cons rf_int rf_nil)))) rf_nil))))))))))
def t__law_tracks_lie (K : PySem.W.Frag) (Z : Er) : TS :=
  (tSeq (tAsg (tLst tNil) (gName 1)) (tSeq (tFor (iRng1 (tCons (tCB (kLen K) (tCons (tVar 0) tNil)) tNil)) (gName 2) (tFor (iRng1 (tCons (tVar 2) tNil)) (gName 3) (tSeq (tPar 4 5 (tCons (tOp (rIx K) (tVar 0) (tVar 3)) (tCons (tOp (rIx K) (tVar 0) (tVar 2)) tNil))) (tIfS (tAnd (tTest (tOp (kEq K) (tSl (kSl K) (tVar 4) tNoPart (tPart (tC (.int 3)))) (tSl (kSl K) (tVar 5) tNoPart (tPart (tC (.int 3)))))) (tOr (tTest (tOp (kEq K) (tOp (rIx K) (tVar 4) (tC (.int 0))) (tC (.str "gate")))) (tTest (tOp (kNe K) (tVar 4) (tVar 5))))) (tDrop (tBM K "list" rAppend (tVar 1) (tCons (tTup (tCons (tVar 3) (tCons (tVar 2) tNil))) tNil))) tNext)))) (tRet (tCKw (rMnD K) (tCons (tVar 1) tNil) (tCons (tC .non) tNil)))))
theorem rf__law_tracks_lie {K : PySem.W.Frag} {Z : Er} : RfS K Z (fun _ => E0) (t__law_tracks_lie K Z) b__law_tracks_lie := by
  exact (rf_seq (rf_asgO (rf_oLst rf_nil))
  (rf_seq (rf_for (rf_rng1 (rf_cons (rf_len rf_var) rf_nil)) rf_gN
  (rf_for (rf_rng1 (rf_cons rf_var rf_nil)) rf_gN
  (rf_seq (rf_par (by decide) (rf_cons (rf_opZ o_ix rf_var rf_var) (rf_cons (rf_opZ o_ix rf_var rf_var) rf_nil)))
  (rf_ifS (rf_and (rf_test (rf_op o_eq (rf_sl o_sl rf_var rf_noPart (rf_part rf_int)) (rf_sl o_sl rf_var rf_noPart (rf_part rf_int)))) (rf_or (rf_test (rf_op o_eq (rf_opZ o_ix rf_var rf_int) rf_str)) (rf_test (rf_op o_ne rf_var rf_var))))
  (rf_drop (rf_meth w_append (rf_cons (rf_tup (rf_cons rf_var (rf_cons rf_var rf_nil))) rf_nil)))
  rf_next))))
  (rf_ret (rf_ckw o_minD (rf_cons rf_var rf_nil) (rf_cons rf_non rf_nil)))))
def t__law_tracks (K : PySem.W.Frag) (Z : Er) : TS :=
  (tSeq (tAsg (tLst tNil) (gName 3)) (tSeq (tFor (iRng1 (tCons (tCall (spF K Z m__law_take) [] E0 (tCons (tVar 0) (tCons (tOp (kAdd K) (tVar 2) (tC (.int 1))) tNil))) tNil)) (gName 4) (tSeq (tAsg (tCall (spF K Z m__law_track_page) [] E0 (tCons (tVar 0) (tCons (tVar 1) tNil))) (gName 5)) (tIfS (tTest (tOp kIsN (tCall (spF K Z m__law_tracks_lie) [] E0 (tCons (tOp (kAdd K) (tVar 3) (tLst (tCons (tVar 5) tNil))) tNil)) (tC .non))) (tDrop (tBM K "list" rAppend (tVar 3) (tCons (tVar 5) tNil))) tNext))) (tRet (tVar 3))))
theorem rf__law_tracks {K : PySem.W.Frag} {Z : Er} : RfS K Z (fun _ => E0) (t__law_tracks K Z) b__law_tracks := by
  exact (rf_seq (rf_asgO (rf_oLst rf_nil))
  (rf_seq (rf_for (rf_rng1 (rf_cons (rf_call (rf_cons rf_var (rf_cons (rf_op o_add rf_var rf_int) rf_nil))) rf_nil)) rf_gN
  (rf_seq (rf_asg (rf_call (rf_cons rf_var (rf_cons rf_var rf_nil))) rf_gN)
  (rf_ifS (rf_test (rf_op o_isN (rf_call (rf_cons (rf_op o_add rf_var (rf_lst (rf_cons rf_var rf_nil))) rf_nil)) rf_non))
  (rf_drop (rf_meth w_append (rf_cons rf_var rf_nil)))
  rf_next)))
  (rf_ret rf_var)))
def t__law_track (K : PySem.W.Frag) (Z : Er) : TS :=
  (tSeq (tAsg (tCB (rSorted3 K) (tCons (tLc (iEnum K (tCons (tVar 0) tNil)) (gTup K 2 (gCons (gName 3) (gCons (gName 4) gNil))) (tTest (tOp (kEq K) (tOp (rIx K) (tVar 4) (tC (.int 1))) (tVar 1))) (tTup (tCons (tOp (rIx K) (tVar 4) (tC (.int 2))) (tCons (tOp (kEq K) (tOp (rIx K) (tVar 4) (tC (.int 0))) (tC (.str "gate"))) (tCons (tVar 3) tNil)))) [3, 4]) tNil)) (gName 2)) (tRet (tLc (iSeq K (tVar 2)) (gName 5) (tTest (tOp (kEq K) (tLc (iRng1 (tCons (tOp (rIx K) (tVar 5) (tC (.int 2))) tNil)) (gName 3) (tTest (tOp (kEq K) (tOp (rIx K) (tVar 0) (tVar 3)) (tOp (rIx K) (tVar 0) (tOp (rIx K) (tVar 5) (tC (.int 2)))))) (tVar 3) [3]) (tLst tNil))) (tOp (rIx K) (tVar 5) (tC (.int 2))) [5])))
theorem rf__law_track {K : PySem.W.Frag} {Z : Er} : RfS K Z (fun _ => E0) (t__law_track K Z) b__law_track := by
  exact (rf_seq (rf_asg (rf_cb o_sorted3 (rf_cons (rf_lc (E1 := fun _ => E0) (rf_enum (rf_cons rf_var rf_nil)) (rf_gT (rf_gCons rf_gN (rf_gCons rf_gN rf_gNil)) rfl) (rf_test (rf_op o_eq (rf_opZ o_ix rf_var rf_int) rf_var)) (rf_tup (rf_cons (rf_opZ o_ix rf_var rf_int) (rf_cons (rf_op o_eq (rf_opZ o_ix rf_var rf_int) rf_str) (rf_cons rf_var rf_nil))))) rf_nil)) rf_gN)
  (rf_ret (rf_lc (E1 := fun _ => E0) (rf_seqI rf_var) rf_gN (rf_test (rf_op o_eq (rf_lc (E1 := fun _ => E0) (rf_rng1 (rf_cons (rf_opZ o_ix rf_var rf_int) rf_nil)) rf_gN (rf_test (rf_op o_eq (rf_opZ o_ix rf_var rf_var) (rf_opZ o_ix rf_var (rf_opZ o_ix rf_var rf_int)))) rf_var) (rf_lst rf_nil))) (rf_opZ o_ix rf_var rf_int))))
def t__law_found_in (K : PySem.W.Frag) (Z : Er) : TS :=
  (tRet (tOrV (tOp (kEq K) (tOp (rIx K) (tVar 0) (tUn (rU fun i => .int (-i)) (tC (.int 1)))) (tC (.str "within"))) (tOp (kEq K) (tOp (rIx K) (tVar 0) (tUn (rU fun i => .int (-i)) (tC (.int 1)))) (tC (.str "out")))))
theorem rf__law_found_in {K : PySem.W.Frag} {Z : Er} : RfS K Z (fun _ => E0) (t__law_found_in K Z) b__law_found_in := by
  exact (rf_ret (rf_orV (rf_op o_eq (rf_opZ o_ix rf_var (rf_un o_neg rf_int)) rf_str) (rf_op o_eq (rf_opZ o_ix rf_var (rf_un o_neg rf_int)) rf_str)))
def t__law_left_in (K : PySem.W.Frag) (Z : Er) : TS :=
  (tRet (tOrV (tOp (kEq K) (tOp (rIx K) (tVar 0) (tUn (rU fun i => .int (-i)) (tC (.int 1)))) (tC (.str "within"))) (tOp (kEq K) (tOp (rIx K) (tVar 0) (tUn (rU fun i => .int (-i)) (tC (.int 1)))) (tC (.str "in")))))
theorem rf__law_left_in {K : PySem.W.Frag} {Z : Er} : RfS K Z (fun _ => E0) (t__law_left_in K Z) b__law_left_in := by
  exact (rf_ret (rf_orV (rf_op o_eq (rf_opZ o_ix rf_var (rf_un o_neg rf_int)) rf_str) (rf_op o_eq (rf_opZ o_ix rf_var (rf_un o_neg rf_int)) rf_str)))
def t__law_shut (K : PySem.W.Frag) (Z : Er) : TS :=
  (tRet (tLc (iSeq K (tVar 0)) (gName 2) (tNot (tB (tCall (spF K Z m__law_is_open) [] E0 (tCons (tVar 2) (tCons (tVar 1) tNil))))) (tOp (rIx K) (tVar 2) (tC (.int 0))) [2]))
theorem rf__law_shut {K : PySem.W.Frag} {Z : Er} : RfS K Z (fun _ => E0) (t__law_shut K Z) b__law_shut := by
  exact (rf_ret (rf_lc (E1 := fun _ => E0) (rf_seqI rf_var) rf_gN (rf_not (rf_B (rf_call (rf_cons rf_var (rf_cons rf_var rf_nil))))) (rf_opZ o_ix rf_var rf_int)))
def t__law_edges (K : PySem.W.Frag) (Z : Er) : TS :=
  (tSeq (tPar 3 4 (tCons (tVar 1) (tCons (tVar 2) tNil))) (tSeq (tWhile (tAnd (tTest (tOp kLe (tVar 3) (tVar 2))) (tAnd (tTest (tOp (kLt K) (tVar 3) (tOp (kAdd K) (tVar 1) (tC (.int 24))))) (tTest (tOp (kEq K) (tCall (spF K Z m__law_shut) [] E0 (tCons (tVar 0) (tCons (tVar 3) tNil))) (tLst tNil))))) (tAsg (tOp (kAdd K) (tVar 3) (tC (.int 1))) (gName 3))) (tSeq (tWhile (tAnd (tTest (tOp kGe (tVar 4) (tVar 1))) (tAnd (tTest (tOp kGt (tVar 4) (tOp kSub (tVar 2) (tC (.int 24))))) (tTest (tOp (kEq K) (tCall (spF K Z m__law_shut) [] E0 (tCons (tVar 0) (tCons (tVar 4) tNil))) (tLst tNil))))) (tAsg (tOp kSub (tVar 4) (tC (.int 1))) (gName 4))) (tSeq (tIfS (tOr (tTest (tOp kGt (tVar 3) (tVar 2))) (tTest (tOp (kEq K) (tCall (spF K Z m__law_shut) [] E0 (tCons (tVar 0) (tCons (tVar 3) tNil))) (tLst tNil)))) (tRet (tTup (tCons (tC .non) (tCons (tC .non) tNil)))) tNext) (tRet (tTup (tCons (tVar 3) (tCons (tVar 4) tNil))))))))
theorem rf__law_edges {K : PySem.W.Frag} {Z : Er} : RfS K Z (fun _ => E0) (t__law_edges K Z) b__law_edges := by
  exact (rf_seq (rf_par (by decide) (rf_cons rf_var (rf_cons rf_var rf_nil)))
  (rf_seq (rf_while (rf_and (rf_test (rf_op o_le rf_var rf_var)) (rf_and (rf_test (rf_op o_lt rf_var (rf_op o_add rf_var rf_int))) (rf_test (rf_op o_eq (rf_call (rf_cons rf_var (rf_cons rf_var rf_nil))) (rf_lst rf_nil)))))
  (rf_asg (rf_op o_add rf_var rf_int) rf_gN))
  (rf_seq (rf_while (rf_and (rf_test (rf_op o_ge rf_var rf_var)) (rf_and (rf_test (rf_op o_gt rf_var (rf_op o_sub rf_var rf_int))) (rf_test (rf_op o_eq (rf_call (rf_cons rf_var (rf_cons rf_var rf_nil))) (rf_lst rf_nil)))))
  (rf_asg (rf_op o_sub rf_var rf_int) rf_gN))
  (rf_seq (rf_ifS (rf_or (rf_test (rf_op o_gt rf_var rf_var)) (rf_test (rf_op o_eq (rf_call (rf_cons rf_var (rf_cons rf_var rf_nil))) (rf_lst rf_nil))))
  (rf_ret (rf_tup (rf_cons rf_non (rf_cons rf_non rf_nil))))
  rf_next)
  (rf_ret (rf_tup (rf_cons rf_var (rf_cons rf_var rf_nil))))))))
def t__law_gaps (K : PySem.W.Frag) (Z : Er) : TS :=
  (tSeq (tAsg (tLst tNil) (gName 2)) (tSeq (tFor (iSeq K (tSortS K (tLc (iSeq K (tVar 1)) (gName 8) tYes (tOp (rIx K) (tVar 8) (tC (.int 1))) [8]))) (gName 3) (tSeq (tAsg (tCall (spF K Z m__law_track) [] E0 (tCons (tVar 1) (tCons (tVar 3) tNil))) (gName 4)) (tFor (RZ.iZipA K (tCons (tVar 4) (tCons (tSl (kSl K) (tVar 4) (tPart (tC (.int 1))) tNoPart) tNil))) (gTup K 2 (gCons (gName 5) (gCons (gName 6) gNil))) (tIfS (tTest (tOp (kNe K) (tCall (spF K Z m__law_left_in) [] E0 (tCons (tOp (rIx K) (tVar 1) (tVar 5)) tNil)) (tCall (spF K Z m__law_found_in) [] E0 (tCons (tOp (rIx K) (tVar 1) (tVar 6)) tNil)))) (tSeq (tAsg (tOp kSub (tOp (rIx K) (tOp (rIx K) (tVar 1) (tVar 6)) (tC (.int 2))) (tCB kInt (tCons (tOp (kEq K) (tOp (rIx K) (tOp (rIx K) (tVar 1) (tVar 6)) (tC (.int 0))) (tC (.str "seen"))) tNil))) (gName 7)) (tDrop (tBM K "list" rAppend (tVar 2) (tCons (tOp (kAdd K) (tTup (tCons (tVar 3) (tCons (tVar 5) (tCons (tVar 6) tNil)))) (tCall (spF K Z m__law_edges) [] E0 (tCons (tVar 0) (tCons (tOp (rIx K) (tOp (rIx K) (tVar 1) (tVar 5)) (tC (.int 2))) (tCons (tVar 7) tNil))))) tNil)))) tNext)))) (tRet (tVar 2))))
theorem rf__law_gaps {K : PySem.W.Frag} {Z : Er} : RfS K Z (fun _ => E0) (t__law_gaps K Z) b__law_gaps := by
  exact (rf_seq (rf_asgO (rf_oLst rf_nil))
  (rf_seq (rf_for (rf_seqI (rf_sortS (rf_lc (E1 := fun _ => E0) (rf_seqI rf_var) rf_gN rf_yes (rf_opZ o_ix rf_var rf_int)))) rf_gN
  (rf_seq (rf_asg (rf_call (rf_cons rf_var (rf_cons rf_var rf_nil))) rf_gN)
  (rf_for (rf_zip (rf_cons rf_var (rf_cons (rf_sl o_sl rf_var (rf_part rf_int) rf_noPart) rf_nil))) (rf_gT (rf_gCons rf_gN (rf_gCons rf_gN rf_gNil)) rfl)
  (rf_ifS (rf_test (rf_op o_ne (rf_call (rf_cons (rf_opZ o_ix rf_var rf_var) rf_nil)) (rf_call (rf_cons (rf_opZ o_ix rf_var rf_var) rf_nil))))
  (rf_seq (rf_asg (rf_op o_sub (rf_opZ o_ix (rf_opZ o_ix rf_var rf_var) rf_int) (rf_cb o_int (rf_cons (rf_op o_eq (rf_opZ o_ix (rf_opZ o_ix rf_var rf_var) rf_int) rf_str) rf_nil))) rf_gN)
  (rf_drop (rf_meth w_append (rf_cons (rf_op o_add (rf_tup (rf_cons rf_var (rf_cons rf_var (rf_cons rf_var rf_nil)))) (rf_call (rf_cons rf_var (rf_cons (rf_opZ o_ix (rf_opZ o_ix rf_var rf_var) rf_int) (rf_cons rf_var rf_nil))))) rf_nil))))
  rf_next))))
  (rf_ret rf_var)))
def t__law_places (K : PySem.W.Frag) (Z : Er) : TS :=
  (tRet (tLc (iSeq K (tVar 0)) (gName 2) tYes (tOp (kAdd K) (tTup (tCons (tOp (rIx K) (tVar 2) (tC (.int 0))) (tCons (tOp (rIx K) (tVar 1) (tOp (rIx K) (tVar 2) (tC (.int 1)))) (tCons (tOp (rIx K) (tVar 1) (tOp (rIx K) (tVar 2) (tC (.int 2)))) tNil)))) (tSl (kSl K) (tVar 2) (tPart (tC (.int 3))) tNoPart)) [2]))
theorem rf__law_places {K : PySem.W.Frag} {Z : Er} : RfS K Z (fun _ => E0) (t__law_places K Z) b__law_places := by
  exact (rf_ret (rf_lc (E1 := fun _ => E0) (rf_seqI rf_var) rf_gN rf_yes (rf_op o_add (rf_tup (rf_cons (rf_opZ o_ix rf_var rf_int) (rf_cons (rf_opZ o_ix rf_var (rf_opZ o_ix rf_var rf_int)) (rf_cons (rf_opZ o_ix rf_var (rf_opZ o_ix rf_var rf_int)) rf_nil)))) (rf_sl o_sl rf_var (rf_part rf_int) rf_noPart))))
def t_law (K : PySem.W.Frag) (Z : Er) : TS :=
  (tSeq (tFor (iSeq K (tOp (kAdd K) (tSl (kSl K) (tVar 0) tNoPart (tPart (tC (.int 14)))) (tLst (tCons (tC (.int 0)) tNil)))) (gName 1) (tSeq (tAsg (tCall (spF K Z m__law_well) [] E0 (tCons (tVar 1) (tCons (tC (.int 0)) tNil))) (gName 2)) (tSeq (tAsg (tCall (spF K Z m__law_town) [] E0 (tCons (tVar 2) (tCons (tC (.int 3)) tNil))) (gName 3)) (tSeq (tIfS (tTest (tOp (kEq K) (tCall (spF K Z m__law_take) [] E0 (tCons (tVar 2) (tCons (tC (.int 3)) tNil))) (tC (.int 0)))) (tAsg (tCB (kTuple K) (tCons (tLc (iSeq K (tVar 3)) (gName 10) tYes (tTup (tCons (tOp (rIx K) (tVar 10) (tC (.int 0))) (tCons (tOp (rIx K) (tVar 10) (tC (.int 1))) (tCons (tOp (rIx K) (tVar 10) (tC (.int 1))) (tCons (tOp (rIx K) (tVar 10) (tC (.int 3))) tNil))))) [10]) tNil)) (gName 3)) tNext) (tSeq (tAsg (tCall (spF K Z m__law_tracks) [] E0 (tCons (tVar 2) (tCons (tVar 3) (tCons (tC (.int 14)) tNil)))) (gName 4)) (tSeq (tAsg (tCB (kList K) (tCons (tVar 4) tNil)) (gName 5)) (tSeq (tAsg (tCall (spF K Z m__law_gaps) [] E0 (tCons (tVar 3) (tCons (tVar 4) tNil))) (gName 6)) (tSeq (tAsg (tCall (spF K Z m_gaps) [] E0 (tCons (tVar 3) (tCons (tVar 5) tNil))) (gName 7)) (tSeq (tIfS (tOr (tNot (tB (tIsi K (tVar 7) "list"))) (tOr (tTest (tOp (kNe K) (tVar 7) (tVar 6))) (tTest (tOp (kNe K) (tVar 5) (tVar 4))))) (tRet (tC (.bl false))) tNext) (tSeq (tDrop (tBM K "list" rAppend (tVar 7) (tCons (tC .non) tNil))) (tSeq (tAsg (tCall (spF K Z m__law_shuffled) [] E0 (tCons (tVar 2) (tCons (tVar 4) tNil))) (gName 8)) (tSeq (tAsg (tCall (spF K Z m_gaps) [] E0 (tCons (tVar 3) (tCons (tVar 8) tNil))) (gName 9)) (tSeq (tIfS (tOr (tTest (tOp (kNe K) (tVar 9) (tCall (spF K Z m__law_gaps) [] E0 (tCons (tVar 3) (tCons (tVar 8) tNil))))) (tTest (tOp (kNe K) (tCall (spF K Z m_gaps) [] E0 (tCons (tVar 3) (tCons (tVar 4) tNil))) (tVar 6)))) (tRet (tC (.bl false))) tNext) (tIfS (tTest (tOp (kNe K) (tCall (spF K Z m__law_places) [] E0 (tCons (tVar 9) (tCons (tVar 8) tNil))) (tCall (spF K Z m__law_places) [] E0 (tCons (tVar 6) (tCons (tVar 4) tNil))))) (tRet (tC (.bl false))) tNext)))))))))))))) (tRet (tC (.bl true))))
theorem rf_law {K : PySem.W.Frag} {Z : Er} : RfS K Z (fun _ => E0) (t_law K Z) b_law := by
  exact (rf_seq (rf_for (rf_seqI (rf_op o_add (rf_sl o_sl rf_var rf_noPart (rf_part rf_int)) (rf_lst (rf_cons rf_int rf_nil)))) rf_gN
  (rf_seq (rf_asgO (rf_oCall (rf_cons rf_var (rf_cons rf_int rf_nil))))
  (rf_seq (rf_asg (rf_call (rf_cons rf_var (rf_cons rf_int rf_nil))) rf_gN)
  (rf_seq (rf_ifS (rf_test (rf_op o_eq (rf_call (rf_cons rf_var (rf_cons rf_int rf_nil))) rf_int))
  (rf_asg (rf_cb o_tuple (rf_cons (rf_lc (E1 := fun _ => E0) (rf_seqI rf_var) rf_gN rf_yes (rf_tup (rf_cons (rf_opZ o_ix rf_var rf_int) (rf_cons (rf_opZ o_ix rf_var rf_int) (rf_cons (rf_opZ o_ix rf_var rf_int) (rf_cons (rf_opZ o_ix rf_var rf_int) rf_nil)))))) rf_nil)) rf_gN)
  rf_next)
  (rf_seq (rf_asg (rf_call (rf_cons rf_var (rf_cons rf_var (rf_cons rf_int rf_nil)))) rf_gN)
  (rf_seq (rf_asg (rf_cb o_list (rf_cons rf_var rf_nil)) rf_gN)
  (rf_seq (rf_asg (rf_call (rf_cons rf_var (rf_cons rf_var rf_nil))) rf_gN)
  (rf_seq (rf_asgO (rf_oCall (rf_cons rf_var (rf_cons rf_var rf_nil))))
  (rf_seq (rf_ifS (rf_or (rf_not (rf_B (rf_isi rf_var))) (rf_or (rf_test (rf_op o_ne rf_var rf_var)) (rf_test (rf_op o_ne rf_var rf_var))))
  (rf_ret rf_bl)
  rf_next)
  (rf_seq (rf_drop (rf_meth w_append (rf_cons rf_non rf_nil)))
  (rf_seq (rf_asg (rf_call (rf_cons rf_var (rf_cons rf_var rf_nil))) rf_gN)
  (rf_seq (rf_asg (rf_call (rf_cons rf_var (rf_cons rf_var rf_nil))) rf_gN)
  (rf_seq (rf_ifS (rf_or (rf_test (rf_op o_ne rf_var (rf_call (rf_cons rf_var (rf_cons rf_var rf_nil))))) (rf_test (rf_op o_ne (rf_call (rf_cons rf_var (rf_cons rf_var rf_nil))) rf_var)))
  (rf_ret rf_bl)
  rf_next)
  (rf_ifS (rf_test (rf_op o_ne (rf_call (rf_cons rf_var (rf_cons rf_var rf_nil))) (rf_call (rf_cons rf_var (rf_cons rf_var rf_nil)))))
  (rf_ret rf_bl)
  rf_next))))))))))))))
  (rf_ret rf_bl))
def topS (i : Nat) : Stmt := PySem.Challenge.pw_latchtown_k19_gaps_between_pages.main.body.getD i (.Pass ⟨0, 0, 0, 0⟩)
abbrev s_is_within : Stmt := topS 9
theorem sc_is_within : FnScope ns_is_within ps_is_within (defScope s_is_within) := ⟨rfl, rfl, rfl, by decide +kernel, rfl, by decide +kernel, by decide +kernel⟩
abbrev s_is_name : Stmt := topS 10
theorem sc_is_name : FnScope ns_is_name ps_is_name (defScope s_is_name) := ⟨rfl, rfl, rfl, by decide +kernel, rfl, by decide +kernel, by decide +kernel⟩
abbrev s_rises : Stmt := topS 11
theorem sc_rises : FnScope ns_rises ps_rises (defScope s_rises) := ⟨rfl, rfl, rfl, by decide +kernel, rfl, by decide +kernel, by decide +kernel⟩
abbrev s_is_gate : Stmt := topS 12
theorem sc_is_gate : FnScope ns_is_gate ps_is_gate (defScope s_is_gate) := ⟨rfl, rfl, rfl, by decide +kernel, rfl, by decide +kernel, by decide +kernel⟩
abbrev s_is_town : Stmt := topS 13
theorem sc_is_town : FnScope ns_is_town ps_is_town (defScope s_is_town) := ⟨rfl, rfl, rfl, by decide +kernel, rfl, by decide +kernel, by decide +kernel⟩
abbrev s_look_at_town : Stmt := topS 14
theorem sc_look_at_town : FnScope ns_look_at_town ps_look_at_town (defScope s_look_at_town) := ⟨rfl, rfl, rfl, by decide +kernel, rfl, by decide +kernel, by decide +kernel⟩
abbrev s_names_of : Stmt := topS 15
theorem sc_names_of : FnScope ns_names_of ps_names_of (defScope s_names_of) := ⟨rfl, rfl, rfl, by decide +kernel, rfl, by decide +kernel, by decide +kernel⟩
abbrev s_open_by : Stmt := topS 16
theorem sc_open_by : FnScope ns_open_by ps_open_by (defScope s_open_by) := ⟨rfl, rfl, rfl, by decide +kernel, rfl, by decide +kernel, by decide +kernel⟩
abbrev s_shut_at : Stmt := topS 17
theorem sc_shut_at : FnScope ns_shut_at ps_shut_at (defScope s_shut_at) := ⟨rfl, rfl, rfl, by decide +kernel, rfl, by decide +kernel, by decide +kernel⟩
abbrev s_is_track_page : Stmt := topS 20
theorem sc_is_track_page : FnScope ns_is_track_page ps_is_track_page (defScope s_is_track_page) := ⟨rfl, rfl, rfl, by decide +kernel, rfl, by decide +kernel, by decide +kernel⟩
abbrev s_look_at_tracks : Stmt := topS 21
theorem sc_look_at_tracks : FnScope ns_look_at_tracks ps_look_at_tracks (defScope s_look_at_tracks) := ⟨rfl, rfl, rfl, by decide +kernel, rfl, by decide +kernel, by decide +kernel⟩
abbrev s_finds : Stmt := topS 22
theorem sc_finds : FnScope ns_finds ps_finds (defScope s_finds) := ⟨rfl, rfl, rfl, by decide +kernel, rfl, by decide +kernel, by decide +kernel⟩
abbrev s_leaves : Stmt := topS 23
theorem sc_leaves : FnScope ns_leaves ps_leaves (defScope s_leaves) := ⟨rfl, rfl, rfl, by decide +kernel, rfl, by decide +kernel, by decide +kernel⟩
abbrev s_gainsay : Stmt := topS 24
theorem sc_gainsay : FnScope ns_gainsay ps_gainsay (defScope s_gainsay) := ⟨rfl, rfl, rfl, by decide +kernel, rfl, by decide +kernel, by decide +kernel⟩
abbrev s_lie_of_tracks : Stmt := topS 25
theorem sc_lie_of_tracks : FnScope ns_lie_of_tracks ps_lie_of_tracks (defScope s_lie_of_tracks) := ⟨rfl, rfl, rfl, by decide +kernel, rfl, by decide +kernel, by decide +kernel⟩
abbrev s_look_at_ways : Stmt := topS 26
theorem sc_look_at_ways : FnScope ns_look_at_ways ps_look_at_ways (defScope s_look_at_ways) := ⟨rfl, rfl, rfl, by decide +kernel, rfl, by decide +kernel, by decide +kernel⟩
abbrev s_track_of : Stmt := topS 27
theorem sc_track_of : FnScope ns_track_of ps_track_of (defScope s_track_of) := ⟨rfl, rfl, rfl, by decide +kernel, rfl, by decide +kernel, by decide +kernel⟩
abbrev s_shut_hours : Stmt := topS 28
theorem sc_shut_hours : FnScope ns_shut_hours ps_shut_hours (defScope s_shut_hours) := ⟨rfl, rfl, rfl, by decide +kernel, rfl, by decide +kernel, by decide +kernel⟩
abbrev s_gap_between : Stmt := topS 29
theorem sc_gap_between : FnScope ns_gap_between ps_gap_between (defScope s_gap_between) := ⟨rfl, rfl, rfl, by decide +kernel, rfl, by decide +kernel, by decide +kernel⟩
abbrev s_gaps_in : Stmt := topS 30
theorem sc_gaps_in : FnScope ns_gaps_in ps_gaps_in (defScope s_gaps_in) := ⟨rfl, rfl, rfl, by decide +kernel, rfl, by decide +kernel, by decide +kernel⟩
abbrev s_gaps : Stmt := topS 31
theorem sc_gaps : FnScope ns_gaps ps_gaps (defScope s_gaps) := ⟨rfl, rfl, rfl, by decide +kernel, rfl, by decide +kernel, by decide +kernel⟩
abbrev s__law_well : Stmt := topS 34
theorem sc__law_well : FnScope ns__law_well ps__law_well (defScope s__law_well) := ⟨rfl, rfl, rfl, by decide +kernel, rfl, by decide +kernel, by decide +kernel⟩
abbrev s__law_take : Stmt := topS 35
theorem sc__law_take : FnScope ns__law_take ps__law_take (defScope s__law_take) := ⟨rfl, rfl, rfl, by decide +kernel, rfl, by decide +kernel, by decide +kernel⟩
abbrev s__law_shuffled : Stmt := topS 36
theorem sc__law_shuffled : FnScope ns__law_shuffled ps__law_shuffled (defScope s__law_shuffled) := ⟨rfl, rfl, rfl, by decide +kernel, rfl, by decide +kernel, by decide +kernel⟩
abbrev s__law_name : Stmt := topS 37
theorem sc__law_name : FnScope ns__law_name ps__law_name (defScope s__law_name) := ⟨rfl, rfl, rfl, by decide +kernel, rfl, by decide +kernel, by decide +kernel⟩
abbrev s__law_rising : Stmt := topS 38
theorem sc__law_rising : FnScope ns__law_rising ps__law_rising (defScope s__law_rising) := ⟨rfl, rfl, rfl, by decide +kernel, rfl, by decide +kernel, by decide +kernel⟩
abbrev s__law_town : Stmt := topS 39
theorem sc__law_town : FnScope ns__law_town ps__law_town (defScope s__law_town) := ⟨rfl, rfl, rfl, by decide +kernel, rfl, by decide +kernel, by decide +kernel⟩
abbrev s__law_clocks : Stmt := topS 40
theorem sc__law_clocks : FnScope ns__law_clocks ps__law_clocks (defScope s__law_clocks) := ⟨rfl, rfl, rfl, by decide +kernel, rfl, by decide +kernel, by decide +kernel⟩
abbrev s__law_is_open : Stmt := topS 41
theorem sc__law_is_open : FnScope ns__law_is_open ps__law_is_open (defScope s__law_is_open) := ⟨rfl, rfl, rfl, by decide +kernel, rfl, by decide +kernel, by decide +kernel⟩
abbrev s__law_far : Stmt := topS 43
theorem sc__law_far : FnScope ns__law_far ps__law_far (defScope s__law_far) := ⟨rfl, rfl, rfl, by decide +kernel, rfl, by decide +kernel, by decide +kernel⟩
abbrev s__law_track_page : Stmt := topS 44
theorem sc__law_track_page : FnScope ns__law_track_page ps__law_track_page (defScope s__law_track_page) := ⟨rfl, rfl, rfl, by decide +kernel, rfl, by decide +kernel, by decide +kernel⟩
abbrev s__law_tracks_lie : Stmt := topS 45
theorem sc__law_tracks_lie : FnScope ns__law_tracks_lie ps__law_tracks_lie (defScope s__law_tracks_lie) := ⟨rfl, rfl, rfl, by decide +kernel, rfl, by decide +kernel, by decide +kernel⟩
abbrev s__law_tracks : Stmt := topS 46
theorem sc__law_tracks : FnScope ns__law_tracks ps__law_tracks (defScope s__law_tracks) := ⟨rfl, rfl, rfl, by decide +kernel, rfl, by decide +kernel, by decide +kernel⟩
abbrev s__law_track : Stmt := topS 47
theorem sc__law_track : FnScope ns__law_track ps__law_track (defScope s__law_track) := ⟨rfl, rfl, rfl, by decide +kernel, rfl, by decide +kernel, by decide +kernel⟩
abbrev s__law_found_in : Stmt := topS 48
theorem sc__law_found_in : FnScope ns__law_found_in ps__law_found_in (defScope s__law_found_in) := ⟨rfl, rfl, rfl, by decide +kernel, rfl, by decide +kernel, by decide +kernel⟩
abbrev s__law_left_in : Stmt := topS 49
theorem sc__law_left_in : FnScope ns__law_left_in ps__law_left_in (defScope s__law_left_in) := ⟨rfl, rfl, rfl, by decide +kernel, rfl, by decide +kernel, by decide +kernel⟩
abbrev s__law_shut : Stmt := topS 50
theorem sc__law_shut : FnScope ns__law_shut ps__law_shut (defScope s__law_shut) := ⟨rfl, rfl, rfl, by decide +kernel, rfl, by decide +kernel, by decide +kernel⟩
abbrev s__law_edges : Stmt := topS 51
theorem sc__law_edges : FnScope ns__law_edges ps__law_edges (defScope s__law_edges) := ⟨rfl, rfl, rfl, by decide +kernel, rfl, by decide +kernel, by decide +kernel⟩
abbrev s__law_gaps : Stmt := topS 52
theorem sc__law_gaps : FnScope ns__law_gaps ps__law_gaps (defScope s__law_gaps) := ⟨rfl, rfl, rfl, by decide +kernel, rfl, by decide +kernel, by decide +kernel⟩
abbrev s__law_places : Stmt := topS 53
theorem sc__law_places : FnScope ns__law_places ps__law_places (defScope s__law_places) := ⟨rfl, rfl, rfl, by decide +kernel, rfl, by decide +kernel, by decide +kernel⟩
abbrev s_law : Stmt := topS 54
theorem sc_law : FnScope ns_law ps_law (defScope s_law) := ⟨rfl, rfl, rfl, by decide +kernel, rfl, by decide +kernel, by decide +kernel⟩
structure Ad where
  f_is_within : Addr
  fd_is_within : FuncData
  f_is_name : Addr
  fd_is_name : FuncData
  f_rises : Addr
  fd_rises : FuncData
  f_is_gate : Addr
  fd_is_gate : FuncData
  f_is_town : Addr
  fd_is_town : FuncData
  f_look_at_town : Addr
  fd_look_at_town : FuncData
  f_names_of : Addr
  fd_names_of : FuncData
  f_open_by : Addr
  fd_open_by : FuncData
  f_shut_at : Addr
  fd_shut_at : FuncData
  f_is_track_page : Addr
  fd_is_track_page : FuncData
  f_look_at_tracks : Addr
  fd_look_at_tracks : FuncData
  f_finds : Addr
  fd_finds : FuncData
  f_leaves : Addr
  fd_leaves : FuncData
  f_gainsay : Addr
  fd_gainsay : FuncData
  f_lie_of_tracks : Addr
  fd_lie_of_tracks : FuncData
  f_look_at_ways : Addr
  fd_look_at_ways : FuncData
  f_track_of : Addr
  fd_track_of : FuncData
  f_shut_hours : Addr
  fd_shut_hours : FuncData
  f_gap_between : Addr
  fd_gap_between : FuncData
  f_gaps_in : Addr
  fd_gaps_in : FuncData
  f_gaps : Addr
  fd_gaps : FuncData
  f__law_well : Addr
  fd__law_well : FuncData
  f__law_take : Addr
  fd__law_take : FuncData
  f__law_shuffled : Addr
  fd__law_shuffled : FuncData
  f__law_name : Addr
  fd__law_name : FuncData
  f__law_rising : Addr
  fd__law_rising : FuncData
  f__law_town : Addr
  fd__law_town : FuncData
  f__law_clocks : Addr
  fd__law_clocks : FuncData
  f__law_is_open : Addr
  fd__law_is_open : FuncData
  f__law_far : Addr
  fd__law_far : FuncData
  f__law_track_page : Addr
  fd__law_track_page : FuncData
  f__law_tracks_lie : Addr
  fd__law_tracks_lie : FuncData
  f__law_tracks : Addr
  fd__law_tracks : FuncData
  f__law_track : Addr
  fd__law_track : FuncData
  f__law_found_in : Addr
  fd__law_found_in : FuncData
  f__law_left_in : Addr
  fd__law_left_in : FuncData
  f__law_shut : Addr
  fd__law_shut : FuncData
  f__law_edges : Addr
  fd__law_edges : FuncData
  f__law_gaps : Addr
  fd__law_gaps : FuncData
  f__law_places : Addr
  fd__law_places : FuncData
  f_law : Addr
  fd_law : FuncData
structure Txt (K : PySem.W.Frag) (mg : Str → Option Value) (A : Ad) (Z : Er) : Prop where
  F_is_within : Fun K "is_within" "is_within" s_is_within A.f_is_within A.fd_is_within
  b_is_within : Binds K A.fd_is_within ps_is_within []
  g_is_within : mg "is_within" = some (.ref A.f_is_within)
  F_is_name : Fun K "is_name" "is_name" s_is_name A.f_is_name A.fd_is_name
  b_is_name : Binds K A.fd_is_name ps_is_name []
  g_is_name : mg "is_name" = some (.ref A.f_is_name)
  F_rises : Fun K "rises" "rises" s_rises A.f_rises A.fd_rises
  b_rises : Binds K A.fd_rises ps_rises []
  g_rises : mg "rises" = some (.ref A.f_rises)
  F_is_gate : Fun K "is_gate" "is_gate" s_is_gate A.f_is_gate A.fd_is_gate
  b_is_gate : Binds K A.fd_is_gate ps_is_gate []
  g_is_gate : mg "is_gate" = some (.ref A.f_is_gate)
  F_is_town : Fun K "is_town" "is_town" s_is_town A.f_is_town A.fd_is_town
  b_is_town : Binds K A.fd_is_town ps_is_town []
  g_is_town : mg "is_town" = some (.ref A.f_is_town)
  F_look_at_town : Fun K "look_at_town" "look_at_town" s_look_at_town A.f_look_at_town A.fd_look_at_town
  b_look_at_town : Binds K A.fd_look_at_town ps_look_at_town []
  g_look_at_town : mg "look_at_town" = some (.ref A.f_look_at_town)
  F_names_of : Fun K "names_of" "names_of" s_names_of A.f_names_of A.fd_names_of
  b_names_of : Binds K A.fd_names_of ps_names_of []
  g_names_of : mg "names_of" = some (.ref A.f_names_of)
  F_open_by : Fun K "open_by" "open_by" s_open_by A.f_open_by A.fd_open_by
  b_open_by : Binds K A.fd_open_by ps_open_by []
  g_open_by : mg "open_by" = some (.ref A.f_open_by)
  F_shut_at : Fun K "shut_at" "shut_at" s_shut_at A.f_shut_at A.fd_shut_at
  b_shut_at : Binds K A.fd_shut_at ps_shut_at []
  g_shut_at : mg "shut_at" = some (.ref A.f_shut_at)
  F_is_track_page : Fun K "is_track_page" "is_track_page" s_is_track_page A.f_is_track_page A.fd_is_track_page
  b_is_track_page : Binds K A.fd_is_track_page ps_is_track_page []
  g_is_track_page : mg "is_track_page" = some (.ref A.f_is_track_page)
  F_look_at_tracks : Fun K "look_at_tracks" "look_at_tracks" s_look_at_tracks A.f_look_at_tracks A.fd_look_at_tracks
  b_look_at_tracks : Binds K A.fd_look_at_tracks ps_look_at_tracks []
  g_look_at_tracks : mg "look_at_tracks" = some (.ref A.f_look_at_tracks)
  F_finds : Fun K "finds" "finds" s_finds A.f_finds A.fd_finds
  b_finds : Binds K A.fd_finds ps_finds []
  g_finds : mg "finds" = some (.ref A.f_finds)
  F_leaves : Fun K "leaves" "leaves" s_leaves A.f_leaves A.fd_leaves
  b_leaves : Binds K A.fd_leaves ps_leaves []
  g_leaves : mg "leaves" = some (.ref A.f_leaves)
  F_gainsay : Fun K "gainsay" "gainsay" s_gainsay A.f_gainsay A.fd_gainsay
  b_gainsay : Binds K A.fd_gainsay ps_gainsay []
  g_gainsay : mg "gainsay" = some (.ref A.f_gainsay)
  F_lie_of_tracks : Fun K "lie_of_tracks" "lie_of_tracks" s_lie_of_tracks A.f_lie_of_tracks A.fd_lie_of_tracks
  b_lie_of_tracks : Binds K A.fd_lie_of_tracks ps_lie_of_tracks []
  g_lie_of_tracks : mg "lie_of_tracks" = some (.ref A.f_lie_of_tracks)
  F_look_at_ways : Fun K "look_at_ways" "look_at_ways" s_look_at_ways A.f_look_at_ways A.fd_look_at_ways
  b_look_at_ways : Binds K A.fd_look_at_ways ps_look_at_ways []
  g_look_at_ways : mg "look_at_ways" = some (.ref A.f_look_at_ways)
  F_track_of : Fun K "track_of" "track_of" s_track_of A.f_track_of A.fd_track_of
  b_track_of : Binds K A.fd_track_of ps_track_of []
  g_track_of : mg "track_of" = some (.ref A.f_track_of)
  F_shut_hours : Fun K "shut_hours" "shut_hours" s_shut_hours A.f_shut_hours A.fd_shut_hours
  b_shut_hours : Binds K A.fd_shut_hours ps_shut_hours []
  g_shut_hours : mg "shut_hours" = some (.ref A.f_shut_hours)
  F_gap_between : Fun K "gap_between" "gap_between" s_gap_between A.f_gap_between A.fd_gap_between
  b_gap_between : Binds K A.fd_gap_between ps_gap_between []
  g_gap_between : mg "gap_between" = some (.ref A.f_gap_between)
  F_gaps_in : Fun K "gaps_in" "gaps_in" s_gaps_in A.f_gaps_in A.fd_gaps_in
  b_gaps_in : Binds K A.fd_gaps_in ps_gaps_in []
  g_gaps_in : mg "gaps_in" = some (.ref A.f_gaps_in)
  F_gaps : Fun K "gaps" "gaps" s_gaps A.f_gaps A.fd_gaps
  b_gaps : Binds K A.fd_gaps ps_gaps []
  g_gaps : mg "gaps" = some (.ref A.f_gaps)
  F__law_well : Fun K "_law_well" "_law_well" s__law_well A.f__law_well A.fd__law_well
  b__law_well : Binds K A.fd__law_well ps__law_well []
  g__law_well : mg "_law_well" = some (.ref A.f__law_well)
  F__law_take : Fun K "_law_take" "_law_take" s__law_take A.f__law_take A.fd__law_take
  b__law_take : Binds K A.fd__law_take ps__law_take []
  g__law_take : mg "_law_take" = some (.ref A.f__law_take)
  F__law_shuffled : Fun K "_law_shuffled" "_law_shuffled" s__law_shuffled A.f__law_shuffled A.fd__law_shuffled
  b__law_shuffled : Binds K A.fd__law_shuffled ps__law_shuffled []
  g__law_shuffled : mg "_law_shuffled" = some (.ref A.f__law_shuffled)
  F__law_name : Fun K "_law_name" "_law_name" s__law_name A.f__law_name A.fd__law_name
  b__law_name : Binds K A.fd__law_name ps__law_name []
  g__law_name : mg "_law_name" = some (.ref A.f__law_name)
  F__law_rising : Fun K "_law_rising" "_law_rising" s__law_rising A.f__law_rising A.fd__law_rising
  b__law_rising : Binds K A.fd__law_rising ps__law_rising []
  g__law_rising : mg "_law_rising" = some (.ref A.f__law_rising)
  F__law_town : Fun K "_law_town" "_law_town" s__law_town A.f__law_town A.fd__law_town
  b__law_town : Binds K A.fd__law_town ps__law_town []
  g__law_town : mg "_law_town" = some (.ref A.f__law_town)
  F__law_clocks : Fun K "_law_clocks" "_law_clocks" s__law_clocks A.f__law_clocks A.fd__law_clocks
  b__law_clocks : Binds K A.fd__law_clocks ps__law_clocks []
  g__law_clocks : mg "_law_clocks" = some (.ref A.f__law_clocks)
  F__law_is_open : Fun K "_law_is_open" "_law_is_open" s__law_is_open A.f__law_is_open A.fd__law_is_open
  b__law_is_open : Binds K A.fd__law_is_open ps__law_is_open []
  g__law_is_open : mg "_law_is_open" = some (.ref A.f__law_is_open)
  F__law_far : Fun K "_law_far" "_law_far" s__law_far A.f__law_far A.fd__law_far
  b__law_far : Binds K A.fd__law_far ps__law_far []
  g__law_far : mg "_law_far" = some (.ref A.f__law_far)
  F__law_track_page : Fun K "_law_track_page" "_law_track_page" s__law_track_page A.f__law_track_page A.fd__law_track_page
  b__law_track_page : Binds K A.fd__law_track_page ps__law_track_page []
  g__law_track_page : mg "_law_track_page" = some (.ref A.f__law_track_page)
  F__law_tracks_lie : Fun K "_law_tracks_lie" "_law_tracks_lie" s__law_tracks_lie A.f__law_tracks_lie A.fd__law_tracks_lie
  b__law_tracks_lie : Binds K A.fd__law_tracks_lie ps__law_tracks_lie []
  g__law_tracks_lie : mg "_law_tracks_lie" = some (.ref A.f__law_tracks_lie)
  F__law_tracks : Fun K "_law_tracks" "_law_tracks" s__law_tracks A.f__law_tracks A.fd__law_tracks
  b__law_tracks : Binds K A.fd__law_tracks ps__law_tracks []
  g__law_tracks : mg "_law_tracks" = some (.ref A.f__law_tracks)
  F__law_track : Fun K "_law_track" "_law_track" s__law_track A.f__law_track A.fd__law_track
  b__law_track : Binds K A.fd__law_track ps__law_track []
  g__law_track : mg "_law_track" = some (.ref A.f__law_track)
  F__law_found_in : Fun K "_law_found_in" "_law_found_in" s__law_found_in A.f__law_found_in A.fd__law_found_in
  b__law_found_in : Binds K A.fd__law_found_in ps__law_found_in []
  g__law_found_in : mg "_law_found_in" = some (.ref A.f__law_found_in)
  F__law_left_in : Fun K "_law_left_in" "_law_left_in" s__law_left_in A.f__law_left_in A.fd__law_left_in
  b__law_left_in : Binds K A.fd__law_left_in ps__law_left_in []
  g__law_left_in : mg "_law_left_in" = some (.ref A.f__law_left_in)
  F__law_shut : Fun K "_law_shut" "_law_shut" s__law_shut A.f__law_shut A.fd__law_shut
  b__law_shut : Binds K A.fd__law_shut ps__law_shut []
  g__law_shut : mg "_law_shut" = some (.ref A.f__law_shut)
  F__law_edges : Fun K "_law_edges" "_law_edges" s__law_edges A.f__law_edges A.fd__law_edges
  b__law_edges : Binds K A.fd__law_edges ps__law_edges []
  g__law_edges : mg "_law_edges" = some (.ref A.f__law_edges)
  F__law_gaps : Fun K "_law_gaps" "_law_gaps" s__law_gaps A.f__law_gaps A.fd__law_gaps
  b__law_gaps : Binds K A.fd__law_gaps ps__law_gaps []
  g__law_gaps : mg "_law_gaps" = some (.ref A.f__law_gaps)
  F__law_places : Fun K "_law_places" "_law_places" s__law_places A.f__law_places A.fd__law_places
  b__law_places : Binds K A.fd__law_places ps__law_places []
  g__law_places : mg "_law_places" = some (.ref A.f__law_places)
  F_law : Fun K "law" "law" s_law A.f_law A.fd_law
  b_law : Binds K A.fd_law ps_law []
  g_law : mg "law" = some (.ref A.f_law)
  h_LETTERS : ∃ t, mg "LETTERS" = some (Value.str "abcdefghijklmnopqrstuvwxyz" t)
  h_DAY : ∃ t, mg "DAY" = some (Value.int 24 t)
  h_MOST_HOUR : ∃ t, mg "MOST_HOUR" = some (Value.int 1000000000000 t)
  h_MOST_PAGES : ∃ t, mg "MOST_PAGES" = some (Value.int 200 t)
  z_all : mg "all" = none
  z_bool : mg "bool" = none
  z_enumerate : mg "enumerate" = none
  z_int : mg "int" = none
  z_isinstance : mg "isinstance" = none
  z_len : mg "len" = none
  z_list : mg "list" = none
  z_max : mg "max" = none
  z_min : mg "min" = none
  z_range : mg "range" = none
  z_set : mg "set" = none
  z_sorted : mg "sorted" = none
  z_str : mg "str" = none
  z_tuple : mg "tuple" = none
  z_zip : mg "zip" = none
theorem Txt.g_LETTERS {K : PySem.W.Frag} {mg : Str → Option Value} {A : Ad} {Z : Er} (T : Txt K mg A Z) : mg "LETTERS" = some (Value.str "abcdefghijklmnopqrstuvwxyz" T.h_LETTERS.choose) := T.h_LETTERS.choose_spec
theorem Txt.g_DAY {K : PySem.W.Frag} {mg : Str → Option Value} {A : Ad} {Z : Er} (T : Txt K mg A Z) : mg "DAY" = some (Value.int 24 T.h_DAY.choose) := T.h_DAY.choose_spec
theorem Txt.g_MOST_HOUR {K : PySem.W.Frag} {mg : Str → Option Value} {A : Ad} {Z : Er} (T : Txt K mg A Z) : mg "MOST_HOUR" = some (Value.int 1000000000000 T.h_MOST_HOUR.choose) := T.h_MOST_HOUR.choose_spec
theorem Txt.g_MOST_PAGES {K : PySem.W.Frag} {mg : Str → Option Value} {A : Ad} {Z : Er} (T : Txt K mg A Z) : mg "MOST_PAGES" = some (Value.int 200 T.h_MOST_PAGES.choose) := T.h_MOST_PAGES.choose_spec
section
variable {P : Program} {w : PySem.World} {K : PySem.W.Frag} {mg : Str → Option Value} {base : Heap} {A : Ad} {Z : Er}
theorem ok_is_within (T : Txt K mg A Z) : FnOk P w K mg base CX0 1 A.f_is_within A.fd_is_within ps_is_within (spF K Z m_is_within) :=
  T.F_is_within.ok sc_is_within spF_len0 fun cdv A1 outer s H vs Q E hr h => ⟨t_is_within K Z, by
      exact (pss_one (ps_ret (pe_and (pe_callB call_isi (by rfl) T.z_isinstance bt_isinstance (pa_cons (pv 0) (pa_cons (pe_bltn (by rfl) T.z_int bt_int rfl) pa_nil))) (pe_and (pe_not (pe_callB call_isi (by rfl) T.z_isinstance bt_isinstance (pa_cons (pv 0) (pa_cons (pe_bltn (by rfl) T.z_bool bt_bool rfl) pa_nil)))) (pe_one (pe_chain op_kLe op_kLe (pv 1) (pv 0) (pv 2))))))), def_in0 rfl rf_is_within vs H Q E h⟩
theorem ok_is_name (T : Txt K mg A Z) : FnOk P w K mg base CX0 1 A.f_is_name A.fd_is_name ps_is_name (spF K Z m_is_name) :=
  T.F_is_name.ok sc_is_name spF_len0 fun cdv A1 outer s H vs Q E hr h => ⟨t_is_name K Z, by
      exact (pss_one (ps_ret (pe_and (pe_callB call_isi (by rfl) T.z_isinstance bt_isinstance (pa_cons (pv 0) (pa_cons (pe_bltn (by rfl) T.z_str bt_str rfl) pa_nil))) (pe_and (pe_chain op_kLe op_kLe pe_int (pe_callB call_kLen (by rfl) T.z_len bt_len (pa_cons (pv 0) pa_nil)) pe_int) (pe_one (pe_callB (cr_all rfl) (by rfl) T.z_all bt_all (pa_cons (pe_lc (own := [("sign", 1)]) (g := (gName 1)) (tt := tYes) rfl sc_is_name.nd (pi_seq (pv 0)) (blkOk_by (own := [("sign", 1)]) (N := ns_is_name) (sc := defScope s_is_name) (by decide +kernel)) (fun _ _ _ _ _ => (pg_name (i := 1) sc_is_name.nd rfl (Or.inl rfl))) (fun _ _ _ _ _ => pts_nil) (fun _ _ _ _ _ => (pe_cmpR op_kIn (pv 1) (pe_glob (by rfl) T.g_LETTERS ⟨_, rfl⟩) (by rfl)))) pa_nil))))))), def_in0 rfl rf_is_name vs H Q E h⟩
theorem ok_rises (T : Txt K mg A Z) : FnOk P w K mg base CX0 1 A.f_rises A.fd_rises ps_rises (spF K Z m_rises) :=
  T.F_rises.ok sc_rises spF_len0 fun cdv A1 outer s H vs Q E hr h => ⟨t_rises K Z, by
      exact (pss_one (ps_ret (pe_callB (cr_all rfl) (by rfl) T.z_all bt_all (pa_cons (pe_lc (own := [("one", 1), ("other", 2)]) (g := (gTup K 2 (gCons (gName 1) (gCons (gName 2) gNil)))) (tt := tYes) rfl sc_rises.nd (RZ.pi_zipA (by rfl) T.z_zip (pa_cons (pv 0) (pa_cons (pe_slice sl_k (pv 0) (po_some pe_int) po_none) pa_nil))) (blkOk_by (own := [("one", 1), ("other", 2)]) (N := ns_rises) (sc := defScope s_rises) (by decide +kernel)) (fun _ _ _ _ _ => (pg_tup rfl (pgs_cons (pg_name (i := 1) sc_rises.nd rfl (Or.inl rfl)) (pgs_cons (pg_name (i := 2) sc_rises.nd rfl (Or.inl rfl)) pgs_nil)))) (fun _ _ _ _ _ => pts_nil) (fun _ _ _ _ _ => (pe_cmpR (op_kLt hr) (pv 1) (pv 2) (nomark _)))) pa_nil)))), def_in0 rfl rf_rises vs H Q E h⟩
theorem ok_is_gate (T : Txt K mg A Z) : FnOk P w K mg base CX0 2 A.f_is_gate A.fd_is_gate ps_is_gate (spF K Z m_is_gate) :=
  T.F_is_gate.ok sc_is_gate spF_len0 fun cdv A1 outer s H vs Q E hr h => ⟨t_is_gate K Z, by
      exact (pss_cons (ps_if (PW.pt (pw_or (pt_not (pt_val (pe_callB call_isi (by rfl) T.z_isinstance bt_isinstance (pa_cons (pv 0) (pa_cons (pe_bltn (by rfl) T.z_tuple bt_tuple rfl) pa_nil))))) (pw_or (pt_cmpR (op_kNe hr) (pe_callB call_kLen (by rfl) T.z_len bt_len (pa_cons (pv 0) pa_nil)) pe_int (nomark _)) (pw_or (pt_not (pt_val (pe_call (ok_is_name T) hr (by rfl) T.g_is_name T.F_is_name.kp T.b_is_name .nil pass0 (pa_cons (pe_ix ix_seq (pv 0) pe_int (fun _ _ => rfl)) pa_nil)))) (pw_or1 (pt_not (pt_val (pe_callB call_isi (by rfl) T.z_isinstance bt_isinstance (pa_cons (pe_ix ix_seq (pv 0) pe_int (fun _ _ => rfl)) (pa_cons (pe_bltn (by rfl) T.z_bool bt_bool rfl) pa_nil))))))))))
        (pss_one (ps_ret pe_bl))
        pss_nil)
        (pss_one (ps_ret (pe_and (pe_call (ok_is_within T) hr (by rfl) T.g_is_within T.F_is_within.kp T.b_is_within .nil pass0 (pa_cons (pe_ix ix_seq (pv 0) pe_int (fun _ _ => rfl)) (pa_cons pe_int (pa_cons (pe_op op_kSub (pe_glob (by rfl) T.g_DAY ⟨_, rfl⟩) pe_int) pa_nil)))) (pe_one (pe_call (ok_is_within T) hr (by rfl) T.g_is_within T.F_is_within.kp T.b_is_within .nil pass0 (pa_cons (pe_ix ix_seq (pv 0) pe_int (fun _ _ => rfl)) (pa_cons pe_int (pa_cons (pe_op op_kSub (pe_glob (by rfl) T.g_DAY ⟨_, rfl⟩) pe_int) pa_nil))))))))), def_in0 rfl rf_is_gate vs H Q E h⟩
theorem ok_is_town (T : Txt K mg A Z) : FnOk P w K mg base CX0 3 A.f_is_town A.fd_is_town ps_is_town (spF K Z m_is_town) :=
  T.F_is_town.ok sc_is_town spF_len0 fun cdv A1 outer s H vs Q E hr h => ⟨t_is_town K Z, by
      exact (pss_cons (ps_if (PW.pt (pw_or (pt_not (pt_val (pe_callB call_isi (by rfl) T.z_isinstance bt_isinstance (pa_cons (pv 0) (pa_cons (pe_bltn (by rfl) T.z_tuple bt_tuple rfl) pa_nil))))) (pw_or (pt_not (pt_chain op_kLe op_kLe pe_int (pe_callB call_kLen (by rfl) T.z_len bt_len (pa_cons (pv 0) pa_nil)) pe_int)) (pw_or1 (pt_not (pt_val (pe_callB (cr_all rfl) (by rfl) T.z_all bt_all (pa_cons (pe_lc (own := [("part", 1)]) (g := (gName 1)) (tt := tYes) rfl sc_is_town.nd (pi_seq (pv 0)) (blkOk_by (own := [("part", 1)]) (N := ns_is_town) (sc := defScope s_is_town) (by decide +kernel)) (fun _ _ _ _ _ => (pg_name (i := 1) sc_is_town.nd rfl (Or.inl rfl))) (fun _ _ _ _ _ => pts_nil) (fun _ _ _ _ _ => (pe_call (ok_is_gate T) hr (by rfl) T.g_is_gate T.F_is_gate.kp T.b_is_gate .nil pass0 (pa_cons (pv 1) pa_nil)))) pa_nil))))))))
        (pss_one (ps_ret pe_bl))
        pss_nil)
        (pss_one (ps_ret (pe_call (ok_rises T) (hr.mono (by decide)) (by rfl) T.g_rises T.F_rises.kp T.b_rises .nil pass0 (pa_cons (pe_lc (own := [("part", 1)]) (g := (gName 1)) (tt := tYes) rfl sc_is_town.nd (pi_seq (pv 0)) (blkOk_by (own := [("part", 1)]) (N := ns_is_town) (sc := defScope s_is_town) (by decide +kernel)) (fun _ _ _ _ _ => (pg_name (i := 1) sc_is_town.nd rfl (Or.inl rfl))) (fun _ _ _ _ _ => pts_nil) (fun _ _ _ _ _ => (pe_ix ix_seq (pv 1) pe_int (fun _ _ => rfl)))) pa_nil))))), def_in0 rfl rf_is_town vs H Q E h⟩
theorem ok_look_at_town (T : Txt K mg A Z) : FnOk P w K mg base CX0 4 A.f_look_at_town A.fd_look_at_town ps_look_at_town (spF K Z m_look_at_town) :=
  T.F_look_at_town.ok sc_look_at_town spF_len0 fun cdv A1 outer s H vs Q E hr h => ⟨t_look_at_town K Z, by
      exact (pss_one (ps_if (pt_not (pt_val (pe_call (ok_is_town T) hr (by rfl) T.g_is_town T.F_is_town.kp T.b_is_town .nil pass0 (pa_cons (pv 0) pa_nil))))
        (pss_one ps_never)
        pss_nil)), def_in0 rfl rf_look_at_town vs H Q E h⟩
theorem ok_names_of (T : Txt K mg A Z) : FnOk P w K mg base CX0 1 A.f_names_of A.fd_names_of ps_names_of (spF K Z m_names_of) :=
  T.F_names_of.ok sc_names_of spF_len0 fun cdv A1 outer s H vs Q E hr h => ⟨t_names_of K Z, by
      exact (pss_one (ps_ret (pe_lc (own := [("gate", 1)]) (g := (gName 1)) (tt := tYes) rfl sc_names_of.nd (pi_seq (pv 0)) (blkOk_by (own := [("gate", 1)]) (N := ns_names_of) (sc := defScope s_names_of) (by decide +kernel)) (fun _ _ _ _ _ => (pg_name (i := 1) sc_names_of.nd rfl (Or.inl rfl))) (fun _ _ _ _ _ => pts_nil) (fun _ _ _ _ _ => (pe_ix ix_seq (pv 1) pe_int (fun _ _ => rfl)))))), def_in0 rfl rf_names_of vs H Q E h⟩
theorem ok_open_by (T : Txt K mg A Z) : FnOk P w K mg base CX0 1 A.f_open_by A.fd_open_by ps_open_by (spF K Z m_open_by) :=
  T.F_open_by.ok sc_open_by spF_len0 fun cdv A1 outer s H vs Q E hr h => ⟨t_open_by K Z, by
      exact (pss_cons (ps_if (pt_cmpR (op_kEq hr) (pe_ix ix_seq (pv 0) pe_int (fun _ _ => rfl)) (pe_ix ix_seq (pv 0) pe_int (fun _ _ => rfl)) (nomark _))
        (pss_one (ps_ret pe_bl))
        pss_nil)
        (pss_one (ps_ret (pe_cmpR (op_kLt hr) (pe_op op_kMod (pe_op op_kSub (pv 1) (pe_ix ix_seq (pv 0) pe_int (fun _ _ => rfl))) (pe_glob (by rfl) T.g_DAY ⟨_, rfl⟩)) (pe_op op_kMod (pe_op op_kSub (pe_ix ix_seq (pv 0) pe_int (fun _ _ => rfl)) (pe_ix ix_seq (pv 0) pe_int (fun _ _ => rfl))) (pe_glob (by rfl) T.g_DAY ⟨_, rfl⟩)) (nomark _))))), def_in0 rfl rf_open_by vs H Q E h⟩
theorem ok_shut_at (T : Txt K mg A Z) : FnOk P w K mg base CX0 2 A.f_shut_at A.fd_shut_at ps_shut_at (spF K Z m_shut_at) :=
  T.F_shut_at.ok sc_shut_at spF_len0 fun cdv A1 outer s H vs Q E hr h => ⟨t_shut_at K Z, by
      exact (pss_one (ps_ret (pe_lc (own := [("gate", 2)]) (g := (gName 2)) (tt := (tNot (tB (tCall (spF K Z m_open_by) [] E0 (tCons (tVar 2) (tCons (tVar 1) tNil)))))) rfl sc_shut_at.nd (pi_seq (pv 0)) (blkOk_by (own := [("gate", 2)]) (N := ns_shut_at) (sc := defScope s_shut_at) (by decide +kernel)) (fun _ _ _ _ _ => (pg_name (i := 2) sc_shut_at.nd rfl (Or.inl rfl))) (fun _ _ _ _ _ => (pts_one (pt_not (pt_val (pe_call (ok_open_by T) hr (by rfl) T.g_open_by T.F_open_by.kp T.b_open_by .nil pass0 (pa_cons (pv 2) (pa_cons (pv 1) pa_nil))))))) (fun _ _ _ _ _ => (pe_ix ix_seq (pv 2) pe_int (fun _ _ => rfl)))))), def_in0 rfl rf_shut_at vs H Q E h⟩
theorem ok_is_track_page (T : Txt K mg A Z) : FnOk P w K mg base CX0 2 A.f_is_track_page A.fd_is_track_page ps_is_track_page (spF K Z m_is_track_page) :=
  T.F_is_track_page.ok sc_is_track_page spF_len0 fun cdv A1 outer s H vs Q E hr h => ⟨t_is_track_page K Z, by
      exact (pss_cons (ps_if (PW.pt (pw_or (pt_not (pt_val (pe_callB call_isi (by rfl) T.z_isinstance bt_isinstance (pa_cons (pv 1) (pa_cons (pe_bltn (by rfl) T.z_tuple bt_tuple rfl) pa_nil))))) (pw_or (pt_cmpR op_kNotIn (pe_callB call_kLen (by rfl) T.z_len bt_len (pa_cons (pv 1) pa_nil)) (pe_tup (pa_cons pe_int (pa_cons pe_int pa_nil))) (by rfl)) (pw_or1 (pt_not (pt_val (pe_callB call_isi (by rfl) T.z_isinstance bt_isinstance (pa_cons (pe_ix ix_seq (pv 1) pe_int (fun _ _ => rfl)) (pa_cons (pe_bltn (by rfl) T.z_str bt_str rfl) pa_nil)))))))))
        (pss_one (ps_ret pe_bl))
        pss_nil)
        (pss_cons (ps_if (PW.pt (pw_or (pt_not (pt_val (pe_call (ok_is_name T) hr (by rfl) T.g_is_name T.F_is_name.kp T.b_is_name .nil pass0 (pa_cons (pe_ix ix_seq (pv 1) pe_int (fun _ _ => rfl)) pa_nil)))) (pw_or (pt_not (pt_val (pe_call (ok_is_within T) hr (by rfl) T.g_is_within T.F_is_within.kp T.b_is_within .nil pass0 (pa_cons (pe_ix ix_seq (pv 1) pe_int (fun _ _ => rfl)) (pa_cons pe_int (pa_cons (pe_glob (by rfl) T.g_MOST_HOUR ⟨_, rfl⟩) pa_nil)))))) (pw_or1 (pt_not (pt_val (pe_callB call_isi (by rfl) T.z_isinstance bt_isinstance (pa_cons (pe_ix ix_seq (pv 1) (pe_un un_neg pe_int) (fun _ _ => rfl)) (pa_cons (pe_bltn (by rfl) T.z_str bt_str rfl) pa_nil)))))))))
        (pss_one (ps_ret pe_bl))
        pss_nil)
        (pss_cons (ps_if (pt_cmpR (op_kEq hr) (pe_callB call_kLen (by rfl) T.z_len bt_len (pa_cons (pv 1) pa_nil)) pe_int (nomark _))
        (pss_one (ps_ret (pe_and (pe_cmpR (op_kEq hr) (pe_ix ix_seq (pv 1) pe_int (fun _ _ => rfl)) pe_str (nomark _)) (pe_one (pe_cmpR op_kIn (pe_ix ix_seq (pv 1) pe_int (fun _ _ => rfl)) (pe_tup (pa_cons pe_str (pa_cons pe_str pa_nil))) (by rfl))))))
        pss_nil)
        (pss_cons (ps_if (PW.pt (pw_or (pt_not (pt_val (pe_callB call_isi (by rfl) T.z_isinstance bt_isinstance (pa_cons (pe_ix ix_seq (pv 1) pe_int (fun _ _ => rfl)) (pa_cons (pe_bltn (by rfl) T.z_str bt_str rfl) pa_nil))))) (pw_or1 (pt_cmpR op_kNotIn (pe_ix ix_seq (pv 1) pe_int (fun _ _ => rfl)) (pe_call (ok_names_of T) hr (by rfl) T.g_names_of T.F_names_of.kp T.b_names_of .nil pass0 (pa_cons (pv 0) pa_nil)) (by rfl)))))
        (pss_one (ps_ret pe_bl))
        pss_nil)
        (pss_one (ps_ret (pe_and (pe_cmpR (op_kEq hr) (pe_ix ix_seq (pv 1) pe_int (fun _ _ => rfl)) pe_str (nomark _)) (pe_one (pe_cmpR op_kIn (pe_ix ix_seq (pv 1) pe_int (fun _ _ => rfl)) (pe_tup (pa_cons pe_str (pa_cons pe_str pa_nil))) (by rfl)))))))))), def_in0 rfl rf_is_track_page vs H Q E h⟩
theorem ok_look_at_tracks (T : Txt K mg A Z) : FnOk P w K mg base CX0 5 A.f_look_at_tracks A.fd_look_at_tracks ps_look_at_tracks (spF K Z m_look_at_tracks) :=
  T.F_look_at_tracks.ok sc_look_at_tracks spF_len0 fun cdv A1 outer s H vs Q E hr h => ⟨t_look_at_tracks K Z, by
      exact (pss_cons (ps_expr (pe_call (ok_look_at_town T) hr (by rfl) T.g_look_at_town T.F_look_at_town.kp T.b_look_at_town .nil pass0 (pa_cons (pv 0) pa_nil)))
        (pss_one (ps_if (PW.pt (pw_or (pt_not (pt_val (pe_callB call_isi (by rfl) T.z_isinstance bt_isinstance (pa_cons (pv 1) (pa_cons (pe_bltn (by rfl) T.z_list bt_list rfl) pa_nil))))) (pw_or (pt_cmpR op_kGt (pe_callB call_kLen (by rfl) T.z_len bt_len (pa_cons (pv 1) pa_nil)) (pe_glob (by rfl) T.g_MOST_PAGES ⟨_, rfl⟩) (nomark _)) (pw_or1 (pt_not (pt_val (pe_callB (cr_all rfl) (by rfl) T.z_all bt_all (pa_cons (pe_lc (own := [("page", 2)]) (g := (gName 2)) (tt := tYes) rfl sc_look_at_tracks.nd (pi_seq (pv 1)) (blkOk_by (own := [("page", 2)]) (N := ns_look_at_tracks) (sc := defScope s_look_at_tracks) (by decide +kernel)) (fun _ _ _ _ _ => (pg_name (i := 2) sc_look_at_tracks.nd rfl (Or.inl rfl))) (fun _ _ _ _ _ => pts_nil) (fun _ _ _ _ _ => (pe_call (ok_is_track_page T) (hr.mono (by decide)) (by rfl) T.g_is_track_page T.F_is_track_page.kp T.b_is_track_page .nil pass0 (pa_cons (pv 0) (pa_cons (pv 2) pa_nil))))) pa_nil))))))))
        (pss_one ps_never)
        pss_nil))), def_in0 rfl rf_look_at_tracks vs H Q E h⟩
theorem ok_finds (T : Txt K mg A Z) : FnOk P w K mg base CX0 1 A.f_finds A.fd_finds ps_finds (spF K Z m_finds) :=
  T.F_finds.ok sc_finds spF_len0 fun cdv A1 outer s H vs Q E hr h => ⟨t_finds K Z, by
      exact (pss_one (ps_ret (pe_cmpR op_kIn (pe_ix ix_seq (pv 0) (pe_un un_neg pe_int) (fun _ _ => rfl)) (pe_tup (pa_cons pe_str (pa_cons pe_str pa_nil))) (by rfl)))), def_in0 rfl rf_finds vs H Q E h⟩
theorem ok_leaves (T : Txt K mg A Z) : FnOk P w K mg base CX0 1 A.f_leaves A.fd_leaves ps_leaves (spF K Z m_leaves) :=
  T.F_leaves.ok sc_leaves spF_len0 fun cdv A1 outer s H vs Q E hr h => ⟨t_leaves K Z, by
      exact (pss_one (ps_ret (pe_cmpR op_kIn (pe_ix ix_seq (pv 0) (pe_un un_neg pe_int) (fun _ _ => rfl)) (pe_tup (pa_cons pe_str (pa_cons pe_str pa_nil))) (by rfl)))), def_in0 rfl rf_leaves vs H Q E h⟩
theorem ok_gainsay (T : Txt K mg A Z) : FnOk P w K mg base CX0 1 A.f_gainsay A.fd_gainsay ps_gainsay (spF K Z m_gainsay) :=
  T.F_gainsay.ok sc_gainsay spF_len0 fun cdv A1 outer s H vs Q E hr h => ⟨t_gainsay K Z, by
      exact (pss_cons (ps_if (pt_cmpR (op_kNe hr) (pe_slice sl_k (pv 0) po_none (po_some pe_int)) (pe_slice sl_k (pv 1) po_none (po_some pe_int)) (nomark _))
        (pss_one (ps_ret pe_bl))
        pss_nil)
        (pss_one (ps_ret (pe_or (pe_cmpR (op_kEq hr) (pe_ix ix_seq (pv 0) pe_int (fun _ _ => rfl)) pe_str (nomark _)) (pe_one (pe_cmpR (op_kNe hr) (pe_ix ix_seq (pv 0) pe_int (fun _ _ => rfl)) (pe_ix ix_seq (pv 1) pe_int (fun _ _ => rfl)) (nomark _))))))), def_in0 rfl rf_gainsay vs H Q E h⟩
theorem ok_lie_of_tracks (T : Txt K mg A Z) : FnOk P w K mg base CX0 2 A.f_lie_of_tracks A.fd_lie_of_tracks ps_lie_of_tracks (spF K Z m_lie_of_tracks) :=
  T.F_lie_of_tracks.ok sc_lie_of_tracks spF_len0 fun cdv A1 outer s H vs Q E hr h => ⟨t_lie_of_tracks K Z, by
      exact (pss_cons (ps_for PassesOwn.never rfl (pi_enum (by rfl) T.z_enumerate (pa_cons (pv 0) pa_nil)) (pg_tup rfl (pgs_cons (pg_name (i := 1) sc_lie_of_tracks.nd rfl (Or.inl rfl)) (pgs_cons (pg_name (i := 2) sc_lie_of_tracks.nd rfl (Or.inl rfl)) pgs_nil)))
        (pss_one (ps_for PassesOwn.never rfl (pi_range2 (by rfl) T.z_range (pa_cons (pe_op op_kAdd (pv 1) pe_int) (pa_cons (pe_callB call_kLen (by rfl) T.z_len bt_len (pa_cons (pv 0) pa_nil)) pa_nil))) (pg_name (i := 3) sc_lie_of_tracks.nd rfl (Or.inl rfl))
        (pss_one (ps_if (pt_val (pe_call (ok_gainsay T) hr (by rfl) T.g_gainsay T.F_gainsay.kp T.b_gainsay .nil pass0 (pa_cons (pv 2) (pa_cons (pe_ix ix_seq (pv 0) (pv 3) (fun _ _ => rfl)) pa_nil))))
        (pss_one (ps_ret (pe_tup (pa_cons (pv 1) (pa_cons (pv 3) pa_nil)))))
        pss_nil)))))
        (pss_one (ps_ret pe_non))), def_in0 rfl rf_lie_of_tracks vs H Q E h⟩
theorem ok_look_at_ways (T : Txt K mg A Z) : FnOk P w K mg base CX0 6 A.f_look_at_ways A.fd_look_at_ways ps_look_at_ways (spF K Z m_look_at_ways) :=
  T.F_look_at_ways.ok sc_look_at_ways spF_len0 fun cdv A1 outer s H vs Q E hr h => ⟨t_look_at_ways K Z, by
      exact (pss_cons (ps_expr (pe_call (ok_look_at_tracks T) hr (by rfl) T.g_look_at_tracks T.F_look_at_tracks.kp T.b_look_at_tracks .nil pass0 (pa_cons (pv 0) (pa_cons (pv 1) pa_nil))))
        (pss_cons (ps_set (i := 2) sc_look_at_ways.nd rfl (Or.inl rfl) (pe_call (ok_lie_of_tracks T) (hr.mono (by decide)) (by rfl) T.g_lie_of_tracks T.F_lie_of_tracks.kp T.b_lie_of_tracks .nil pass0 (pa_cons (pv 1) pa_nil)))
        (pss_one (ps_if (pt_cmpR op_kNotN (pv 2) pe_non (nomark _))
        (pss_one ps_never)
        pss_nil)))), def_in0 rfl rf_look_at_ways vs H Q E h⟩
theorem ok_track_of (T : Txt K mg A Z) : FnOk P w K mg base CX0 1 A.f_track_of A.fd_track_of ps_track_of (spF K Z m_track_of) :=
  T.F_track_of.ok sc_track_of spF_len0 fun cdv A1 outer s H vs Q E hr h => ⟨t_track_of K Z, by
      exact (pss_cons (ps_setLc (i := 2) (own := [("place", 6), ("page", 7)]) (g := (gTup K 2 (gCons (gName 6) (gCons (gName 7) gNil)))) (tt := (tTest (tOp (kEq K) (tOp (rIx K) (tVar 7) (tC (.int 1))) (tVar 1)))) rfl sc_track_of.nd rfl rfl (sw_true rfl rfl rfl (by decide +kernel)) (pi_enum (by rfl) T.z_enumerate (pa_cons (pv 0) pa_nil)) (blkOk_by (own := [("place", 6), ("page", 7)]) (N := ns_track_of) (sc := defScope s_track_of) (by decide +kernel)) (fun _ _ _ _ _ => (pg_tup rfl (pgs_cons (pg_name (i := 6) sc_track_of.nd rfl (Or.inl rfl)) (pgs_cons (pg_name (i := 7) sc_track_of.nd rfl (Or.inl rfl)) pgs_nil)))) (fun _ _ _ _ _ => (pts_one (pt_cmpR (op_kEq hr) (pe_ix ix_seq (pv 7) pe_int (fun _ _ => rfl)) (pv 1) (nomark _)))) (fun _ _ _ _ _ => (pe_tup (pa_cons (pe_ix ix_seq (pv 7) pe_int (fun _ _ => rfl)) (pa_cons (pe_callTy call_kInt (by rfl) T.z_int bt_int (pa_cons (pe_cmpR (op_kEq hr) (pe_ix ix_seq (pv 7) pe_int (fun _ _ => rfl)) pe_str (nomark _)) pa_nil)) (pa_cons (pv 6) pa_nil))))))
        (pss_cons (ps_set (i := 3) sc_track_of.nd rfl (Or.inl rfl) (pe_lst pa_nil))
        (pss_cons (ps_for PassesOwn.never rfl (pi_seq (pe_callB cr_sorted3 (by rfl) T.z_sorted bt_sorted (pa_cons (pv 2) pa_nil))) (pg_tup rfl (pgs_cons (pg_name (i := 4) sc_track_of.nd rfl (Or.inl rfl)) (pgs_cons (pg_name (i := 5) sc_track_of.nd rfl (Or.inl rfl)) (pgs_cons (pg_name (i := 6) sc_track_of.nd rfl (Or.inl rfl)) pgs_nil))))
        (pss_one (ps_if (PW.pt (pw_or (pt_cmpR (op_kEq hr) (pv 3) (pe_lst pa_nil) (nomark _)) (pw_or1 (pt_cmpR (op_kNe hr) (pe_ix ix_seq (pv 0) (pe_ix ix_seq (pv 3) (pe_un un_neg pe_int) (fun _ _ => rfl)) (fun _ _ => rfl)) (pe_ix ix_seq (pv 0) (pv 6) (fun _ _ => rfl)) (nomark _)))))
        (pss_one (ps_expr (pe_bm PySem.F.plainAttrs_list PySem.F.slot_list_append PySem.F.type_list_append mt_append (pv 3) (pa_cons (pv 6) pa_nil))))
        pss_nil)))
        (pss_one (ps_ret (pv 3)))))), def_in0 rfl rf_track_of vs H Q E h⟩
theorem ok_shut_hours (T : Txt K mg A Z) : FnOk P w K mg base CX0 3 A.f_shut_hours A.fd_shut_hours ps_shut_hours (spF K Z m_shut_hours) :=
  T.F_shut_hours.ok sc_shut_hours spF_len0 fun cdv A1 outer s H vs Q E hr h => ⟨t_shut_hours K Z, by
      exact (pss_cons (ps_setLc (i := 3) (own := [("hour", 5)]) (g := (gName 5)) (tt := (tTest (tOp (kNe K) (tCall (spF K Z m_shut_at) [] E0 (tCons (tVar 0) (tCons (tVar 5) tNil))) (tLst tNil)))) rfl sc_shut_hours.nd rfl rfl (sw_true rfl rfl rfl (by decide +kernel)) (pi_range2 (by rfl) T.z_range (pa_cons (pv 1) (pa_cons (pe_op op_kAdd (pe_callB (call_kMin2 rfl) (by rfl) T.z_min bt_min (pa_cons (pv 2) (pa_cons (pe_op op_kSub (pe_op op_kAdd (pv 1) (pe_glob (by rfl) T.g_DAY ⟨_, rfl⟩)) pe_int) pa_nil))) pe_int) pa_nil))) (blkOk_by (own := [("hour", 5)]) (N := ns_shut_hours) (sc := defScope s_shut_hours) (by decide +kernel)) (fun _ _ _ _ _ => (pg_name (i := 5) sc_shut_hours.nd rfl (Or.inl rfl))) (fun _ _ _ _ _ => (pts_one (pt_cmpR (op_kNe hr) (pe_call (ok_shut_at T) hr (by rfl) T.g_shut_at T.F_shut_at.kp T.b_shut_at .nil pass0 (pa_cons (pv 0) (pa_cons (pv 5) pa_nil))) (pe_lst pa_nil) (nomark _)))) (fun _ _ _ _ _ => (pv 5)))
        (pss_cons (ps_if (pt_cmpR (op_kEq hr) (pv 3) (pe_lst pa_nil) (nomark _))
        (pss_one (ps_ret (pe_tup (pa_cons pe_non (pa_cons pe_non pa_nil)))))
        pss_nil)
        (pss_cons (ps_setLc (i := 4) (own := [("hour", 5)]) (g := (gName 5)) (tt := (tTest (tOp (kNe K) (tCall (spF K Z m_shut_at) [] E0 (tCons (tVar 0) (tCons (tVar 5) tNil))) (tLst tNil)))) rfl sc_shut_hours.nd rfl rfl (sw_true rfl rfl rfl (by decide +kernel)) (pi_range2 (by rfl) T.z_range (pa_cons (pe_callB (call_kMax2 rfl) (by rfl) T.z_max bt_max (pa_cons (pv 1) (pa_cons (pe_op op_kAdd (pe_op op_kSub (pv 2) (pe_glob (by rfl) T.g_DAY ⟨_, rfl⟩)) pe_int) pa_nil))) (pa_cons (pe_op op_kAdd (pv 2) pe_int) pa_nil))) (blkOk_by (own := [("hour", 5)]) (N := ns_shut_hours) (sc := defScope s_shut_hours) (by decide +kernel)) (fun _ _ _ _ _ => (pg_name (i := 5) sc_shut_hours.nd rfl (Or.inl rfl))) (fun _ _ _ _ _ => (pts_one (pt_cmpR (op_kNe hr) (pe_call (ok_shut_at T) hr (by rfl) T.g_shut_at T.F_shut_at.kp T.b_shut_at .nil pass0 (pa_cons (pv 0) (pa_cons (pv 5) pa_nil))) (pe_lst pa_nil) (nomark _)))) (fun _ _ _ _ _ => (pv 5)))
        (pss_one (ps_ret (pe_tup (pa_cons (pe_ix ix_seq (pv 3) pe_int (fun _ _ => rfl)) (pa_cons (pe_ix ix_seq (pv 4) (pe_un un_neg pe_int) (fun _ _ => rfl)) pa_nil)))))))), def_in0 rfl rf_shut_hours vs H Q E h⟩
theorem ok_gap_between (T : Txt K mg A Z) : FnOk P w K mg base CX0 4 A.f_gap_between A.fd_gap_between ps_gap_between (spF K Z m_gap_between) :=
  T.F_gap_between.ok sc_gap_between spF_len0 fun cdv A1 outer s H vs Q E hr h => ⟨t_gap_between K Z, by
      exact (pss_cons (ps_set (i := 4) sc_gap_between.nd rfl (Or.inl rfl) (pe_op op_kSub (pe_ix ix_seq (pe_ix ix_seq (pv 1) (pv 3) (fun _ _ => rfl)) pe_int (fun _ _ => rfl)) (pe_callTy call_kInt (by rfl) T.z_int bt_int (pa_cons (pe_cmpR (op_kEq hr) (pe_ix ix_seq (pe_ix ix_seq (pv 1) (pv 3) (fun _ _ => rfl)) pe_int (fun _ _ => rfl)) pe_str (nomark _)) pa_nil))))
        (pss_one (ps_ret (pe_call (ok_shut_hours T) hr (by rfl) T.g_shut_hours T.F_shut_hours.kp T.b_shut_hours .nil pass0 (pa_cons (pv 0) (pa_cons (pe_ix ix_seq (pe_ix ix_seq (pv 1) (pv 2) (fun _ _ => rfl)) pe_int (fun _ _ => rfl)) (pa_cons (pv 4) pa_nil))))))), def_in0 rfl rf_gap_between vs H Q E h⟩
theorem ok_gaps_in (T : Txt K mg A Z) : FnOk P w K mg base CX0 5 A.f_gaps_in A.fd_gaps_in ps_gaps_in (spF K Z m_gaps_in) :=
  T.F_gaps_in.ok sc_gaps_in spF_len0 fun cdv A1 outer s H vs Q E hr h => ⟨t_gaps_in K Z, by
      exact (pss_cons (ps_set (i := 2) sc_gaps_in.nd rfl (Or.inl rfl) (pe_lst pa_nil))
        (pss_cons (ps_for PassesOwn.never rfl (pi_seq (pe_sortS rfl (by rfl) T.z_sorted (by rfl) T.z_set bt_set bt_sorted (pe_lc (own := [("page", 7)]) (g := (gName 7)) (tt := tYes) rfl sc_gaps_in.nd (pi_seq (pv 1)) (blkOk_by (own := [("page", 7)]) (N := ns_gaps_in) (sc := defScope s_gaps_in) (by decide +kernel)) (fun _ _ _ _ _ => (pg_name (i := 7) sc_gaps_in.nd rfl (Or.inl rfl))) (fun _ _ _ _ _ => pts_nil) (fun _ _ _ _ _ => (pe_ix ix_seq (pv 7) pe_int (fun _ _ => rfl)))))) (pg_name (i := 3) sc_gaps_in.nd rfl (Or.inl rfl))
        (pss_cons (ps_set (i := 4) sc_gaps_in.nd rfl (Or.inl rfl) (pe_call (ok_track_of T) (hr.mono (by decide)) (by rfl) T.g_track_of T.F_track_of.kp T.b_track_of .nil pass0 (pa_cons (pv 1) (pa_cons (pv 3) pa_nil))))
        (pss_one (ps_for PassesOwn.never rfl (RZ.pi_zipA (by rfl) T.z_zip (pa_cons (pv 4) (pa_cons (pe_slice sl_k (pv 4) (po_some pe_int) po_none) pa_nil))) (pg_tup rfl (pgs_cons (pg_name (i := 5) sc_gaps_in.nd rfl (Or.inl rfl)) (pgs_cons (pg_name (i := 6) sc_gaps_in.nd rfl (Or.inl rfl)) pgs_nil)))
        (pss_one (ps_if (pt_cmpR (op_kNe hr) (pe_call (ok_leaves T) (hr.mono (by decide)) (by rfl) T.g_leaves T.F_leaves.kp T.b_leaves .nil pass0 (pa_cons (pe_ix ix_seq (pv 1) (pv 5) (fun _ _ => rfl)) pa_nil)) (pe_call (ok_finds T) (hr.mono (by decide)) (by rfl) T.g_finds T.F_finds.kp T.b_finds .nil pass0 (pa_cons (pe_ix ix_seq (pv 1) (pv 6) (fun _ _ => rfl)) pa_nil)) (nomark _))
        (pss_one (ps_expr (pe_bm PySem.F.plainAttrs_list PySem.F.slot_list_append PySem.F.type_list_append mt_append (pv 2) (pa_cons (pe_op op_kAdd (pe_tup (pa_cons (pv 3) (pa_cons (pv 5) (pa_cons (pv 6) pa_nil)))) (pe_call (ok_gap_between T) hr (by rfl) T.g_gap_between T.F_gap_between.kp T.b_gap_between .nil pass0 (pa_cons (pv 0) (pa_cons (pv 1) (pa_cons (pv 5) (pa_cons (pv 6) pa_nil)))))) pa_nil))))
        pss_nil))))))
        (pss_one (ps_ret (pv 2))))), def_in0 rfl rf_gaps_in vs H Q E h⟩
theorem ok_gaps (T : Txt K mg A Z) : FnOk P w K mg base CX0 7 A.f_gaps A.fd_gaps ps_gaps (spF K Z m_gaps) :=
  T.F_gaps.ok sc_gaps spF_len0 fun cdv A1 outer s H vs Q E hr h => ⟨t_gaps K Z, by
      exact (pss_cons (ps_expr (pe_call (ok_look_at_ways T) hr (by rfl) T.g_look_at_ways T.F_look_at_ways.kp T.b_look_at_ways .nil pass0 (pa_cons (pv 0) (pa_cons (pv 1) pa_nil))))
        (pss_one (ps_ret (pe_call (ok_gaps_in T) (hr.mono (by decide)) (by rfl) T.g_gaps_in T.F_gaps_in.kp T.b_gaps_in .nil pass0 (pa_cons (pv 0) (pa_cons (pv 1) pa_nil)))))), def_in0 rfl rf_gaps vs H Q E h⟩
theorem ok__law_well (T : Txt K mg A Z) : FnOk P w K mg base CX0 1 A.f__law_well A.fd__law_well ps__law_well (spF K Z m__law_well) :=
  T.F__law_well.ok sc__law_well spF_len0 fun cdv A1 outer s H vs Q E hr h => ⟨t__law_well K Z, by
      exact (pss_cons (ps_if (pt_cmpR op_kGe (pv 0) (pe_op op_kPow pe_int pe_int) (nomark _))
        (pss_one (ps_ret (pe_lst (pa_cons (pe_op op_kSub (pv 0) (pe_op op_kPow pe_int pe_int)) (pa_cons (pe_op op_kMod (pv 0) pe_int) (pa_cons (pv 1) pa_nil))))))
        pss_nil)
        (pss_one (ps_ret (pe_lst (pa_cons pe_int (pa_cons (pe_op op_kMod (pv 0) pe_int) (pa_cons (pv 1) pa_nil))))))), def_in0 rfl rf__law_well vs H Q E h⟩
theorem ok__law_take (T : Txt K mg A Z) : FnOk P w K mg base CX0 1 A.f__law_take A.fd__law_take ps__law_take (spF K Z m__law_take) :=
  T.F__law_take.ok sc__law_take spF_len0 fun cdv A1 outer s H vs Q E hr h => ⟨t__law_take K Z, by
      exact (pss_cons (ps_if (pt_cmpR op_kGt (pe_ix ix_seq (pv 0) pe_int (fun _ _ => rfl)) pe_int (nomark _))
        (pss_cons (ps_set (i := 2) sc__law_take.nd rfl (Or.inl rfl) (pe_op op_kMod (pe_ix ix_seq (pv 0) pe_int (fun _ _ => rfl)) (pv 1)))
        (pss_cons (ps_asg (pe_op op_kDiv (pe_ix ix_seq (pv 0) pe_int (fun _ _ => rfl)) (pv 1)) (pg_sub (pv 0) pe_int set_list))
        (pss_one (ps_ret (pv 2)))))
        pss_nil)
        (pss_cons (ps_asg (pe_op op_kAdd (pe_ix ix_seq (pv 0) pe_int (fun _ _ => rfl)) pe_int) (pg_sub (pv 0) pe_int set_list))
        (pss_cons (ps_set (i := 3) sc__law_take.nd rfl (Or.inl rfl) pe_int)
        (pss_cons (ps_set (i := 4) sc__law_take.nd rfl (Or.inl rfl) (pe_op op_kMod (pe_op op_kAdd (pe_ix ix_seq (pv 0) pe_int (fun _ _ => rfl)) (pe_op op_kMul pe_int (pe_ix ix_seq (pv 0) pe_int (fun _ _ => rfl)))) (pv 3)))
        (pss_cons (ps_set (i := 4) sc__law_take.nd rfl (Or.inl rfl) (pe_op op_kMod (pe_op op_kAdd (pe_op op_kAdd (pe_op op_kMul (pv 4) (pv 4)) (pe_op op_kMul pe_int (pe_op op_kPow (pe_ix ix_seq (pv 0) pe_int (fun _ _ => rfl)) pe_int))) pe_int) (pv 3)))
        (pss_one (ps_ret (pe_op op_kMod (pe_op op_kDiv (pe_op op_kMod (pe_op op_kPow (pv 4) pe_int) (pv 3)) pe_int) (pv 1))))))))), def_in0 rfl rf__law_take vs H Q E h⟩
theorem ok__law_shuffled (T : Txt K mg A Z) : FnOk P w K mg base CX0 2 A.f__law_shuffled A.fd__law_shuffled ps__law_shuffled (spF K Z m__law_shuffled) :=
  T.F__law_shuffled.ok sc__law_shuffled spF_len0 fun cdv A1 outer s H vs Q E hr h => ⟨t__law_shuffled K Z, by
      exact (pss_cons (ps_set (i := 2) sc__law_shuffled.nd rfl (Or.inl rfl) (pe_callTy call_kList (by rfl) T.z_list bt_list (pa_cons (pv 1) pa_nil)))
        (pss_cons (ps_set (i := 3) sc__law_shuffled.nd rfl (Or.inl rfl) (pe_lst pa_nil))
        (pss_cons (ps_while PassesOwn.never (pt_cmpR (op_kNe hr) (pv 2) (pe_lst pa_nil) (nomark _))
        (pss_one (ps_expr (pe_bm PySem.F.plainAttrs_list PySem.F.slot_list_append PySem.F.type_list_append mt_append (pv 3) (pa_cons (pe_bm PySem.F.plainAttrs_list PySem.F.slot_list_pop PySem.F.type_list_pop mt_popAt (pv 2) (pa_cons (pe_call (ok__law_take T) hr (by rfl) T.g__law_take T.F__law_take.kp T.b__law_take .nil pass0 (pa_cons (pv 0) (pa_cons (pe_callB call_kLen (by rfl) T.z_len bt_len (pa_cons (pv 2) pa_nil)) pa_nil))) pa_nil)) pa_nil)))))
        (pss_one (ps_ret (pv 3)))))), def_in0 rfl rf__law_shuffled vs H Q E h⟩
theorem ok__law_name (T : Txt K mg A Z) : FnOk P w K mg base CX0 2 A.f__law_name A.fd__law_name ps__law_name (spF K Z m__law_name) :=
  T.F__law_name.ok sc__law_name spF_len0 fun cdv A1 outer s H vs Q E hr h => ⟨t__law_name K Z, by
      exact (pss_cons (ps_set (i := 1) sc__law_name.nd rfl (Or.inl rfl) (pe_call (ok__law_take T) hr (by rfl) T.g__law_take T.F__law_take.kp T.b__law_take .nil pass0 (pa_cons (pv 0) (pa_cons pe_int pa_nil))))
        (pss_cons (ps_if (pt_cmpR (op_kLt hr) (pv 1) pe_int (nomark _))
        (pss_one (ps_ret (pe_ix ix_seq (pe_lst (pa_cons pe_str (pa_cons pe_str (pa_cons pe_str (pa_cons pe_str (pa_cons pe_str (pa_cons pe_str (pa_cons pe_str pa_nil)))))))) (pv 1) (fun _ _ => rfl))))
        pss_nil)
        (pss_cons (ps_set (i := 2) sc__law_name.nd rfl (Or.inr rfl) pe_str)
        (pss_cons (ps_set (i := 3) sc__law_name.nd rfl (Or.inl rfl) (pe_ix ix_seq (pe_lst (pa_cons pe_int (pa_cons pe_int (pa_cons pe_int pa_nil)))) (pe_call (ok__law_take T) hr (by rfl) T.g__law_take T.F__law_take.kp T.b__law_take .nil pass0 (pa_cons (pv 0) (pa_cons pe_int pa_nil))) (fun _ _ => rfl)))
        (pss_one (ps_ret (pe_join pe_str (pe_lc (own := [("k", 4)]) (g := (gName 4)) (tt := tYes) rfl sc__law_name.nd (pi_range1 (by rfl) T.z_range (pa_cons (pv 3) pa_nil)) (blkOk_by (own := [("k", 4)]) (N := ns__law_name) (sc := defScope s__law_name) (by decide +kernel)) (fun _ _ _ _ _ => (pg_name (i := 4) sc__law_name.nd rfl (Or.inl rfl))) (fun _ _ _ _ _ => pts_nil) (fun _ _ _ _ _ => (pe_ix ix_seq (pv 2) (pe_call (ok__law_take T) hr (by rfl) T.g__law_take T.F__law_take.kp T.b__law_take .nil pass0 (pa_cons (pv 0) (pa_cons pe_int pa_nil))) (fun _ _ => rfl))))))))))), def_in0 rfl rf__law_name vs H Q E h⟩
theorem ok__law_rising (T : Txt K mg A Z) : FnOk P w K mg base CX0 3 A.f__law_rising A.fd__law_rising ps__law_rising (spF K Z m__law_rising) :=
  T.F__law_rising.ok sc__law_rising spF_len0 fun cdv A1 outer s H vs Q E hr h => ⟨t__law_rising K Z, by
      exact (pss_cons (ps_set (i := 2) sc__law_rising.nd rfl (Or.inl rfl) pe_dnewK)
        (pss_cons (ps_for PassesOwn.never rfl (pi_range1 (by rfl) T.z_range (pa_cons (pe_op op_kAdd pe_int (pe_call (ok__law_take T) (hr.mono (by decide)) (by rfl) T.g__law_take T.F__law_take.kp T.b__law_take .nil pass0 (pa_cons (pv 0) (pa_cons (pv 1) pa_nil)))) pa_nil)) (pg_name (i := 3) sc__law_rising.nd rfl (Or.inl rfl))
        (pss_one (ps_dput (hu_of hr) (pv 2) (pe_call (ok__law_name T) hr (by rfl) T.g__law_name T.F__law_name.kp T.b__law_name .nil pass0 (pa_cons (pv 0) pa_nil)) pe_bl rfl)))
        (pss_one (ps_ret (pe_callB (call_kSorted rfl) (by rfl) T.z_sorted bt_sorted (pa_cons (pv 2) pa_nil)))))), def_in0 rfl rf__law_rising vs H Q E h⟩
theorem ok__law_town (T : Txt K mg A Z) : FnOk P w K mg base CX0 4 A.f__law_town A.fd__law_town ps__law_town (spF K Z m__law_town) :=
  T.F__law_town.ok sc__law_town spF_len0 fun cdv A1 outer s H vs Q E hr h => ⟨t__law_town K Z, by
      exact (pss_cons (ps_set (i := 2) sc__law_town.nd rfl (Or.inl rfl) (pe_lst pa_nil))
        (pss_cons (ps_for PassesOwn.never rfl (pi_seq (pe_call (ok__law_rising T) hr (by rfl) T.g__law_rising T.F__law_rising.kp T.b__law_rising .nil pass0 (pa_cons (pv 0) (pa_cons (pv 1) pa_nil)))) (pg_name (i := 3) sc__law_town.nd rfl (Or.inl rfl))
        (pss_cons (ps_set (i := 4) sc__law_town.nd rfl (Or.inl rfl) (pe_call (ok__law_take T) (hr.mono (by decide)) (by rfl) T.g__law_take T.F__law_take.kp T.b__law_take .nil pass0 (pa_cons (pv 0) (pa_cons pe_int pa_nil))))
        (pss_cons (ps_set (i := 5) sc__law_town.nd rfl (Or.inl rfl) (pe_ix ix_seq (pe_lst (pa_cons (pe_call (ok__law_take T) (hr.mono (by decide)) (by rfl) T.g__law_take T.F__law_take.kp T.b__law_take .nil pass0 (pa_cons (pv 0) (pa_cons pe_int pa_nil))) (pa_cons pe_int (pa_cons pe_int (pa_cons pe_int pa_nil))))) (pe_op op_kDiv (pe_op op_kMul (pe_op op_kDiv (pe_op op_kMul (pe_call (ok__law_take T) (hr.mono (by decide)) (by rfl) T.g__law_take T.F__law_take.kp T.b__law_take .nil pass0 (pa_cons (pv 0) (pa_cons pe_int pa_nil))) pe_int) pe_int) pe_int) pe_int) (fun _ _ => rfl)))
        (pss_one (ps_expr (pe_bm PySem.F.plainAttrs_list PySem.F.slot_list_append PySem.F.type_list_append mt_append (pv 2) (pa_cons (pe_tup (pa_cons (pv 3) (pa_cons (pv 4) (pa_cons (pe_op op_kMod (pe_op op_kAdd (pv 4) (pv 5)) pe_int) (pa_cons (pe_cmpR (op_kEq hr) (pe_call (ok__law_take T) (hr.mono (by decide)) (by rfl) T.g__law_take T.F__law_take.kp T.b__law_take .nil pass0 (pa_cons (pv 0) (pa_cons pe_int pa_nil))) pe_int (nomark _)) pa_nil))))) pa_nil)))))))
        (pss_one (ps_ret (pe_callTy call_kTuple (by rfl) T.z_tuple bt_tuple (pa_cons (pv 2) pa_nil)))))), def_in0 rfl rf__law_town vs H Q E h⟩
theorem ok__law_clocks (T : Txt K mg A Z) : FnOk P w K mg base CX0 1 A.f__law_clocks A.fd__law_clocks ps__law_clocks (spF K Z m__law_clocks) :=
  T.F__law_clocks.ok sc__law_clocks spF_len0 fun cdv A1 outer s H vs Q E hr h => ⟨t__law_clocks K Z, by
      exact (pss_cons (ps_set (i := 1) sc__law_clocks.nd rfl (Or.inl rfl) (pe_lst (pa_cons (pe_ix ix_seq (pv 0) pe_int (fun _ _ => rfl)) pa_nil)))
        (pss_cons (ps_for PassesOwn.never rfl (pi_range1 (by rfl) T.z_range (pa_cons pe_int pa_nil)) (pg_name (i := 2) sc__law_clocks.nd rfl (Or.inl rfl))
        (pss_cons (ps_set (i := 3) sc__law_clocks.nd rfl (Or.inl rfl) (pe_op op_kMod (pe_op op_kAdd (pe_op op_kAdd (pe_ix ix_seq (pv 0) pe_int (fun _ _ => rfl)) (pv 2)) pe_int) pe_int))
        (pss_cons (ps_if (pt_cmpR (op_kEq hr) (pv 3) (pe_ix ix_seq (pv 0) pe_int (fun _ _ => rfl)) (nomark _))
        (pss_one (ps_ret (pv 1)))
        pss_nil)
        (pss_one (ps_expr (pe_bm PySem.F.plainAttrs_list PySem.F.slot_list_append PySem.F.type_list_append mt_append (pv 1) (pa_cons (pv 3) pa_nil)))))))
        (pss_one (ps_ret (pv 1))))), def_in0 rfl rf__law_clocks vs H Q E h⟩
theorem ok__law_is_open (T : Txt K mg A Z) : FnOk P w K mg base CX0 2 A.f__law_is_open A.fd__law_is_open ps__law_is_open (spF K Z m__law_is_open) :=
  T.F__law_is_open.ok sc__law_is_open spF_len0 fun cdv A1 outer s H vs Q E hr h => ⟨t__law_is_open K Z, by
      exact (pss_one (ps_ret (pe_cmpR op_kIn (pe_op op_kMod (pv 1) pe_int) (pe_call (ok__law_clocks T) hr (by rfl) T.g__law_clocks T.F__law_clocks.kp T.b__law_clocks .nil pass0 (pa_cons (pv 0) pa_nil)) (by rfl)))), def_in0 rfl rf__law_is_open vs H Q E h⟩
theorem ok__law_far (T : Txt K mg A Z) : FnOk P w K mg base CX0 2 A.f__law_far A.fd__law_far ps__law_far (spF K Z m__law_far) :=
  T.F__law_far.ok sc__law_far spF_len0 fun cdv A1 outer s H vs Q E hr h => ⟨t__law_far K Z, by
      exact (pss_cons (ps_set (i := 1) sc__law_far.nd rfl (Or.inl rfl) (pe_call (ok__law_take T) hr (by rfl) T.g__law_take T.F__law_take.kp T.b__law_take .nil pass0 (pa_cons (pv 0) (pa_cons pe_int pa_nil))))
        (pss_one (ps_ret (pe_ix ix_seq (pe_lst (pa_cons (pv 1) (pa_cons (pe_op op_kSub (pe_op op_kPow pe_int pe_int) (pv 1)) (pa_cons (pe_call (ok__law_take T) hr (by rfl) T.g__law_take T.F__law_take.kp T.b__law_take .nil pass0 (pa_cons (pv 0) (pa_cons (pe_op op_kAdd (pe_op op_kPow pe_int pe_int) pe_int) pa_nil))) pa_nil)))) (pe_call (ok__law_take T) hr (by rfl) T.g__law_take T.F__law_take.kp T.b__law_take .nil pass0 (pa_cons (pv 0) (pa_cons pe_int pa_nil))) (fun _ _ => rfl))))), def_in0 rfl rf__law_far vs H Q E h⟩
theorem ok__law_track_page (T : Txt K mg A Z) : FnOk P w K mg base CX0 3 A.f__law_track_page A.fd__law_track_page ps__law_track_page (spF K Z m__law_track_page) :=
  T.F__law_track_page.ok sc__law_track_page spF_len0 fun cdv A1 outer s H vs Q E hr h => ⟨t__law_track_page K Z, by
      exact (pss_cons (ps_set (i := 2) sc__law_track_page.nd rfl (Or.inl rfl) (pe_ix ix_seq (pe_lst (pa_cons (pe_call (ok__law_take T) (hr.mono (by decide)) (by rfl) T.g__law_take T.F__law_take.kp T.b__law_take .nil pass0 (pa_cons (pv 0) (pa_cons pe_int pa_nil))) (pa_cons (pe_call (ok__law_far T) hr (by rfl) T.g__law_far T.F__law_far.kp T.b__law_far .nil pass0 (pa_cons (pv 0) pa_nil)) pa_nil))) (pe_op op_kDiv (pe_call (ok__law_take T) (hr.mono (by decide)) (by rfl) T.g__law_take T.F__law_take.kp T.b__law_take .nil pass0 (pa_cons (pv 0) (pa_cons pe_int pa_nil))) pe_int) (fun _ _ => rfl)))
        (pss_cons (ps_set (i := 3) sc__law_track_page.nd rfl (Or.inl rfl) (pe_ix ix_seq (pe_lst (pa_cons pe_str (pa_cons pe_str (pa_cons pe_str pa_nil)))) (pe_call (ok__law_take T) (hr.mono (by decide)) (by rfl) T.g__law_take T.F__law_take.kp T.b__law_take .nil pass0 (pa_cons (pv 0) (pa_cons pe_int pa_nil))) (fun _ _ => rfl)))
        (pss_cons (ps_if (pt_cmpR (op_kEq hr) (pe_call (ok__law_take T) (hr.mono (by decide)) (by rfl) T.g__law_take T.F__law_take.kp T.b__law_take .nil pass0 (pa_cons (pv 0) (pa_cons pe_int pa_nil))) pe_int (nomark _))
        (pss_one (ps_ret (pe_tup (pa_cons pe_str (pa_cons (pv 3) (pa_cons (pv 2) (pa_cons (pe_ix ix_seq (pe_lst (pa_cons pe_str (pa_cons pe_str pa_nil))) (pe_call (ok__law_take T) (hr.mono (by decide)) (by rfl) T.g__law_take T.F__law_take.kp T.b__law_take .nil pass0 (pa_cons (pv 0) (pa_cons pe_int pa_nil))) (fun _ _ => rfl)) pa_nil)))))))
        pss_nil)
        (pss_one (ps_ret (pe_tup (pa_cons pe_str (pa_cons (pv 3) (pa_cons (pv 2) (pa_cons (pe_ix ix_seq (pe_ix ix_seq (pv 1) (pe_call (ok__law_take T) (hr.mono (by decide)) (by rfl) T.g__law_take T.F__law_take.kp T.b__law_take .nil pass0 (pa_cons (pv 0) (pa_cons (pe_callB call_kLen (by rfl) T.z_len bt_len (pa_cons (pv 1) pa_nil)) pa_nil))) (fun _ _ => rfl)) pe_int (fun _ _ => rfl)) (pa_cons (pe_ix ix_seq (pe_lst (pa_cons pe_str (pa_cons pe_str pa_nil))) (pe_call (ok__law_take T) (hr.mono (by decide)) (by rfl) T.g__law_take T.F__law_take.kp T.b__law_take .nil pass0 (pa_cons (pv 0) (pa_cons pe_int pa_nil))) (fun _ _ => rfl)) pa_nil))))))))))), def_in0 rfl rf__law_track_page vs H Q E h⟩
theorem ok__law_tracks_lie (T : Txt K mg A Z) : FnOk P w K mg base CX0 1 A.f__law_tracks_lie A.fd__law_tracks_lie ps__law_tracks_lie (spF K Z m__law_tracks_lie) :=
  T.F__law_tracks_lie.ok sc__law_tracks_lie spF_len0 fun cdv A1 outer s H vs Q E hr h => ⟨t__law_tracks_lie K Z, by
      exact (pss_cons (ps_set (i := 1) sc__law_tracks_lie.nd rfl (Or.inl rfl) (pe_lst pa_nil))
        (pss_cons (ps_for PassesOwn.never rfl (pi_range1 (by rfl) T.z_range (pa_cons (pe_callB call_kLen (by rfl) T.z_len bt_len (pa_cons (pv 0) pa_nil)) pa_nil)) (pg_name (i := 2) sc__law_tracks_lie.nd rfl (Or.inl rfl))
        (pss_one (ps_for PassesOwn.never rfl (pi_range1 (by rfl) T.z_range (pa_cons (pv 2) pa_nil)) (pg_name (i := 3) sc__law_tracks_lie.nd rfl (Or.inl rfl))
        (pss_cons (ps_par rfl sc__law_tracks_lie.nd rfl rfl (by decide) rfl rfl (pa_cons (pe_ix ix_seq (pv 0) (pv 3) (fun _ _ => rfl)) (pa_cons (pe_ix ix_seq (pv 0) (pv 2) (fun _ _ => rfl)) pa_nil)) (by rfl))
        (pss_one (ps_if (PW.pt (pw_and (pt_cmpR (op_kEq hr) (pe_slice sl_k (pv 4) po_none (po_some pe_int)) (pe_slice sl_k (pv 5) po_none (po_some pe_int)) (nomark _)) (pw_and1 (PW.pt (pw_or (pt_cmpR (op_kEq hr) (pe_ix ix_seq (pv 4) pe_int (fun _ _ => rfl)) pe_str (nomark _)) (pw_or1 (pt_cmpR (op_kNe hr) (pv 4) (pv 5) (nomark _))))))))
        (pss_one (ps_expr (pe_bm PySem.F.plainAttrs_list PySem.F.slot_list_append PySem.F.type_list_append mt_append (pv 1) (pa_cons (pe_tup (pa_cons (pv 3) (pa_cons (pv 2) pa_nil))) pa_nil))))
        pss_nil))))))
        (pss_one (ps_ret (pe_callBK (cr_mnD rfl (hu_of hr)) (by rfl) T.z_min bt_min (pa_cons (pv 1) pa_nil) (pk_cons pe_non pk_nil)))))), def_in0 rfl rf__law_tracks_lie vs H Q E h⟩
theorem ok__law_tracks (T : Txt K mg A Z) : FnOk P w K mg base CX0 4 A.f__law_tracks A.fd__law_tracks ps__law_tracks (spF K Z m__law_tracks) :=
  T.F__law_tracks.ok sc__law_tracks spF_len0 fun cdv A1 outer s H vs Q E hr h => ⟨t__law_tracks K Z, by
      exact (pss_cons (ps_set (i := 3) sc__law_tracks.nd rfl (Or.inl rfl) (pe_lst pa_nil))
        (pss_cons (ps_for PassesOwn.never rfl (pi_range1 (by rfl) T.z_range (pa_cons (pe_call (ok__law_take T) (hr.mono (by decide)) (by rfl) T.g__law_take T.F__law_take.kp T.b__law_take .nil pass0 (pa_cons (pv 0) (pa_cons (pe_op op_kAdd (pv 2) pe_int) pa_nil))) pa_nil)) (pg_name (i := 4) sc__law_tracks.nd rfl (Or.inl rfl))
        (pss_cons (ps_set (i := 5) sc__law_tracks.nd rfl (Or.inl rfl) (pe_call (ok__law_track_page T) hr (by rfl) T.g__law_track_page T.F__law_track_page.kp T.b__law_track_page .nil pass0 (pa_cons (pv 0) (pa_cons (pv 1) pa_nil))))
        (pss_one (ps_if (pt_cmpR op_kIsN (pe_call (ok__law_tracks_lie T) (hr.mono (by decide)) (by rfl) T.g__law_tracks_lie T.F__law_tracks_lie.kp T.b__law_tracks_lie .nil pass0 (pa_cons (pe_op op_kAdd (pv 3) (pe_lst (pa_cons (pv 5) pa_nil))) pa_nil)) pe_non (nomark _))
        (pss_one (ps_expr (pe_bm PySem.F.plainAttrs_list PySem.F.slot_list_append PySem.F.type_list_append mt_append (pv 3) (pa_cons (pv 5) pa_nil))))
        pss_nil))))
        (pss_one (ps_ret (pv 3))))), def_in0 rfl rf__law_tracks vs H Q E h⟩
theorem ok__law_track (T : Txt K mg A Z) : FnOk P w K mg base CX0 1 A.f__law_track A.fd__law_track ps__law_track (spF K Z m__law_track) :=
  T.F__law_track.ok sc__law_track spF_len0 fun cdv A1 outer s H vs Q E hr h => ⟨t__law_track K Z, by
      exact (pss_cons (ps_set (i := 2) sc__law_track.nd rfl (Or.inl rfl) (pe_callB cr_sorted3 (by rfl) T.z_sorted bt_sorted (pa_cons (pe_lc (own := [("k", 3), ("page", 4)]) (g := (gTup K 2 (gCons (gName 3) (gCons (gName 4) gNil)))) (tt := (tTest (tOp (kEq K) (tOp (rIx K) (tVar 4) (tC (.int 1))) (tVar 1)))) rfl sc__law_track.nd (pi_enum (by rfl) T.z_enumerate (pa_cons (pv 0) pa_nil)) (blkOk_by (own := [("k", 3), ("page", 4)]) (N := ns__law_track) (sc := defScope s__law_track) (by decide +kernel)) (fun _ _ _ _ _ => (pg_tup rfl (pgs_cons (pg_name (i := 3) sc__law_track.nd rfl (Or.inl rfl)) (pgs_cons (pg_name (i := 4) sc__law_track.nd rfl (Or.inl rfl)) pgs_nil)))) (fun _ _ _ _ _ => (pts_one (pt_cmpR (op_kEq hr) (pe_ix ix_seq (pv 4) pe_int (fun _ _ => rfl)) (pv 1) (nomark _)))) (fun _ _ _ _ _ => (pe_tup (pa_cons (pe_ix ix_seq (pv 4) pe_int (fun _ _ => rfl)) (pa_cons (pe_cmpR (op_kEq hr) (pe_ix ix_seq (pv 4) pe_int (fun _ _ => rfl)) pe_str (nomark _)) (pa_cons (pv 3) pa_nil)))))) pa_nil)))
        (pss_one (ps_ret (pe_lc (own := [("row", 5)]) (g := (gName 5)) (tt := (tTest (tOp (kEq K) (tLc (iRng1 (tCons (tOp (rIx K) (tVar 5) (tC (.int 2))) tNil)) (gName 3) (tTest (tOp (kEq K) (tOp (rIx K) (tVar 0) (tVar 3)) (tOp (rIx K) (tVar 0) (tOp (rIx K) (tVar 5) (tC (.int 2)))))) (tVar 3) [3]) (tLst tNil)))) rfl sc__law_track.nd (pi_seq (pv 2)) (blkOk_by (own := [("row", 5)]) (N := ns__law_track) (sc := defScope s__law_track) (by decide +kernel)) (fun _ _ _ _ _ => (pg_name (i := 5) sc__law_track.nd rfl (Or.inr rfl))) (fun _ _ _ _ _ => (pts_one (pt_cmpR (op_kEq hr) (pe_lc (own := [("k", 3)]) (g := (gName 3)) (tt := (tTest (tOp (kEq K) (tOp (rIx K) (tVar 0) (tVar 3)) (tOp (rIx K) (tVar 0) (tOp (rIx K) (tVar 5) (tC (.int 2))))))) rfl sc__law_track.nd (pi_range1 (by rfl) T.z_range (pa_cons (pe_ix ix_seq (pv 5) pe_int (fun _ _ => rfl)) pa_nil)) (blkOk_by (own := [("k", 3)]) (N := ns__law_track) (sc := ({ kind := PySem.ScopeKind.function, names := [ (PySem.Str.ofString ".0", PySem.NameKind.local), (PySem.Str.ofString "row", PySem.NameKind.cell), (PySem.Str.ofString "range", PySem.NameKind.globalImplicit), (PySem.Str.ofString "pages", PySem.NameKind.cell)], isGenerator := false, isCoroutine := false, more := [] : PySem.Scope })) (by decide +kernel)) (fun _ _ _ _ _ => (pg_name (i := 3) sc__law_track.nd rfl (Or.inl rfl))) (fun _ _ _ _ _ => (pts_one (pt_cmpR (op_kEq hr) (pe_ix ix_seq (pv 0) (pv 3) (fun _ _ => rfl)) (pe_ix ix_seq (pv 0) (pe_ix ix_seq (pv 5) pe_int (fun _ _ => rfl)) (fun _ _ => rfl)) (nomark _)))) (fun _ _ _ _ _ => (pv 3))) (pe_lst pa_nil) (nomark _)))) (fun _ _ _ _ _ => (pe_ix ix_seq (pv 5) pe_int (fun _ _ => rfl))))))), def_in0 rfl rf__law_track vs H Q E h⟩
theorem ok__law_found_in (T : Txt K mg A Z) : FnOk P w K mg base CX0 1 A.f__law_found_in A.fd__law_found_in ps__law_found_in (spF K Z m__law_found_in) :=
  T.F__law_found_in.ok sc__law_found_in spF_len0 fun cdv A1 outer s H vs Q E hr h => ⟨t__law_found_in K Z, by
      exact (pss_one (ps_ret (pe_or (pe_cmpR (op_kEq hr) (pe_ix ix_seq (pv 0) (pe_un un_neg pe_int) (fun _ _ => rfl)) pe_str (nomark _)) (pe_one (pe_cmpR (op_kEq hr) (pe_ix ix_seq (pv 0) (pe_un un_neg pe_int) (fun _ _ => rfl)) pe_str (nomark _)))))), def_in0 rfl rf__law_found_in vs H Q E h⟩
theorem ok__law_left_in (T : Txt K mg A Z) : FnOk P w K mg base CX0 1 A.f__law_left_in A.fd__law_left_in ps__law_left_in (spF K Z m__law_left_in) :=
  T.F__law_left_in.ok sc__law_left_in spF_len0 fun cdv A1 outer s H vs Q E hr h => ⟨t__law_left_in K Z, by
      exact (pss_one (ps_ret (pe_or (pe_cmpR (op_kEq hr) (pe_ix ix_seq (pv 0) (pe_un un_neg pe_int) (fun _ _ => rfl)) pe_str (nomark _)) (pe_one (pe_cmpR (op_kEq hr) (pe_ix ix_seq (pv 0) (pe_un un_neg pe_int) (fun _ _ => rfl)) pe_str (nomark _)))))), def_in0 rfl rf__law_left_in vs H Q E h⟩
theorem ok__law_shut (T : Txt K mg A Z) : FnOk P w K mg base CX0 3 A.f__law_shut A.fd__law_shut ps__law_shut (spF K Z m__law_shut) :=
  T.F__law_shut.ok sc__law_shut spF_len0 fun cdv A1 outer s H vs Q E hr h => ⟨t__law_shut K Z, by
      exact (pss_one (ps_ret (pe_lc (own := [("gate", 2)]) (g := (gName 2)) (tt := (tNot (tB (tCall (spF K Z m__law_is_open) [] E0 (tCons (tVar 2) (tCons (tVar 1) tNil)))))) rfl sc__law_shut.nd (pi_seq (pv 0)) (blkOk_by (own := [("gate", 2)]) (N := ns__law_shut) (sc := defScope s__law_shut) (by decide +kernel)) (fun _ _ _ _ _ => (pg_name (i := 2) sc__law_shut.nd rfl (Or.inl rfl))) (fun _ _ _ _ _ => (pts_one (pt_not (pt_val (pe_call (ok__law_is_open T) hr (by rfl) T.g__law_is_open T.F__law_is_open.kp T.b__law_is_open .nil pass0 (pa_cons (pv 2) (pa_cons (pv 1) pa_nil))))))) (fun _ _ _ _ _ => (pe_ix ix_seq (pv 2) pe_int (fun _ _ => rfl)))))), def_in0 rfl rf__law_shut vs H Q E h⟩
theorem ok__law_edges (T : Txt K mg A Z) : FnOk P w K mg base CX0 4 A.f__law_edges A.fd__law_edges ps__law_edges (spF K Z m__law_edges) :=
  T.F__law_edges.ok sc__law_edges spF_len0 fun cdv A1 outer s H vs Q E hr h => ⟨t__law_edges K Z, by
      exact (pss_cons (ps_par rfl sc__law_edges.nd rfl rfl (by decide) rfl rfl (pa_cons (pv 1) (pa_cons (pv 2) pa_nil)) (by rfl))
        (pss_cons (ps_while PassesOwn.never (PW.pt (pw_and (pt_cmpR op_kLe (pv 3) (pv 2) (nomark _)) (pw_and (pt_cmpR (op_kLt hr) (pv 3) (pe_op op_kAdd (pv 1) pe_int) (nomark _)) (pw_and1 (pt_cmpR (op_kEq hr) (pe_call (ok__law_shut T) hr (by rfl) T.g__law_shut T.F__law_shut.kp T.b__law_shut .nil pass0 (pa_cons (pv 0) (pa_cons (pv 3) pa_nil))) (pe_lst pa_nil) (nomark _))))))
        (pss_one (ps_set (i := 3) sc__law_edges.nd rfl (Or.inl rfl) (pe_op op_kAdd (pv 3) pe_int))))
        (pss_cons (ps_while PassesOwn.never (PW.pt (pw_and (pt_cmpR op_kGe (pv 4) (pv 1) (nomark _)) (pw_and (pt_cmpR op_kGt (pv 4) (pe_op op_kSub (pv 2) pe_int) (nomark _)) (pw_and1 (pt_cmpR (op_kEq hr) (pe_call (ok__law_shut T) hr (by rfl) T.g__law_shut T.F__law_shut.kp T.b__law_shut .nil pass0 (pa_cons (pv 0) (pa_cons (pv 4) pa_nil))) (pe_lst pa_nil) (nomark _))))))
        (pss_one (ps_set (i := 4) sc__law_edges.nd rfl (Or.inl rfl) (pe_op op_kSub (pv 4) pe_int))))
        (pss_cons (ps_if (PW.pt (pw_or (pt_cmpR op_kGt (pv 3) (pv 2) (nomark _)) (pw_or1 (pt_cmpR (op_kEq hr) (pe_call (ok__law_shut T) hr (by rfl) T.g__law_shut T.F__law_shut.kp T.b__law_shut .nil pass0 (pa_cons (pv 0) (pa_cons (pv 3) pa_nil))) (pe_lst pa_nil) (nomark _)))))
        (pss_one (ps_ret (pe_tup (pa_cons pe_non (pa_cons pe_non pa_nil)))))
        pss_nil)
        (pss_one (ps_ret (pe_tup (pa_cons (pv 3) (pa_cons (pv 4) pa_nil))))))))), def_in0 rfl rf__law_edges vs H Q E h⟩
theorem ok__law_gaps (T : Txt K mg A Z) : FnOk P w K mg base CX0 5 A.f__law_gaps A.fd__law_gaps ps__law_gaps (spF K Z m__law_gaps) :=
  T.F__law_gaps.ok sc__law_gaps spF_len0 fun cdv A1 outer s H vs Q E hr h => ⟨t__law_gaps K Z, by
      exact (pss_cons (ps_set (i := 2) sc__law_gaps.nd rfl (Or.inl rfl) (pe_lst pa_nil))
        (pss_cons (ps_for PassesOwn.never rfl (pi_seq (pe_sortS rfl (by rfl) T.z_sorted (by rfl) T.z_set bt_set bt_sorted (pe_lc (own := [("page", 8)]) (g := (gName 8)) (tt := tYes) rfl sc__law_gaps.nd (pi_seq (pv 1)) (blkOk_by (own := [("page", 8)]) (N := ns__law_gaps) (sc := defScope s__law_gaps) (by decide +kernel)) (fun _ _ _ _ _ => (pg_name (i := 8) sc__law_gaps.nd rfl (Or.inl rfl))) (fun _ _ _ _ _ => pts_nil) (fun _ _ _ _ _ => (pe_ix ix_seq (pv 8) pe_int (fun _ _ => rfl)))))) (pg_name (i := 3) sc__law_gaps.nd rfl (Or.inl rfl))
        (pss_cons (ps_set (i := 4) sc__law_gaps.nd rfl (Or.inl rfl) (pe_call (ok__law_track T) (hr.mono (by decide)) (by rfl) T.g__law_track T.F__law_track.kp T.b__law_track .nil pass0 (pa_cons (pv 1) (pa_cons (pv 3) pa_nil))))
        (pss_one (ps_for PassesOwn.never rfl (RZ.pi_zipA (by rfl) T.z_zip (pa_cons (pv 4) (pa_cons (pe_slice sl_k (pv 4) (po_some pe_int) po_none) pa_nil))) (pg_tup rfl (pgs_cons (pg_name (i := 5) sc__law_gaps.nd rfl (Or.inl rfl)) (pgs_cons (pg_name (i := 6) sc__law_gaps.nd rfl (Or.inl rfl)) pgs_nil)))
        (pss_one (ps_if (pt_cmpR (op_kNe hr) (pe_call (ok__law_left_in T) (hr.mono (by decide)) (by rfl) T.g__law_left_in T.F__law_left_in.kp T.b__law_left_in .nil pass0 (pa_cons (pe_ix ix_seq (pv 1) (pv 5) (fun _ _ => rfl)) pa_nil)) (pe_call (ok__law_found_in T) (hr.mono (by decide)) (by rfl) T.g__law_found_in T.F__law_found_in.kp T.b__law_found_in .nil pass0 (pa_cons (pe_ix ix_seq (pv 1) (pv 6) (fun _ _ => rfl)) pa_nil)) (nomark _))
        (pss_cons (ps_set (i := 7) sc__law_gaps.nd rfl (Or.inl rfl) (pe_op op_kSub (pe_ix ix_seq (pe_ix ix_seq (pv 1) (pv 6) (fun _ _ => rfl)) pe_int (fun _ _ => rfl)) (pe_callTy call_kInt (by rfl) T.z_int bt_int (pa_cons (pe_cmpR (op_kEq hr) (pe_ix ix_seq (pe_ix ix_seq (pv 1) (pv 6) (fun _ _ => rfl)) pe_int (fun _ _ => rfl)) pe_str (nomark _)) pa_nil))))
        (pss_one (ps_expr (pe_bm PySem.F.plainAttrs_list PySem.F.slot_list_append PySem.F.type_list_append mt_append (pv 2) (pa_cons (pe_op op_kAdd (pe_tup (pa_cons (pv 3) (pa_cons (pv 5) (pa_cons (pv 6) pa_nil)))) (pe_call (ok__law_edges T) hr (by rfl) T.g__law_edges T.F__law_edges.kp T.b__law_edges .nil pass0 (pa_cons (pv 0) (pa_cons (pe_ix ix_seq (pe_ix ix_seq (pv 1) (pv 5) (fun _ _ => rfl)) pe_int (fun _ _ => rfl)) (pa_cons (pv 7) pa_nil))))) pa_nil)))))
        pss_nil))))))
        (pss_one (ps_ret (pv 2))))), def_in0 rfl rf__law_gaps vs H Q E h⟩
theorem ok__law_places (T : Txt K mg A Z) : FnOk P w K mg base CX0 1 A.f__law_places A.fd__law_places ps__law_places (spF K Z m__law_places) :=
  T.F__law_places.ok sc__law_places spF_len0 fun cdv A1 outer s H vs Q E hr h => ⟨t__law_places K Z, by
      exact (pss_one (ps_ret (pe_lc (own := [("row", 2)]) (g := (gName 2)) (tt := tYes) rfl sc__law_places.nd (pi_seq (pv 0)) (blkOk_by (own := [("row", 2)]) (N := ns__law_places) (sc := defScope s__law_places) (by decide +kernel)) (fun _ _ _ _ _ => (pg_name (i := 2) sc__law_places.nd rfl (Or.inl rfl))) (fun _ _ _ _ _ => pts_nil) (fun _ _ _ _ _ => (pe_op op_kAdd (pe_tup (pa_cons (pe_ix ix_seq (pv 2) pe_int (fun _ _ => rfl)) (pa_cons (pe_ix ix_seq (pv 1) (pe_ix ix_seq (pv 2) pe_int (fun _ _ => rfl)) (fun _ _ => rfl)) (pa_cons (pe_ix ix_seq (pv 1) (pe_ix ix_seq (pv 2) pe_int (fun _ _ => rfl)) (fun _ _ => rfl)) pa_nil)))) (pe_slice sl_k (pv 2) (po_some pe_int) po_none)))))), def_in0 rfl rf__law_places vs H Q E h⟩
theorem ok_law0 (T : Txt K mg A Z) : FnOk P w K mg base CX0 8 A.f_law A.fd_law ps_law (spF K Z m_law) :=
  T.F_law.ok sc_law spF_len0 fun cdv A1 outer s H vs Q E hr h => ⟨t_law K Z, by
      exact (pss_cons (ps_for PassesOwn.never rfl (pi_seq (pe_op op_kAdd (pe_slice sl_k (pv 0) po_none (po_some pe_int)) (pe_lst (pa_cons pe_int pa_nil)))) (pg_name (i := 1) sc_law.nd rfl (Or.inl rfl))
        (pss_cons (ps_set (i := 2) sc_law.nd rfl (Or.inl rfl) (pe_call (ok__law_well T) (hr.mono (by decide)) (by rfl) T.g__law_well T.F__law_well.kp T.b__law_well .nil pass0 (pa_cons (pv 1) (pa_cons pe_int pa_nil))))
        (pss_cons (ps_set (i := 3) sc_law.nd rfl (Or.inl rfl) (pe_call (ok__law_town T) (hr.mono (by decide)) (by rfl) T.g__law_town T.F__law_town.kp T.b__law_town .nil pass0 (pa_cons (pv 2) (pa_cons pe_int pa_nil))))
        (pss_cons (ps_if (pt_cmpR (op_kEq hr) (pe_call (ok__law_take T) (hr.mono (by decide)) (by rfl) T.g__law_take T.F__law_take.kp T.b__law_take .nil pass0 (pa_cons (pv 2) (pa_cons pe_int pa_nil))) pe_int (nomark _))
        (pss_one (ps_set (i := 3) sc_law.nd rfl (Or.inl rfl) (pe_callTy call_kTuple (by rfl) T.z_tuple bt_tuple (pa_cons (pe_lc (own := [("gate", 10)]) (g := (gName 10)) (tt := tYes) rfl sc_law.nd (pi_seq (pv 3)) (blkOk_by (own := [("gate", 10)]) (N := ns_law) (sc := defScope s_law) (by decide +kernel)) (fun _ _ _ _ _ => (pg_name (i := 10) sc_law.nd rfl (Or.inl rfl))) (fun _ _ _ _ _ => pts_nil) (fun _ _ _ _ _ => (pe_tup (pa_cons (pe_ix ix_seq (pv 10) pe_int (fun _ _ => rfl)) (pa_cons (pe_ix ix_seq (pv 10) pe_int (fun _ _ => rfl)) (pa_cons (pe_ix ix_seq (pv 10) pe_int (fun _ _ => rfl)) (pa_cons (pe_ix ix_seq (pv 10) pe_int (fun _ _ => rfl)) pa_nil))))))) pa_nil))))
        pss_nil)
        (pss_cons (ps_set (i := 4) sc_law.nd rfl (Or.inl rfl) (pe_call (ok__law_tracks T) (hr.mono (by decide)) (by rfl) T.g__law_tracks T.F__law_tracks.kp T.b__law_tracks .nil pass0 (pa_cons (pv 2) (pa_cons (pv 3) (pa_cons pe_int pa_nil)))))
        (pss_cons (ps_set (i := 5) sc_law.nd rfl (Or.inl rfl) (pe_callTy call_kList (by rfl) T.z_list bt_list (pa_cons (pv 4) pa_nil)))
        (pss_cons (ps_set (i := 6) sc_law.nd rfl (Or.inl rfl) (pe_call (ok__law_gaps T) (hr.mono (by decide)) (by rfl) T.g__law_gaps T.F__law_gaps.kp T.b__law_gaps .nil pass0 (pa_cons (pv 3) (pa_cons (pv 4) pa_nil))))
        (pss_cons (ps_set (i := 7) sc_law.nd rfl (Or.inl rfl) (pe_call (ok_gaps T) hr (by rfl) T.g_gaps T.F_gaps.kp T.b_gaps .nil pass0 (pa_cons (pv 3) (pa_cons (pv 5) pa_nil))))
        (pss_cons (ps_if (PW.pt (pw_or (pt_not (pt_val (pe_callB call_isi (by rfl) T.z_isinstance bt_isinstance (pa_cons (pv 7) (pa_cons (pe_bltn (by rfl) T.z_list bt_list rfl) pa_nil))))) (pw_or (pt_cmpR (op_kNe hr) (pv 7) (pv 6) (nomark _)) (pw_or1 (pt_cmpR (op_kNe hr) (pv 5) (pv 4) (nomark _))))))
        (pss_one (ps_ret pe_bl))
        pss_nil)
        (pss_cons (ps_expr (pe_bm PySem.F.plainAttrs_list PySem.F.slot_list_append PySem.F.type_list_append mt_append (pv 7) (pa_cons pe_non pa_nil)))
        (pss_cons (ps_set (i := 8) sc_law.nd rfl (Or.inl rfl) (pe_call (ok__law_shuffled T) (hr.mono (by decide)) (by rfl) T.g__law_shuffled T.F__law_shuffled.kp T.b__law_shuffled .nil pass0 (pa_cons (pv 2) (pa_cons (pv 4) pa_nil))))
        (pss_cons (ps_set (i := 9) sc_law.nd rfl (Or.inl rfl) (pe_call (ok_gaps T) hr (by rfl) T.g_gaps T.F_gaps.kp T.b_gaps .nil pass0 (pa_cons (pv 3) (pa_cons (pv 8) pa_nil))))
        (pss_cons (ps_if (PW.pt (pw_or (pt_cmpR (op_kNe hr) (pv 9) (pe_call (ok__law_gaps T) (hr.mono (by decide)) (by rfl) T.g__law_gaps T.F__law_gaps.kp T.b__law_gaps .nil pass0 (pa_cons (pv 3) (pa_cons (pv 8) pa_nil))) (nomark _)) (pw_or1 (pt_cmpR (op_kNe hr) (pe_call (ok_gaps T) hr (by rfl) T.g_gaps T.F_gaps.kp T.b_gaps .nil pass0 (pa_cons (pv 3) (pa_cons (pv 4) pa_nil))) (pv 6) (nomark _)))))
        (pss_one (ps_ret pe_bl))
        pss_nil)
        (pss_one (ps_if (pt_cmpR (op_kNe hr) (pe_call (ok__law_places T) (hr.mono (by decide)) (by rfl) T.g__law_places T.F__law_places.kp T.b__law_places .nil pass0 (pa_cons (pv 9) (pa_cons (pv 8) pa_nil))) (pe_call (ok__law_places T) (hr.mono (by decide)) (by rfl) T.g__law_places T.F__law_places.kp T.b__law_places .nil pass0 (pa_cons (pv 6) (pa_cons (pv 4) pa_nil))) (nomark _))
        (pss_one (ps_ret pe_bl))
        pss_nil)))))))))))))))
        (pss_one (ps_ret pe_bl))), def_in0 rfl rf_law vs H Q E h⟩
theorem ok_law (T : Txt K mg A Z) : FnOk P w K mg base CX0 8 A.f_law A.fd_law ps_law (sp_law K) := fn_imp (ok_law0 T) (law_in law_true)
end
theorem all_mk {l : PySem.W.OpenLaw} {w : PySem.World} {K : PySem.W.Frag} {h : Heap} {mg : Str → Option Value} {fa : Addr} (X : K.In h) (G : h.Ns mainGlobals mg)
    {f1 f2 f3 f4 f5 f6 f7 f8 f9 f10 f11 f12 f13 f14 f15 f16 f17 f18 f19 f20 f21 f22 f23 f24 f25 f26 f27 f28 f29 f30 f31 f32 f33 f34 f35 f36 f37 f38 f39 f40 f41  : Addr} {od1 an1 od2 an2 od3 an3 od4 an4 od5 an5 od6 an6 od7 an7 od8 an8 od9 an9 od10 an10 od11 an11 od12 an12 od13 an13 od14 an14 od15 an15 od16 an16 od17 an17 od18 an18 od19 an19 od20 an20 od21 an21 od22 an22 od23 an23 od24 an24 od25 an25 od26 an26 od27 an27 od28 an28 od29 an29 od30 an30 od31 an31 od32 an32 od33 an33 od34 an34 od35 an35 od36 an36 od37 an37 od38 an38 od39 an39 od40 an40 od41 an41 : Option Addr} {sl1 sl2 sl3 sl4 sl5 sl6 sl7 sl8 sl9 sl10 sl11 sl12 sl13 sl14 sl15 sl16 sl17 sl18 sl19 sl20 sl21 sl22 sl23 sl24 sl25 sl26 sl27 sl28 sl29 sl30 sl31 sl32 sl33 sl34 sl35 sl36 sl37 sl38 sl39 sl40 sl41 : Array (Option Value)} {oc1 kV1 dc1 pm1 cd1 ct1 oc2 kV2 dc2 pm2 cd2 ct2 oc3 kV3 dc3 pm3 cd3 ct3 oc4 kV4 dc4 pm4 cd4 ct4 oc5 kV5 dc5 pm5 cd5 ct5 oc6 kV6 dc6 pm6 cd6 ct6 oc7 kV7 dc7 pm7 cd7 ct7 oc8 kV8 dc8 pm8 cd8 ct8 oc9 kV9 dc9 pm9 cd9 ct9 oc10 kV10 dc10 pm10 cd10 ct10 oc11 kV11 dc11 pm11 cd11 ct11 oc12 kV12 dc12 pm12 cd12 ct12 oc13 kV13 dc13 pm13 cd13 ct13 oc14 kV14 dc14 pm14 cd14 ct14 oc15 kV15 dc15 pm15 cd15 ct15 oc16 kV16 dc16 pm16 cd16 ct16 oc17 kV17 dc17 pm17 cd17 ct17 oc18 kV18 dc18 pm18 cd18 ct18 oc19 kV19 dc19 pm19 cd19 ct19 oc20 kV20 dc20 pm20 cd20 ct20 oc21 kV21 dc21 pm21 cd21 ct21 oc22 kV22 dc22 pm22 cd22 ct22 oc23 kV23 dc23 pm23 cd23 ct23 oc24 kV24 dc24 pm24 cd24 ct24 oc25 kV25 dc25 pm25 cd25 ct25 oc26 kV26 dc26 pm26 cd26 ct26 oc27 kV27 dc27 pm27 cd27 ct27 oc28 kV28 dc28 pm28 cd28 ct28 oc29 kV29 dc29 pm29 cd29 ct29 oc30 kV30 dc30 pm30 cd30 ct30 oc31 kV31 dc31 pm31 cd31 ct31 oc32 kV32 dc32 pm32 cd32 ct32 oc33 kV33 dc33 pm33 cd33 ct33 oc34 kV34 dc34 pm34 cd34 ct34 oc35 kV35 dc35 pm35 cd35 ct35 oc36 kV36 dc36 pm36 cd36 ct36 oc37 kV37 dc37 pm37 cd37 ct37 oc38 kV38 dc38 pm38 cd38 ct38 oc39 kV39 dc39 pm39 cd39 ct39 oc40 kV40 dc40 pm40 cd40 ct40 oc41 kV41 dc41 pm41 cd41 ct41 : Value} {tk_LETTERS tk_DAY tk_MOST_HOUR tk_MOST_PAGES : Tok}
    (a1 : PySem.W.nsIn K mainGlobals "is_within" = some (some (.ref f1))) (l1 : K.lookup f1 = some ⟨oc1, od1, .func (PySem.W.fnOf "is_within" "is_within" (defArgs s_is_within) (defBody s_is_within) (defScope s_is_within) .none kV1 dc1 pm1 an1 cd1 ct1), sl1⟩) (c1 : PySem.W.codeIn K cd1 "is_within" = true) (k1 : PySem.W.keepIn K (.ref f1) = true)
    (a2 : PySem.W.nsIn K mainGlobals "is_name" = some (some (.ref f2))) (l2 : K.lookup f2 = some ⟨oc2, od2, .func (PySem.W.fnOf "is_name" "is_name" (defArgs s_is_name) (defBody s_is_name) (defScope s_is_name) .none kV2 dc2 pm2 an2 cd2 ct2), sl2⟩) (c2 : PySem.W.codeIn K cd2 "is_name" = true) (k2 : PySem.W.keepIn K (.ref f2) = true)
    (a3 : PySem.W.nsIn K mainGlobals "rises" = some (some (.ref f3))) (l3 : K.lookup f3 = some ⟨oc3, od3, .func (PySem.W.fnOf "rises" "rises" (defArgs s_rises) (defBody s_rises) (defScope s_rises) .none kV3 dc3 pm3 an3 cd3 ct3), sl3⟩) (c3 : PySem.W.codeIn K cd3 "rises" = true) (k3 : PySem.W.keepIn K (.ref f3) = true)
    (a4 : PySem.W.nsIn K mainGlobals "is_gate" = some (some (.ref f4))) (l4 : K.lookup f4 = some ⟨oc4, od4, .func (PySem.W.fnOf "is_gate" "is_gate" (defArgs s_is_gate) (defBody s_is_gate) (defScope s_is_gate) .none kV4 dc4 pm4 an4 cd4 ct4), sl4⟩) (c4 : PySem.W.codeIn K cd4 "is_gate" = true) (k4 : PySem.W.keepIn K (.ref f4) = true)
    (a5 : PySem.W.nsIn K mainGlobals "is_town" = some (some (.ref f5))) (l5 : K.lookup f5 = some ⟨oc5, od5, .func (PySem.W.fnOf "is_town" "is_town" (defArgs s_is_town) (defBody s_is_town) (defScope s_is_town) .none kV5 dc5 pm5 an5 cd5 ct5), sl5⟩) (c5 : PySem.W.codeIn K cd5 "is_town" = true) (k5 : PySem.W.keepIn K (.ref f5) = true)
    (a6 : PySem.W.nsIn K mainGlobals "look_at_town" = some (some (.ref f6))) (l6 : K.lookup f6 = some ⟨oc6, od6, .func (PySem.W.fnOf "look_at_town" "look_at_town" (defArgs s_look_at_town) (defBody s_look_at_town) (defScope s_look_at_town) .none kV6 dc6 pm6 an6 cd6 ct6), sl6⟩) (c6 : PySem.W.codeIn K cd6 "look_at_town" = true) (k6 : PySem.W.keepIn K (.ref f6) = true)
    (a7 : PySem.W.nsIn K mainGlobals "names_of" = some (some (.ref f7))) (l7 : K.lookup f7 = some ⟨oc7, od7, .func (PySem.W.fnOf "names_of" "names_of" (defArgs s_names_of) (defBody s_names_of) (defScope s_names_of) .none kV7 dc7 pm7 an7 cd7 ct7), sl7⟩) (c7 : PySem.W.codeIn K cd7 "names_of" = true) (k7 : PySem.W.keepIn K (.ref f7) = true)
    (a8 : PySem.W.nsIn K mainGlobals "open_by" = some (some (.ref f8))) (l8 : K.lookup f8 = some ⟨oc8, od8, .func (PySem.W.fnOf "open_by" "open_by" (defArgs s_open_by) (defBody s_open_by) (defScope s_open_by) .none kV8 dc8 pm8 an8 cd8 ct8), sl8⟩) (c8 : PySem.W.codeIn K cd8 "open_by" = true) (k8 : PySem.W.keepIn K (.ref f8) = true)
    (a9 : PySem.W.nsIn K mainGlobals "shut_at" = some (some (.ref f9))) (l9 : K.lookup f9 = some ⟨oc9, od9, .func (PySem.W.fnOf "shut_at" "shut_at" (defArgs s_shut_at) (defBody s_shut_at) (defScope s_shut_at) .none kV9 dc9 pm9 an9 cd9 ct9), sl9⟩) (c9 : PySem.W.codeIn K cd9 "shut_at" = true) (k9 : PySem.W.keepIn K (.ref f9) = true)
    (a10 : PySem.W.nsIn K mainGlobals "is_track_page" = some (some (.ref f10))) (l10 : K.lookup f10 = some ⟨oc10, od10, .func (PySem.W.fnOf "is_track_page" "is_track_page" (defArgs s_is_track_page) (defBody s_is_track_page) (defScope s_is_track_page) .none kV10 dc10 pm10 an10 cd10 ct10), sl10⟩) (c10 : PySem.W.codeIn K cd10 "is_track_page" = true) (k10 : PySem.W.keepIn K (.ref f10) = true)
    (a11 : PySem.W.nsIn K mainGlobals "look_at_tracks" = some (some (.ref f11))) (l11 : K.lookup f11 = some ⟨oc11, od11, .func (PySem.W.fnOf "look_at_tracks" "look_at_tracks" (defArgs s_look_at_tracks) (defBody s_look_at_tracks) (defScope s_look_at_tracks) .none kV11 dc11 pm11 an11 cd11 ct11), sl11⟩) (c11 : PySem.W.codeIn K cd11 "look_at_tracks" = true) (k11 : PySem.W.keepIn K (.ref f11) = true)
    (a12 : PySem.W.nsIn K mainGlobals "finds" = some (some (.ref f12))) (l12 : K.lookup f12 = some ⟨oc12, od12, .func (PySem.W.fnOf "finds" "finds" (defArgs s_finds) (defBody s_finds) (defScope s_finds) .none kV12 dc12 pm12 an12 cd12 ct12), sl12⟩) (c12 : PySem.W.codeIn K cd12 "finds" = true) (k12 : PySem.W.keepIn K (.ref f12) = true)
    (a13 : PySem.W.nsIn K mainGlobals "leaves" = some (some (.ref f13))) (l13 : K.lookup f13 = some ⟨oc13, od13, .func (PySem.W.fnOf "leaves" "leaves" (defArgs s_leaves) (defBody s_leaves) (defScope s_leaves) .none kV13 dc13 pm13 an13 cd13 ct13), sl13⟩) (c13 : PySem.W.codeIn K cd13 "leaves" = true) (k13 : PySem.W.keepIn K (.ref f13) = true)
    (a14 : PySem.W.nsIn K mainGlobals "gainsay" = some (some (.ref f14))) (l14 : K.lookup f14 = some ⟨oc14, od14, .func (PySem.W.fnOf "gainsay" "gainsay" (defArgs s_gainsay) (defBody s_gainsay) (defScope s_gainsay) .none kV14 dc14 pm14 an14 cd14 ct14), sl14⟩) (c14 : PySem.W.codeIn K cd14 "gainsay" = true) (k14 : PySem.W.keepIn K (.ref f14) = true)
    (a15 : PySem.W.nsIn K mainGlobals "lie_of_tracks" = some (some (.ref f15))) (l15 : K.lookup f15 = some ⟨oc15, od15, .func (PySem.W.fnOf "lie_of_tracks" "lie_of_tracks" (defArgs s_lie_of_tracks) (defBody s_lie_of_tracks) (defScope s_lie_of_tracks) .none kV15 dc15 pm15 an15 cd15 ct15), sl15⟩) (c15 : PySem.W.codeIn K cd15 "lie_of_tracks" = true) (k15 : PySem.W.keepIn K (.ref f15) = true)
    (a16 : PySem.W.nsIn K mainGlobals "look_at_ways" = some (some (.ref f16))) (l16 : K.lookup f16 = some ⟨oc16, od16, .func (PySem.W.fnOf "look_at_ways" "look_at_ways" (defArgs s_look_at_ways) (defBody s_look_at_ways) (defScope s_look_at_ways) .none kV16 dc16 pm16 an16 cd16 ct16), sl16⟩) (c16 : PySem.W.codeIn K cd16 "look_at_ways" = true) (k16 : PySem.W.keepIn K (.ref f16) = true)
    (a17 : PySem.W.nsIn K mainGlobals "track_of" = some (some (.ref f17))) (l17 : K.lookup f17 = some ⟨oc17, od17, .func (PySem.W.fnOf "track_of" "track_of" (defArgs s_track_of) (defBody s_track_of) (defScope s_track_of) .none kV17 dc17 pm17 an17 cd17 ct17), sl17⟩) (c17 : PySem.W.codeIn K cd17 "track_of" = true) (k17 : PySem.W.keepIn K (.ref f17) = true)
    (a18 : PySem.W.nsIn K mainGlobals "shut_hours" = some (some (.ref f18))) (l18 : K.lookup f18 = some ⟨oc18, od18, .func (PySem.W.fnOf "shut_hours" "shut_hours" (defArgs s_shut_hours) (defBody s_shut_hours) (defScope s_shut_hours) .none kV18 dc18 pm18 an18 cd18 ct18), sl18⟩) (c18 : PySem.W.codeIn K cd18 "shut_hours" = true) (k18 : PySem.W.keepIn K (.ref f18) = true)
    (a19 : PySem.W.nsIn K mainGlobals "gap_between" = some (some (.ref f19))) (l19 : K.lookup f19 = some ⟨oc19, od19, .func (PySem.W.fnOf "gap_between" "gap_between" (defArgs s_gap_between) (defBody s_gap_between) (defScope s_gap_between) .none kV19 dc19 pm19 an19 cd19 ct19), sl19⟩) (c19 : PySem.W.codeIn K cd19 "gap_between" = true) (k19 : PySem.W.keepIn K (.ref f19) = true)
    (a20 : PySem.W.nsIn K mainGlobals "gaps_in" = some (some (.ref f20))) (l20 : K.lookup f20 = some ⟨oc20, od20, .func (PySem.W.fnOf "gaps_in" "gaps_in" (defArgs s_gaps_in) (defBody s_gaps_in) (defScope s_gaps_in) .none kV20 dc20 pm20 an20 cd20 ct20), sl20⟩) (c20 : PySem.W.codeIn K cd20 "gaps_in" = true) (k20 : PySem.W.keepIn K (.ref f20) = true)
    (a21 : PySem.W.nsIn K mainGlobals "gaps" = some (some (.ref f21))) (l21 : K.lookup f21 = some ⟨oc21, od21, .func (PySem.W.fnOf "gaps" "gaps" (defArgs s_gaps) (defBody s_gaps) (defScope s_gaps) .none kV21 dc21 pm21 an21 cd21 ct21), sl21⟩) (c21 : PySem.W.codeIn K cd21 "gaps" = true) (k21 : PySem.W.keepIn K (.ref f21) = true)
    (a22 : PySem.W.nsIn K mainGlobals "_law_well" = some (some (.ref f22))) (l22 : K.lookup f22 = some ⟨oc22, od22, .func (PySem.W.fnOf "_law_well" "_law_well" (defArgs s__law_well) (defBody s__law_well) (defScope s__law_well) .none kV22 dc22 pm22 an22 cd22 ct22), sl22⟩) (c22 : PySem.W.codeIn K cd22 "_law_well" = true) (k22 : PySem.W.keepIn K (.ref f22) = true)
    (a23 : PySem.W.nsIn K mainGlobals "_law_take" = some (some (.ref f23))) (l23 : K.lookup f23 = some ⟨oc23, od23, .func (PySem.W.fnOf "_law_take" "_law_take" (defArgs s__law_take) (defBody s__law_take) (defScope s__law_take) .none kV23 dc23 pm23 an23 cd23 ct23), sl23⟩) (c23 : PySem.W.codeIn K cd23 "_law_take" = true) (k23 : PySem.W.keepIn K (.ref f23) = true)
    (a24 : PySem.W.nsIn K mainGlobals "_law_shuffled" = some (some (.ref f24))) (l24 : K.lookup f24 = some ⟨oc24, od24, .func (PySem.W.fnOf "_law_shuffled" "_law_shuffled" (defArgs s__law_shuffled) (defBody s__law_shuffled) (defScope s__law_shuffled) .none kV24 dc24 pm24 an24 cd24 ct24), sl24⟩) (c24 : PySem.W.codeIn K cd24 "_law_shuffled" = true) (k24 : PySem.W.keepIn K (.ref f24) = true)
    (a25 : PySem.W.nsIn K mainGlobals "_law_name" = some (some (.ref f25))) (l25 : K.lookup f25 = some ⟨oc25, od25, .func (PySem.W.fnOf "_law_name" "_law_name" (defArgs s__law_name) (defBody s__law_name) (defScope s__law_name) .none kV25 dc25 pm25 an25 cd25 ct25), sl25⟩) (c25 : PySem.W.codeIn K cd25 "_law_name" = true) (k25 : PySem.W.keepIn K (.ref f25) = true)
    (a26 : PySem.W.nsIn K mainGlobals "_law_rising" = some (some (.ref f26))) (l26 : K.lookup f26 = some ⟨oc26, od26, .func (PySem.W.fnOf "_law_rising" "_law_rising" (defArgs s__law_rising) (defBody s__law_rising) (defScope s__law_rising) .none kV26 dc26 pm26 an26 cd26 ct26), sl26⟩) (c26 : PySem.W.codeIn K cd26 "_law_rising" = true) (k26 : PySem.W.keepIn K (.ref f26) = true)
    (a27 : PySem.W.nsIn K mainGlobals "_law_town" = some (some (.ref f27))) (l27 : K.lookup f27 = some ⟨oc27, od27, .func (PySem.W.fnOf "_law_town" "_law_town" (defArgs s__law_town) (defBody s__law_town) (defScope s__law_town) .none kV27 dc27 pm27 an27 cd27 ct27), sl27⟩) (c27 : PySem.W.codeIn K cd27 "_law_town" = true) (k27 : PySem.W.keepIn K (.ref f27) = true)
    (a28 : PySem.W.nsIn K mainGlobals "_law_clocks" = some (some (.ref f28))) (l28 : K.lookup f28 = some ⟨oc28, od28, .func (PySem.W.fnOf "_law_clocks" "_law_clocks" (defArgs s__law_clocks) (defBody s__law_clocks) (defScope s__law_clocks) .none kV28 dc28 pm28 an28 cd28 ct28), sl28⟩) (c28 : PySem.W.codeIn K cd28 "_law_clocks" = true) (k28 : PySem.W.keepIn K (.ref f28) = true)
    (a29 : PySem.W.nsIn K mainGlobals "_law_is_open" = some (some (.ref f29))) (l29 : K.lookup f29 = some ⟨oc29, od29, .func (PySem.W.fnOf "_law_is_open" "_law_is_open" (defArgs s__law_is_open) (defBody s__law_is_open) (defScope s__law_is_open) .none kV29 dc29 pm29 an29 cd29 ct29), sl29⟩) (c29 : PySem.W.codeIn K cd29 "_law_is_open" = true) (k29 : PySem.W.keepIn K (.ref f29) = true)
    (a30 : PySem.W.nsIn K mainGlobals "_law_far" = some (some (.ref f30))) (l30 : K.lookup f30 = some ⟨oc30, od30, .func (PySem.W.fnOf "_law_far" "_law_far" (defArgs s__law_far) (defBody s__law_far) (defScope s__law_far) .none kV30 dc30 pm30 an30 cd30 ct30), sl30⟩) (c30 : PySem.W.codeIn K cd30 "_law_far" = true) (k30 : PySem.W.keepIn K (.ref f30) = true)
    (a31 : PySem.W.nsIn K mainGlobals "_law_track_page" = some (some (.ref f31))) (l31 : K.lookup f31 = some ⟨oc31, od31, .func (PySem.W.fnOf "_law_track_page" "_law_track_page" (defArgs s__law_track_page) (defBody s__law_track_page) (defScope s__law_track_page) .none kV31 dc31 pm31 an31 cd31 ct31), sl31⟩) (c31 : PySem.W.codeIn K cd31 "_law_track_page" = true) (k31 : PySem.W.keepIn K (.ref f31) = true)
    (a32 : PySem.W.nsIn K mainGlobals "_law_tracks_lie" = some (some (.ref f32))) (l32 : K.lookup f32 = some ⟨oc32, od32, .func (PySem.W.fnOf "_law_tracks_lie" "_law_tracks_lie" (defArgs s__law_tracks_lie) (defBody s__law_tracks_lie) (defScope s__law_tracks_lie) .none kV32 dc32 pm32 an32 cd32 ct32), sl32⟩) (c32 : PySem.W.codeIn K cd32 "_law_tracks_lie" = true) (k32 : PySem.W.keepIn K (.ref f32) = true)
    (a33 : PySem.W.nsIn K mainGlobals "_law_tracks" = some (some (.ref f33))) (l33 : K.lookup f33 = some ⟨oc33, od33, .func (PySem.W.fnOf "_law_tracks" "_law_tracks" (defArgs s__law_tracks) (defBody s__law_tracks) (defScope s__law_tracks) .none kV33 dc33 pm33 an33 cd33 ct33), sl33⟩) (c33 : PySem.W.codeIn K cd33 "_law_tracks" = true) (k33 : PySem.W.keepIn K (.ref f33) = true)
    (a34 : PySem.W.nsIn K mainGlobals "_law_track" = some (some (.ref f34))) (l34 : K.lookup f34 = some ⟨oc34, od34, .func (PySem.W.fnOf "_law_track" "_law_track" (defArgs s__law_track) (defBody s__law_track) (defScope s__law_track) .none kV34 dc34 pm34 an34 cd34 ct34), sl34⟩) (c34 : PySem.W.codeIn K cd34 "_law_track" = true) (k34 : PySem.W.keepIn K (.ref f34) = true)
    (a35 : PySem.W.nsIn K mainGlobals "_law_found_in" = some (some (.ref f35))) (l35 : K.lookup f35 = some ⟨oc35, od35, .func (PySem.W.fnOf "_law_found_in" "_law_found_in" (defArgs s__law_found_in) (defBody s__law_found_in) (defScope s__law_found_in) .none kV35 dc35 pm35 an35 cd35 ct35), sl35⟩) (c35 : PySem.W.codeIn K cd35 "_law_found_in" = true) (k35 : PySem.W.keepIn K (.ref f35) = true)
    (a36 : PySem.W.nsIn K mainGlobals "_law_left_in" = some (some (.ref f36))) (l36 : K.lookup f36 = some ⟨oc36, od36, .func (PySem.W.fnOf "_law_left_in" "_law_left_in" (defArgs s__law_left_in) (defBody s__law_left_in) (defScope s__law_left_in) .none kV36 dc36 pm36 an36 cd36 ct36), sl36⟩) (c36 : PySem.W.codeIn K cd36 "_law_left_in" = true) (k36 : PySem.W.keepIn K (.ref f36) = true)
    (a37 : PySem.W.nsIn K mainGlobals "_law_shut" = some (some (.ref f37))) (l37 : K.lookup f37 = some ⟨oc37, od37, .func (PySem.W.fnOf "_law_shut" "_law_shut" (defArgs s__law_shut) (defBody s__law_shut) (defScope s__law_shut) .none kV37 dc37 pm37 an37 cd37 ct37), sl37⟩) (c37 : PySem.W.codeIn K cd37 "_law_shut" = true) (k37 : PySem.W.keepIn K (.ref f37) = true)
    (a38 : PySem.W.nsIn K mainGlobals "_law_edges" = some (some (.ref f38))) (l38 : K.lookup f38 = some ⟨oc38, od38, .func (PySem.W.fnOf "_law_edges" "_law_edges" (defArgs s__law_edges) (defBody s__law_edges) (defScope s__law_edges) .none kV38 dc38 pm38 an38 cd38 ct38), sl38⟩) (c38 : PySem.W.codeIn K cd38 "_law_edges" = true) (k38 : PySem.W.keepIn K (.ref f38) = true)
    (a39 : PySem.W.nsIn K mainGlobals "_law_gaps" = some (some (.ref f39))) (l39 : K.lookup f39 = some ⟨oc39, od39, .func (PySem.W.fnOf "_law_gaps" "_law_gaps" (defArgs s__law_gaps) (defBody s__law_gaps) (defScope s__law_gaps) .none kV39 dc39 pm39 an39 cd39 ct39), sl39⟩) (c39 : PySem.W.codeIn K cd39 "_law_gaps" = true) (k39 : PySem.W.keepIn K (.ref f39) = true)
    (a40 : PySem.W.nsIn K mainGlobals "_law_places" = some (some (.ref f40))) (l40 : K.lookup f40 = some ⟨oc40, od40, .func (PySem.W.fnOf "_law_places" "_law_places" (defArgs s__law_places) (defBody s__law_places) (defScope s__law_places) .none kV40 dc40 pm40 an40 cd40 ct40), sl40⟩) (c40 : PySem.W.codeIn K cd40 "_law_places" = true) (k40 : PySem.W.keepIn K (.ref f40) = true)
    (a41 : PySem.W.nsIn K mainGlobals "law" = some (some (.ref f41))) (l41 : K.lookup f41 = some ⟨oc41, od41, .func (PySem.W.fnOf "law" "law" (defArgs s_law) (defBody s_law) (defScope s_law) .none kV41 dc41 pm41 an41 cd41 ct41), sl41⟩) (c41 : PySem.W.codeIn K cd41 "law" = true) (k41 : PySem.W.keepIn K (.ref f41) = true)
    (h_LETTERS : PySem.W.nsIn K mainGlobals "LETTERS" = some (some (Value.str "abcdefghijklmnopqrstuvwxyz" tk_LETTERS)))
    (h_DAY : PySem.W.nsIn K mainGlobals "DAY" = some (some (Value.int 24 tk_DAY)))
    (h_MOST_HOUR : PySem.W.nsIn K mainGlobals "MOST_HOUR" = some (some (Value.int 1000000000000 tk_MOST_HOUR)))
    (h_MOST_PAGES : PySem.W.nsIn K mainGlobals "MOST_PAGES" = some (some (Value.int 200 tk_MOST_PAGES)))
    (z_all : PySem.W.nsIn K mainGlobals "all" = some none)
    (z_bool : PySem.W.nsIn K mainGlobals "bool" = some none)
    (z_enumerate : PySem.W.nsIn K mainGlobals "enumerate" = some none)
    (z_int : PySem.W.nsIn K mainGlobals "int" = some none)
    (z_isinstance : PySem.W.nsIn K mainGlobals "isinstance" = some none)
    (z_len : PySem.W.nsIn K mainGlobals "len" = some none)
    (z_list : PySem.W.nsIn K mainGlobals "list" = some none)
    (z_max : PySem.W.nsIn K mainGlobals "max" = some none)
    (z_min : PySem.W.nsIn K mainGlobals "min" = some none)
    (z_range : PySem.W.nsIn K mainGlobals "range" = some none)
    (z_set : PySem.W.nsIn K mainGlobals "set" = some none)
    (z_sorted : PySem.W.nsIn K mainGlobals "sorted" = some none)
    (z_str : PySem.W.nsIn K mainGlobals "str" = some none)
    (z_tuple : PySem.W.nsIn K mainGlobals "tuple" = some none)
    (z_zip : PySem.W.nsIn K mainGlobals "zip" = some none)
    : mg "law" = some (.ref fa) → ∃ fd : FuncData, (∀ (s : Shared) (v : Value), BindsTo s fd ⟨[v], []⟩ [("script", v)]) ∧ ∀ base : Heap, K.In base → base.Ns mainGlobals mg → FnOk l.prog w K mg base CX0 8 fa fd ["script"] (sp_law K) := by
  intro hfa
  have e := hfa.symm.trans (PySem.W.mg_of X G a41)
  cases e
  have F1 := fun_mk (st := s_is_within) l1 c1 k1
  have b1 := F1.binds (ps := ps_is_within) fun _ _ _ _ _ _ us hl => match us, hl with | [_, _, _], _ => rfl
  have F2 := fun_mk (st := s_is_name) l2 c2 k2
  have b2 := F2.binds (ps := ps_is_name) fun _ _ _ _ _ _ us hl => match us, hl with | [_], _ => rfl
  have F3 := fun_mk (st := s_rises) l3 c3 k3
  have b3 := F3.binds (ps := ps_rises) fun _ _ _ _ _ _ us hl => match us, hl with | [_], _ => rfl
  have F4 := fun_mk (st := s_is_gate) l4 c4 k4
  have b4 := F4.binds (ps := ps_is_gate) fun _ _ _ _ _ _ us hl => match us, hl with | [_], _ => rfl
  have F5 := fun_mk (st := s_is_town) l5 c5 k5
  have b5 := F5.binds (ps := ps_is_town) fun _ _ _ _ _ _ us hl => match us, hl with | [_], _ => rfl
  have F6 := fun_mk (st := s_look_at_town) l6 c6 k6
  have b6 := F6.binds (ps := ps_look_at_town) fun _ _ _ _ _ _ us hl => match us, hl with | [_], _ => rfl
  have F7 := fun_mk (st := s_names_of) l7 c7 k7
  have b7 := F7.binds (ps := ps_names_of) fun _ _ _ _ _ _ us hl => match us, hl with | [_], _ => rfl
  have F8 := fun_mk (st := s_open_by) l8 c8 k8
  have b8 := F8.binds (ps := ps_open_by) fun _ _ _ _ _ _ us hl => match us, hl with | [_, _], _ => rfl
  have F9 := fun_mk (st := s_shut_at) l9 c9 k9
  have b9 := F9.binds (ps := ps_shut_at) fun _ _ _ _ _ _ us hl => match us, hl with | [_, _], _ => rfl
  have F10 := fun_mk (st := s_is_track_page) l10 c10 k10
  have b10 := F10.binds (ps := ps_is_track_page) fun _ _ _ _ _ _ us hl => match us, hl with | [_, _], _ => rfl
  have F11 := fun_mk (st := s_look_at_tracks) l11 c11 k11
  have b11 := F11.binds (ps := ps_look_at_tracks) fun _ _ _ _ _ _ us hl => match us, hl with | [_, _], _ => rfl
  have F12 := fun_mk (st := s_finds) l12 c12 k12
  have b12 := F12.binds (ps := ps_finds) fun _ _ _ _ _ _ us hl => match us, hl with | [_], _ => rfl
  have F13 := fun_mk (st := s_leaves) l13 c13 k13
  have b13 := F13.binds (ps := ps_leaves) fun _ _ _ _ _ _ us hl => match us, hl with | [_], _ => rfl
  have F14 := fun_mk (st := s_gainsay) l14 c14 k14
  have b14 := F14.binds (ps := ps_gainsay) fun _ _ _ _ _ _ us hl => match us, hl with | [_, _], _ => rfl
  have F15 := fun_mk (st := s_lie_of_tracks) l15 c15 k15
  have b15 := F15.binds (ps := ps_lie_of_tracks) fun _ _ _ _ _ _ us hl => match us, hl with | [_], _ => rfl
  have F16 := fun_mk (st := s_look_at_ways) l16 c16 k16
  have b16 := F16.binds (ps := ps_look_at_ways) fun _ _ _ _ _ _ us hl => match us, hl with | [_, _], _ => rfl
  have F17 := fun_mk (st := s_track_of) l17 c17 k17
  have b17 := F17.binds (ps := ps_track_of) fun _ _ _ _ _ _ us hl => match us, hl with | [_, _], _ => rfl
  have F18 := fun_mk (st := s_shut_hours) l18 c18 k18
  have b18 := F18.binds (ps := ps_shut_hours) fun _ _ _ _ _ _ us hl => match us, hl with | [_, _, _], _ => rfl
  have F19 := fun_mk (st := s_gap_between) l19 c19 k19
  have b19 := F19.binds (ps := ps_gap_between) fun _ _ _ _ _ _ us hl => match us, hl with | [_, _, _, _], _ => rfl
  have F20 := fun_mk (st := s_gaps_in) l20 c20 k20
  have b20 := F20.binds (ps := ps_gaps_in) fun _ _ _ _ _ _ us hl => match us, hl with | [_, _], _ => rfl
  have F21 := fun_mk (st := s_gaps) l21 c21 k21
  have b21 := F21.binds (ps := ps_gaps) fun _ _ _ _ _ _ us hl => match us, hl with | [_, _], _ => rfl
  have F22 := fun_mk (st := s__law_well) l22 c22 k22
  have b22 := F22.binds (ps := ps__law_well) fun _ _ _ _ _ _ us hl => match us, hl with | [_, _], _ => rfl
  have F23 := fun_mk (st := s__law_take) l23 c23 k23
  have b23 := F23.binds (ps := ps__law_take) fun _ _ _ _ _ _ us hl => match us, hl with | [_, _], _ => rfl
  have F24 := fun_mk (st := s__law_shuffled) l24 c24 k24
  have b24 := F24.binds (ps := ps__law_shuffled) fun _ _ _ _ _ _ us hl => match us, hl with | [_, _], _ => rfl
  have F25 := fun_mk (st := s__law_name) l25 c25 k25
  have b25 := F25.binds (ps := ps__law_name) fun _ _ _ _ _ _ us hl => match us, hl with | [_], _ => rfl
  have F26 := fun_mk (st := s__law_rising) l26 c26 k26
  have b26 := F26.binds (ps := ps__law_rising) fun _ _ _ _ _ _ us hl => match us, hl with | [_, _], _ => rfl
  have F27 := fun_mk (st := s__law_town) l27 c27 k27
  have b27 := F27.binds (ps := ps__law_town) fun _ _ _ _ _ _ us hl => match us, hl with | [_, _], _ => rfl
  have F28 := fun_mk (st := s__law_clocks) l28 c28 k28
  have b28 := F28.binds (ps := ps__law_clocks) fun _ _ _ _ _ _ us hl => match us, hl with | [_], _ => rfl
  have F29 := fun_mk (st := s__law_is_open) l29 c29 k29
  have b29 := F29.binds (ps := ps__law_is_open) fun _ _ _ _ _ _ us hl => match us, hl with | [_, _], _ => rfl
  have F30 := fun_mk (st := s__law_far) l30 c30 k30
  have b30 := F30.binds (ps := ps__law_far) fun _ _ _ _ _ _ us hl => match us, hl with | [_], _ => rfl
  have F31 := fun_mk (st := s__law_track_page) l31 c31 k31
  have b31 := F31.binds (ps := ps__law_track_page) fun _ _ _ _ _ _ us hl => match us, hl with | [_, _], _ => rfl
  have F32 := fun_mk (st := s__law_tracks_lie) l32 c32 k32
  have b32 := F32.binds (ps := ps__law_tracks_lie) fun _ _ _ _ _ _ us hl => match us, hl with | [_], _ => rfl
  have F33 := fun_mk (st := s__law_tracks) l33 c33 k33
  have b33 := F33.binds (ps := ps__law_tracks) fun _ _ _ _ _ _ us hl => match us, hl with | [_, _, _], _ => rfl
  have F34 := fun_mk (st := s__law_track) l34 c34 k34
  have b34 := F34.binds (ps := ps__law_track) fun _ _ _ _ _ _ us hl => match us, hl with | [_, _], _ => rfl
  have F35 := fun_mk (st := s__law_found_in) l35 c35 k35
  have b35 := F35.binds (ps := ps__law_found_in) fun _ _ _ _ _ _ us hl => match us, hl with | [_], _ => rfl
  have F36 := fun_mk (st := s__law_left_in) l36 c36 k36
  have b36 := F36.binds (ps := ps__law_left_in) fun _ _ _ _ _ _ us hl => match us, hl with | [_], _ => rfl
  have F37 := fun_mk (st := s__law_shut) l37 c37 k37
  have b37 := F37.binds (ps := ps__law_shut) fun _ _ _ _ _ _ us hl => match us, hl with | [_, _], _ => rfl
  have F38 := fun_mk (st := s__law_edges) l38 c38 k38
  have b38 := F38.binds (ps := ps__law_edges) fun _ _ _ _ _ _ us hl => match us, hl with | [_, _, _], _ => rfl
  have F39 := fun_mk (st := s__law_gaps) l39 c39 k39
  have b39 := F39.binds (ps := ps__law_gaps) fun _ _ _ _ _ _ us hl => match us, hl with | [_, _], _ => rfl
  have F40 := fun_mk (st := s__law_places) l40 c40 k40
  have b40 := F40.binds (ps := ps__law_places) fun _ _ _ _ _ _ us hl => match us, hl with | [_, _], _ => rfl
  have F41 := fun_mk (st := s_law) l41 c41 k41
  have b41 := F41.binds (ps := ps_law) fun _ _ _ _ _ _ us hl => match us, hl with | [_], _ => rfl
  have T : Txt K mg ⟨f1, PySem.W.fnOf "is_within" "is_within" (defArgs s_is_within) (defBody s_is_within) (defScope s_is_within) .none kV1 dc1 pm1 an1 cd1 ct1, f2, PySem.W.fnOf "is_name" "is_name" (defArgs s_is_name) (defBody s_is_name) (defScope s_is_name) .none kV2 dc2 pm2 an2 cd2 ct2, f3, PySem.W.fnOf "rises" "rises" (defArgs s_rises) (defBody s_rises) (defScope s_rises) .none kV3 dc3 pm3 an3 cd3 ct3, f4, PySem.W.fnOf "is_gate" "is_gate" (defArgs s_is_gate) (defBody s_is_gate) (defScope s_is_gate) .none kV4 dc4 pm4 an4 cd4 ct4, f5, PySem.W.fnOf "is_town" "is_town" (defArgs s_is_town) (defBody s_is_town) (defScope s_is_town) .none kV5 dc5 pm5 an5 cd5 ct5, f6, PySem.W.fnOf "look_at_town" "look_at_town" (defArgs s_look_at_town) (defBody s_look_at_town) (defScope s_look_at_town) .none kV6 dc6 pm6 an6 cd6 ct6, f7, PySem.W.fnOf "names_of" "names_of" (defArgs s_names_of) (defBody s_names_of) (defScope s_names_of) .none kV7 dc7 pm7 an7 cd7 ct7, f8, PySem.W.fnOf "open_by" "open_by" (defArgs s_open_by) (defBody s_open_by) (defScope s_open_by) .none kV8 dc8 pm8 an8 cd8 ct8, f9, PySem.W.fnOf "shut_at" "shut_at" (defArgs s_shut_at) (defBody s_shut_at) (defScope s_shut_at) .none kV9 dc9 pm9 an9 cd9 ct9, f10, PySem.W.fnOf "is_track_page" "is_track_page" (defArgs s_is_track_page) (defBody s_is_track_page) (defScope s_is_track_page) .none kV10 dc10 pm10 an10 cd10 ct10, f11, PySem.W.fnOf "look_at_tracks" "look_at_tracks" (defArgs s_look_at_tracks) (defBody s_look_at_tracks) (defScope s_look_at_tracks) .none kV11 dc11 pm11 an11 cd11 ct11, f12, PySem.W.fnOf "finds" "finds" (defArgs s_finds) (defBody s_finds) (defScope s_finds) .none kV12 dc12 pm12 an12 cd12 ct12, f13, PySem.W.fnOf "leaves" "leaves" (defArgs s_leaves) (defBody s_leaves) (defScope s_leaves) .none kV13 dc13 pm13 an13 cd13 ct13, f14, PySem.W.fnOf "gainsay" "gainsay" (defArgs s_gainsay) (defBody s_gainsay) (defScope s_gainsay) .none kV14 dc14 pm14 an14 cd14 ct14, f15, PySem.W.fnOf "lie_of_tracks" "lie_of_tracks" (defArgs s_lie_of_tracks) (defBody s_lie_of_tracks) (defScope s_lie_of_tracks) .none kV15 dc15 pm15 an15 cd15 ct15, f16, PySem.W.fnOf "look_at_ways" "look_at_ways" (defArgs s_look_at_ways) (defBody s_look_at_ways) (defScope s_look_at_ways) .none kV16 dc16 pm16 an16 cd16 ct16, f17, PySem.W.fnOf "track_of" "track_of" (defArgs s_track_of) (defBody s_track_of) (defScope s_track_of) .none kV17 dc17 pm17 an17 cd17 ct17, f18, PySem.W.fnOf "shut_hours" "shut_hours" (defArgs s_shut_hours) (defBody s_shut_hours) (defScope s_shut_hours) .none kV18 dc18 pm18 an18 cd18 ct18, f19, PySem.W.fnOf "gap_between" "gap_between" (defArgs s_gap_between) (defBody s_gap_between) (defScope s_gap_between) .none kV19 dc19 pm19 an19 cd19 ct19, f20, PySem.W.fnOf "gaps_in" "gaps_in" (defArgs s_gaps_in) (defBody s_gaps_in) (defScope s_gaps_in) .none kV20 dc20 pm20 an20 cd20 ct20, f21, PySem.W.fnOf "gaps" "gaps" (defArgs s_gaps) (defBody s_gaps) (defScope s_gaps) .none kV21 dc21 pm21 an21 cd21 ct21, f22, PySem.W.fnOf "_law_well" "_law_well" (defArgs s__law_well) (defBody s__law_well) (defScope s__law_well) .none kV22 dc22 pm22 an22 cd22 ct22, f23, PySem.W.fnOf "_law_take" "_law_take" (defArgs s__law_take) (defBody s__law_take) (defScope s__law_take) .none kV23 dc23 pm23 an23 cd23 ct23, f24, PySem.W.fnOf "_law_shuffled" "_law_shuffled" (defArgs s__law_shuffled) (defBody s__law_shuffled) (defScope s__law_shuffled) .none kV24 dc24 pm24 an24 cd24 ct24, f25, PySem.W.fnOf "_law_name" "_law_name" (defArgs s__law_name) (defBody s__law_name) (defScope s__law_name) .none kV25 dc25 pm25 an25 cd25 ct25, f26, PySem.W.fnOf "_law_rising" "_law_rising" (defArgs s__law_rising) (defBody s__law_rising) (defScope s__law_rising) .none kV26 dc26 pm26 an26 cd26 ct26, f27, PySem.W.fnOf "_law_town" "_law_town" (defArgs s__law_town) (defBody s__law_town) (defScope s__law_town) .none kV27 dc27 pm27 an27 cd27 ct27, f28, PySem.W.fnOf "_law_clocks" "_law_clocks" (defArgs s__law_clocks) (defBody s__law_clocks) (defScope s__law_clocks) .none kV28 dc28 pm28 an28 cd28 ct28, f29, PySem.W.fnOf "_law_is_open" "_law_is_open" (defArgs s__law_is_open) (defBody s__law_is_open) (defScope s__law_is_open) .none kV29 dc29 pm29 an29 cd29 ct29, f30, PySem.W.fnOf "_law_far" "_law_far" (defArgs s__law_far) (defBody s__law_far) (defScope s__law_far) .none kV30 dc30 pm30 an30 cd30 ct30, f31, PySem.W.fnOf "_law_track_page" "_law_track_page" (defArgs s__law_track_page) (defBody s__law_track_page) (defScope s__law_track_page) .none kV31 dc31 pm31 an31 cd31 ct31, f32, PySem.W.fnOf "_law_tracks_lie" "_law_tracks_lie" (defArgs s__law_tracks_lie) (defBody s__law_tracks_lie) (defScope s__law_tracks_lie) .none kV32 dc32 pm32 an32 cd32 ct32, f33, PySem.W.fnOf "_law_tracks" "_law_tracks" (defArgs s__law_tracks) (defBody s__law_tracks) (defScope s__law_tracks) .none kV33 dc33 pm33 an33 cd33 ct33, f34, PySem.W.fnOf "_law_track" "_law_track" (defArgs s__law_track) (defBody s__law_track) (defScope s__law_track) .none kV34 dc34 pm34 an34 cd34 ct34, f35, PySem.W.fnOf "_law_found_in" "_law_found_in" (defArgs s__law_found_in) (defBody s__law_found_in) (defScope s__law_found_in) .none kV35 dc35 pm35 an35 cd35 ct35, f36, PySem.W.fnOf "_law_left_in" "_law_left_in" (defArgs s__law_left_in) (defBody s__law_left_in) (defScope s__law_left_in) .none kV36 dc36 pm36 an36 cd36 ct36, f37, PySem.W.fnOf "_law_shut" "_law_shut" (defArgs s__law_shut) (defBody s__law_shut) (defScope s__law_shut) .none kV37 dc37 pm37 an37 cd37 ct37, f38, PySem.W.fnOf "_law_edges" "_law_edges" (defArgs s__law_edges) (defBody s__law_edges) (defScope s__law_edges) .none kV38 dc38 pm38 an38 cd38 ct38, f39, PySem.W.fnOf "_law_gaps" "_law_gaps" (defArgs s__law_gaps) (defBody s__law_gaps) (defScope s__law_gaps) .none kV39 dc39 pm39 an39 cd39 ct39, f40, PySem.W.fnOf "_law_places" "_law_places" (defArgs s__law_places) (defBody s__law_places) (defScope s__law_places) .none kV40 dc40 pm40 an40 cd40 ct40, fa, PySem.W.fnOf "law" "law" (defArgs s_law) (defBody s_law) (defScope s_law) .none kV41 dc41 pm41 an41 cd41 ct41⟩ { TownError := 0, NoTown := 0, NoGate := 0, NoHour := 0, NoPass := 0, NoToll := 0, NoWord := 0, NoName := 0, Within := 0, Without := 0, NoCart := 0, Shut := 0, NothingLeft := 0, NoPages := 0, NoPage := 0, NoBook := 0, NoInns := 0, NoWay := 0, NoWalks := 0, NoRounds := 0, NoText := 0, NoRow := 0 } :=
    { F_is_within := F1,
      b_is_within := b1,
      g_is_within := PySem.W.mg_of X G a1,
      F_is_name := F2,
      b_is_name := b2,
      g_is_name := PySem.W.mg_of X G a2,
      F_rises := F3,
      b_rises := b3,
      g_rises := PySem.W.mg_of X G a3,
      F_is_gate := F4,
      b_is_gate := b4,
      g_is_gate := PySem.W.mg_of X G a4,
      F_is_town := F5,
      b_is_town := b5,
      g_is_town := PySem.W.mg_of X G a5,
      F_look_at_town := F6,
      b_look_at_town := b6,
      g_look_at_town := PySem.W.mg_of X G a6,
      F_names_of := F7,
      b_names_of := b7,
      g_names_of := PySem.W.mg_of X G a7,
      F_open_by := F8,
      b_open_by := b8,
      g_open_by := PySem.W.mg_of X G a8,
      F_shut_at := F9,
      b_shut_at := b9,
      g_shut_at := PySem.W.mg_of X G a9,
      F_is_track_page := F10,
      b_is_track_page := b10,
      g_is_track_page := PySem.W.mg_of X G a10,
      F_look_at_tracks := F11,
      b_look_at_tracks := b11,
      g_look_at_tracks := PySem.W.mg_of X G a11,
      F_finds := F12,
      b_finds := b12,
      g_finds := PySem.W.mg_of X G a12,
      F_leaves := F13,
      b_leaves := b13,
      g_leaves := PySem.W.mg_of X G a13,
      F_gainsay := F14,
      b_gainsay := b14,
      g_gainsay := PySem.W.mg_of X G a14,
      F_lie_of_tracks := F15,
      b_lie_of_tracks := b15,
      g_lie_of_tracks := PySem.W.mg_of X G a15,
      F_look_at_ways := F16,
      b_look_at_ways := b16,
      g_look_at_ways := PySem.W.mg_of X G a16,
      F_track_of := F17,
      b_track_of := b17,
      g_track_of := PySem.W.mg_of X G a17,
      F_shut_hours := F18,
      b_shut_hours := b18,
      g_shut_hours := PySem.W.mg_of X G a18,
      F_gap_between := F19,
      b_gap_between := b19,
      g_gap_between := PySem.W.mg_of X G a19,
      F_gaps_in := F20,
      b_gaps_in := b20,
      g_gaps_in := PySem.W.mg_of X G a20,
      F_gaps := F21,
      b_gaps := b21,
      g_gaps := PySem.W.mg_of X G a21,
      F__law_well := F22,
      b__law_well := b22,
      g__law_well := PySem.W.mg_of X G a22,
      F__law_take := F23,
      b__law_take := b23,
      g__law_take := PySem.W.mg_of X G a23,
      F__law_shuffled := F24,
      b__law_shuffled := b24,
      g__law_shuffled := PySem.W.mg_of X G a24,
      F__law_name := F25,
      b__law_name := b25,
      g__law_name := PySem.W.mg_of X G a25,
      F__law_rising := F26,
      b__law_rising := b26,
      g__law_rising := PySem.W.mg_of X G a26,
      F__law_town := F27,
      b__law_town := b27,
      g__law_town := PySem.W.mg_of X G a27,
      F__law_clocks := F28,
      b__law_clocks := b28,
      g__law_clocks := PySem.W.mg_of X G a28,
      F__law_is_open := F29,
      b__law_is_open := b29,
      g__law_is_open := PySem.W.mg_of X G a29,
      F__law_far := F30,
      b__law_far := b30,
      g__law_far := PySem.W.mg_of X G a30,
      F__law_track_page := F31,
      b__law_track_page := b31,
      g__law_track_page := PySem.W.mg_of X G a31,
      F__law_tracks_lie := F32,
      b__law_tracks_lie := b32,
      g__law_tracks_lie := PySem.W.mg_of X G a32,
      F__law_tracks := F33,
      b__law_tracks := b33,
      g__law_tracks := PySem.W.mg_of X G a33,
      F__law_track := F34,
      b__law_track := b34,
      g__law_track := PySem.W.mg_of X G a34,
      F__law_found_in := F35,
      b__law_found_in := b35,
      g__law_found_in := PySem.W.mg_of X G a35,
      F__law_left_in := F36,
      b__law_left_in := b36,
      g__law_left_in := PySem.W.mg_of X G a36,
      F__law_shut := F37,
      b__law_shut := b37,
      g__law_shut := PySem.W.mg_of X G a37,
      F__law_edges := F38,
      b__law_edges := b38,
      g__law_edges := PySem.W.mg_of X G a38,
      F__law_gaps := F39,
      b__law_gaps := b39,
      g__law_gaps := PySem.W.mg_of X G a39,
      F__law_places := F40,
      b__law_places := b40,
      g__law_places := PySem.W.mg_of X G a40,
      F_law := F41,
      b_law := b41,
      g_law := PySem.W.mg_of X G a41,
      h_LETTERS := ⟨tk_LETTERS, PySem.W.mg_of X G h_LETTERS⟩,
      h_DAY := ⟨tk_DAY, PySem.W.mg_of X G h_DAY⟩,
      h_MOST_HOUR := ⟨tk_MOST_HOUR, PySem.W.mg_of X G h_MOST_HOUR⟩,
      h_MOST_PAGES := ⟨tk_MOST_PAGES, PySem.W.mg_of X G h_MOST_PAGES⟩,
      z_all := PySem.W.mg_none_of X G z_all,
      z_bool := PySem.W.mg_none_of X G z_bool,
      z_enumerate := PySem.W.mg_none_of X G z_enumerate,
      z_int := PySem.W.mg_none_of X G z_int,
      z_isinstance := PySem.W.mg_none_of X G z_isinstance,
      z_len := PySem.W.mg_none_of X G z_len,
      z_list := PySem.W.mg_none_of X G z_list,
      z_max := PySem.W.mg_none_of X G z_max,
      z_min := PySem.W.mg_none_of X G z_min,
      z_range := PySem.W.mg_none_of X G z_range,
      z_set := PySem.W.mg_none_of X G z_set,
      z_sorted := PySem.W.mg_none_of X G z_sorted,
      z_str := PySem.W.mg_none_of X G z_str,
      z_tuple := PySem.W.mg_none_of X G z_tuple,
      z_zip := PySem.W.mg_none_of X G z_zip }
  exact ⟨_, fun s v => .of_eq rfl, fun base _ _ => ok_law T⟩
end LK
open PySem PySem.W PyProof.Rows
set_option maxRecDepth 100000 in
set_option maxHeartbeats 0 in
theorem PySem.Challenge.cw_latchtown_k19_gaps_between_pages_holds : PySem.Challenge.rw_latchtown_k19_gaps_between_pages.Holds := by
  w_on; o_law; k_head; (case hw => w_witness2)
  k_fill
  refine L2.walk_ofB (l := PySem.Challenge.rw_latchtown_k19_gaps_between_pages) (n := 63) (k := 8) (x := "script") (CX := fun _ => L2.CX0) (sp := fun w => LK.sp_law _) rfl (by decide) rfl ⟨rfl, by decide, by decide⟩ (fun w h Y => PySem.W.kIn_of Y) ?F (fun w H a ns hl hb hO hS => LK.sp_law_start a ns hl hb hS) (fun _ _ _ _ _ h => h)
  case F =>
    intro w mg fa h KX G
    refine' LK.all_mk KX G ?a1 ?l1 ?c1 ?k1 ?a2 ?l2 ?c2 ?k2 ?a3 ?l3 ?c3 ?k3 ?a4 ?l4 ?c4 ?k4 ?a5 ?l5 ?c5 ?k5 ?a6 ?l6 ?c6 ?k6 ?a7 ?l7 ?c7 ?k7 ?a8 ?l8 ?c8 ?k8 ?a9 ?l9 ?c9 ?k9 ?a10 ?l10 ?c10 ?k10 ?a11 ?l11 ?c11 ?k11 ?a12 ?l12 ?c12 ?k12 ?a13 ?l13 ?c13 ?k13 ?a14 ?l14 ?c14 ?k14 ?a15 ?l15 ?c15 ?k15 ?a16 ?l16 ?c16 ?k16 ?a17 ?l17 ?c17 ?k17 ?a18 ?l18 ?c18 ?k18 ?a19 ?l19 ?c19 ?k19 ?a20 ?l20 ?c20 ?k20 ?a21 ?l21 ?c21 ?k21 ?a22 ?l22 ?c22 ?k22 ?a23 ?l23 ?c23 ?k23 ?a24 ?l24 ?c24 ?k24 ?a25 ?l25 ?c25 ?k25 ?a26 ?l26 ?c26 ?k26 ?a27 ?l27 ?c27 ?k27 ?a28 ?l28 ?c28 ?k28 ?a29 ?l29 ?c29 ?k29 ?a30 ?l30 ?c30 ?k30 ?a31 ?l31 ?c31 ?k31 ?a32 ?l32 ?c32 ?k32 ?a33 ?l33 ?c33 ?k33 ?a34 ?l34 ?c34 ?k34 ?a35 ?l35 ?c35 ?k35 ?a36 ?l36 ?c36 ?k36 ?a37 ?l37 ?c37 ?k37 ?a38 ?l38 ?c38 ?k38 ?a39 ?l39 ?c39 ?k39 ?a40 ?l40 ?c40 ?k40 ?a41 ?l41 ?c41 ?k41 ?h_LETTERS ?h_DAY ?h_MOST_HOUR ?h_MOST_PAGES ?z_all ?z_bool ?z_enumerate ?z_int ?z_isinstance ?z_len ?z_list ?z_max ?z_min ?z_range ?z_set ?z_sorted ?z_str ?z_tuple ?z_zip
    (case a1 => k_is); (case l1 => k_is); (case c1 => k_is); (case k1 => k_is); (case a2 => k_is); (case l2 => k_is); (case c2 => k_is); (case k2 => k_is)
    (case a3 => k_is); (case l3 => k_is); (case c3 => k_is); (case k3 => k_is); (case a4 => k_is); (case l4 => k_is); (case c4 => k_is); (case k4 => k_is)
    (case a5 => k_is); (case l5 => k_is); (case c5 => k_is); (case k5 => k_is); (case a6 => k_is); (case l6 => k_is); (case c6 => k_is); (case k6 => k_is)
    (case a7 => k_is); (case l7 => k_is); (case c7 => k_is); (case k7 => k_is); (case a8 => k_is); (case l8 => k_is); (case c8 => k_is); (case k8 => k_is)
    (case a9 => k_is); (case l9 => k_is); (case c9 => k_is); (case k9 => k_is); (case a10 => k_is); (case l10 => k_is); (case c10 => k_is); (case k10 => k_is)
    (case a11 => k_is); (case l11 => k_is); (case c11 => k_is); (case k11 => k_is); (case a12 => k_is); (case l12 => k_is); (case c12 => k_is); (case k12 => k_is)
    (case a13 => k_is); (case l13 => k_is); (case c13 => k_is); (case k13 => k_is); (case a14 => k_is); (case l14 => k_is); (case c14 => k_is); (case k14 => k_is)
    (case a15 => k_is); (case l15 => k_is); (case c15 => k_is); (case k15 => k_is); (case a16 => k_is); (case l16 => k_is); (case c16 => k_is); (case k16 => k_is)
    (case a17 => k_is); (case l17 => k_is); (case c17 => k_is); (case k17 => k_is); (case a18 => k_is); (case l18 => k_is); (case c18 => k_is); (case k18 => k_is)
    (case a19 => k_is); (case l19 => k_is); (case c19 => k_is); (case k19 => k_is); (case a20 => k_is); (case l20 => k_is); (case c20 => k_is); (case k20 => k_is)
    (case a21 => k_is); (case l21 => k_is); (case c21 => k_is); (case k21 => k_is); (case a22 => k_is); (case l22 => k_is); (case c22 => k_is); (case k22 => k_is)
    (case a23 => k_is); (case l23 => k_is); (case c23 => k_is); (case k23 => k_is); (case a24 => k_is); (case l24 => k_is); (case c24 => k_is); (case k24 => k_is)
    (case a25 => k_is); (case l25 => k_is); (case c25 => k_is); (case k25 => k_is); (case a26 => k_is); (case l26 => k_is); (case c26 => k_is); (case k26 => k_is)
    (case a27 => k_is); (case l27 => k_is); (case c27 => k_is); (case k27 => k_is); (case a28 => k_is); (case l28 => k_is); (case c28 => k_is); (case k28 => k_is)
    (case a29 => k_is); (case l29 => k_is); (case c29 => k_is); (case k29 => k_is); (case a30 => k_is); (case l30 => k_is); (case c30 => k_is); (case k30 => k_is)
    (case a31 => k_is); (case l31 => k_is); (case c31 => k_is); (case k31 => k_is); (case a32 => k_is); (case l32 => k_is); (case c32 => k_is); (case k32 => k_is)
    (case a33 => k_is); (case l33 => k_is); (case c33 => k_is); (case k33 => k_is); (case a34 => k_is); (case l34 => k_is); (case c34 => k_is); (case k34 => k_is)
    (case a35 => k_is); (case l35 => k_is); (case c35 => k_is); (case k35 => k_is); (case a36 => k_is); (case l36 => k_is); (case c36 => k_is); (case k36 => k_is)
    (case a37 => k_is); (case l37 => k_is); (case c37 => k_is); (case k37 => k_is); (case a38 => k_is); (case l38 => k_is); (case c38 => k_is); (case k38 => k_is)
    (case a39 => k_is); (case l39 => k_is); (case c39 => k_is); (case k39 => k_is); (case a40 => k_is); (case l40 => k_is); (case c40 => k_is); (case k40 => k_is)
    (case a41 => k_is); (case l41 => k_is); (case c41 => k_is); (case k41 => k_is); (case h_LETTERS => k_is); (case h_DAY => k_is); (case h_MOST_HOUR => k_is); (case h_MOST_PAGES => k_is)
    (case z_all => k_is); (case z_bool => k_is); (case z_enumerate => k_is); (case z_int => k_is); (case z_isinstance => k_is); (case z_len => k_is); (case z_list => k_is); (case z_max => k_is)
    (case z_min => k_is); (case z_range => k_is); (case z_set => k_is); (case z_sorted => k_is); (case z_str => k_is); (case z_tuple => k_is); (case z_zip => k_is)
