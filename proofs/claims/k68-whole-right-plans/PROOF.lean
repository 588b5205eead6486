import PyProof.Rows.All
import Wide.All
import OpenK.AllK
import Wide.FinOn
import HandS.ForMost
import HandS.ForExc
import HandS.Walk
import HandS.Star
import HandS.Zip
import HandS.SlotsOwn
import HandS.Defaults
import HandS.TupSets
import HandS.SortRule
import HandS.IsInst
import HandS.Deep
import HandS.TupAny
import HandS.EndTab
import HandS.TupLen
import HandS.AnyAll
import PySem.Challenge.RW_worthstead_k68_whole_right_plans
import KE.GoesMore
import KE.GoesEnum
import HandS.Nested
import KE.GoesZip
import HandS.DictComp
import HandS.WordsDict
import HandS.Words
import HandS.WordsExc
import HandS.TryOnly
import HandS.ExcOwn
import HandS.FStrTup
import KE.KExcSuper
import KE.KExcInit
import PyProof.CallStr
import PyProof.StrHeap
import HandS.NamedTupGet
import HandS.MakeKwOnly
import HandS.ExcInit
import HandS.EndOwn
set_option Elab.async false
set_option linter.all false
set_option maxRecDepth 100000
set_option maxHeartbeats 2000000
set_option autoImplicit false
namespace Km
open PySem L2

/-! ### growing heaps -/
def nTbl : HO → Prop
  | .tbl _ => False
  | _ => True
/-- all that is tracked stays, but for tables of code objects, which may grow -/
structure Gr (H J : Hp) : Prop where
  keep : ∀ a o, H a = some o → nTbl o → J a = some o
  tabs : ∀ a ps, H a = some (.tbl ps) → TriplesOk ps.toList → ∃ qs, J a = some (.tbl qs) ∧ TriplesOk qs.toList
theorem Gr.refl {H : Hp} : Gr H H := ⟨fun _ _ h _ => h, fun _ _ h t => ⟨_, h, t⟩⟩
theorem Gr.trans {A B C : Hp} (x : Gr A B) (y : Gr B C) : Gr A C :=
  ⟨fun a o h n => y.keep a o (x.keep a o h n) n, fun a ps h t => by
    obtain ⟨qs, h1, t1⟩ := x.tabs a ps h t
    exact y.tabs a qs h1 t1⟩
theorem Gr.of_same {H J : Hp} (e : ∀ a o, H a = some o → J a = some o) : Gr H J :=
  ⟨fun a o h _ => e a o h, fun a ps h t => ⟨ps, e _ _ h, t⟩⟩
theorem Gr.new {H : Hp} {p : Addr} {o : HO} (h : H p = none) : Gr H (upd H p o) := Gr.of_same fun a u e => by
  rw [upd_ne (ne_of_none e h)]; exact e
/-- a thing that was not there at first may change -/
theorem Gr.mut {H J : Hp} {p : Addr} {o : HO} (g : Gr H J) (h : H p = none) : Gr H (upd J p o) :=
  ⟨fun a u e n => by rw [upd_ne (ne_of_none e h)]; exact g.keep a u e n,
   fun a ps e t => by
    obtain ⟨qs, h1, t1⟩ := g.tabs a ps e t
    exact ⟨qs, by rw [upd_ne (ne_of_none e h)]; exact h1, t1⟩⟩
theorem Gr.tup {H J : Hp} (g : Gr H J) {a : Addr} {xs : List V} (h : H a = some (.tup xs)) : J a = some (.tup xs) := g.keep a _ h True.intro
theorem Gr.lst {H J : Hp} (g : Gr H J) {a : Addr} {xs : List V} (h : H a = some (.lst xs)) : J a = some (.lst xs) := g.keep a _ h True.intro
theorem Gr.rdL {H J : Hp} (g : Gr H J) {a : Addr} {xs : List V} (h : Rd H a (.lst xs)) : Rd J a (.lst xs) := by
  rcases h with h | ⟨o, h⟩
  · exact .inl (g.keep a _ h True.intro)
  · exact .inr ⟨o, g.keep a _ h True.intro⟩
theorem Gr.rdT {H J : Hp} (g : Gr H J) {a : Addr} {xs : List V} (h : Rd H a (.tup xs)) : Rd J a (.tup xs) := by
  rcases h with h | ⟨o, h⟩
  · exact .inl (g.keep a _ h True.intro)
  · exact .inr ⟨o, g.keep a _ h True.intro⟩
section
variable {K : PySem.W.Frag} {H J : Hp}
theorem Gr.sqL (g : Gr H J) {a : Addr} {xs : List V} (h : SqL K H a xs) : SqL K J a xs := h.elim (fun h => .inl (g.rdL h)) .inr
theorem Gr.sqT (g : Gr H J) {a : Addr} {xs : List V} (h : SqT K H a xs) : SqT K J a xs := h.elim (fun h => .inl (g.rdT h)) .inr
/-- fresh behind is fresh before -/
theorem Gr.back (g : Gr H J) {p : Addr} (h : J p = none) : (∃ ps, H p = some (.tbl ps)) ∨ H p = none := by
  cases e : H p with
  | none => exact .inr rfl
  | some o =>
    cases o with
    | tbl ps => exact .inl ⟨ps, rfl⟩
    | _ => have q := g.keep p _ e True.intro; rw [h] at q; cases q

/-! ### data -/
mutual
theorem dp_gr (g : Gr H J) : ∀ {v : V} {d : PyData}, Dp K H v d → Dp K J v d
  | _, _, .non => .non
  | _, _, .bl b => .bl b
  | _, _, .int i => .int i
  | _, _, .str x => .str x
  | _, _, .lst h t => .lst (g.sqL h) (dps_gr g t)
  | _, _, .tup h t => .tup (g.sqT h) (dps_gr g t)
theorem dps_gr (g : Gr H J) : ∀ {vs : List V} {ds : List PyData}, DpAll K H vs ds → DpAll K J vs ds
  | _, _, .nil => .nil
  | _, _, .cons h t => .cons (dp_gr g h) (dps_gr g t)
end
theorem dps_len : ∀ {vs : List V} {ds : List PyData}, DpAll K H vs ds → vs.length = ds.length
  | _, _, .nil => rfl
  | _, _, .cons _ t => by simp only [List.length_cons, dps_len t]
theorem dps_at : ∀ {vs : List V} {ds : List PyData} {i : Nat} {v : V}, DpAll K H vs ds → vs[i]? = some v → ∃ d, ds[i]? = some d ∧ Dp K H v d
  | _, _, _, _, .nil, h => by simp at h
  | _, _, 0, _, .cons h t, e => by
    simp only [List.getElem?_cons_zero, Option.some.injEq] at e
    subst e; exact ⟨_, List.getElem?_cons_zero, h⟩
  | _, _, i + 1, _, .cons h t, e => by
    obtain ⟨d, e2, r⟩ := dps_at (i := i) t (by simpa using e)
    exact ⟨d, by simpa using e2, r⟩
theorem dps_at2 : ∀ {vs : List V} {ds : List PyData} {i : Nat} {d : PyData}, DpAll K H vs ds → ds[i]? = some d → ∃ v, vs[i]? = some v ∧ Dp K H v d
  | _, _, _, _, .nil, h => by simp at h
  | _, _, 0, _, .cons h t, e => by
    simp only [List.getElem?_cons_zero, Option.some.injEq] at e
    subst e; exact ⟨_, List.getElem?_cons_zero, h⟩
  | _, _, i + 1, _, .cons h t, e => by
    obtain ⟨d, e2, r⟩ := dps_at2 (i := i) t (by simpa using e)
    exact ⟨d, by simpa using e2, r⟩
theorem dps_app : ∀ {vs : List V} {ds : List PyData} {ws : List V} {es : List PyData}, DpAll K H vs ds → DpAll K H ws es → DpAll K H (vs ++ ws) (ds ++ es)
  | _, _, _, _, .nil, b => b
  | _, _, _, _, .cons h t, b => .cons h (dps_app t b)
theorem dps_one {v : V} {d : PyData} (h : Dp K H v d) : DpAll K H [v] [d] := .cons h .nil
theorem dps_take : ∀ {vs : List V} {ds : List PyData} (n : Nat), DpAll K H vs ds → DpAll K H (vs.take n) (ds.take n)
  | _, _, 0, _ => by simp only [List.take_zero]; exact .nil
  | _, _, _ + 1, .nil => .nil
  | _, _, n + 1, .cons h t => .cons h (dps_take n t)
theorem dps_drop : ∀ {vs : List V} {ds : List PyData} (n : Nat), DpAll K H vs ds → DpAll K H (vs.drop n) (ds.drop n)
  | _, _, 0, h => by simpa using h
  | _, _, _ + 1, .nil => .nil
  | _, _, n + 1, .cons _ t => by simpa using dps_drop n t
theorem dps_ints : ∀ (ns : List Int), DpAll K H (ns.map V.int) (ns.map PyData.int)
  | [] => .nil
  | n :: r => .cons (.int n) (dps_ints r)
theorem dps_bls : ∀ (ns : List Bool), DpAll K H (ns.map V.bl) (ns.map PyData.bool)
  | [] => .nil
  | n :: r => .cons (.bl n) (dps_bls r)
theorem dps_strs : ∀ (ns : List Str), DpAll K H (ns.map V.str) (ns.map PyData.str)
  | [] => .nil
  | n :: r => .cons (.str n) (dps_strs r)
theorem ints_dps : ∀ {vs : List V} {ns : List Int}, DpAll K H vs (ns.map PyData.int) → vs = ns.map V.int
  | _, [], .nil => rfl
  | _, n :: r, .cons h t => by cases h; rw [ints_dps t]; rfl
theorem bls_dps : ∀ {vs : List V} {ns : List Bool}, DpAll K H vs (ns.map PyData.bool) → vs = ns.map V.bl
  | _, [], .nil => rfl
  | _, n :: r, .cons h t => by cases h; rw [bls_dps t]; rfl
theorem strs_dps : ∀ {vs : List V} {ns : List Str}, DpAll K H vs (ns.map PyData.str) → vs = ns.map V.str
  | _, [], .nil => rfl
  | _, n :: r, .cons h t => by cases h; rw [strs_dps t]; rfl
theorem dp_tup {v : V} {ds : List PyData} (h : Dp K H v (.tuple ds)) : ∃ a xs, v = .ref a ∧ SqT K H a xs ∧ DpAll K H xs ds := by
  cases h with | tup s t => exact ⟨_, _, rfl, s, t⟩
theorem dp_lst {v : V} {ds : List PyData} (h : Dp K H v (.list ds)) : ∃ a xs, v = .ref a ∧ SqL K H a xs ∧ DpAll K H xs ds := by
  cases h with | lst s t => exact ⟨_, _, rfl, s, t⟩
theorem dp_int {v : V} {i : Int} (h : Dp K H v (.int i)) : v = .int i := by cases h; rfl
theorem dp_bl {v : V} {i : Bool} (h : Dp K H v (.bool i)) : v = .bl i := by cases h; rfl
theorem dp_str {v : V} {i : Str} (h : Dp K H v (.str i)) : v = .str i := by cases h; rfl
end

/-- a word -/
abbrev dW (w : List Int) : PyData := .tuple (w.map .int)
/-- a row: a word and a side -/
abbrev dR (r : List Int × Int) : PyData := .tuple [dW r.1, .int r.2]
section
variable {K : PySem.W.Frag} {H J : Hp}
theorem dp_word {v : V} {w : List Int} (h : Dp K H v (dW w)) : ∃ a, v = .ref a ∧ SqT K H a (w.map V.int) := by
  obtain ⟨a, xs, e, s, t⟩ := dp_tup h
  rw [ints_dps t] at s
  exact ⟨a, e, s⟩
theorem word_dp {a : Addr} {w : List Int} (h : SqT K H a (w.map V.int)) : Dp K H (.ref a) (dW w) := .tup h (dps_ints w)
theorem dp_row {v : V} {r : List Int × Int} (h : Dp K H v (dR r)) : ∃ a x, v = .ref a ∧ SqT K H a [x, .int r.2] ∧ Dp K H x (dW r.1) := by
  obtain ⟨a, xs, e, s, t⟩ := dp_tup h
  cases t with
  | cons h1 t1 =>
    cases t1 with
    | cons h2 t2 =>
      cases t2; cases h2
      exact ⟨a, _, e, s, h1⟩
theorem row_dp {a : Addr} {x : V} {r : List Int × Int} (h : SqT K H a [x, .int r.2]) (hx : Dp K H x (dW r.1)) : Dp K H (.ref a) (dR r) := .tup h (.cons hx (.cons (.int _) .nil))
end

/-! ### what evaluates, leaving what is known -/
/-- wherever the heap has grown to: the reading ends in a value of which P holds, and the heap has grown -/
def Pu (te : TE) (σ : L2.St) (H : Hp) (P : V → Hp → Prop) : Prop := ∀ H1, Gr H H1 → ∀ Q : VK, (∀ v J, Gr H1 J → P v J → Q v J) → te σ H1 Q
/-- .. of a value that is the datum d -/
abbrev PuD (K : PySem.W.Frag) (te : TE) (σ : L2.St) (H : Hp) (d : PyData) : Prop := Pu te σ H fun v J => Dp K J v d
def Pb (tt : TT) (σ : L2.St) (H : Hp) (b : Bool) : Prop := ∀ H1, Gr H H1 → ∀ Q : Bool → Hp → Prop, (∀ J, Gr H1 J → Q b J) → tt σ H1 Q
def PuA (ta : TA) (σ : L2.St) (H : Hp) (P : List V → Hp → Prop) : Prop := ∀ H1, Gr H H1 → ∀ Q : List V → Hp → Prop, (∀ vs J, Gr H1 J → P vs J → Q vs J) → ta σ H1 Q
section
variable {σ : L2.St} {H J : Hp} {te ta tb : TE} {P R : V → Hp → Prop}
theorem Pu.imp (h : Pu te σ H P) (f : ∀ v J, Gr H J → P v J → R v J) : Pu te σ H R := fun H1 e Q q => h H1 e Q fun v J g p => q v J g (f v J (e.trans g) p)
theorem Pu.gr (g : Gr H J) (h : Pu te σ H P) : Pu te σ J P := fun H1 e Q q => h H1 (g.trans e) Q q
theorem Pb.gr {tt : TT} {b : Bool} (g : Gr H J) (h : Pb tt σ H b) : Pb tt σ J b := fun H1 e Q q => h H1 (g.trans e) Q q
theorem pu_c {v : V} : Pu (tC v) σ H fun x _ => x = v := fun H1 _ Q q => q v H1 .refl rfl
theorem pud_int {K : PySem.W.Frag} {i : Int} : PuD K (tC (.int i)) σ H (.int i) := fun H1 _ Q q => q _ H1 .refl (.int i)
theorem pud_str {K : PySem.W.Frag} {i : Str} : PuD K (tC (.str i)) σ H (.str i) := fun H1 _ Q q => q _ H1 .refl (.str i)
theorem pud_bl {K : PySem.W.Frag} {i : Bool} : PuD K (tC (.bl i)) σ H (.bool i) := fun H1 _ Q q => q _ H1 .refl (.bl i)
theorem pu_var {i : Nat} {v : V} (h : σ[i]? = some (some v)) : Pu (tVar i) σ H fun x J => x = v := fun H1 _ Q q => ⟨v, h, q v H1 .refl rfl⟩
theorem pud_var {K : PySem.W.Frag} {i : Nat} {v : V} {d : PyData} (h : σ[i]? = some (some v)) (hd : Dp K H v d) : PuD K (tVar i) σ H d := fun H1 e Q q => ⟨v, h, q v H1 .refl (dp_gr e hd)⟩
theorem pua_nil : PuA tNil σ H fun vs _ => vs = [] := fun H1 _ Q q => q [] H1 .refl rfl
theorem pua_cons {t : TA} {A : List V → Hp → Prop} (h : Pu te σ H P) (hm : ∀ v J J', Gr J J' → P v J → P v J') (ht : PuA t σ H A) : PuA (tCons te t) σ H fun vs J => ∃ v r, vs = v :: r ∧ P v J ∧ A r J :=
  fun H1 e Q q => h H1 e _ fun v J g p => ht J (e.trans g) _ fun r J2 g2 a => q (v :: r) J2 (g.trans g2) ⟨v, r, rfl, hm v J J2 g2 p, a⟩
theorem pua_one (h : Pu te σ H P) : PuA (tCons te tNil) σ H fun vs J => ∃ v, vs = [v] ∧ P v J :=
  fun H1 e Q q => h H1 e _ fun v J g p => q [v] J g ⟨v, rfl, p⟩
end
/-- the arguments are the data ds -/
abbrev PuDs (K : PySem.W.Frag) (ta : TA) (σ : L2.St) (H : Hp) (ds : List PyData) : Prop := PuA ta σ H fun vs J => DpAll K J vs ds
section
variable {K : PySem.W.Frag} {σ : L2.St} {H J : Hp} {te ta tb : TE} {t : TA} {d : PyData} {ds : List PyData} {E : XK} {tt tu : TT} {a b : Bool} {i j : Int}
theorem pds_nil : PuDs K tNil σ H [] := fun H1 _ Q q => q [] H1 .refl .nil
theorem pds_cons (h : PuD K te σ H d) (ht : PuDs K t σ H ds) : PuDs K (tCons te t) σ H (d :: ds) :=
  fun H1 e Q q => h H1 e _ fun v J g p => ht J (e.trans g) _ fun r J2 g2 a => q (v :: r) J2 (g.trans g2) (.cons (dp_gr g2 p) a)
theorem pds_one (h : PuD K te σ H d) : PuDs K (tCons te tNil) σ H [d] := pds_cons h pds_nil
/-- a call by a promise that asks for data and hands back a datum -/
def GivesD (K : PySem.W.Frag) (sp : Sp) (G : Hp → Prop) (ds : List PyData) (d : PyData) : Prop :=
  ∀ vs H Q E, DpAll K H vs ds → G H → (∀ v J, Gr H J → Dp K J v d → Q v J) → sp vs H Q E
theorem pud_call {sp : Sp} {G : Hp → Prop} (hs : GivesD K sp G ds d) (h : PuDs K t σ H ds) (hG : ∀ J, Gr H J → G J) : PuD K (tCall sp [] E t) σ H d :=
  fun H1 e Q q => h H1 e _ fun vs J g p => by
    show sp (vs ++ []) J Q E
    rw [List.append_nil]
    exact hs vs J Q E p (hG J (e.trans g)) fun v J2 g2 p2 => q v J2 (g.trans g2) p2
theorem pud_tup (h : PuDs K t σ H ds) (hl : ds.length ≤ 1000000) : PuD K (tTup t) σ H (.tuple ds) :=
  fun H1 e Q q => h H1 e _ fun vs J g p => ⟨by rw [dps_len p]; exact Nat.le_trans hl (by decide), fun x hx => q _ _ (g.trans (.new hx)) (.tup (SqT.of upd_same) (dps_gr (.new hx) p))⟩
theorem pud_lst (h : PuDs K t σ H ds) (hl : ds.length ≤ 1000000) : PuD K (tLst t) σ H (.list ds) :=
  fun H1 e Q q => h H1 e _ fun vs J g p => ⟨by rw [dps_len p]; exact Nat.le_trans hl (by decide), fun x hx => q _ _ (g.trans (.new hx)) (.lst (SqL.of upd_same) (dps_gr (.new hx) p))⟩
/-- two ints in, by an operator -/
theorem pud_opI {g : Int → Int → V} {dv : PyData} (h1 : PuD K ta σ H (.int i)) (h2 : PuD K tb σ H (.int j)) (hg : ∀ J, Dp K J (g i j) dv) : PuD K (tOp (rI0 g) ta tb) σ H dv :=
  fun H1 e Q q => h1 H1 e _ fun v J g1 p => h2 J (e.trans g1) _ fun w J2 g2 p2 => ⟨i, j, dp_int p, dp_int p2, q _ J2 (g1.trans g2) (hg J2)⟩
theorem pud_opC {C : Int → Int → Prop} {g : Int → Int → V} {dv : PyData} (h1 : PuD K ta σ H (.int i)) (h2 : PuD K tb σ H (.int j)) (hc : C i j) (hg : ∀ J, Dp K J (g i j) dv) : PuD K (tOp (rI C g) ta tb) σ H dv :=
  fun H1 e Q q => h1 H1 e _ fun v J g1 p => h2 J (e.trans g1) _ fun w J2 g2 p2 => ⟨i, j, dp_int p, dp_int p2, hc, q _ J2 (g1.trans g2) (hg J2)⟩
theorem pud_unI {g : Int → V} {dv : PyData} (h1 : PuD K ta σ H (.int i)) (hg : ∀ J, Dp K J (g i) dv) : PuD K (tUn (rU g) ta) σ H dv :=
  fun H1 e Q q => h1 H1 e _ fun v J g1 p => ⟨i, dp_int p, q _ J g1 (hg J)⟩
theorem pud_eqI (h1 : PuD K ta σ H (.int i)) (h2 : PuD K tb σ H (.int j)) : PuD K (tOp rEq ta tb) σ H (.bool (decide (i = j))) :=
  fun H1 e Q q => h1 H1 e _ fun v J g1 p => h2 J (e.trans g1) _ fun w J2 g2 p2 => by
    cases p; cases p2
    refine ⟨rfl, q _ J2 (g1.trans g2) ?_⟩
    have e : decide (V.int i = V.int j) = decide (i = j) := by
      by_cases h : i = j
      · subst h; simp
      · rw [decide_eq_false h, decide_eq_false fun z => h (V.int.inj z)]
    rw [e]; exact .bl _
theorem pud_neI (h1 : PuD K ta σ H (.int i)) (h2 : PuD K tb σ H (.int j)) : PuD K (tOp rNe ta tb) σ H (.bool (!decide (i = j))) :=
  fun H1 e Q q => h1 H1 e _ fun v J g1 p => h2 J (e.trans g1) _ fun w J2 g2 p2 => by
    cases p; cases p2
    refine ⟨rfl, q _ J2 (g1.trans g2) ?_⟩
    have e : decide (V.int i = V.int j) = decide (i = j) := by
      by_cases h : i = j
      · subst h; simp
      · rw [decide_eq_false h, decide_eq_false fun z => h (V.int.inj z)]
    rw [e]; exact .bl _
theorem pud_and (h1 : PuD K ta σ H (.bool a)) (h2 : a = true → PuD K tb σ H (.bool b)) : PuD K (tAndV ta tb) σ H (.bool (a && b)) :=
  fun H1 e Q q => h1 H1 e _ fun v J g1 p => ⟨a, dp_bl p, by
    cases a with
    | true => rw [if_pos rfl]; exact h2 rfl J (e.trans g1) _ fun w J2 g2 p2 => q w J2 (g1.trans g2) p2
    | false => rw [if_neg Bool.false_ne_true]; exact q _ J g1 (.bl false)⟩
theorem pud_or (h1 : PuD K ta σ H (.bool a)) (h2 : a = false → PuD K tb σ H (.bool b)) : PuD K (tOrV ta tb) σ H (.bool (a || b)) :=
  fun H1 e Q q => h1 H1 e _ fun v J g1 p => ⟨a, dp_bl p, by
    cases a with
    | false => rw [if_neg Bool.false_ne_true]; exact h2 rfl J (e.trans g1) _ fun w J2 g2 p2 => q w J2 (g1.trans g2) p2
    | true => rw [if_pos rfl]; exact q _ J g1 (.bl true)⟩
theorem pud_not (h1 : PuD K ta σ H (.bool a)) : PuD K (tNotV ta) σ H (.bool (!a)) :=
  fun H1 e Q q => h1 H1 e _ fun v J g1 p => ⟨a, dp_bl p, q _ J g1 (.bl _)⟩
theorem pud_if {c : Bool} (h : Pb tt σ H c) (h1 : c = true → PuD K ta σ H d) (h2 : c = false → PuD K tb σ H d) : PuD K (tIf tt ta tb) σ H d :=
  fun H1 e Q q => h H1 e _ fun J g1 => by
    cases c with
    | true => rw [if_pos rfl]; exact h1 rfl J (e.trans g1) _ fun w J2 g2 p2 => q w J2 (g1.trans g2) p2
    | false => rw [if_neg Bool.false_ne_true]; exact h2 rfl J (e.trans g1) _ fun w J2 g2 p2 => q w J2 (g1.trans g2) p2
theorem pb_test (h : PuD K te σ H (.bool a)) : Pb (tTest te) σ H a := fun H1 e Q q => h H1 e _ fun v J g p => ⟨a, dp_bl p, q J g⟩
theorem pb_B (h : PuD K te σ H (.bool a)) : Pb (tB te) σ H a := fun H1 e Q q => h H1 e _ fun v J g p => ⟨a, dp_bl p, q J g⟩
theorem pb_not (h : Pb tt σ H a) : Pb (tNot tt) σ H (!a) := fun H1 e Q q => h H1 e _ fun J g => q J g
theorem pb_and (h1 : Pb tt σ H a) (h2 : a = true → Pb tu σ H b) : Pb (tAnd tt tu) σ H (a && b) := fun H1 e Q q => h1 H1 e _ fun J g => by
  cases a with
  | true => rw [if_pos rfl]; exact h2 rfl J (e.trans g) _ fun J2 g2 => q J2 (g.trans g2)
  | false => rw [if_neg Bool.false_ne_true]; exact q J g
theorem pb_or (h1 : Pb tt σ H a) (h2 : a = false → Pb tu σ H b) : Pb (tOr tt tu) σ H (a || b) := fun H1 e Q q => h1 H1 e _ fun J g => by
  cases a with
  | false => rw [if_neg Bool.false_ne_true]; exact h2 rfl J (e.trans g) _ fun J2 g2 => q J2 (g.trans g2)
  | true => rw [if_pos rfl]; exact q J g
/-- a chain of two comparisons of ints -/
theorem pud_chain {r1 r2 : Int → Int → Bool} {k : Int} {tc : TE} (h1 : PuD K ta σ H (.int i)) (h2 : PuD K tb σ H (.int j)) (h3 : PuD K tc σ H (.int k)) :
    PuD K (tChain (rI0 fun x y => .bl (r1 x y)) (rI0 fun x y => .bl (r2 x y)) ta tb tc) σ H (.bool (r1 i j && r2 j k)) :=
  fun H1 e Q q => h1 H1 e _ fun v J g1 p => h2 J (e.trans g1) _ fun w J2 g2 p2 => ⟨i, j, dp_int p, dp_int p2, r1 i j, rfl, by
    cases hr : r1 i j with
    | true =>
      rw [if_pos rfl]
      refine h3 J2 (e.trans (g1.trans g2)) _ fun z J3 g3 p3 => ⟨j, k, dp_int p2, dp_int p3, q _ J3 (g1.trans (g2.trans g3)) ?_⟩
      rw [hr]; exact .bl _
    | false =>
      rw [if_neg Bool.false_ne_true]
      refine q _ J2 (g1.trans g2) ?_
      rw [hr]; exact .bl false⟩
/-- an item by its place -/
theorem pud_ixL {l : List PyData} (h1 : PuD K ta σ H (.list l)) (h2 : PuD K tb σ H (.int i)) (n : Nat) (hi : i = n) (hd : l[n]? = some d) : PuD K (tOp (rIxL K) ta tb) σ H d :=
  fun H1 e Q q => h1 H1 e _ fun v J g1 p => h2 J (e.trans g1) _ fun w J2 g2 p2 => by
    obtain ⟨a, xs, rfl, s, t⟩ := dp_lst p
    obtain ⟨x, hx, px⟩ := dps_at2 t hd
    exact ⟨a, xs, i, x, rfl, dp_int p2, g2.sqL s, by rw [hi]; exact atI_nat hx, q x J2 (g1.trans g2) (dp_gr g2 px)⟩
theorem pud_ixT {l : List PyData} (h1 : PuD K ta σ H (.tuple l)) (h2 : PuD K tb σ H (.int i)) (n : Nat) (hi : i = n) (hd : l[n]? = some d) : PuD K (tOp (rIxT K) ta tb) σ H d :=
  fun H1 e Q q => h1 H1 e _ fun v J g1 p => h2 J (e.trans g1) _ fun w J2 g2 p2 => by
    obtain ⟨a, xs, rfl, s, t⟩ := dp_tup p
    obtain ⟨x, hx, px⟩ := dps_at2 t hd
    exact ⟨a, xs, i, x, rfl, dp_int p2, g2.sqT s, by rw [hi]; exact atI_nat hx, q x J2 (g1.trans g2) (dp_gr g2 px)⟩
/-- len -/
theorem pud_lenL {l : List PyData} (h : PuDs K t σ H [.list l]) : PuD K (tCB (fun xs H Q => ∃ p ys, xs = [.ref p] ∧ (SqL K H p ys ∨ SqT K H p ys) ∧ Q (.int ys.length) H) t) σ H (.int (l.length : Int)) :=
  fun H1 e Q q => h H1 e _ fun vs J g p => by
    cases p with
    | cons p1 p2 =>
      cases p2
      obtain ⟨a, xs, rfl, s, t⟩ := dp_lst p1
      refine ⟨a, xs, rfl, .inl s, q _ J g ?_⟩
      rw [dps_len t]; exact .int _
theorem pud_lenT {l : List PyData} (h : PuDs K t σ H [.tuple l]) : PuD K (tCB (fun xs H Q => ∃ p ys, xs = [.ref p] ∧ (SqL K H p ys ∨ SqT K H p ys) ∧ Q (.int ys.length) H) t) σ H (.int (l.length : Int)) :=
  fun H1 e Q q => h H1 e _ fun vs J g p => by
    cases p with
    | cons p1 p2 =>
      cases p2
      obtain ⟨a, xs, rfl, s, t⟩ := dp_tup p1
      refine ⟨a, xs, rfl, .inr s, q _ J g ?_⟩
      rw [dps_len t]; exact .int _
/-- tuple(list), list(..), sum(list), all(list), any(list) -/
theorem pud_tupleL {l : List PyData} (h : PuDs K t σ H [.list l]) : PuD K (tCB (fun xs H Q => ∃ p ys, xs = [.ref p] ∧ ((SqL K H p ys ∧ ∀ l, H l = none → Q (.ref l) (upd H l (.tup ys))) ∨ (SqT K H p ys ∧ Q (.ref p) H))) t) σ H (.tuple l) :=
  fun H1 e Q q => h H1 e _ fun vs J g p => by
    cases p with
    | cons p1 p2 =>
      cases p2
      obtain ⟨a, xs, rfl, s, t⟩ := dp_lst p1
      exact ⟨a, xs, rfl, .inl ⟨s, fun x hx => q _ _ (g.trans (.new hx)) (.tup (SqT.of upd_same) (dps_gr (.new hx) t))⟩⟩
theorem pud_listT {l : List PyData} (h : PuDs K t σ H [.tuple l]) : PuD K (tCB (fun xs H Q => ∃ p ys, xs = [.ref p] ∧ (SqL K H p ys ∨ SqT K H p ys) ∧ ∀ l, H l = none → Q (.ref l) (upd H l (.lst ys))) t) σ H (.list l) :=
  fun H1 e Q q => h H1 e _ fun vs J g p => by
    cases p with
    | cons p1 p2 =>
      cases p2
      obtain ⟨a, xs, rfl, s, t⟩ := dp_tup p1
      exact ⟨a, xs, rfl, .inr s, fun x hx => q _ _ (g.trans (.new hx)) (.lst (SqL.of upd_same) (dps_gr (.new hx) t))⟩
theorem pud_listL {l : List PyData} (h : PuDs K t σ H [.list l]) : PuD K (tCB (fun xs H Q => ∃ p ys, xs = [.ref p] ∧ (SqL K H p ys ∨ SqT K H p ys) ∧ ∀ l, H l = none → Q (.ref l) (upd H l (.lst ys))) t) σ H (.list l) :=
  fun H1 e Q q => h H1 e _ fun vs J g p => by
    cases p with
    | cons p1 p2 =>
      cases p2
      obtain ⟨a, xs, rfl, s, t⟩ := dp_lst p1
      exact ⟨a, xs, rfl, .inl s, fun x hx => q _ _ (g.trans (.new hx)) (.lst (SqL.of upd_same) (dps_gr (.new hx) t))⟩
theorem pud_sum {ns : List Int} (h : PuDs K t σ H [.list (ns.map .int)]) : PuD K (tCB (rSum K) t) σ H (.int ns.sum) :=
  fun H1 e Q q => h H1 e _ fun vs J g p => by
    cases p with
    | cons p1 p2 =>
      cases p2
      obtain ⟨a, xs, rfl, s, t⟩ := dp_lst p1
      rw [ints_dps t] at s
      exact ⟨a, ns, rfl, s, q _ J g (.int _)⟩
theorem pud_all {ns : List Bool} (h : PuDs K t σ H [.list (ns.map .bool)]) : PuD K (tCB (rAll K) t) σ H (.bool (ns.all id)) :=
  fun H1 e Q q => h H1 e _ fun vs J g p => by
    cases p with
    | cons p1 p2 =>
      cases p2
      obtain ⟨a, xs, rfl, s, t⟩ := dp_lst p1
      rw [bls_dps t] at s
      exact ⟨a, ns, rfl, s, q _ J g (.bl _)⟩
theorem pud_any {ns : List Bool} (h : PuDs K t σ H [.list (ns.map .bool)]) : PuD K (tCB (rAny K) t) σ H (.bool (ns.any id)) :=
  fun H1 e Q q => h H1 e _ fun vs J g p => by
    cases p with
    | cons p1 p2 =>
      cases p2
      obtain ⟨a, xs, rfl, s, t⟩ := dp_lst p1
      rw [bls_dps t] at s
      exact ⟨a, ns, rfl, s, q _ J g (.bl _)⟩
/-- a == b, a != b of data -/
theorem pud_eqD {d1 d2 : PyData} (h1 : PuD K ta σ H d1) (h2 : PuD K tb σ H d2) (s1 : SeqAt.shaped d1 = true) (s2 : SeqAt.shaped d2 = true) : PuD K (tOp (rEqD K) ta tb) σ H (.bool (PyData.eqv d1 d2)) :=
  fun H1 e Q q => h1 H1 e _ fun v J g1 p => h2 J (e.trans g1) _ fun w J2 g2 p2 => ⟨d1, d2, dp_gr g2 p, p2, s1, s2, q _ J2 (g1.trans g2) (.bl _)⟩
theorem pud_neD {d1 d2 : PyData} (h1 : PuD K ta σ H d1) (h2 : PuD K tb σ H d2) (s1 : SeqAt.shaped d1 = true) (s2 : SeqAt.shaped d2 = true) : PuD K (tOp (rNeD K) ta tb) σ H (.bool (!PyData.eqv d1 d2)) :=
  fun H1 e Q q => h1 H1 e _ fun v J g1 p => h2 J (e.trans g1) _ fun w J2 g2 p2 => ⟨d1, d2, dp_gr g2 p, p2, s1, s2, q _ J2 (g1.trans g2) (.bl _)⟩
theorem pud_inD {d1 : PyData} {l : List PyData} (h1 : PuD K ta σ H d1) (h2 : PuD K tb σ H (.list l)) (s1 : SeqAt.shaped d1 = true) (s2 : SeqAt.shaped (.list l) = true) : PuD K (tOp (rInD K) ta tb) σ H (.bool (l.any fun z => PyData.eqv z d1)) :=
  fun H1 e Q q => h1 H1 e _ fun v J g1 p => h2 J (e.trans g1) _ fun w J2 g2 p2 => ⟨d1, l, dp_gr g2 p, p2, s1, s2, q _ J2 (g1.trans g2) (.bl _)⟩
end
/-! ### statements -/
section
variable {K : PySem.W.Frag} {σ : L2.St} {H : Hp} {te : TE} {d : PyData} {D : Ends} {tt : TT} {tu tw tz : TS} {P : V → Hp → Prop}
theorem sq_set {i : Nat} (h : Pu te σ H P) (k : ∀ v J, Gr H J → P v J → D.nx (σ.set i (some v)) J) : tAsg te (gName i) D σ H := h H .refl _ fun v J g p => k v J g p
theorem sq_ret (h : Pu te σ H P) (k : ∀ v J, Gr H J → P v J → D.rt v J) : tRet te D σ H := h H .refl _ fun v J g p => k v J g p
theorem sq_drop (h : Pu te σ H P) (k : ∀ v J, Gr H J → P v J → D.nx σ J) : tDrop te D σ H := h H .refl _ fun v J g p => k v J g p
theorem sq_if {b : Bool} (h : Pb tt σ H b) (h1 : b = true → ∀ J, Gr H J → tu D σ J) (h2 : b = false → ∀ J, Gr H J → tw D σ J) : tIfS tt tu tw D σ H := h H .refl _ fun J g => by
  cases b with
  | true => rw [if_pos rfl]; exact h1 rfl J g
  | false => rw [if_neg Bool.false_ne_true]; exact h2 rfl J g
/-- a, b = a tuple of two -/
theorem sq_two {i j : Nat} {d1 d2 : PyData} (h : PuD K te σ H (.tuple [d1, d2])) (k : ∀ x y J, Gr H J → Dp K J x d1 → Dp K J y d2 → D.nx ((σ.set i (some x)).set j (some y)) J) : tAsg te (gTup K 2 (gCons (gName i) (gCons (gName j) gNil))) D σ H :=
  h H .refl _ fun v J g p => by
    obtain ⟨a, xs, rfl, s, t⟩ := dp_tup p
    cases t with
    | cons h1 t1 =>
      cases t1 with
      | cons h2 t2 =>
        cases t2
        exact ⟨a, _, rfl, s, rfl, _, _, rfl, _, _, rfl, rfl, k _ _ J g h1 h2⟩
end

/-! ### data without lists: lists may change under them -/
mutual
def lf : PyData → Bool
  | .list _ => false
  | .dict _ => false
  | .tuple ds => lfs ds
  | _ => true
def lfs : List PyData → Bool
  | [] => true
  | d :: r => lf d && lfs r
end
theorem lfs_ints : ∀ w : List Int, lfs (w.map PyData.int) = true
  | [] => rfl
  | _ :: r => by show (lf (.int _) && lfs (r.map PyData.int)) = true; rw [lfs_ints r]; rfl
theorem lf_word (w : List Int) : lf (dW w) = true := by show lfs _ = true; exact lfs_ints w
theorem lf_row (r : List Int × Int) : lf (dR r) = true := by
  show (lf (dW r.1) && (lf (.int r.2) && lfs [])) = true
  rw [lf_word]; rfl
theorem lfs_map {α : Type} {f : α → PyData} (h : ∀ a, lf (f a) = true) : ∀ l : List α, lfs (l.map f) = true
  | [] => rfl
  | a :: r => by show (lf (f a) && lfs (r.map f)) = true; rw [h a, lfs_map h r]; rfl
def nLst : HO → Prop
  | .lst _ => False
  | _ => True
/-- all that is no list and no table stays -/
def Gq (H J : Hp) : Prop := ∀ a o, H a = some o → nTbl o → nLst o → J a = some o
theorem Gr.q {H J : Hp} (g : Gr H J) : Gq H J := fun a o h n _ => g.keep a o h n
theorem Gq.trans {A B C : Hp} (x : Gq A B) (y : Gq B C) : Gq A C := fun a o h n m => y a o (x a o h n m) n m
theorem gq_upd {H : Hp} {D : Addr} {xs : List V} {o : HO} (h : H D = some (.lst xs)) : Gq H (upd H D o) := fun a u e _ m => by
  by_cases q : a = D
  · rw [q, h] at e; cases e; exact m.elim
  · rw [upd_ne q]; exact e
section
variable {K : PySem.W.Frag} {H J : Hp}
theorem Gq.sqT (g : Gq H J) {a : Addr} {xs : List V} (h : SqT K H a xs) : SqT K J a xs := by
  rcases h with (h | ⟨o, h⟩) | h
  · exact .inl (.inl (g a _ h True.intro True.intro))
  · exact .inl (.inr ⟨o, g a _ h True.intro True.intro⟩)
  · exact .inr h
mutual
theorem dp_gq (g : Gq H J) : ∀ {v : V} {d : PyData}, lf d = true → Dp K H v d → Dp K J v d
  | _, _, _, .non => .non
  | _, _, _, .bl b => .bl b
  | _, _, _, .int i => .int i
  | _, _, _, .str x => .str x
  | _, _, f, .lst h t => by cases f
  | _, _, f, .tup h t => .tup (g.sqT h) (dps_gq g f t)
theorem dps_gq (g : Gq H J) : ∀ {vs : List V} {ds : List PyData}, lfs ds = true → DpAll K H vs ds → DpAll K J vs ds
  | _, _, _, .nil => .nil
  | _, _, f, .cons h t => by
    have f2 := Bool.and_eq_true_iff.mp f
    exact .cons (dp_gq g f2.1 h) (dps_gq g f2.2 t)
end
end

/-! ### what a loop goes over -/
/-- the source yields l, item by item, each as R tells -/
def SrcL {α : Type} (wi : TI) (σ : L2.St) (H : Hp) (l : List α) (R : α → V → Hp → Prop) : Prop :=
  ∀ H0, Gr H H0 → ∀ C : It → Hp → Prop, (∀ J H1, Gr H0 H1 → Walk J l.length (Gr H1) (fun i A x B => Gr A B ∧ ∃ a, l[i]? = some a ∧ R a x B) → C J H1) → wi σ H0 C
section
variable {K : PySem.W.Frag} {σ : L2.St} {H : Hp} {te tl : TE} {ta : TA}
theorem src_list {α : Type} {l : List α} {enc : α → PyData} (h : PuD K tl σ H (.list (l.map enc))) : SrcL (iList K tl) σ H l fun a x B => Dp K B x (enc a) :=
  fun H0 e0 C c => h H0 e0 _ fun v J g p => by
    obtain ⟨a, xs, rfl, s, t⟩ := dp_lst p
    have hl : xs.length = l.length := by rw [dps_len t, List.length_map]
    refine ⟨a, rfl, ⟨xs, s⟩, c _ J g ?_⟩
    rw [← hl]
    refine walk_list.mono (fun B gb => gb.sqL s) fun i A x B hi ga y => ?_
    obtain ⟨rfl, hx⟩ := y
    obtain ⟨d, hd, hp⟩ := dps_at t hx
    rw [List.getElem?_map] at hd
    obtain ⟨b, hb, e⟩ := Option.map_eq_some_iff.mp hd
    subst e; exact ⟨.refl, b, hb, dp_gr ga hp⟩
theorem src_tup {α : Type} {l : List α} {enc : α → PyData} (h : PuD K tl σ H (.tuple (l.map enc))) : SrcL (iTup K tl) σ H l fun a x B => Dp K B x (enc a) :=
  fun H0 e0 C c => h H0 e0 _ fun v J g p => by
    obtain ⟨a, xs, rfl, s, t⟩ := dp_tup p
    have hl : xs.length = l.length := by rw [dps_len t, List.length_map]
    refine ⟨a, rfl, ⟨xs, s⟩, c _ J g ?_⟩
    rw [← hl]
    refine walk_tup.mono (fun B gb => gb.sqT s) fun i A x B hi ga y => ?_
    obtain ⟨rfl, hx⟩ := y
    obtain ⟨d, hd, hp⟩ := dps_at t hx
    rw [List.getElem?_map] at hd
    obtain ⟨b, hb, e⟩ := Option.map_eq_some_iff.mp hd
    subst e; exact ⟨.refl, b, hb, dp_gr ga hp⟩
theorem src_rng1 {n : Nat} (h : PuA ta σ H fun vs _ => vs = [.int (n : Int)]) (hn : n ≤ 1000000) : SrcL (iRng1 ta) σ H (List.range n) fun i x _ => x = .int (i : Int) :=
  fun H0 e0 C c => h H0 e0 _ fun vs J g p => by
    subst p
    refine ⟨n, rfl, by omega, by omega, c _ J g ?_⟩
    rw [List.length_range]
    refine (walk_range (lo := 0) (n := n)).mono (fun _ _ => True.intro) fun i A x B hi _ y => ?_
    obtain ⟨rfl, e⟩ := y
    exact ⟨.refl, i, by simp [hi], by show x = V.int (i : Int); rw [e]; simp⟩
theorem src_rng2 {lo hi : Int} (h : PuA ta σ H fun vs _ => vs = [.int lo, .int hi]) (hl : -1000000 ≤ lo ∧ lo ≤ 1000000 ∧ -1000000 ≤ hi ∧ hi ≤ 1000000) :
    SrcL (iRng2 ta) σ H (List.range (hi - lo).toNat) fun i x _ => x = .int (lo + (i : Int)) :=
  fun H0 e0 C c => h H0 e0 _ fun vs J g p => by
    subst p
    refine ⟨lo, hi, rfl, ⟨by omega, by omega, by omega, by omega⟩, c _ J g ?_⟩
    rw [List.length_range]
    refine (walk_range (lo := lo) (n := (hi - lo).toNat)).mono (fun _ _ => True.intro) fun i A x B hi _ y => ?_
    obtain ⟨rfl, e⟩ := y
    exact ⟨.refl, i, by simp [hi], e⟩
/-- two words, side by side -/
theorem src_zip {w o : List Int} (h : PuDs K ta σ H [dW w, dW o]) :
    SrcL (RZ.iZipA K ta) σ H (w.zip o) fun p v B => ∃ T, v = .ref T ∧ B T = some (.tup [.int p.1, .int p.2]) :=
  fun H0 e0 C c => h H0 e0 _ fun vs J g p => by
    obtain _ | ⟨pa, _ | ⟨pb, _ | _⟩⟩ := p
    obtain ⟨a, rfl, sa⟩ := dp_word pa
    obtain ⟨b, rfl, sb⟩ := dp_word pb
    refine ⟨a, b, _, _, rfl, .inr ⟨sa, sb, c _ J g ?_⟩⟩
    refine ⟨fun i A hi ga => ?_, fun A ga => ?_, fun i A v B hi ga y => ?_⟩
    · have h1 := hi
      rw [List.length_zip] at h1
      exact ⟨_, _, .int (w[i]'(by omega)), .int (o[i]'(by omega)), ga.sqT sa, ga.sqT sb, by simp, by simp⟩
    · exact ⟨_, _, ga.sqT sa, ga.sqT sb, by simp only [List.length_map, List.length_zip]; omega⟩
    · obtain ⟨T, x, y, rfl, hT, rfl, h1, h2⟩ := y
      have e1 := h1 _ (ga.sqT sa)
      have e2 := h2 _ (ga.sqT sb)
      rw [List.getElem?_map] at e1 e2
      obtain ⟨m, hm, rfl⟩ := Option.map_eq_some_iff.mp e1
      obtain ⟨n, hn, rfl⟩ := Option.map_eq_some_iff.mp e2
      exact ⟨Gr.new hT, (m, n), List.getElem?_zip_eq_some.mpr ⟨hm, hn⟩, T, rfl, upd_same⟩
end

/-! ### comprehensions -/
theorem take_more {α : Type} {l : List α} {i : Nat} {a : α} (h : l[i]? = some a) : l.take (i + 1) = l.take i ++ [a] := by
  rw [List.take_succ, h]; rfl
section
variable {K : PySem.W.Frag} {σ : L2.St} {H : Hp} {wi : TI} {tt : TT} {te : TE} {vs : List Nat}
theorem pu_lc {α : Type} {l : List α} {R : α → V → Hp → Prop} {g : TG} {keep : α → Bool} {el : α → PyData} (hs : SrcL wi σ H l R) (hl : l.length ≤ 1000000) (hf : ∀ a ∈ l, keep a = true → lf (el a) = true)
    (ht : ∀ a ∈ l, ∀ x J, Gr H J → R a x J → ∃ σ2, wipe σ2 vs = wipe σ vs ∧ (∀ C : L2.St → Hp → Prop, C σ2 J → g x (wipe σ vs) J C) ∧ Pb tt σ2 J (keep a) ∧ (keep a = true → PuD K te σ2 J (el a))) :
    PuD K (tLc wi g tt te vs) σ H (.list ((l.filter keep).map el)) := fun H0 e0 Q q => hs H0 e0 _ fun I H1 g1 w D hD => by
  refine lc_it w (fun i A => Gr H1 A ∧ ∃ acc, A D = some (.lst acc) ∧ DpAll K A acc (((l.take i).filter keep).map el)) ⟨.new hD, [], upd_same, by simp only [List.take_zero]; exact .nil⟩ (fun _ _ _ p => p.1) ?_ ?_
  · rintro i x A B hi ⟨ga, acc, ea, da⟩ ⟨gab, a, ha, hR⟩
    have hm : a ∈ l := List.mem_of_getElem? ha
    obtain ⟨σ2, hw, hg, hb, he⟩ := ht a hm x B (e0.trans (g1.trans (ga.trans gab))) hR
    have hlen : acc.length ≤ l.length := by
      rw [dps_len da, List.length_map]
      exact Nat.le_trans (List.length_filter_le _ _) (by rw [List.length_take]; omega)
    refine hg _ ⟨hw, hb B .refl _ fun J gj => ?_⟩
    have et := take_more ha
    cases hk : keep a with
    | false =>
      rw [if_neg Bool.false_ne_true]
      refine ⟨ga.trans (gab.trans gj), acc, gj.lst (gab.lst ea), ?_⟩
      rw [et, List.filter_append, List.filter_cons_of_neg (by rw [hk]; decide), List.filter_nil, List.append_nil]
      exact dps_gr (gab.trans gj) da
    | true =>
      rw [if_pos rfl]
      refine he hk J gj _ fun y J2 g2 dy => ?_
      have eD : J2 D = some (.lst acc) := g2.lst (gj.lst (gab.lst ea))
      refine ⟨acc, eD, Nat.lt_of_le_of_lt (Nat.le_trans hlen hl) (by decide), (ga.trans (gab.trans (gj.trans g2))).mut hD, acc ++ [y], upd_same, ?_⟩
      rw [et, List.filter_append, List.filter_cons_of_pos hk, List.filter_nil, List.map_append]
      have gq : Gq J2 (upd J2 D (.lst (acc ++ [y]))) := gq_upd eD
      refine dps_app (dps_gq gq ?_ (dps_gr (gab.trans (gj.trans g2)) da)) (dps_one (dp_gq gq (hf a hm hk) dy))
      have : ∀ m : List α, (∀ b ∈ m, b ∈ l) → lfs ((m.filter keep).map el) = true := by
        intro m
        induction m with
        | nil => intro _; rfl
        | cons b r ih =>
          intro hm2
          cases hb2 : keep b with
          | false => rw [List.filter_cons_of_neg (by rw [hb2]; decide)]; exact ih fun c hc => hm2 c (List.mem_cons_of_mem _ hc)
          | true =>
            rw [List.filter_cons_of_pos hb2]
            show (lf (el b) && lfs _) = true
            rw [hf b (hm2 b List.mem_cons_self) hb2, ih fun c hc => hm2 c (List.mem_cons_of_mem _ hc)]; rfl
      exact this _ fun b hb2 => List.mem_of_mem_take hb2
  · rintro A ⟨ga, acc, ea, da⟩
    rw [List.take_length] at da
    exact q _ A (g1.trans ga) (.lst (SqL.of ea) da)
theorem pb_yes : Pb tYes σ H true := fun H1 _ Q q => q H1 .refl
theorem filter_yes {α : Type} (l : List α) : l.filter (fun _ => true) = l := List.filter_eq_self.mpr fun _ _ => rfl
/-- the target a name, no test -/
theorem pu_lcN {α : Type} {l : List α} {R : α → V → Hp → Prop} {j : Nat} {el : α → PyData} (hs : SrcL wi σ H l R) (hl : l.length ≤ 1000000) (hf : ∀ a ∈ l, lf (el a) = true)
    (hw : ∀ x, wipe ((wipe σ vs).set j (some x)) vs = wipe σ vs) (he : ∀ a ∈ l, ∀ x J, Gr H J → R a x J → PuD K te ((wipe σ vs).set j (some x)) J (el a)) :
    PuD K (tLc wi (gName j) tYes te vs) σ H (.list (l.map el)) := by
  have := pu_lc (K := K) (te := te) (g := gName j) (tt := tYes) (vs := vs) (keep := fun _ => true) (el := el) hs hl (fun a h _ => hf a h) fun a h x J gj r =>
    ⟨(wipe σ vs).set j (some x), hw x, fun C c => c, pb_yes, fun _ => he a h x J gj r⟩
  rwa [filter_yes] at this
/-- the target a name, a test -/
theorem pu_lcT {α : Type} {l : List α} {R : α → V → Hp → Prop} {j : Nat} {keep : α → Bool} {el : α → PyData} (hs : SrcL wi σ H l R) (hl : l.length ≤ 1000000) (hf : ∀ a ∈ l, lf (el a) = true)
    (hw : ∀ x, wipe ((wipe σ vs).set j (some x)) vs = wipe σ vs) (hb : ∀ a ∈ l, ∀ x J, Gr H J → R a x J → Pb tt ((wipe σ vs).set j (some x)) J (keep a))
    (he : ∀ a ∈ l, keep a = true → ∀ x J, Gr H J → R a x J → PuD K te ((wipe σ vs).set j (some x)) J (el a)) :
    PuD K (tLc wi (gName j) tt te vs) σ H (.list ((l.filter keep).map el)) :=
  pu_lc hs hl (fun a h _ => hf a h) fun a h x J gj r => ⟨(wipe σ vs).set j (some x), hw x, fun C c => c, hb a h x J gj r, fun k => he a h k x J gj r⟩
/-- the target a pair of names, no test -/
theorem pu_lcP {α : Type} {l : List α} {R : α → V → Hp → Prop} {i j : Nat} {el : α → PyData} (hs : SrcL wi σ H l R) (hl : l.length ≤ 1000000) (hf : ∀ a ∈ l, lf (el a) = true)
    (hw : ∀ x y, wipe (((wipe σ vs).set i (some x)).set j (some y)) vs = wipe σ vs)
    (he : ∀ a ∈ l, ∀ v J, Gr H J → R a v J → ∃ T x y, v = .ref T ∧ SqT K J T [x, y] ∧ PuD K te (((wipe σ vs).set i (some x)).set j (some y)) J (el a)) :
    PuD K (tLc wi (gTup K 2 (gCons (gName i) (gCons (gName j) gNil))) tYes te vs) σ H (.list (l.map el)) := by
  have := pu_lc (K := K) (te := te) (g := gTup K 2 (gCons (gName i) (gCons (gName j) gNil))) (tt := tYes) (vs := vs) (keep := fun _ => true) (el := el) hs hl (fun a h _ => hf a h) fun a h v J gj r => by
    obtain ⟨T, x, y, rfl, hT, k⟩ := he a h v J gj r
    exact ⟨((wipe σ vs).set i (some x)).set j (some y), hw x y, fun C c => ⟨T, [x, y], rfl, hT, rfl, x, [y], rfl, y, [], rfl, rfl, c⟩, pb_yes, fun _ => k⟩
  rwa [filter_yes] at this
end
end Km
section
set_option linter.all false
set_option autoImplicit false
/-! the functions of the text over words, in plain Lean -/
namespace Km
def Prm (p : Int) : Prop := p = 2 ∨ p = 3 ∨ p = 5 ∨ p = 7
/-- the entries stand from 0 to p - 1 -/
def WR (p : Int) (w : List Int) : Prop := ∀ e ∈ w, 0 ≤ e ∧ e < p
def isZ (w : List Int) : Bool := (w.map fun e => decide (e = 0)).all id
def lead (w : List Int) : Nat := w.findIdx fun e => !decide (e = 0)
def inv (p e : Int) : Int := match (List.range (p - 1).toNat).find? fun (i : Nat) => decide ((1 + (i : Int)) * e % p = 1) with
  | some i => 1 + (i : Int)
  | none => 1
def mul (p : Int) (w : List Int) (b : Int) : List Int := w.map fun e => b * e % p
def sumW (p : Int) (w o : List Int) (b : Int) : List Int := (w.zip o).map fun x => (x.1 + b * x.2) % p
def dot (p : Int) (w l : List Int) : Int := ((w.zip l).map fun x => x.1 * x.2).sum % p
def norm (p : Int) (w : List Int) : List Int := if lead w = w.length then w else mul p w (inv p (w.getD (lead w) 0))
abbrev Row := List Int × Int
def restStep (p : Int) (ws : Row) (r : Row) : Row :=
  (sumW p ws.1 r.1 ((-(ws.1.getD (lead r.1) 0)) % p), (ws.2 + ((-(ws.1.getD (lead r.1) 0)) % p) * r.2) % p)
def restOf (p : Int) (rows : List Row) (r : Row) : Row := rows.foldl (restStep p) r
def newRow (p : Int) (r : Row) : Row := (mul p r.1 (inv p (r.1.getD (lead r.1) 0)), inv p (r.1.getD (lead r.1) 0) * r.2 % p)
/-- a good row for k factors -/
structure RowOk (p : Int) (k : Nat) (r : Row) : Prop where
  len : r.1.length = k
  ent : WR p r.1
  side : 0 ≤ r.2 ∧ r.2 < p
/-- reduced rows -/
structure Red (p : Int) (k : Nat) (rows : List Row) : Prop where
  ok : ∀ r ∈ rows, RowOk p k r
  lt : ∀ r ∈ rows, lead r.1 < k
  one : ∀ r ∈ rows, r.1.getD (lead r.1) 0 = 1
  off : rows.Pairwise fun a b => a.1.getD (lead b.1) 0 = 0 ∧ b.1.getD (lead a.1) 0 = 0
  asc : rows.Pairwise fun a b => lead a.1 < lead b.1
/-- all words for k factors, ascending -/
def wordsOf (p : Nat) : Nat → List (List Int)
  | 0 => [[]]
  | k + 1 => (wordsOf p k).flatMap fun w => (List.range p).map fun (e : Nat) => w ++ [(e : Int)]
def fulfils (p : Int) (rows : List Row) (x : List Int) : Bool := rows.all fun r => decide (dot p r.1 x = r.2)
def runsOf (p : Int) (k : Nat) (rows : List Row) : List (List Int) := (wordsOf p.toNat k).filter (fulfils p rows)
end Km
end
set_option Elab.async false
set_option linter.all false
set_option maxRecDepth 100000
set_option maxHeartbeats 2000000
set_option autoImplicit false
namespace Km
open PySem PySem.Spec PyProof.Rows L2

/-! ### the text -/
def top (i : Nat) : Stmt := PySem.Challenge.pw_worthstead_k68_whole_right_plans.main.body.getD i (.Pass ⟨0, 0, 0, 0⟩)
/-- the built-in names that the text uses are free -/
structure Bl (mg : Str → Option Value) : Prop where
  isinstance : mg "isinstance" = none
  int : mg "int" = none
  bool : mg "bool" = none
  str : mg "str" = none
  tuple : mg "tuple" = none
  list : mg "list" = none
  len : mg "len" = none
  all : mg "all" = none
  any : mg "any" = none
  next : mg "next" = none
  enumerate : mg "enumerate" = none
  zip : mg "zip" = none
  range : mg "range" = none
  sum : mg "sum" = none
  sorted : mg "sorted" = none
  max : mg "max" = none
  min : mg "min" = none
  abs : mg "abs" = none
/-- a def of the text, as the top left it -/
structure Df (K : PySem.W.Frag) (mg : Str → Option Value) (x : Str) (st : Stmt) (ps : List Str) : Prop where
  ex : ∃ f fd, mg x = some (.ref f) ∧ Fun K x x st f fd ∧ Binds K fd ps []
/-- .. keeps a promise -/
structure Ok (P : Program) (w : World) (K : PySem.W.Frag) (mg : Str → Option Value) (base : Heap) (CX : CXT) (k : Nat) (x : Str) (ps : List Str) (sp : Sp) : Prop where
  ex : ∃ f fd, mg x = some (.ref f) ∧ PySem.W.keepIn K (.ref f) = true ∧ Binds K fd ps [] ∧ FnOk P w K mg base CX k f fd ps sp
/-- the promise of a def that reckons data from data -/
def sPD (K : PySem.W.Frag) (G : Hp → Prop) (ρ : List PyData → PyData → Prop) : Sp := fun vs H Q _ => ∃ ds d, DpAll K H vs ds ∧ ρ ds d ∧ G H ∧ ∀ v J, Gr H J → Dp K J v d → Q v J
theorem gives {K : PySem.W.Frag} {G : Hp → Prop} {ρ : List PyData → PyData → Prop} {ds : List PyData} {d : PyData} (h : ρ ds d) : GivesD K (sPD K G ρ) G ds d :=
  fun _ _ _ _ hd hG k => ⟨ds, d, hd, h, hG, k⟩
abbrev gT : Hp → Prop := fun _ => True
section
variable {P : Program} {w : World} {K : PySem.W.Frag} {mg : Str → Option Value} {base : Heap} {CX : CXT}
theorem Df.ok {x : Str} {st : Stmt} {ps : List Str} {k : Nat} {sp : Sp} (D : Df K mg x st ps) (h : ∀ f fd, Fun K x x st f fd → FnOk P w K mg base CX k f fd ps sp) : Ok P w K mg base CX k x ps sp := by
  obtain ⟨f, fd, hm, F, hb⟩ := D.ex
  exact ⟨f, fd, hm, F.kp, hb, h f fd F⟩
theorem pe_ok {X : Cx} {k : Nat} {x : Str} {ps : List Str} {sp : Sp} {E : XK} {p pos : Pos} {e : Expr} {es : List Expr} {t : TA} (O : Ok X.prog X.w X.K X.mg X.base CX k x ps sp) (hr : Room k X.A) (hg : Gl X x) (hx : Passes CX X E)
    (ha : PA X (e :: es) t) (hdb : (x == ("__debug__" : Str)) = false := by decide) (he : starEach (e :: es) X.env = (false, eval e X.env) :: starEach es X.env := by rfl) (hpl : (backTo pos (starEach es X.env)).any (·.1) = false := by rfl) :
    PE X (.Call (.Name x p) (e :: es) [] pos) (tCall sp [] E t) := by
  obtain ⟨f, fd, hm, kp, hb, F⟩ := O.ex
  exact pe_call F hr hg hm kp hb .nil hx ha hdb he hpl
theorem okD {x : Str} {st : Stmt} {N ps : List Str} {k : Nat} {G : Hp → Prop} {ρ : List PyData → PyData → Prop} (D : Df K mg x st ps) (S : FnScope N ps (defScope st)) (hl : ∀ ds d, ρ ds d → ds.length = ps.length)
    (hb : ∀ (f : Addr) (cdv : Value) (A : Around) (outer : List Env) (s : Shared) (H : Hp) (vs : List V) (Q : VK) (E : XK) (ds : List PyData) (d : PyData), Room k (A.deeper (envOfC x (defScope st) s.heap.objs.size f cdv)) →
      DpAll K H vs ds → ρ ds d → G H → (∀ v J, Gr H J → Dp K J v d → Q v J) →
      ∃ t, PSs (cxOf CX0 P w K mg base N x (defScope st) f cdv A outer s H E).nox (defBody st) t ∧ t { nx := fun _ H' => Q .non H', rt := Q } (start N vs) H) :
    Ok P w K mg base CX0 (k + 1) x ps (sPD K G ρ) := D.ok fun f fd F =>
  F.ok S (fun vs H Q E h => by obtain ⟨ds, d, hd, r, _⟩ := h; rw [dps_len hd]; exact hl ds d r) fun cdv A outer s H vs Q E hr h => by
    obtain ⟨ds, d, hd, r, hG, k⟩ := h
    exact hb f cdv A outer s H vs Q E ds d hr hd r hG k
end

/-! ### what kind of thing -/
section
variable {K : PySem.W.Frag} {H : Hp} {a : Addr} {xs : List V} {σ : L2.St}
theorem tyT (h : SqT K H a xs) : TyX K H (.ref a) (.type "tuple") := by
  rcases h with (h | ⟨o, h⟩) | ⟨o, _, _, h, c, _⟩
  · exact .base (.tup h)
  · exact .fTuple h
  · exact .kTuple h c
theorem tyD {v : V} {ds : List PyData} (h : Dp K H v (.tuple ds)) : TyX K H v (.type "tuple") := by
  obtain ⟨a, xs, rfl, s, _⟩ := dp_tup h
  exact tyT s
theorem pud_is {te : TE} {d d2 : PyData} (h : PuD K te σ H d) (e : d = d2) : PuD K te σ H d2 := e ▸ h
theorem pb_is {tt : TT} {b c : Bool} (h : Pb tt σ H b) (e : b = c) : Pb tt σ H c := e ▸ h
theorem pud_isi {ta : TA} {n : String} {T : String} {b : Bool} (h : PuA ta σ H fun vs J => ∃ v, vs = [v, .ty n] ∧ TyX K J v (.type T)) (hk : kitB T n = some b) : PuD K (tCB (rIsi K) ta) σ H (.bool b) :=
  fun H1 e Q q => h H1 e _ fun vs J g p => by
    obtain ⟨v, rfl, ty⟩ := p
    exact ⟨v, .ty n, .type T, .type n, b, rfl, .ty n, ty, kit_ty hk, q _ J g (.bl b)⟩
theorem pua_isi {te tn : TE} {n : String} {T : String} {d : PyData} (h : PuD K te σ H d) (hn : Pu tn σ H fun x _ => x = .ty n) (ht : ∀ v J, Dp K J v d → TyX K J v (.type T)) :
    PuA (tCons te (tCons tn tNil)) σ H fun vs J => ∃ v, vs = [v, .ty n] ∧ TyX K J v (.type T) :=
  fun H1 e Q q => h H1 e _ fun x J g p => hn J (e.trans g) _ fun y J2 g2 p2 => by
    subst p2
    exact q _ J2 (g.trans g2) ⟨x, rfl, ht x J2 (dp_gr g2 p)⟩
/-- isinstance(an int, int), (an int, bool), (a tuple, tuple), (a text, str) -/
theorem pud_isII {te tn : TE} {i : Int} (h : PuD K te σ H (.int i)) (hn : Pu tn σ H fun x _ => x = .ty "int") : PuD K (tCB (rIsi K) (tCons te (tCons tn tNil))) σ H (.bool true) :=
  pud_isi (pua_isi h hn fun v J p => by rw [dp_int p]; exact .base (.int i)) (by decide +kernel)
theorem pud_isIB {te tn : TE} {i : Int} (h : PuD K te σ H (.int i)) (hn : Pu tn σ H fun x _ => x = .ty "bool") : PuD K (tCB (rIsi K) (tCons te (tCons tn tNil))) σ H (.bool false) :=
  pud_isi (pua_isi h hn fun v J p => by rw [dp_int p]; exact .base (.int i)) (by decide +kernel)
theorem pud_isTT {te tn : TE} {ds : List PyData} (h : PuD K te σ H (.tuple ds)) (hn : Pu tn σ H fun x _ => x = .ty "tuple") : PuD K (tCB (rIsi K) (tCons te (tCons tn tNil))) σ H (.bool true) :=
  pud_isi (pua_isi h hn fun v J p => tyD p) (by decide +kernel)
theorem pud_isSS {te tn : TE} {z : Str} (h : PuD K te σ H (.str z)) (hn : Pu tn σ H fun x _ => x = .ty "str") : PuD K (tCB (rIsi K) (tCons te (tCons tn tNil))) σ H (.bool true) :=
  pud_isi (pua_isi h hn fun v J p => by rw [dp_str p]; exact .base (.str z)) (by decide +kernel)
/-- sums, differences, products, remainders of ints -/
theorem pud_add {ta tb : TE} {i j : Int} (h1 : PuD K ta σ H (.int i)) (h2 : PuD K tb σ H (.int j)) : PuD K (tOp (rI0 fun i j => .int (i + j)) ta tb) σ H (.int (i + j)) := pud_opI h1 h2 fun _ => .int _
theorem pud_sub {ta tb : TE} {i j : Int} (h1 : PuD K ta σ H (.int i)) (h2 : PuD K tb σ H (.int j)) : PuD K (tOp (rI0 fun i j => .int (i - j)) ta tb) σ H (.int (i - j)) := pud_opI h1 h2 fun _ => .int _
theorem pud_mul {ta tb : TE} {i j : Int} (h1 : PuD K ta σ H (.int i)) (h2 : PuD K tb σ H (.int j)) (hc : CMul i j) : PuD K (tOp (rI CMul fun i j => .int (i * j)) ta tb) σ H (.int (i * j)) := pud_opC h1 h2 hc fun _ => .int _
theorem pud_mod {ta tb : TE} {i j : Int} (h1 : PuD K ta σ H (.int i)) (h2 : PuD K tb σ H (.int j)) (hc : 0 < j) : PuD K (tOp (rI (fun _ j => 0 < j) fun i j => .int (i % j)) ta tb) σ H (.int (i % j)) := pud_opC h1 h2 hc fun _ => .int _
theorem mulL {i j : Int} (h : -1000 ≤ i ∧ i ≤ 1000) : CMul i j := .inl ⟨by omega, by omega⟩
theorem mulR {i j : Int} (h : -1000 ≤ j ∧ j ≤ 1000) : CMul i j := .inr ⟨by omega, by omega⟩
/-- a pair that was yielded -/
theorem pair_sq {T : Addr} {J : Hp} {x y : V} (h : J T = some (.tup [x, y])) : SqT K J T [x, y] := SqT.of h
end
theorem Prm.pos {p : Int} (h : Prm p) : 2 ≤ p ∧ p ≤ 7 := by rcases h with h | h | h | h <;> omega
theorem WR.small {p : Int} {w : List Int} (h : WR p w) (hp : Prm p) {e : Int} (he : e ∈ w) : -1000 ≤ e ∧ e ≤ 1000 := by
  have := h e he; have := hp.pos; omega

end Km
set_option Elab.async false
set_option linter.all false
set_option maxRecDepth 100000
set_option maxHeartbeats 2000000
set_option autoImplicit false
/-! enumerate of a tuple -/
namespace Km
open PySem PySem.Spec PyProof.Rows L2
open PySem.Sem (wp)

theorem meets_enumB {v : Value} {o : Obj} {hp0 : Heap → Prop} (bg : Begins v o hp0) :
    Meets (Builtin.«enumerate.__new__» ⟨[.type "enumerate", v], []⟩) (fun _ R s => hp0 s.heap ∧
      R (.ok (.ret (.ref (s.heap.push o).objs.size))) { s with heap := (s.heap.push o).push { cls := .type "enumerate", data := .fields #[.none, .bool false, .ref s.heap.objs.size, rawInt 0, .none, .none] } }) :=
  .of_wp fun prog w A R s hyp => by
    obtain ⟨hh, gg, dd, tk, os⟩ := s
    obtain ⟨h1, hyp⟩ := hyp
    have hsub := sub_enumerate
    have itr : ∀ {A' : Around} {E : Value → Shared → Prop} {Q : Value → Shared → Prop}, Q (.ref hh.objs.size) ⟨hh.push o, gg, dd, tk, os⟩ → wpAny (model prog w) A' (pyIter v) Q E ⟨hh, gg, dd, tk, os⟩ :=
      fun q => bg.iter prog w _ _ ⟨hh, gg, dd, tk, os⟩ _ h1 q
    wp_walk using itr
    refine wpAny_stack_any fun _ => wpAny_pure ?_
    split
    · rename_i c _ _ _ _ _
      cases (c == Value.type "enumerate") <;> (wp_walk using itr) <;> exact ⟨_, rfl, hyp⟩
    · wp_walk using itr
      exact ⟨_, rfl, hyp⟩
theorem call_enumB {prog : Program} {w : World} {A : Around} {E : Value → Shared → Prop} {s : Shared} {v : Value} {o : Obj} {hp0 : Heap → Prop} {Q : Value → Shared → Prop} (bg : Begins v o hp0) (h1 : hp0 s.heap)
    (h : ∀ h', IsEnum h' (s.heap.objs.size + 1) s.heap.objs.size 0 .none → h'.get? s.heap.objs.size = some o → h'.objs.size = s.heap.objs.size + 2 →
      (∀ b u, s.heap.get? b = some u → h'.get? b = some u) → Q (.ref (s.heap.objs.size + 1)) { s with heap := h' }) :
    wpAny (model prog w) A (call (.type "enumerate") [v]) Q E s := by
  refine callType_new F.called_enumerate (by decide) (F.typeCall_enumerate_1 _) (F.newCall_enumerate_1 _) (fun ob => F.args_object_init_2 ob _) F.entry_enumerate_new (meets_enumB bg) ⟨h1, ?_⟩
  have sz : (s.heap.push o).objs.size = s.heap.objs.size + 1 := Heap.size_push ..
  show _ ∧ _
  rw [sz]
  have en : IsEnum ((s.heap.push o).push { cls := .type "enumerate", data := .fields #[.none, .bool false, .ref s.heap.objs.size, rawInt 0, .none, .none] }) (s.heap.objs.size + 1) s.heap.objs.size 0 .none := by
    have q := Heap.get?_push_size (s.heap.push o) (o := { cls := .type "enumerate", data := .fields #[.none, .bool false, .ref s.heap.objs.size, rawInt 0, .none, .none] }) rfl
    rw [sz] at q; exact q
  exact ⟨⟨_, en, rfl⟩, h _ en (Heap.get?_push_of_some _ (Heap.get?_push_size _ bg.free)) (by rw [Heap.size_push, sz]) fun b u x => Heap.get?_push_of_some _ (Heap.get?_push_of_some _ x)⟩

/-! ### for i, x in enumerate(a tuple) -/
def IteT (K : PySem.W.Frag) (a : Addr) : It :=
  ⟨fun i H => ∃ (xs : List V) (x : V), SqT K H a xs ∧ xs[i]? = some x,
   fun i H v J => ∃ T x, v = .ref T ∧ H T = none ∧ J = upd H T (.tup [.int (i : Nat), x]) ∧ ∀ xs, SqT K H a xs → xs[i]? = some x,
   fun i H => ∃ xs : List V, SqT K H a xs ∧ xs.length ≤ i⟩
theorem turn_enumT {P : Program} {w : World} {K : PySem.W.Frag} {elts : List Expr} {kk : Nat} {tpos : Pos} (a e it : Addr) (hae : a ≠ e) (hai : a ≠ it) :
    Turn P w K (.Tuple elts kk tpos) (IteT K a) [e, it] e (fun i h => (∃ old, IsEnum h e it ((i : Nat) : Int) old) ∧ h.IsTupleIter it a i ∧ e ≠ it) where
  mem := by simp
  obj := fun i h st b hb => by
    obtain ⟨⟨old, he⟩, ⟨o, ho, hc, hd⟩, _⟩ := st
    rcases (show b = e ∨ b = it by simpa using hb) with z | z
    · subst z; exact ⟨_, he, fun v q => nomatch q⟩
    · subst z; exact ⟨o, ho, fun v q => by rw [hd] at q; cases q⟩
  keep := fun i h h' st k => ⟨⟨st.1.choose, k e (by simp) _ st.1.choose_spec⟩, st.2.1.at fun o q => k it (by simp) o q, st.2.2⟩
  item := by
    intro X hP hw hK hc i pins s σ H E I hf st hg
    subst hP hw hK
    obtain ⟨⟨old, he⟩, hit, hne⟩ := st
    obtain ⟨xs, x, hq, hx⟩ := hg
    obtain ⟨its, rv, p, hz⟩ := I.tuple hq
    have pt : s.heap.IsTuple a its.toArray := p
    obtain ⟨u, hu, ru⟩ := rv.get hx
    have hel : e < s.heap.objs.size := Heap.lt_size he
    have hlt : i < its.toArray.size := by
      have := (List.getElem?_eq_some_iff.mp hu).1
      simpa using this
    refine wpAny_pyNext_enum_itemD (Draws.tuple (A := X.A.in1) (I.ok.hd hc) it a hai its.toArray) he ⟨hit, pt⟩ hlt hne (by simp; exact ⟨hne, Ne.symm hae⟩) fun y h' tk hy ho hst hT hsz hk => ?_
    have ey : y = u := by
      have hy' : its[i]? = some y := by simpa using hy
      rw [hu] at hy'; exact (Option.some.inj hy').symm
    subst ey
    refine ⟨_, rfl, wpAny_letOwnedTupleGo_enum (s := { s with heap := h', toks := tk + 1 }) ho fun h'' he' sb => ?_⟩
    have hT2 : h''.get? s.heap.objs.size = some { cls := .type "tuple", data := .seq #[.int i tk, y] } := (sb.2 _ (Nat.ne_of_gt hel)).trans hT
    have new : ObjOk X.prog X.w (upd H s.heap.objs.size (.tup [.int (i : Nat), x])) h'' s.heap.objs.size (.tup [.int (i : Nat), x]) :=
      ⟨by show 2 ≤ sizeLine; decide, [.int i tk, y], .cons ⟨_, rfl⟩ (.cons ru .nil), ⟨_, hT2, rfl, _, rfl⟩⟩
    have I1 : Inv X pins σ (upd H s.heap.objs.size (.tup [.int (i : Nat), x])) { s with heap := h'', toks := tk + 1 } :=
      I.turnedNew (ch := [e, it]) (fun b ob hb q => (sb.2 b (fun z => hb (by simp [z]))).trans (hk b ob (fun z => hb (by simp [z])) (fun z => hb (by simp [z])) q)) hf (Nat.le_refl _) new
    refine ⟨.ref s.heap.objs.size, _, I1, rfl, ⟨_, x, rfl, I.hok.fresh (Nat.le_refl _), rfl, fun ys hy => by rw [I.tuple_inj hy hq]; exact hx⟩, ⟨⟨y, ?_⟩, hst.1.at fun o q => (sb.2 it (Ne.symm hne)).trans q, hne⟩, fun b hb => ?_⟩
    · have e1 : ((i + 1 : Nat) : Int) = (i : Int) + 1 := by omega
      rw [e1]; exact he'
    · have hil : it < s.heap.objs.size := by obtain ⟨_, q, _⟩ := hit; exact Heap.lt_size q
      rw [upd_ne (Nat.ne_of_lt (show b < s.heap.objs.size by rcases (show b = e ∨ b = it by simpa using hb) with z | z <;> rw [z] <;> assumption))]
      exact (hf b hb).1
  done := by
    intro X hP hw hK hc i pins s σ H E I hf st hg
    subst hP hw hK
    obtain ⟨⟨old, he⟩, hit, hne⟩ := st
    obtain ⟨xs, hq, hx⟩ := hg
    obtain ⟨its, rv, p, hz⟩ := I.tuple hq
    have pt : s.heap.IsTuple a its.toArray := p
    obtain ⟨f0, f1, f2, f3, f4, f5⟩ := hf it (by simp)
    have hl := rv.length
    have D := Draws.tuple (prog := X.prog) (w := X.w) (A := X.A.in1) (I.ok.hd hc) it a hai its.toArray
    have hT : s.TypeIs (.ref e) "enumerate" := ⟨_, he, rfl⟩
    unfold pyNext
    refine wpAny_bind (wpAny_attempt (wpAny_callSpecial?_slot (name := Str.ofString "__next__") hT F.slot_enumerate_next (wpAny_call_entry F.slot_enumerate_next hT F.entry_enumerate_next ?_ (F.args_enumerate_next_1 _))))
    show wpAny _ _ (field (.ref e) 2 >>= _) _ _ _
    refine wpAny_bind (wpAny_field he rfl (x := .ref it) rfl (wpAny_bind (wpAny_nextOf_tuple_end (I.ok.hd hc) hit pt (by simp; omega) fun h' x he' hx' => ?_)))
    obtain ⟨o, ho, hcl⟩ := hx'
    refine wpAny_bind (wpAny_isInstance (T := "StopIteration") (b := true) ⟨o, ho, hcl⟩ isSubtype_stop (wpAny_pure ⟨rfl, ?_⟩))
    exact I.turned (t' := s.toks) (fun b o hb q => he' b o hb q) f0 f1 f3 f4 f5
  self := fun A i s Q E st h => let ⟨⟨_, he⟩, _⟩ := st; wpAny_pyIter_enum he h
def iEnumT (K : PySem.W.Frag) (ta : TA) : TI := fun σ H R => ta σ H fun vs H1 => ∃ a xs, vs = [.ref a] ∧ SqT K H1 a xs ∧ R (IteT K a) H1
theorem pi_enumT {X : Cx} {e : Expr} {ta : TA} {p pos tpos : Pos} {elts : List Expr} {kk : Nat} (hg : Gl X "enumerate") (hm : X.mg "enumerate" = none) (ha : PA X [e] ta) (hs : starEach [e] X.env = [(false, eval e X.env)] := by rfl) :
    PI X (.Tuple elts kk tpos) (.Call (.Name "enumerate" p) [e] [] pos) (iEnumT X.K ta) := by
  refine ⟨fun pins s σ H R I h => ?_⟩
  refine Call_ (ld_blt I hg hm boot_enumerate (PyProof.Rows.callWith_type1 (thn (ha.run pos pins s σ H _ I h) fun us s1 ⟨vs, H1, I1, r1, a, xs, ex, hq, q⟩ => ?_) hs rfl))
  subst ex
  cases r1 with
  | cons r rr =>
    cases rr; cases r
    obtain ⟨its, rv, p', hz⟩ := I1.tuple hq
    have pt : s1.heap.IsTuple a its.toArray := p'
    have hal : a < s1.heap.objs.size := p'.lt
    refine call_enumB (begins_tuple a its.toArray) pt fun h' he ho hsz hk => wpAny_pyIter_enum he ?_
    have I2 : Inv X pins σ H1 { s1 with heap := h' } := I1.kept (t' := s1.toks) hk
    refine ⟨s1.heap.objs.size + 1, [s1.heap.objs.size + 1, s1.heap.objs.size], _, _, H1, rfl, I2, turn_enumT a (s1.heap.objs.size + 1) s1.heap.objs.size (Nat.ne_of_lt (Nat.lt_succ_of_lt hal)) (Nat.ne_of_lt hal), ⟨⟨.none, he⟩, ⟨_, ho, rfl, rfl⟩, Nat.succ_ne_self _⟩, fun b hb => ?_, q⟩
    have hle : s1.heap.objs.size ≤ b := by
      rcases (show b = s1.heap.objs.size + 1 ∨ b = s1.heap.objs.size by simpa using hb) with z | z <;> rw [z]
      · exact Nat.le_succ _
      · exact Nat.le_refl _
    exact I1.fpOk hle (I1.hok.fresh hle)
theorem walk_enumT {K : PySem.W.Frag} {a : Addr} {xs : List V} : Walk (IteT K a) xs.length (fun H => SqT K H a xs) (YPair (fun i => some (.int (i : Nat))) (fun i => xs[i]?)) := by
  refine ⟨fun i _ hi q => ⟨xs, xs[i], q, by simp [hi]⟩, fun _ q => ⟨xs, q, Nat.le_refl _⟩, fun i H v J _ q y => ?_⟩
  obtain ⟨T, x, h1, h2, h3, h4⟩ := y
  exact ⟨T, .int (i : Nat), x, h1, h2, h3, rfl, h4 xs q⟩
end Km
set_option Elab.async false
set_option linter.all false
set_option maxRecDepth 100000
set_option maxHeartbeats 4000000
set_option autoImplicit false
/-! next(a generator expression, what else) -/
namespace Km
open PySem PySem.Spec PyProof.Rows L2

theorem call_next2 {prog : Program} {w : World} {A : Around} {E : Value → Shared → Prop} {s : Shared} {g : Addr} {dflt : Value} {Q : Value → Shared → Prop} (hT : s.TypeIs (.ref g) "generator")
    (h : wpAny (model prog w) A.in1 (pyNext (.ref g)) (fun r s' => Q (r.getD dflt) s') E s) : wpAny (model prog w) A (call (.builtin "next") [.ref g, dflt]) Q E s := by
  refine Calls.call_function_entry (by decide +kernel) (by decide +kernel) PySem.W.kdk_entry_next (PySem.W.kdk_args_next2 _ _) ?_
  unfold Builtin.«next»
  refine wpAny_bind (m := someArgs "next" 1 2 _) (wpAny_of_eq (a := [Value.ref g, dflt]) (by first | rfl | kernel_rfl!) ?_)
  dsimp only
  refine wpAny_bind (wpAny_specialOf (name := Str.ofString "__next__") hT slot_gen_next.lookup ?_)
  refine wpAny_ite_split (fun hab => absurd hab (by decide)) fun _ => ?_
  exact wpAny_bind (wpAny_mono h (fun r s' q => wpAny_pure ⟨_, rfl, q⟩) fun _ _ z => z)

/-- a generator at g, ready to be asked for its first item: r (none: it has none); behind the asking what was held stands, but for the table at T -/
structure ReadyG (X : Cx) (pins : List (Addr × Obj)) (σ : L2.St) (H1 : Hp) (T : Addr) (r : Option Int) (g : Addr) (s5 : Shared) : Prop where
  inv : ∀ tk, s5.toks ≤ tk → ∃ J, GxR.Tabbed T H1 J ∧ Inv X pins σ J { s5 with toks := tk }
  ty : ∀ tk, s5.toks ≤ tk → Shared.TypeIs { s5 with toks := tk } (.ref g) "generator"
  ask : ∀ (tk : Nat) (E : Value → Shared → Prop) (Q : Option Value → Shared → Prop), s5.toks ≤ tk →
    (∀ v s' J, GxR.Tabbed T H1 J → Inv X pins σ J s' → (match r with | some i => ∃ t, v = some (Value.int i t) | none => v = none) → Q v s') → wpAny (model X.prog X.w) X.A.in1 (pyNext (.ref g)) Q E { s5 with toks := tk }

/-- the first that passes -/
theorem passing_head {pz : Nat → Bool} {n : Nat} : (passing pz n 0)[0]? = (List.range n).find? pz := by
  unfold passing
  rw [List.drop_zero, ← List.head?_eq_getElem?, List.head?_filter]
theorem passing_pos {pz : Nat → Bool} {n i : Nat} (h : (List.range n).find? pz = some i) : 0 < (passing pz n 0).length := by
  rw [← passing_head] at h
  exact (List.getElem?_eq_some_iff.mp h).1
theorem passing_nil {pz : Nat → Bool} {n : Nat} (h : (List.range n).find? pz = none) : (passing pz n 0).length = 0 := by
  rw [← passing_head, List.getElem?_eq_none_iff] at h
  omega

section
variable {X : Cx} {pins : List (Addr × Obj)} {σ : L2.St} {H : Hp} {s : Shared}
/-- the common end: the generator was made over s1 (whose heap has grown to h3, the table to ps'), its walk is W -/
theorem ready_of {T : Addr} {ps ps' : Array Value} {H1 : Hp} {s1 : Shared} {h5 : Heap} {tk5 : Nat} {gs : GenState} {g n N3 : Nat} {fp wr : List Addr} {F : Nat → Value → Prop} {St : Nat → Shared → Prop} {pz : Nat → Bool} {val : Nat → Int}
    (I1 : Inv X pins σ H1 s1) (hP : H1 T = some (.tbl ps)) (hmore : ∃ more, ps' = ps ++ more) (ht3 : TriplesOk ps'.toList) (hgb : gs.bare = true)
    (keep : ∀ b u, b ≠ T → s1.heap.get? b = some u → h5.get? b = some u) (tab : h5.get? T = some { cls := .none, data := .fields ps' }) (hw : ∀ b ∈ wr, s1.heap.objs.size ≤ b)
    (W : WalksS X.prog X.w X.A.in1 g fp wr (GenOnlyQ N3) (passing pz n 0).length F St) (hg : N3 = s1.gens.size)
    (hst : St 0 { s1 with gens := s1.gens.push gs, toks := tk5, heap := h5 }) (hty : ∀ i s9, St i s9 → s9.TypeIs (.ref g) "generator")
    (hF : ∀ j v, F j v → ∃ i t, (passing pz n 0)[j]? = some i ∧ v = .int (val i) t) :
    ReadyG X pins σ H1 T (((List.range n).find? pz).map val) g { s1 with gens := s1.gens.push gs, toks := tk5, heap := h5 } := by
  subst hg
  obtain ⟨more, rfl⟩ := hmore
  have nwr : ∀ b u, s1.heap.get? b = some u → b ∉ wr := fun b u e hb => absurd (Nat.lt_of_lt_of_le (Heap.lt_size e) (hw b hb)) (Nat.lt_irrefl _)
  have hPs : s1.heap.get? T = some { cls := .none, data := .fields ps } := I1.hok T _ hP
  have fin : ∀ s', Moved wr (GenOnlyQ s1.gens.size) { s1 with gens := s1.gens.push gs, toks := tk5, heap := h5 } s' → ∃ J, GxR.Tabbed T H1 J ∧ Inv X pins σ J s' := fun s' hm => by
    have J := GxR.inv_tab (more := more) (h' := s'.heap) (g' := s'.gens) (d' := s'.drawn) (t' := s'.toks) I1 hP (fun b u hb e => hm.heap b u (nwr b u e) (keep b u hb e)) (hm.heap T _ (nwr T _ hPs) tab) (AllBare.movedS (I1.bare.push hgb) hm)
    rw [GxR.sh_eta s1 s' hm.os] at J
    exact ⟨_, ⟨⟨ps ++ more, upd_same, ht3⟩, fun b hb => upd_ne hb⟩, J⟩
  have bump : ∀ tk, tk5 ≤ tk → Moved wr (GenOnlyQ s1.gens.size) { s1 with gens := s1.gens.push gs, toks := tk5, heap := h5 } { s1 with gens := s1.gens.push gs, toks := tk, heap := h5 } := fun tk h =>
    ⟨fun _ _ _ e => e, W.grefl _, rfl, rfl, h⟩
  have st : ∀ tk, tk5 ≤ tk → St 0 { s1 with gens := s1.gens.push gs, toks := tk, heap := h5 } := fun tk h => W.frame 0 _ h5 tk hst h fun _ _ _ e => e
  refine ⟨fun tk h => fin _ (bump tk h), fun tk h => hty _ _ (st tk h), fun tk E Q h hq => ?_⟩
  cases hf : (List.range n).find? pz with
  | none =>
    have hn := passing_nil hf
    rw [hf] at hq
    have st0 := st tk h
    rw [← hn] at st0
    refine W.done _ Q E st0 fun s' hm => ?_
    obtain ⟨J, h1, h2⟩ := fin s' (Moved.trans W.gtrans (bump tk h) hm)
    exact hq none s' J h1 h2 rfl
  | some i =>
    have hn := passing_pos hf
    rw [hf] at hq
    refine W.item 0 _ Q E hn (st tk h) fun v s' hv _ hm => ?_
    obtain ⟨J, h1, h2⟩ := fin s' (Moved.trans W.gtrans (bump tk h) hm)
    obtain ⟨i', t, hi, rfl⟩ := hF 0 v hv
    rw [passing_head, hf] at hi
    cases hi
    exact hq _ s' J h1 h2 ⟨t, rfl⟩
end
end Km
set_option Elab.async false
set_option linter.all false
set_option maxRecDepth 100000
set_option maxHeartbeats 4000000
set_option autoImplicit false
namespace Km
open PySem PySem.Spec PyProof.Rows L2
section
variable {X : Cx} {pins : List (Addr × Obj)} {σ : L2.St} {H : Hp} {s : Shared}
/-- the scope of a generator expression: its own names, captured ones -/
structure GenSc (env : Env) (scope : Scope) (own : List Str) : Prop where
  kind : scope.kind = .function
  co : scope.isCoroutine = false
  cell : ∀ y ∈ scope.names, y.2 ≠ .cell
  dot : scope.names.lookup (".0" : Str) = some NameKind.local
  loc : ∀ x ∈ own, scope.names.lookup x = some .local
  free : ∀ y ∈ scope.names, y.2 = .free → ∃ c, env.cells.lookup y.1 = some c
/-- what stands when the generator's code object has been found or made -/
theorem code_then {T c : Addr} {ps : Array Value} {gpos : Pos} {qn : Str} {scope : Scope} {h2 : Heap} {tk2 : Nat} {s1 : Shared} {H1 : Hp} {Q : Value → Shared → Prop} (TB : GxR.TabB X.base X.mg c T) (hcode : X.env.code = .ref c) (I1 : Inv X pins σ H1 s1)
    (hP : H1 T = some (.tbl ps)) (ht : TriplesOk ps.toList) (k2 : ∀ b o, s1.heap.get? b = some o → h2.get? b = some o)
    (q : ∀ code h3 tk (ps' : Array Value), Heap.ExtBut T h2 h3 → h2.objs.size ≤ h3.objs.size → h3.get? T = some { cls := .none, data := .fields ps' } → (∃ more, ps' = ps ++ more) → TriplesOk ps'.toList → h3.NoLimit → cStatics < s1.heap.objs.size →
      Q code { s1 with heap := h3, toks := tk }) :
    wpAny (model X.prog X.w) X.A (genexprCode X.env gpos qn scope) Q X.xe { s1 with heap := h2, toks := tk2 } := by
  have hPs : s1.heap.get? T = some { cls := .none, data := .fields ps } := I1.hok T _ hP
  have hP2 : h2.get? T = some { cls := .none, data := .fields ps } := k2 _ _ hPs
  have cd : PySem.W.CodeHd h2 c T := TB.code.keeps fun b u e => k2 b u (I1.bk b u e)
  have lim2 : h2.NoLimit := I1.nolimit.keeps k2
  have hcl : cStatics < s1.heap.objs.size := let ⟨_, hns, _⟩ := I1.nolimit; hns.lt
  have hcP : cStatics ≠ T := fun e => by
    obtain ⟨_, hns, _⟩ := I1.nolimit
    obtain ⟨o', es, ep, ho, hd, _⟩ := hns
    rw [e, hPs] at ho
    cases ho; cases hd
  cases hf : codeAmong gpos ps.toList with
  | none =>
    refine wpAny_genexprCodeX hcode (cd.code hP2 ht) (cd.tab hP2) hf fun c' h' tk hx hge hlt hco' _ htab' _ => ?_
    obtain ⟨o1, vs, f1, tf, fl, tg, inF, tx, tt, op, _, _, _, _, _, _, _, _, _, htr, _⟩ := hco'
    exact q _ h' tk _ hx (Nat.le_trans hge (Nat.le_of_lt hlt)) htab'.2 ⟨_, rfl⟩ htr (lim2.extBut hx hcP) hcl
  | some cv =>
    refine wpAny_genexprCode_hit hcode (cd.code hP2 ht) hf ?_
    exact q cv h2 tk2 ps (Heap.ExtBut.refl _ _) (Nat.le_refl _) hP2 ⟨#[], by simp⟩ ht lim2 hcl
theorem blt_then {T c : Addr} {h3 : Heap} {tk : Nat} {s1 : Shared} {H1 : Hp} {Q : Addr → Shared → Prop} (TB : GxR.TabB X.base X.mg c T) (I1 : Inv X pins σ H1 s1) (k3 : ∀ b o, b ≠ T → s1.heap.get? b = some o → h3.get? b = some o)
    (q : Q builtinsNs { s1 with heap := h3, toks := tk }) : wpAny (model X.prog X.w) X.A (builtinsFor X.env.globals X.env.builtins) Q X.xe { s1 with heap := h3, toks := tk } := by
  obtain ⟨bm, ob, e1, e2, e3, e4, e5, e6, e7, e8⟩ := TB.bm
  refine wpAny_builtinsFor (m := X.mg) ?_ e1 e2 (k3 _ _ e4 (I1.bk _ _ e5)) e6 e7 e8 q
  rw [I1.ok.glob]
  obtain ⟨o, es, ep, ho, r⟩ := I1.mod.glob.keeps I1.bk
  exact ⟨o, es, ep, k3 _ _ TB.gP ho, r⟩

/-- (xa for xa, xb in enumerate(a word) if xb != 0) -/
def firstNZ (w : List Int) : Option Int := ((List.range w.length).find? fun i => !decide (w.getD i 0 = 0)).map fun (i : Nat) => (i : Int)
theorem gen_enum {c T : Addr} {xa xb xw : Str} {pa pb pt p1 p2 p3 p4 p5 pe pw gpos : Pos} {kt j : Nat} {scope : Scope} {te : TE} {k : Nat} {Q' : Value → Shared → Prop} {R : List Int → Hp → Prop}
    (hr : Room k X.A) (TB : GxR.TabB X.base X.mg c T) (hcode : X.env.code = .ref c) (S : GenSc X.env scope [xa, xb]) (hab : xa ≠ xb) (hda : (xa == ("__debug__" : Str)) = false) (hdb : (xb == ("__debug__" : Str)) = false)
    (hg : Gl X "enumerate") (hm : X.mg "enumerate" = none) (hi : PE X (.Name xw pw) te)
    (hs : ∀ v, genFold (.Call (.Name "enumerate" p1) [.Name xw pw] [] p2) X.env v = pure v) (I : Inv X pins σ H s) (h : te σ H fun v H1 => ∃ (a : Addr) (w : List Int), [v] = [.ref a] ∧ SqT X.K H1 a (w.map V.int) ∧ GxR.TabG H1 T ∧ R w H1)
    (hQ : ∀ w H1 g s5, R w H1 → ReadyG X pins σ H1 T (firstNZ w) g s5 → Q' (.ref g) s5) :
    wpAny (model X.prog X.w) X.A (eval (.GeneratorExp (.Name xa pe) [⟨.Tuple [.Name xa pa, .Name xb pb] kt pt, .Call (.Name "enumerate" p1) [.Name xw pw] [] p2, [.Compare (.Name xb p3) [.NotEq] [.Constant (.int 0) j p4] p5], 0⟩] scope gpos) X.env) Q' X.xe s := by
  refine wpAny_GeneratorExp_walksQT hr.hd S.co (closure_ok S.free) S.cell S.dot (S.loc _ (by simp)) (S.loc _ (by simp)) hab S.kind (by have := hr.dp; omega) ?_ hs
  have ha : PA X [.Name xw pw] (tCons te tNil) := pa_cons hi pa_nil
  refine Call_ (ld_blt I hg hm boot_enumerate (PyProof.Rows.callWith_type1 (thn (ha.run p2 pins s σ H (fun vs H1 => ∃ (a : Addr) (w : List Int), vs = [.ref a] ∧ SqT X.K H1 a (w.map V.int) ∧ GxR.TabG H1 T ∧ R w H1) I h) fun us s1 ⟨vs, H1, I1, r1, a, w, ea, hq, ⟨ps, hP, ht⟩, hR⟩ => ?_) rfl rfl))
  subst ea
  obtain rfl : us = [Value.ref a] := by
    cases r1 with
    | cons r rr => cases rr; cases r; rfl
  obtain ⟨its, rv, p', hz⟩ := I1.tuple hq
  have pt : s1.heap.IsTuple a its.toArray := p'
  have hal : a < s1.heap.objs.size := p'.lt
  have hlen : its.length = w.length := by rw [← rv.length, List.length_map]
  have hat : ∀ (i : Nat) (x : Value), its.toArray[i]? = some x → ∃ t, x = .int (w.getD i 0) t := fun i x hx => by
    have hx2 : its[i]? = some x := by simpa using hx
    have hi : i < w.length := by rw [← hlen]; exact (List.getElem?_eq_some_iff.mp hx2).1
    have hb : (w.map V.int)[i]? = some (V.int (w.getD i 0)) := by rw [List.getElem?_map, List.getD_eq_getElem?_getD, List.getElem?_eq_getElem hi]; rfl
    obtain ⟨u, hu, ru⟩ := rv.get hb
    rw [hx2] at hu
    cases hu
    exact ru
  refine call_enumB (begins_tuple a its.toArray) pt fun h2 he ho hsz hk => wpAny_pyIter_enum he ?_
  have hPs : s1.heap.get? T = some { cls := .none, data := .fields ps } := I1.hok T _ hP
  have hPlt : T < s1.heap.objs.size := Heap.lt_size hPs
  have hne : (s1.heap.objs.size + 1 : Nat) ≠ s1.heap.objs.size := Nat.succ_ne_self _
  have haT : a ≠ T := fun z => by
    obtain ⟨_, e, hc1, _, hd1⟩ := _root_.id pt
    rw [z, hPs] at e
    cases e; cases hd1
  refine ⟨I1.nolimit.keeps hk, ?_⟩
  refine code_then (s1 := s1) (h2 := h2) TB hcode I1 hP ht hk fun code h3 tk ps' hx hsz3 hP3 hmore ht3 hlim hcl => ?_
  have keep3 : ∀ b u, b ≠ T → s1.heap.get? b = some u → h3.get? b = some u := fun b u hb e => hx b u hb (hk b u e)
  refine blt_then TB I1 keep3 ?_
  have sz3 : s1.heap.objs.size + 2 ≤ h3.objs.size := by rw [← hsz]; exact hsz3
  have hT1 : (s1.heap.objs.size + 1 : Nat) ≠ T := Nat.ne_of_gt (Nat.lt_succ_of_lt hPlt)
  have hT0 : (s1.heap.objs.size : Nat) ≠ T := Nat.ne_of_gt hPlt
  have hN1 : (s1.heap.objs.size + 1 : Nat) ∉ [s1.heap.objs.size, a] := fun z => by
    simp only [List.mem_cons, List.not_mem_nil, or_false] at z
    rcases z with z | z
    · exact hne z
    · exact Nat.ne_of_gt (Nat.lt_succ_of_lt hal) z
  refine ⟨s1.heap.objs.size + 1, [s1.heap.objs.size + 1, s1.heap.objs.size, a], [s1.heap.objs.size + 1, s1.heap.objs.size], its.toArray.size, _, _, _, (fun i => !decide (w.getD i 0 = 0)), (fun i y => ∃ t, y = .int (i : Int) t), rfl,
    (fun A' hA => (WalksT.enumerateD (Draws.tuple (prog := X.prog) (w := X.w) (A := A'.in1) hA s1.heap.objs.size a (Nat.ne_of_lt hal) its.toArray) (s1.heap.objs.size + 1) hne hN1 (by simp)).toU), ?_, ?_, ?_, hlim, ?_, ?_, ?_⟩
  · rintro i vals ⟨t, x, _, rfl⟩
    exact ⟨_, _, rfl⟩
  · refine ⟨⟨.none, hx _ _ hT1 he⟩, ⟨_, hx _ _ hT0 ho, rfl, rfl⟩, Heap.IsTuple.at pt fun o e => keep3 a o haT e⟩
  · intro b hb
    simp only [List.mem_cons, List.not_mem_nil, or_false] at hb
    show b < h3.objs.size
    rcases hb with z | z | z <;> rw [z]
    · exact Nat.lt_of_lt_of_le (Nat.lt_succ_self _) sz3
    · exact Nat.lt_of_lt_of_le (Nat.lt_succ_of_lt (Nat.lt_succ_self _)) sz3
    · exact Nat.lt_of_lt_of_le (Nat.lt_of_lt_of_le hal (Nat.le_add_right _ 2)) sz3
  · intro z
    simp only [List.mem_cons, List.not_mem_nil, or_false] at z
    rcases z with z | z
    · exact Nat.ne_of_lt (Nat.lt_succ_of_lt hcl) z
    · exact Nat.ne_of_lt hcl z
  · intro href hhref
    refine ⟨fun A' E' i va vb s₂ m₂ hA hPt hn hma hmb hkp => ?_, fun A' E' i va vb s₂ m₂ hA hPt hp hn hma hmb hkp => ?_⟩
    · obtain ⟨t, x, hx1, ev⟩ := hPt
      obtain ⟨rfl, rfl⟩ : va = .int i t ∧ vb = x := by simpa using ev
      obtain ⟨u, rfl⟩ := hat i vb hx1
      refine wpAny_tests_one (wpAny_isTrue_Compare1 (wpAny_Name (wpAny_loadName_local S.kind (S.loc _ (by simp)) hn hmb ?_) hdb))
      refine wpAny_Constant_int (PySem.P.ne_int (wpAny_truthy_bool ⟨?_, GxR.keeps_tok _ _⟩))
      show (w.getD i 0 != 0) = !decide (w.getD i 0 = 0)
      by_cases z : w.getD i 0 = 0
      · rw [z]; rfl
      · rw [decide_eq_false z]; simpa using z
    · obtain ⟨t, x, hx1, ev⟩ := hPt
      obtain ⟨rfl, rfl⟩ : va = .int i t ∧ vb = x := by simpa using ev
      exact wpAny_Name (wpAny_loadName_local S.kind (S.loc _ (by simp)) hn hma ⟨⟨t, rfl⟩, GxR.keeps_refl _⟩) hda
  · intro g h5 tk5 gs hgb hag hsz5 hk5 W5 hat5
    refine hQ w H1 g _ hR ?_
    have e := ready_of (X := X) (F := _) (St := _) (val := fun i => (i : Int)) (n := its.toArray.size) (pz := fun i => !decide (w.getD i 0 = 0)) I1 hP hmore ht3 hgb (fun b u hb e => hk5 b u (keep3 b u hb e)) (hk5 T _ hP3) (fun b hb => ?hw) W5.in4_1 rfl hat5 (fun i s9 h9 => ?hty) (fun j v hv => ?hF)
    case hw =>
      simp only [List.mem_cons, List.not_mem_nil, or_false] at hb
      rcases hb with z | z | z <;> rw [z]
      · exact Nat.le_trans (Nat.le_add_right s1.heap.objs.size 2) sz3
      · exact Nat.le_succ _
      · exact Nat.le_refl _
    case hty => exact h9.1.typeIs
    case hF =>
      obtain ⟨i, hi, t, rfl⟩ := hv
      exact ⟨i, t, hi, rfl⟩
    have e2 : its.toArray.size = w.length := by rw [List.size_toArray, hlen]
    rw [e2] at e
    unfold firstNZ
    exact e
end
end Km
set_option Elab.async false
set_option linter.all false
set_option maxRecDepth 100000
set_option maxHeartbeats 4000000
set_option autoImplicit false
namespace Km
open PySem PySem.Spec PyProof.Rows L2
section
variable {X : Cx} {pins : List (Addr × Obj)} {σ : L2.St} {H : Hp} {s : Shared}
/-- a name captured by the generator's scope: its cell holds the value -/
theorem cell_of {ip : Nat} {xp : Str} {v : V} (I : Inv X pins σ H s) (hN : X.N[ip]? = some xp) (hk : X.env.scope.names.lookup xp = some .cell) (hv : σ[ip]? = some (some v)) : ∃ u c, RelV v u ∧ X.env.cells.lookup xp = some c ∧ s.heap.IsCell c (some u) := by
  obtain ⟨m, hn, hl⟩ := I.loc
  obtain ⟨u, r, l⟩ := hl ip xp v hN hv (.inr (.inl hk))
  rcases l with ⟨hk2, _⟩ | ⟨_, c, hc, hcell⟩
  · rw [show X.env.kindOf xp = some .cell from hk] at hk2; cases hk2
  · exact ⟨u, c, r, hc, hcell⟩
/-- (x for x in range(1, p) if x * e % p == 1), p and e captured -/
def firstI (p e : Int) : Option Int := ((List.range (p - 1).toNat).find? fun (i : Nat) => decide ((1 + (i : Int)) * e % p = 1)).map fun (i : Nat) => 1 + (i : Int)
theorem gen_rng {c T : Addr} {xo xp xe : Str} {po p1 p2 p3 p4 p5 p6 p7 p8 p9 pe pf pg gpos : Pos} {k1 k2 ip ie : Nat} {scope : Scope} {k : Nat} {Q' : Value → Shared → Prop} {p e : Int}
    (hr : Room k X.A) (TB : GxR.TabB X.base X.mg c T) (hcode : X.env.code = .ref c) (S : GenSc X.env scope [xo]) (hdo : (xo == ("__debug__" : Str)) = false) (hdp : (xp == ("__debug__" : Str)) = false) (hde : (xe == ("__debug__" : Str)) = false)
    (hcp : (xp == ("__classdict__" : Str)) = false) (hce : (xe == ("__classdict__" : Str)) = false)
    (hNp : X.N[ip]? = some xp) (hNe : X.N[ie]? = some xe) (hkp : X.env.scope.names.lookup xp = some .cell) (hke : X.env.scope.names.lookup xe = some .cell) (hfp : scope.names.lookup xp = some .free) (hfe : scope.names.lookup xe = some .free)
    (hg : Gl X "range") (hm : X.mg "range" = none)
    (hs : ∀ v, genFold (.Call (.Name "range" p1) [.Constant (.int 1) k1 p2, .Name xp p3] [] p4) X.env v = pure v) (I : Inv X pins σ H s) (hvp : σ[ip]? = some (some (.int p))) (hve : σ[ie]? = some (some (.int e))) (hp : Prm p) (he : -1000 ≤ e ∧ e ≤ 1000) (hT : GxR.TabG H T)
    (hQ : ∀ g s5, ReadyG X pins σ H T (firstI p e) g s5 → Q' (.ref g) s5) :
    wpAny (model X.prog X.w) X.A (eval (.GeneratorExp (.Name xo pe) [⟨.Name xo po, .Call (.Name "range" p1) [.Constant (.int 1) k1 p2, .Name xp p3] [] p4, [.Compare (.BinOp (.BinOp (.Name xo p5) .Mult (.Name xe p6) p7) .Mod (.Name xp p8) p9) [.Eq] [.Constant (.int 1) k2 pf] pg], 0⟩] scope gpos) X.env) Q' X.xe s := by
  obtain ⟨ps, hP, ht⟩ := hT
  have hpp : 2 ≤ p ∧ p ≤ 7 := by rcases hp with h | h | h | h <;> omega
  have hlo : scope.names.lookup xo = some NameKind.local := S.loc _ (by simp)
  refine wpAny_GeneratorExp_walksQ hr.hd S.co (closure_ok S.free) S.cell S.dot hlo S.kind (by have := hr.dp; omega) ?_ hs
  have ha : PA X [.Constant (.int 1) k1 p2, .Name xp p3] (tCons (tC (.int 1)) (tCons (tVar ip) tNil)) := pa_cons pe_int (pa_cons (pe_var hNp (.inr (.inl hkp)) hdp hcp) pa_nil)
  refine Call_ (ld_blt I hg hm boot_range (PyProof.Rows.callWith_type1 (thn (ha.run p4 pins s σ H (fun vs H1 => vs = [.int 1, .int p] ∧ H1 = H) I ⟨_, hvp, rfl, rfl⟩) fun us s1 ⟨vs, H1, I1, r1, ea, eH⟩ => ?_) rfl rfl))
  subst ea eH
  obtain ⟨t1, t2, rfl⟩ : ∃ t1 t2, us = [Value.int 1 t1, Value.int p t2] := by
    cases r1 with
    | cons r rr =>
      cases rr with
      | cons r2 rr =>
        cases rr
        obtain ⟨t, rfl⟩ := r
        obtain ⟨t', rfl⟩ := r2
        exact ⟨t, t', rfl⟩
  refine call_range_2 (wpAny_pyIter_range (IsRange.new ..) (small_one (by omega) (by omega) (by omega) (by omega)) ?_)
  have hPs : s1.heap.get? T = some { cls := .none, data := .fields ps } := I1.hok T _ hP
  have hPlt : T < s1.heap.objs.size := Heap.lt_size hPs
  obtain ⟨up, cp, rp, hlp, hcp2⟩ := cell_of I1 hNp hkp hvp
  obtain ⟨ue, ce, re, hle, hce2⟩ := cell_of I1 hNe hke hve
  obtain ⟨tp, rfl⟩ := rp
  obtain ⟨tE, rfl⟩ := re
  have hcpT : cp ≠ T := fun z => by obtain ⟨_, h1, h2⟩ := hcp2; rw [z, hPs] at h1; cases h1; cases h2
  have hceT : ce ≠ T := fun z => by obtain ⟨_, h1, h2⟩ := hce2; rw [z, hPs] at h1; cases h1; cases h2
  generalize hro : ({ cls := .type "range", data := .fields #[.int 1 t1, .int p t2, .int 1 s1.toks] } : Obj) = ro
  generalize hio : ({ cls := .type "range_iterator", data := .fields #[rawInt 1, rawInt (Builtin.Range.rangeSize 1 p 1), rawInt 1] } : Obj) = io
  have hk : ∀ b u, s1.heap.get? b = some u → ((s1.heap.push ro).push io).get? b = some u := fun b u x => Heap.get?_push_of_some _ (Heap.get?_push_of_some _ x)
  have sz0 : (s1.heap.push ro).objs.size = s1.heap.objs.size + 1 := Heap.size_push ..
  have hsz : ((s1.heap.push ro).push io).objs.size = s1.heap.objs.size + 2 := by rw [Heap.size_push, sz0]
  have hit : IsRangeIter ((s1.heap.push ro).push io) (s1.heap.objs.size + 1) (1 + ((0 : Nat) : Int) * 1) ((((p - 1).toNat : Nat) : Int) - ((0 : Nat) : Int)) 1 := by
    have e1 : (1 : Int) + ((0 : Nat) : Int) * 1 = 1 := by simp
    have e2 : (((p - 1).toNat : Nat) : Int) - ((0 : Nat) : Int) = Builtin.Range.rangeSize 1 p 1 := by rw [rangeSize_one]; split <;> omega
    rw [e1, e2, ← sz0]
    subst hio
    exact Heap.get?_push_size _ rfl
  have hio2 : s1.heap.objs.size + 1 = (s1.heap.push ro).objs.size := sz0.symm
  rw [← hio2]
  refine ⟨I1.nolimit.keeps hk, ?_⟩
  refine code_then (s1 := s1) (h2 := (s1.heap.push ro).push io) TB hcode I1 hP ht hk fun code h3 tk ps' hx hsz3 hP3 hmore ht3 hlim hcl => ?_
  have keep3 : ∀ b u, b ≠ T → s1.heap.get? b = some u → h3.get? b = some u := fun b u hb e => hx b u hb (hk b u e)
  refine blt_then TB I1 keep3 ?_
  have sz3 : s1.heap.objs.size + 2 ≤ h3.objs.size := by rw [← hsz]; exact hsz3
  have hT1 : (s1.heap.objs.size + 1 : Nat) ≠ T := Nat.ne_of_gt (Nat.lt_succ_of_lt hPlt)
  refine ⟨s1.heap.objs.size + 1, [s1.heap.objs.size + 1], [s1.heap.objs.size + 1], (p - 1).toNat, _, _, (fun i => decide ((1 + (i : Int)) * e % p = 1)), (fun i y => ∃ t, y = .int (1 + (i : Int)) t), rfl,
    (fun A' hA => Walks.range hA _ 1 1 (p - 1).toNat), hx _ _ hT1 hit, ?_, hlim, ?_, ?_, ?_⟩
  · intro b hb
    simp only [List.mem_cons, List.not_mem_nil, or_false] at hb
    show b < h3.objs.size
    rw [hb]
    exact Nat.lt_of_lt_of_le (Nat.lt_succ_self _) sz3
  · intro z
    simp only [List.mem_cons, List.not_mem_nil, or_false] at z
    exact Nat.ne_of_lt (Nat.lt_succ_of_lt hcl) z
  · intro href hhref
    have cell3 : ∀ {c0 : Addr} {u : Value}, s1.heap.IsCell c0 (some u) → c0 ≠ T → ∀ s₂ : Shared, (∀ b ∈ List.range h3.objs.size, b ∉ [s1.heap.objs.size + 1] → ∀ o, href.get? b = some o → s₂.heap.get? b = some o) → s₂.heap.IsCell c0 (some u) := fun {c0 u} hc hne s₂ hkp => by
      obtain ⟨o, ho, hd⟩ := hc
      have hlt : c0 < s1.heap.objs.size := Heap.lt_size ho
      refine ⟨o, hkp c0 (List.mem_range.mpr (Nat.lt_of_lt_of_le hlt (Nat.le_trans (Nat.le_add_right _ 2) sz3))) (fun z => ?_) o (hhref c0 o (keep3 c0 o hne ho)), hd⟩
      simp only [List.mem_cons, List.not_mem_nil, or_false] at z
      exact Nat.ne_of_lt (Nat.lt_succ_of_lt hlt) z
    have clp : (cloFrom X.env.cells scope.names []).lookup xp = some cp := NdefX.clo_has S.free (PySem.mem_of_lookup hfp) hlp
    have cle : (cloFrom X.env.cells scope.names []).lookup xe = some ce := NdefX.clo_has S.free (PySem.mem_of_lookup hfe) hle
    refine ⟨fun A' E' i v s₂ m₂ hA hPv hn hm2 hkp2 => ?_, fun A' E' i v s₂ m₂ hA hPv hp2 hn hm2 hkp2 => ?_⟩
    · obtain ⟨t, rfl⟩ := hPv
      refine wpAny_tests_one (wpAny_isTrue_Compare1 (wpAny_BinOp (wpAny_BinOp (wpAny_Name (wpAny_loadName_local S.kind hlo hn hm2 ?_) hdo))))
      refine wpAny_Name (wpAny_loadName_free S.kind hfe cle (cell3 hce2 hceT s₂ hkp2) ?_ hce) hde
      refine PySem.P.mul_int ?_ ?_
      rotate_left
      · exact CMul.ok (.inr ⟨by omega, by omega⟩)
      refine wpAny_Name (wpAny_loadName_free (s := { s₂ with toks := s₂.toks + 1 }) S.kind hfp clp (cell3 hcp2 hcpT s₂ hkp2) ?_ hcp) hdp
      refine PyProof.Rows.mod_int (by omega) ?_
      refine wpAny_Constant_int (PySem.P.eq_int (wpAny_truthy_bool ⟨?_, GxR.keeps_tok _ _⟩))
      rw [Int.fmod_eq_emod_of_nonneg _ (by omega), Int.mul_one]
      show (((1 + (i : Int)) * e % p) == 1) = decide ((1 + (i : Int)) * e % p = 1)
      rw [Bool.eq_iff_iff]; simp
    · obtain ⟨t, rfl⟩ := hPv
      exact wpAny_Name (wpAny_loadName_local S.kind hlo hn hm2 ⟨⟨t, by simp⟩, GxR.keeps_refl _⟩) hdo
  · intro g h5 tk5 gs hgb hag hsz5 hk5 W5 hat5
    refine hQ g _ ?_
    have e9 := ready_of (X := X) (s1 := s1) (F := _) (St := _) (val := fun (i : Nat) => 1 + (i : Int)) (n := (p - 1).toNat) (pz := fun i => decide ((1 + (i : Int)) * e % p = 1)) I1 hP hmore ht3 hgb (fun b u hb e => hk5 b u (keep3 b u hb e)) (hk5 T _ hP3)
      (fun b hb => ?hw) W5.in4_1 rfl hat5 (fun i s9 h9 => ?hty) (fun j v hv => ?hF)
    case hw =>
      simp only [List.mem_cons, List.not_mem_nil, or_false] at hb
      rcases hb with z | z <;> rw [z]
      · exact Nat.le_trans (Nat.le_add_right s1.heap.objs.size 2) sz3
      · exact Nat.le_succ _
    case hty => exact h9.1.typeIs
    case hF =>
      obtain ⟨i, hi, t, rfl⟩ := hv
      exact ⟨i, t, hi, rfl⟩
    exact e9

/-! ### next(.., what else) -/
def tNextE (K : PySem.W.Frag) (T : Addr) (iw im : Nat) : TE := fun σ H Q => ∃ (a : Addr) (w : List Int) (n : Int), σ[iw]? = some (some (.ref a)) ∧ σ[im]? = some (some (.int n)) ∧ SqT K H a (w.map V.int) ∧ GxR.TabG H T ∧ ∀ J, GxR.Tabbed T H J → Q (.int ((firstNZ w).getD n)) J
def tNextI (T : Addr) (ip ie : Nat) (n : Int) : TE := fun σ H Q => ∃ p e : Int, σ[ip]? = some (some (.int p)) ∧ σ[ie]? = some (some (.int e)) ∧ Prm p ∧ (-1000 ≤ e ∧ e ≤ 1000) ∧ GxR.TabG H T ∧ ∀ J, GxR.Tabbed T H J → Q (.int ((firstI p e).getD n)) J
theorem pe_nextE {c T : Addr} {xa xb xw xm : Str} {pa pb pt p1 p2 p3 p4 p5 pe pw pm p pos gpos : Pos} {kt j iw im : Nat} {scope : Scope} {k : Nat}
    (hr : Room k X.A) (hgn : Gl X "next") (hmn : X.mg "next" = none) (TB : GxR.TabB X.base X.mg c T) (hcode : X.env.code = .ref c) (S : GenSc X.env scope [xa, xb]) (hab : xa ≠ xb) (hda : (xa == ("__debug__" : Str)) = false) (hdb : (xb == ("__debug__" : Str)) = false)
    (hg : Gl X "enumerate") (hm : X.mg "enumerate" = none) (hi : PE X (.Name xw pw) (tVar iw)) (hNm : X.N[im]? = some xm) (hvm : X.env.scope.names.lookup xm = some .local) (hdm : (xm == ("__debug__" : Str)) = false)
    (hs : ∀ v, genFold (.Call (.Name "enumerate" p1) [.Name xw pw] [] p2) X.env v = pure v) :
    PE X (.Call (.Name "next" p) [.GeneratorExp (.Name xa pe) [⟨.Tuple [.Name xa pa, .Name xb pb] kt pt, .Call (.Name "enumerate" p1) [.Name xw pw] [] p2, [.Compare (.Name xb p3) [.NotEq] [.Constant (.int 0) j p4] p5], 0⟩] scope gpos, .Name xm pm] [] pos) (tNextE X.K T iw im) := by
  refine ⟨fun pins s σ H Q I ⟨a, w, n, hw, hn, hq, hT, q⟩ => ?_⟩
  refine wpAny_Call_Name_kw (ld_blt I hgn hmn boot_next ?_)
  refine PyProof.Rows.callWith_builtin1 ?_ rfl (by rfl)
  refine Calls.spliced_cons (gen_enum (R := fun w' H1 => w' = w ∧ H1 = H) hr TB hcode S hab hda hdb hg hm hi hs I ⟨_, hw, a, w, rfl, hq, hT, rfl, rfl⟩ fun w' H1 g s5 hR hG => ?_)
  obtain ⟨rfl, rfl⟩ := hR
  refine Calls.spliced_cons ?_
  obtain ⟨J, hJ, I5⟩ := hG.inv s5.toks (Nat.le_refl _)
  obtain ⟨m, hns, hl⟩ := I5.loc
  obtain ⟨u, ru, l⟩ := hl im xm _ hNm hn (.inl hvm)
  obtain ⟨tu, rfl⟩ := ru
  rcases l with ⟨hk2, hm2⟩ | ⟨hk2, _⟩
  · refine wpAny_Name (wpAny_loadName_local I5.ok.kind hk2 hns hm2 ?_) hdm
    refine Calls.spliced_nil ?_
    refine call_next2 (hG.ty s5.toks (Nat.le_refl _)) (hG.ask s5.toks _ _ (Nat.le_refl _) fun v s' J' hJ' I' hv => ?_)
    cases hf : firstNZ w' with
    | none =>
      rw [hf] at hv
      have hv : v = none := hv
      subst hv
      have := q J' hJ'
      rw [hf] at this
      exact ⟨.int n, J', I', ⟨_, rfl⟩, this⟩
    | some i =>
      rw [hf] at hv
      have hv : ∃ t, v = some (Value.int i t) := hv
      obtain ⟨t, rfl⟩ := hv
      have := q J' hJ'
      rw [hf] at this
      exact ⟨.int i, J', I', ⟨_, rfl⟩, this⟩
  · have e : X.env.kindOf xm = some .local := hvm
    rw [e] at hk2
    rcases hk2 with z | z <;> cases z
theorem pe_nextI {c T : Addr} {xo xp xe : Str} {po p1 p2 p3 p4 p5 p6 p7 p8 p9 pe pf pg pd p pos gpos : Pos} {k1 k2 kd ip ie : Nat} {scope : Scope} {k : Nat} {n : Int}
    (hr : Room k X.A) (hgn : Gl X "next") (hmn : X.mg "next" = none) (TB : GxR.TabB X.base X.mg c T) (hcode : X.env.code = .ref c) (S : GenSc X.env scope [xo]) (hdo : (xo == ("__debug__" : Str)) = false) (hdp : (xp == ("__debug__" : Str)) = false) (hde : (xe == ("__debug__" : Str)) = false)
    (hcp : (xp == ("__classdict__" : Str)) = false) (hce : (xe == ("__classdict__" : Str)) = false)
    (hNp : X.N[ip]? = some xp) (hNe : X.N[ie]? = some xe) (hkp : X.env.scope.names.lookup xp = some .cell) (hke : X.env.scope.names.lookup xe = some .cell) (hfp : scope.names.lookup xp = some .free) (hfe : scope.names.lookup xe = some .free)
    (hg : Gl X "range") (hm : X.mg "range" = none)
    (hs : ∀ v, genFold (.Call (.Name "range" p1) [.Constant (.int 1) k1 p2, .Name xp p3] [] p4) X.env v = pure v) :
    PE X (.Call (.Name "next" p) [.GeneratorExp (.Name xo pe) [⟨.Name xo po, .Call (.Name "range" p1) [.Constant (.int 1) k1 p2, .Name xp p3] [] p4, [.Compare (.BinOp (.BinOp (.Name xo p5) .Mult (.Name xe p6) p7) .Mod (.Name xp p8) p9) [.Eq] [.Constant (.int 1) k2 pf] pg], 0⟩] scope gpos, .Constant (.int n) kd pd] [] pos) (tNextI T ip ie n) := by
  refine ⟨fun pins s σ H Q I ⟨p0, e0, hvp, hve, hp, he, hT, q⟩ => ?_⟩
  refine wpAny_Call_Name_kw (ld_blt I hgn hmn boot_next ?_)
  refine PyProof.Rows.callWith_builtin1 ?_ rfl (by rfl)
  refine Calls.spliced_cons (gen_rng hr TB hcode S hdo hdp hde hcp hce hNp hNe hkp hke hfp hfe hg hm hs I hvp hve hp he hT fun g s5 hG => ?_)
  refine Calls.spliced_cons (wpAny_Constant_int (k := kd) (pos := pd) ?_)
  refine Calls.spliced_nil ?_
  refine call_next2 (hG.ty (s5.toks + 1) (Nat.le_succ _)) (hG.ask (s5.toks + 1) _ _ (Nat.le_succ _) fun v s' J' hJ' I' hv => ?_)
  cases hf : firstI p0 e0 with
  | none =>
    rw [hf] at hv
    have hv : v = none := hv
    subst hv
    have := q J' hJ'
    rw [hf] at this
    exact ⟨.int n, J', I', ⟨_, rfl⟩, this⟩
  | some i =>
    rw [hf] at hv
    have hv : ∃ t, v = some (Value.int i t) := hv
    obtain ⟨t, rfl⟩ := hv
    have := q J' hJ'
    rw [hf] at this
    exact ⟨.int i, J', I', ⟨_, rfl⟩, this⟩
end
end Km
set_option Elab.async false
set_option linter.all false
set_option maxRecDepth 100000
set_option maxHeartbeats 4000000
set_option autoImplicit false
/-! the scopes of generators by a check; defs whose code object is known -/
namespace Km
open PySem PySem.Spec PyProof.Rows L2
def genC (sc scope : Scope) (own : List Str) : Bool :=
  (match scope.kind with | .function => true | _ => false) && !scope.isCoroutine &&
  scope.names.all (fun y => match y.2 with
    | .cell => false
    | .free => (match sc.names.lookup y.1 with | some .cell => true | some .free => true | _ => false)
    | _ => true) &&
  (match scope.names.lookup (".0" : Str) with | some .local => true | _ => false) &&
  own.all fun x => match scope.names.lookup x with | some .local => true | _ => false
theorem GenSc.by {X : Cx} {pins : List (Addr × Obj)} {σ : L2.St} {H : Hp} {s : Shared} {scope : Scope} {own : List Str} (I : Inv X pins σ H s) (h : genC X.env.scope scope own = true) : GenSc X.env scope own := by
  unfold genC at h
  simp only [Bool.and_eq_true, List.all_eq_true] at h
  obtain ⟨⟨⟨⟨h1, h2⟩, h3⟩, h4⟩, h5⟩ := h
  refine ⟨?_, by simpa using h2, fun y hy e => ?_, ?_, fun x hx => ?_, fun y hy e => ?_⟩
  · split at h1
    · assumption
    · cases h1
  · have := h3 y hy
    rw [e] at this
    cases this
  · split at h4
    · assumption
    · cases h4
  · have := h5 x hx
    split at this
    · assumption
    · cases this
  · have := h3 y hy
    rw [e] at this
    refine I.ok.has y.1 ?_
    dsimp only at this
    split at this
    · left; assumption
    · right; assumption
    · cases this
/-- a def of the text whose code object stands at c -/
structure DfG (K : PySem.W.Frag) (mg : Str → Option Value) (x : Str) (st : Stmt) (ps : List Str) (c : Addr) : Prop where
  ex : ∃ (f : Addr) (oc : Value) (od : Option Addr) (kV doc pm : Value) (an : Option Addr) (ct : Value) (osl : Array (Option Value)), mg x = some (.ref f) ∧
    K.lookup f = some ⟨oc, od, .func (PySem.W.fnOf x x (defArgs st) (defBody st) (defScope st) .none kV doc pm an (.ref c) ct), osl⟩ ∧ PySem.W.codeIn K (.ref c) x = true ∧ PySem.W.keepIn K (.ref f) = true ∧
    Binds K (PySem.W.fnOf x x (defArgs st) (defBody st) (defScope st) .none kV doc pm an (.ref c) ct) ps []
section
variable {P : Program} {w : World} {K : PySem.W.Frag} {mg : Str → Option Value} {base : Heap}
theorem okDG {x : Str} {st : Stmt} {N ps : List Str} {k : Nat} {c : Addr} {G : Hp → Prop} {ρ : List PyData → PyData → Prop} (D : DfG K mg x st ps c) (S : FnScope N ps (defScope st)) (hl : ∀ ds d, ρ ds d → ds.length = ps.length)
    (hb : ∀ (f : Addr) (A : Around) (outer : List Env) (s : Shared) (H : Hp) (vs : List V) (Q : VK) (E : XK) (ds : List PyData) (d : PyData), Room k (A.deeper (envOfC x (defScope st) s.heap.objs.size f (.ref c))) →
      DpAll K H vs ds → ρ ds d → G H → (∀ v J, Gr H J → Dp K J v d → Q v J) →
      ∃ t, PSs (cxOf CX0 P w K mg base N x (defScope st) f (.ref c) A outer s H E) (defBody st) t ∧ t { nx := fun _ H' => Q .non H', rt := Q } (start N vs) H) :
    Ok P w K mg base CX0 (k + 1) x ps (sPD K G ρ) := by
  obtain ⟨f, oc, od, kV, doc, pm, an, ct, osl, hm, lk, hc, kp, hB⟩ := D.ex
  refine ⟨f, _, hm, kp, hB, fn_of lk hc S (fun vs H Q E h => ?_) fun A outer s H vs Q E hr h => ?_⟩
  · obtain ⟨ds, d, hd, r, _⟩ := h
    rw [dps_len hd]; exact hl ds d r
  · obtain ⟨ds, d, hd, r, hG, k⟩ := h
    exact hb f A outer s H vs Q E ds d hr hd r hG k
end
/-- both tables are there -/
def TT (T1 T2 : Addr) (H : Hp) : Prop := GxR.TabG H T1 ∧ GxR.TabG H T2
theorem tabG_gr {H J : Hp} {T : Addr} (g : Gr H J) (h : GxR.TabG H T) : GxR.TabG J T := by
  obtain ⟨ps, hp, ht⟩ := h
  obtain ⟨qs, h1, h2⟩ := g.tabs _ _ hp ht
  exact ⟨qs, h1, h2⟩
theorem TT.gr {H J : Hp} {T1 T2 : Addr} (h : TT T1 T2 H) (g : Gr H J) : TT T1 T2 J := ⟨tabG_gr g h.1, tabG_gr g h.2⟩
theorem gr_tabbed {H J : Hp} {T : Addr} (h : GxR.TabG H T) (t : GxR.Tabbed T H J) : Gr H J := by
  obtain ⟨ps, hp, ht⟩ := h
  obtain ⟨⟨qs, hq, tq⟩, hk⟩ := t
  refine ⟨fun a o e n => ?_, fun a rs e tr => ?_⟩
  · by_cases z : a = T
    · rw [z, hp] at e; cases e; exact n.elim
    · rw [hk a z]; exact e
  · by_cases z : a = T
    · rw [z]; exact ⟨qs, hq, tq⟩
    · rw [hk a z]; exact ⟨rs, e, tr⟩
section
variable {K : PySem.W.Frag} {σ : L2.St} {H : Hp} {T : Addr}
theorem pud_nextE {a : Addr} {w : List Int} {n : Int} {iw im : Nat} (hw : σ[iw]? = some (some (.ref a))) (hn : σ[im]? = some (some (.int n))) (hq : SqT K H a (w.map V.int)) (hT : GxR.TabG H T) : PuD K (tNextE K T iw im) σ H (.int ((firstNZ w).getD n)) :=
  fun H1 e Q q => ⟨a, w, n, hw, hn, e.sqT hq, tabG_gr e hT, fun J t => q _ J (gr_tabbed (tabG_gr e hT) t) (.int _)⟩
theorem pud_nextI {p e n : Int} {ip ie : Nat} (hp : σ[ip]? = some (some (.int p))) (he : σ[ie]? = some (some (.int e))) (h1 : Prm p) (h2 : -1000 ≤ e ∧ e ≤ 1000) (hT : GxR.TabG H T) : PuD K (tNextI T ip ie n) σ H (.int ((firstI p e).getD n)) :=
  fun H1 g Q q => ⟨p, e, hp, he, h1, h2, tabG_gr g hT, fun J t => q _ J (gr_tabbed (tabG_gr g hT) t) (.int _)⟩
end
section
variable {X : Cx}
theorem pe_nextE2 {c T : Addr} {xa xb xw xm : Str} {pa pb pt p1 p2 p3 p4 p5 pe pw pm p pos gpos : Pos} {kt j : Nat} (iw im : Nat) {scope : Scope} {k : Nat}
    (hr : Room k X.A) (hgn : Gl X "next") (hmn : X.mg "next" = none) (TB : GxR.TabB X.base X.mg c T) (hcode : X.env.code = .ref c) (S : genC X.env.scope scope [xa, xb] = true) (hab : xa ≠ xb) (hda : (xa == ("__debug__" : Str)) = false) (hdb : (xb == ("__debug__" : Str)) = false)
    (hg : Gl X "enumerate") (hm : X.mg "enumerate" = none) (hi : PE X (.Name xw pw) (tVar iw)) (hNm : X.N[im]? = some xm) (hvm : X.env.scope.names.lookup xm = some .local) (hdm : (xm == ("__debug__" : Str)) = false)
    (hs : ∀ v, genFold (.Call (.Name "enumerate" p1) [.Name xw pw] [] p2) X.env v = pure v) :
    PE X (.Call (.Name "next" p) [.GeneratorExp (.Name xa pe) [⟨.Tuple [.Name xa pa, .Name xb pb] kt pt, .Call (.Name "enumerate" p1) [.Name xw pw] [] p2, [.Compare (.Name xb p3) [.NotEq] [.Constant (.int 0) j p4] p5], 0⟩] scope gpos, .Name xm pm] [] pos) (tNextE X.K T iw im) :=
  ⟨fun pins s σ H Q I h => (pe_nextE hr hgn hmn TB hcode (GenSc.by I S) hab hda hdb hg hm hi hNm hvm hdm hs).run pins s σ H Q I h⟩
theorem pe_nextI2 {c T : Addr} {xo xp xe : Str} {po p1 p2 p3 p4 p5 p6 p7 p8 p9 pe pf pg pd p pos gpos : Pos} {k1 k2 kd : Nat} (ip ie : Nat) {scope : Scope} {k : Nat} {n : Int}
    (hr : Room k X.A) (hgn : Gl X "next") (hmn : X.mg "next" = none) (TB : GxR.TabB X.base X.mg c T) (hcode : X.env.code = .ref c) (S : genC X.env.scope scope [xo] = true) (hdo : (xo == ("__debug__" : Str)) = false) (hdp : (xp == ("__debug__" : Str)) = false) (hde : (xe == ("__debug__" : Str)) = false)
    (hcp : (xp == ("__classdict__" : Str)) = false) (hce : (xe == ("__classdict__" : Str)) = false)
    (hNp : X.N[ip]? = some xp) (hNe : X.N[ie]? = some xe) (hkp : X.env.scope.names.lookup xp = some .cell) (hke : X.env.scope.names.lookup xe = some .cell) (hfp : scope.names.lookup xp = some .free) (hfe : scope.names.lookup xe = some .free)
    (hg : Gl X "range") (hm : X.mg "range" = none)
    (hs : ∀ v, genFold (.Call (.Name "range" p1) [.Constant (.int 1) k1 p2, .Name xp p3] [] p4) X.env v = pure v) :
    PE X (.Call (.Name "next" p) [.GeneratorExp (.Name xo pe) [⟨.Name xo po, .Call (.Name "range" p1) [.Constant (.int 1) k1 p2, .Name xp p3] [] p4, [.Compare (.BinOp (.BinOp (.Name xo p5) .Mult (.Name xe p6) p7) .Mod (.Name xp p8) p9) [.Eq] [.Constant (.int 1) k2 pf] pg], 0⟩] scope gpos, .Constant (.int n) kd pd] [] pos) (tNextI T ip ie n) :=
  ⟨fun pins s σ H Q I h => (pe_nextI hr hgn hmn TB hcode (GenSc.by I S) hdo hdp hde hcp hce hNp hNe hkp hke hfp hfe hg hm hs).run pins s σ H Q I h⟩
end
/-- the first place of an entry, by find -/
theorem lead_find (w : List Int) : (firstNZ w).getD (w.length : Int) = (lead w : Int) := by
  have key : ∀ (f : Int → Bool) (l : List Int), ((List.range l.length).find? fun i => f (l.getD i 0)).getD l.length = l.findIdx f := by
    intro f l
    induction l with
    | nil => rfl
    | cons a r ih =>
      rw [List.length_cons, List.range_succ_eq_map, List.findIdx_cons]
      simp only [List.find?_cons, List.getD_cons_zero, List.find?_map]
      cases h : f a with
      | true => rfl
      | false =>
        have e : ((fun i => f ((a :: r).getD i 0)) ∘ Nat.succ) = fun i => f (r.getD i 0) := by
          funext i; simp
        rw [e]
        simp only [cond_false]
        rw [← ih]
        cases (List.range r.length).find? fun i => f (r.getD i 0) <;> rfl
  unfold firstNZ lead
  rw [← key]
  cases (List.range w.length).find? fun i => !decide (w.getD i 0 = 0) <;> rfl
theorem inv_find (p e : Int) : (firstI p e).getD 1 = inv p e := by
  unfold firstI inv
  cases (List.range (p - 1).toNat).find? fun (i : Nat) => decide ((1 + (i : Int)) * e % p = 1) <;> rfl
end Km
set_option Elab.async false
set_option linter.all false
set_option maxRecDepth 100000
set_option maxHeartbeats 4000000
set_option autoImplicit false
/-! sorted(list of pairs), sorted(list of words) -/
namespace Km
open PySem PySem.Spec PyProof.Rows L2
theorem dps_perm {K : PySem.W.Frag} {H : Hp} : ∀ {ys xs : List V}, ys.Perm xs → ∀ {ds : List PyData}, DpAll K H xs ds → ∃ es, es.Perm ds ∧ DpAll K H ys es := by
  intro ys xs h
  induction h with
  | nil => intro ds hd; exact ⟨ds, .refl _, hd⟩
  | cons x _ ih =>
    intro ds hd
    cases hd with
    | cons h1 h2 =>
      obtain ⟨es, p, q⟩ := ih h2
      exact ⟨_ :: es, p.cons _, .cons h1 q⟩
  | swap x y l =>
    intro ds hd
    cases hd with
    | cons h1 h2 =>
      cases h2 with
      | cons h3 h4 => exact ⟨_, .swap _ _ _, .cons h3 (.cons h1 h4)⟩
  | trans _ _ ih1 ih2 =>
    intro ds hd
    obtain ⟨es, p, q⟩ := ih2 hd
    obtain ⟨fs, p2, q2⟩ := ih1 q
    exact ⟨fs, p2.trans p, q2⟩
def PairI (K : PySem.W.Frag) (H : Hp) (x : V) (n : Int × Int) : Prop := ∃ t, x = V.ref t ∧ SqT K H t [.int n.1, .int n.2]
def rSortedP (K : PySem.W.Frag) : List V → Hp → VK → Prop := fun vs H Q => ∃ (a : Addr) (xs : List V), vs = [V.ref a] ∧ SqL K H a xs ∧ (∀ x ∈ xs, ∃ n, PairI K H x n) ∧
  ∀ ys p, ys.Perm xs → ys.Pairwise (fun x y => ∀ n m, PairI K H x n → PairI K H y m → SrtO.lexB m n = false) → H p = none → Q (.ref p) (upd H p (.lst ys))
section
variable {X : Cx}
theorem cr_sortedP : CallR X (.builtin "sorted") (rSortedP X.K) := by
  classical
  intro pins s σ H vs us Q I r h
  obtain ⟨a, xs, rfl, hs, hx, q⟩ := h
  obtain ⟨its, rv, hl, hz⟩ := I.list hs
  obtain ⟨u, rfl, ru⟩ := vals1 r
  obtain rfl : u = Value.ref a := ru
  let k : V → Int × Int := fun x => if h : ∃ n, PairI X.K H x n then h.choose else (0, 0)
  have hk : ∀ x n, PairI X.K H x n → k x = n := fun x n hn => by
    have hex : ∃ n, PairI X.K H x n := ⟨n, hn⟩
    show (if h : ∃ n, PairI X.K H x n then h.choose else (0, 0)) = n
    rw [dif_pos hex]
    obtain ⟨t, e, hq⟩ := hex.choose_spec
    obtain ⟨t', e', hq'⟩ := hn
    have ee := e.symm.trans e'
    cases ee
    have := I.tuple_inj hq hq'
    simp only [List.cons.injEq, V.int.injEq, and_true] at this
    exact Prod.ext this.1 this.2
  obtain ⟨e1, e2⟩ := refs_back rv fun x m => by
    obtain ⟨n, t, e, _⟩ := hx x m
    exact ⟨t, e⟩
  refine SrtO.sorted_pairsO (k := fun u => k (backV u)) hl.isList (by rw [← rv.length]; exact hz) (fun v hv => ?_) fun h' d out h1 h2 kp hd hn => ?_
  · obtain ⟨t, rfl⟩ := e2 v hv
    have hm : V.ref t ∈ xs := by rw [e1]; exact List.mem_map.mpr ⟨_, hv, rfl⟩
    obtain ⟨n, hn⟩ := hx _ hm
    have hkn := hk _ _ hn
    obtain ⟨t', e, ht⟩ := hn
    cases e
    obtain ⟨its2, r2, hT, _⟩ := I.tuple ht
    obtain ⟨o, ho, hc, m, hd⟩ := hT
    obtain ⟨u1, u2, rfl, ri, rj⟩ := vals2 r2
    obtain ⟨t1, rfl⟩ := ri
    obtain ⟨t2, rfl⟩ := rj
    refine ⟨t, o, t1, t2, m, rfl, ho, hc, ?_⟩
    show o.data = .seq #[.int (k (.ref t)).1 t1, .int (k (.ref t)).2 t2] m
    rw [hkn]; exact hd
  · have h3 : ∀ u ∈ out, ∃ a, u = Value.ref a := fun u hu => e2 u (h2.perm.mem_iff.mp hu)
    obtain ⟨n, hn⟩ := hn
    have hb : SrtO.Stb (ltP k) (out.map backV) xs := by
      rw [e1]
      exact SrtO.Stb.map (ltP_swo k) backV h2
    refine ⟨.ref d, upd H d (.lst (out.map backV)), I.laid (t' := s.toks) kp hd ⟨?_, out, n, vals_back h3, hn⟩, rfl, q _ d hb.perm ?_ (I.hok.fresh hd)⟩
    · rw [hb.len]
      exact hz
    · refine List.Pairwise.imp (fun {x y} hxy n m hn hm => ?_) (SrtO.srtd_map (lt := ltP k) h1)
      have : SrtO.lexB (k y) (k x) = false := hxy
      rwa [hk _ _ hn, hk _ _ hm] at this
end
/-- a pair of ints -/
abbrev dP (x : Int × Int) : PyData := .tuple [.int x.1, .int x.2]
theorem pairI_dp {K : PySem.W.Frag} {H : Hp} {v : V} {x : Int × Int} (h : Dp K H v (dP x)) : PairI K H v x := by
  obtain ⟨a, xs, rfl, s, t⟩ := dp_tup h
  obtain _ | ⟨h1, _ | ⟨h2, _ | _⟩⟩ := t
  cases h1; cases h2
  exact ⟨a, rfl, s⟩
theorem dps_pw {K : PySem.W.Frag} {H : Hp} {α : Type} {enc : α → PyData} {Rl : V → α → Prop} (hR : ∀ v x, Dp K H v (enc x) → Rl v x) {S : α → α → Prop} : ∀ {ys : List V} {l : List α}, DpAll K H ys (l.map enc) → ys.Pairwise (fun x y => ∀ n m, Rl x n → Rl y m → S n m) → l.Pairwise S
  | _, [], .nil, _ => .nil
  | y :: ys, a :: l, .cons h t, p => by
    rw [List.pairwise_cons] at p ⊢
    refine ⟨fun b hb => ?_, dps_pw hR t p.2⟩
    obtain ⟨i, hi, rfl⟩ := List.getElem_of_mem hb
    obtain ⟨v, hv, dv⟩ := dps_at2 (i := i) (d := enc l[i]) t (by rw [List.getElem?_map, List.getElem?_eq_getElem hi]; rfl)
    exact p.1 v (List.mem_of_getElem? hv) _ _ (hR _ _ h) (hR _ _ dv)
theorem perm_unmap {α β : Type} {f : α → β} : ∀ {es : List β} {l : List α}, es.Perm (l.map f) → ∃ m : List α, m.Perm l ∧ es = m.map f := by
  intro es l h
  generalize hb : l.map f = b at h
  induction h generalizing l with
  | nil =>
    cases l with
    | nil => exact ⟨[], .refl _, rfl⟩
    | cons a r => cases hb
  | cons x _ ih =>
    cases l with
    | nil => cases hb
    | cons a r =>
      rw [List.map_cons, List.cons.injEq] at hb
      obtain ⟨m, hm, rfl⟩ := ih hb.2
      exact ⟨a :: m, hm.cons a, by rw [List.map_cons, hb.1]⟩
  | swap x y t =>
    match l, hb with
    | [], hb => cases hb
    | [a], hb => simp at hb
    | a :: b :: r, hb =>
      simp only [List.map_cons, List.cons.injEq] at hb
      obtain ⟨rfl, rfl, rfl⟩ := hb
      exact ⟨b :: a :: r, .swap _ _ _, rfl⟩
  | trans _ _ ih1 ih2 =>
    obtain ⟨m, hm, rfl⟩ := ih2 hb
    obtain ⟨m2, hm2, rfl⟩ := ih1 rfl
    exact ⟨m2, hm2.trans hm, rfl⟩
section
variable {K : PySem.W.Frag} {σ : L2.St} {H : Hp} {t : TA}
theorem pud_sortedP {l qs : List (Int × Int)} (h : PuDs K t σ H [.list (l.map dP)]) (hp : qs.Perm l) (hs : qs.Pairwise fun a b => SrtO.lexB a b = true) : PuD K (tCB (rSortedP K) t) σ H (.list (qs.map dP)) :=
  fun H1 e Q q => h H1 e _ fun vs J g p => by
    obtain _ | ⟨p1, _ | _⟩ := p
    obtain ⟨a, xs, rfl, s, t⟩ := dp_lst p1
    refine ⟨a, xs, rfl, s, fun x hx => ?_, fun ys y hperm hpw hn => ?_⟩
    · obtain ⟨i, hi, rfl⟩ := List.getElem_of_mem hx
      obtain ⟨d, hd, dv⟩ := dps_at (i := i) t (List.getElem?_eq_getElem hi)
      rw [List.getElem?_map] at hd
      obtain ⟨b, _, rfl⟩ := Option.map_eq_some_iff.mp hd
      exact ⟨b, pairI_dp dv⟩
    · obtain ⟨es, pe, de⟩ := dps_perm hperm t
      obtain ⟨m, pm, rfl⟩ := perm_unmap pe
      have hm : m.Pairwise fun n m => SrtO.lexB m n = false := dps_pw (S := fun n m => SrtO.lexB m n = false) (fun _ _ => pairI_dp) de hpw
      have hq : qs.Pairwise fun n m => SrtO.lexB m n = false := hs.imp fun {x y} h => by
        have := SrtO.lexB_iff.mp h
        exact SrtO.lexB_no.mpr (by omega)
      have e : m = qs := List.Perm.eq_of_pairwise (fun x y _ _ h1 h2 => by
        have h1 := SrtO.lexB_no.mp h1
        have h2 := SrtO.lexB_no.mp h2
        exact Prod.ext (by omega) (by omega)) hm hq (pm.trans hp.symm)
      subst e
      exact q _ _ (g.trans (.new hn)) (.lst (SqL.of upd_same) (dps_gr (.new hn) de))
theorem pw_eq {α : Type} {f : α → Int} {qs : List α} (h : qs.Pairwise fun a b => f a < f b) {a b : α} (ha : a ∈ qs) (hb : b ∈ qs) (e : f a = f b) : a = b := by
  obtain ⟨i, hi, rfl⟩ := List.getElem_of_mem ha
  obtain ⟨j, hj, rfl⟩ := List.getElem_of_mem hb
  rw [List.pairwise_iff_getElem] at h
  rcases Nat.lt_trichotomy i j with z | z | z
  · have := h i j hi hj z; omega
  · subst z; rfl
  · have := h j i hj hi z; omega
theorem pud_sortedW {l qs : List (List Int)} {d : Nat} {B : Int} (h : PuDs K t σ H [.list (l.map dW)]) (h64 : l.length < 64) (hb : ∀ w ∈ l, w.length = d ∧ TS.Bd B w) (hp : qs.Perm l) (hs : qs.Pairwise fun a b => TS.code B a < TS.code B b) : PuD K (tCB (rSortU K d B) t) σ H (.list (qs.map dW)) :=
  fun H1 e Q q => h H1 e _ fun vs J g p => by
    obtain _ | ⟨p1, _ | _⟩ := p
    obtain ⟨a, xs, rfl, s, t⟩ := dp_lst p1
    have hw : ∀ v x, Dp K J v (dW x) → TupI K J v x := fun v x h => by
      obtain ⟨a, rfl, hq⟩ := dp_word h
      exact ⟨a, rfl, hq⟩
    refine ⟨a, xs, rfl, s, by rw [dps_len t, List.length_map]; exact h64, fun x hx => ?_, fun ys y hperm hpw hn => ?_⟩
    · obtain ⟨i, hi, rfl⟩ := List.getElem_of_mem hx
      obtain ⟨d, hd, dv⟩ := dps_at (i := i) t (List.getElem?_eq_getElem hi)
      rw [List.getElem?_map] at hd
      obtain ⟨b, hbm, rfl⟩ := Option.map_eq_some_iff.mp hd
      exact ⟨b, hw _ _ dv, hb b (List.mem_of_getElem? hbm)⟩
    · obtain ⟨es, pe, de⟩ := dps_perm hperm t
      obtain ⟨m, pm, rfl⟩ := perm_unmap pe
      have hm : m.Pairwise fun a b => TS.code B a ≤ TS.code B b := dps_pw (S := fun a b => TS.code B a ≤ TS.code B b) hw de hpw
      have e : m = qs := List.Perm.eq_of_pairwise (fun x y hx hy h1 h2 => pw_eq hs ((pm.trans hp.symm).mem_iff.mp hx) hy (by omega)) hm (hs.imp fun {a b} h => by omega) (pm.trans hp.symm)
      subst e
      exact q _ _ (g.trans (.new hn)) (.lst (SqL.of upd_same) (dps_gr (.new hn) de))
end
end Km
set_option Elab.async false
set_option linter.all false
set_option maxRecDepth 100000
set_option maxHeartbeats 4000000
set_option autoImplicit false
/-! zip of two sequences, each a list or a tuple -/
namespace Km
open PySem PySem.Spec PyProof.Rows L2
def Sk (K : PySem.W.Frag) (k : Bool) (H : Hp) (a : Addr) (xs : List V) : Prop := match k with
  | true => SqL K H a xs
  | false => SqT K H a xs
def Hk (k : Bool) (h : Heap) (a : Addr) (its : Array Value) : Prop := match k with
  | true => h.IsList a its
  | false => h.IsTuple a its
def Ik (k : Bool) (h : Heap) (it a : Addr) (i : Nat) : Prop := match k with
  | true => h.IsListIter it a i
  | false => h.IsTupleIter it a i
def Ok2 (k : Bool) (a : Addr) : Obj := match k with
  | true => { cls := .type "list_iterator", data := .fields #[.ref a, .int 0 0] }
  | false => { cls := .type "tuple_iterator", data := .fields #[.ref a, .int 0 0] }
theorem sk_get {X : Cx} {pins : List (Addr × Obj)} {σ : L2.St} {H : Hp} {s : Shared} {k : Bool} {a : Addr} {xs : List V} (I : Inv X pins σ H s) (h : Sk X.K k H a xs) : ∃ its, Vals xs its ∧ Hk k s.heap a its.toArray := by
  cases k with
  | true => obtain ⟨its, rv, p, _⟩ := I.list h; exact ⟨its, rv, p.isList⟩
  | false => obtain ⟨its, rv, p, _⟩ := I.tuple h; exact ⟨its, rv, p⟩
theorem sk_inj {X : Cx} {pins : List (Addr × Obj)} {σ : L2.St} {H : Hp} {s : Shared} {k : Bool} {a : Addr} {xs ys : List V} (I : Inv X pins σ H s) (h : Sk X.K k H a xs) (h2 : Sk X.K k H a ys) : xs = ys := by
  cases k with
  | true => exact I.list_inj h h2
  | false => exact I.tuple_inj h h2
theorem hk_lt {k : Bool} {h : Heap} {a : Addr} {its : Array Value} (x : Hk k h a its) : a < h.objs.size := by
  cases k with
  | true => obtain ⟨_, e, _⟩ := x; exact Heap.lt_size e
  | false => obtain ⟨_, e, _⟩ := x; exact Heap.lt_size e
theorem ik_obj {k : Bool} {h : Heap} {it a : Addr} {i : Nat} (x : Ik k h it a i) : ∃ o, h.get? it = some o ∧ ∀ v, o.data ≠ .cell v := by
  cases k with
  | true => obtain ⟨o, e, _, d⟩ := x; exact ⟨o, e, fun v q => by rw [d] at q; cases q⟩
  | false => obtain ⟨o, e, _, d⟩ := x; exact ⟨o, e, fun v q => by rw [d] at q; cases q⟩
theorem ik_at {k : Bool} {h h' : Heap} {it a : Addr} {i : Nat} (x : Ik k h it a i) (e : ∀ o, h.get? it = some o → h'.get? it = some o) : Ik k h' it a i := by
  cases k with
  | true => obtain ⟨o, q, r⟩ := x; exact ⟨o, e _ q, r⟩
  | false => obtain ⟨o, q, r⟩ := x; exact ⟨o, e _ q, r⟩
theorem draws_k {prog : Program} {w : World} {A : Around} (hh : A.handled = none) (k : Bool) (it a : Addr) (hne : a ≠ it) (its : Array Value) : Draws prog w A it [it, a] its.size (fun i v => its[i]? = some v) (fun i h => Ik k h it a i ∧ Hk k h a its) := by
  cases k with
  | true => exact Draws.list hh it a hne its
  | false => exact Draws.tuple hh it a hne its
theorem begins_k (k : Bool) (a : Addr) (its : Array Value) : Begins (.ref a) (Ok2 k a) fun h => Hk k h a its := by
  cases k with
  | true => exact begins_list a its
  | false => exact begins_tuple a its
/-- the two sequences as they stand at each turn, the items in new pairs -/
def ItzX (K : PySem.W.Frag) (ka kb : Bool) (a b : Addr) : It :=
  ⟨fun i H => ∃ (xs ys : List V) (x y : V), Sk K ka H a xs ∧ Sk K kb H b ys ∧ xs[i]? = some x ∧ ys[i]? = some y,
    fun i H v H' => ∃ T x y, v = .ref T ∧ H T = none ∧ H' = upd H T (.tup [x, y]) ∧ (∀ xs, Sk K ka H a xs → xs[i]? = some x) ∧ ∀ ys, Sk K kb H b ys → ys[i]? = some y,
    fun i H => ∃ xs ys : List V, Sk K ka H a xs ∧ Sk K kb H b ys ∧ i ≤ xs.length ∧ i ≤ ys.length ∧ (i = xs.length ∨ i = ys.length)⟩
end Km
namespace Km
open PySem PySem.Spec PyProof.Rows L2
theorem sep_of {z TI TO i1 i2 a b : Addr} (D : ZipApart z TI TO i1 i2 a b) : ZipSep2 z TI TO i1 i2 [i1, a] [i2, b] where
  TIz := D.TIz
  TOz := D.TOz
  TITO := D.TITO
  TIi1 := D.TIi1
  mem1 := by simp
  zf1 := fun h => by
    simp only [List.mem_cons, List.not_mem_nil, or_false] at h
    rcases h with h | h
    · exact D.i1z h.symm
    · exact D.l1z h.symm
  Tf1 := fun h => by
    simp only [List.mem_cons, List.not_mem_nil, or_false] at h
    rcases h with h | h
    · exact D.TOi1 h
    · exact D.l1TO h.symm
  TIi2 := D.TIi2
  mem2 := by simp
  zf2 := fun h => by
    simp only [List.mem_cons, List.not_mem_nil, or_false] at h
    rcases h with h | h
    · exact D.i2z h.symm
    · exact D.l2z h.symm
  Tf2 := fun h => by
    simp only [List.mem_cons, List.not_mem_nil, or_false] at h
    rcases h with h | h
    · exact D.TOi2 h
    · exact D.l2TO h.symm
  sep1_2 := fun h => by
    simp only [List.mem_cons, List.not_mem_nil, or_false] at h
    rcases h with h | h
    · exact D.i12 h
    · exact D.l2i1 h.symm
  sep2_1 := fun h => by
    simp only [List.mem_cons, List.not_mem_nil, or_false] at h
    rcases h with h | h
    · exact D.i12 h.symm
    · exact D.l1i2 h.symm
theorem turn_zipX {P : Program} {w : World} {K : PySem.W.Frag} {elts : List Expr} {kk : Nat} {tpos : Pos} {ka kb : Bool} {a b z TI TO i1 i2 : Addr} (D : ZipApart z TI TO i1 i2 a b) :
    Turn P w K (.Tuple elts kk tpos) (ItzX K ka kb a b) [z, TI, TO, i1, i2] z (fun i h => IsZip h z TI TO .none ∧ IsTupOf2 h TI (.ref i1) (.ref i2) ∧ (∃ x y, IsTupOf2 h TO x y) ∧ Ik ka h i1 a i ∧ Ik kb h i2 b i) where
  mem := by simp
  obj := fun i h st c hc => by
    obtain ⟨hz, hTI, ⟨x, y, hTO⟩, h1, h2⟩ := st
    have e' : c = z ∨ c = TI ∨ c = TO ∨ c = i1 ∨ c = i2 := by simpa using hc
    rcases e' with q | q | q | q | q
    · rw [q]; exact ⟨_, hz, fun v q => nomatch q⟩
    · rw [q]; exact ⟨_, hTI, fun v q => nomatch q⟩
    · rw [q]; exact ⟨_, hTO, fun v q => nomatch q⟩
    · rw [q]; exact ik_obj h1
    · rw [q]; exact ik_obj h2
  keep := fun i h h' st k => by
    obtain ⟨hz, hTI, ⟨x, y, hTO⟩, h1, h2⟩ := st
    exact ⟨k z (by simp) _ hz, k TI (by simp) _ hTI, ⟨x, y, k TO (by simp) _ hTO⟩, ik_at h1 fun o q => k i1 (by simp) o q, ik_at h2 fun o q => k i2 (by simp) o q⟩
  item := by
    intro X hP hw hK hc i pins s σ H E I hf st hg
    subst hP hw hK
    obtain ⟨hz, hTI, ⟨x0, y0, hTO⟩, h1, h2⟩ := st
    obtain ⟨xs, ys, x, y, hqx, hqy, hx, hy⟩ := hg
    obtain ⟨its, rv, p⟩ := sk_get I hqx
    obtain ⟨its2, rv2, p2⟩ := sk_get I hqy
    obtain ⟨u, hu, ru⟩ := rv.get hx
    obtain ⟨u2, hu2, ru2⟩ := rv2.get hy
    have hzl : z < s.heap.objs.size := Heap.lt_size hz
    have hi1 : i < its.toArray.size := by have := (List.getElem?_eq_some_iff.mp hu).1; simpa using this
    have hi2 : i < its2.toArray.size := by have := (List.getElem?_eq_some_iff.mp hu2).1; simpa using this
    have la : a ≠ i1 := D.l1i1
    have lb : b ≠ i2 := D.l2i2
    refine wpAny_pyNext_zipD2_item (sep_of D) (draws_k (A := X.A.in1) (I.ok.hd hc) ka i1 a la its.toArray) (draws_k (A := X.A.in1) (I.ok.hd hc) kb i2 b lb its2.toArray) hz hTI hTO ⟨h1, p⟩ ⟨h2, p2⟩ hi1 hi2 fun v1 v2 h' tk q1 q2 z' TO' h1' h2' hT hsz hk => ?_
    have e1 : v1 = u := by
      have : its[i]? = some v1 := by simpa using q1
      rw [hu] at this; exact (Option.some.inj this).symm
    have e2 : v2 = u2 := by
      have : its2[i]? = some v2 := by simpa using q2
      rw [hu2] at this; exact (Option.some.inj this).symm
    subst e1 e2
    refine ⟨_, rfl, wpAny_letOwnedTupleGo_zip (s := { s with heap := h', toks := tk }) z' fun h'' z'' sb => ?_⟩
    have hT2 : h''.get? s.heap.objs.size = some { cls := .type "tuple", data := .seq #[v1, v2] } := (sb.2 _ (Nat.ne_of_gt hzl)).trans hT
    have new : ObjOk X.prog X.w (upd H s.heap.objs.size (.tup [x, y])) h'' s.heap.objs.size (.tup [x, y]) :=
      ⟨by show 2 ≤ sizeLine; decide, [v1, v2], .cons ru (.cons ru2 .nil), ⟨_, hT2, rfl, _, rfl⟩⟩
    have I1 : Inv X pins σ (upd H s.heap.objs.size (.tup [x, y])) { s with heap := h'', toks := tk } :=
      I.turnedNew (ch := [z, TI, TO, i1, i2]) (fun c o hb q => (sb.2 c (fun q' => hb (by simp [q']))).trans (hk c o (fun q' => hb (by simp [q'])) (fun q' => hb (by simp [q'])) (fun q' => hb (by simp [q'])) (fun q' => hb (by simp [q'])) q)) hf (Nat.le_refl _) new
    refine ⟨.ref s.heap.objs.size, _, I1, rfl, ⟨_, x, y, rfl, I.hok.fresh (Nat.le_refl _), rfl, fun l hl => by rw [sk_inj I hl hqx]; exact hx, fun l hl => by rw [sk_inj I hl hqy]; exact hy⟩, ⟨z'', ?_, ⟨v1, v2, ?_⟩, ?_, ?_⟩, fun c hcm => ?_⟩
    · exact (sb.2 _ D.TIz).trans (hk _ _ D.TIz D.TITO D.TIi1 D.TIi2 hTI)
    · exact (sb.2 _ D.TOz).trans TO'
    · exact ik_at h1'.1 fun o q => (sb.2 _ D.i1z).trans q
    · exact ik_at h2'.1 fun o q => (sb.2 _ D.i2z).trans q
    · have hlt : c < s.heap.objs.size := by
        have e' : c = z ∨ c = TI ∨ c = TO ∨ c = i1 ∨ c = i2 := by simpa using hcm
        rcases e' with q | q | q | q | q
        · rw [q]; exact hzl
        · rw [q]; exact Heap.lt_size hTI
        · rw [q]; exact Heap.lt_size hTO
        · rw [q]; obtain ⟨_, e1, _⟩ := ik_obj h1; exact Heap.lt_size e1
        · rw [q]; obtain ⟨_, e2, _⟩ := ik_obj h2; exact Heap.lt_size e2
      rw [upd_ne (Nat.ne_of_lt hlt)]
      exact (hf c hcm).1
  done := by
    intro X hP hw hK hc i pins s σ H E I hf st hg
    subst hP hw hK
    obtain ⟨hz, hTI, ⟨x0, y0, hTO⟩, h1, h2⟩ := st
    obtain ⟨xs, ys, hqx, hqy, hl1, hl2, hend⟩ := hg
    obtain ⟨its, rv, p⟩ := sk_get I hqx
    obtain ⟨its2, rv2, p2⟩ := sk_get I hqy
    have l1 := rv.length
    have l2 := rv2.length
    refine wpAny_pyNext_zipD2_end (sep_of D) (draws_k (A := X.A.in1) (I.ok.hd hc) ka i1 a D.l1i1 its.toArray) (draws_k (A := X.A.in1) (I.ok.hd hc) kb i2 b D.l2i2 its2.toArray) hz hTI hTO ⟨h1, p⟩ ⟨h2, p2⟩ (by simp; omega) (by simp; omega) (by simp; omega) fun h' tk hk => ⟨rfl, I.turnedL (ch := [z, TI, TO, i1, i2]) (fun c o hb q =>
      hk c o (fun q' => hb (by simp [q'])) (fun q' => hb (by simp [q'])) (fun q' => hb (by simp [q'])) (fun q' => hb (by simp [q'])) q) hf⟩
  self := fun A i s Q E st h => wpAny_pyIter_zip st.1 h
def iZipX (K : PySem.W.Frag) (ta : TA) : TI := fun σ H R => ta σ H fun vs H1 => ∃ ka kb a b xs ys, vs = [.ref a, .ref b] ∧ Sk K ka H1 a xs ∧ Sk K kb H1 b ys ∧ R (ItzX K ka kb a b) H1
theorem pi_zipX {X : Cx} {e e2 : Expr} {ta : TA} {p pos tpos : Pos} {elts : List Expr} {kk : Nat} (hg : Gl X "zip") (hm : X.mg "zip" = none) (ha : PA X [e, e2] ta)
    (hs : starEach [e, e2] X.env = (false, eval e X.env) :: starEach [e2] X.env := by rfl) (hpl : (backTo pos (starEach [e2] X.env)).any (·.1) = false := by rfl) :
    PI X (.Tuple elts kk tpos) (.Call (.Name "zip" p) [e, e2] [] pos) (iZipX X.K ta) := by
  refine ⟨fun pins s σ H R I h => ?_⟩
  refine Call_ (ld_blt I hg hm PyProof.Rows.boot_zip (PyProof.Rows.callWith_type1 (thn (ha.run pos pins s σ H _ I h) fun us s1 ⟨vs, H1, I1, r1, q1⟩ => ?_) hs hpl))
  obtain ⟨ka, kb, a, b, xs, ys, ex, hqx, hqy, q⟩ := q1
  subst ex
  cases r1 with
  | cons r rr =>
    cases rr with
    | cons r' rr =>
      cases rr
      cases r
      cases r'
      have fresh5 : ∀ c, c ∈ [s1.heap.objs.size + 4, s1.heap.objs.size + 2, s1.heap.objs.size + 3, s1.heap.objs.size, s1.heap.objs.size + 1] → FpOk X pins H1 c := fun c hcm => by
        have e' : c = s1.heap.objs.size + 4 ∨ c = s1.heap.objs.size + 2 ∨ c = s1.heap.objs.size + 3 ∨ c = s1.heap.objs.size ∨ c = s1.heap.objs.size + 1 := by simpa using hcm
        have hle : s1.heap.objs.size ≤ c := by
          rcases e' with z | z | z | z | z
          · rw [z]; exact Nat.le_add_right _ _
          · rw [z]; exact Nat.le_add_right _ _
          · rw [z]; exact Nat.le_add_right _ _
          · rw [z]; exact Nat.le_refl _
          · rw [z]; exact Nat.le_add_right _ _
        exact I1.fpOk hle (I1.hok.fresh hle)
      obtain ⟨its, rv, p1⟩ := sk_get I1 hqx
      obtain ⟨its2, rv2, p2⟩ := sk_get I1 hqy
      refine zip_begins2 (begins_k ka a its.toArray) (begins_k kb b its2.toArray) p1 p2 fun h' hz hTI hTO h1 h2 hsz hk => wpAny_pyIter_zip hz ?_
      have I2 : Inv X pins σ H1 { s1 with heap := h' } := I1.kept (t' := s1.toks) hk
      refine ⟨s1.heap.objs.size + 4, [s1.heap.objs.size + 4, s1.heap.objs.size + 2, s1.heap.objs.size + 3, s1.heap.objs.size, s1.heap.objs.size + 1], _, _, H1, rfl, I2, turn_zipX (PySem.W.ktu_apart s1.heap.objs.size a b (hk_lt p1) (hk_lt p2)), ⟨hz, hTI, ⟨_, _, hTO⟩, ?_, ?_⟩, fresh5, q⟩
      · cases ka <;> exact ⟨_, h1, rfl, rfl⟩
      · cases kb <;> exact ⟨_, h2, rfl, rfl⟩
theorem walk_zipX {K : PySem.W.Frag} {ka kb : Bool} {a b : Addr} {xs ys : List V} {n : Nat} (hn : n = min xs.length ys.length) : Walk (ItzX K ka kb a b) n (fun H => Sk K ka H a xs ∧ Sk K kb H b ys) (YPair (fun i => xs[i]?) (fun i => ys[i]?)) := by
  subst hn
  refine ⟨fun i _ hi q => ?_, fun _ q => ⟨xs, ys, q.1, q.2, by omega, by omega, by omega⟩, fun i H v H' _ q y => ?_⟩
  · have h1 : i < xs.length := by omega
    have h2 : i < ys.length := by omega
    exact ⟨xs, ys, xs[i], ys[i], q.1, q.2, by simp [h1], by simp [h2]⟩
  · obtain ⟨T, x, z, h1, h2, h3, h4, h5⟩ := y
    exact ⟨T, x, z, h1, h2, h3, h4 xs q.1, h5 ys q.2⟩
end Km
set_option Elab.async false
set_option linter.all false
set_option maxRecDepth 100000
set_option maxHeartbeats 4000000
set_option autoImplicit false
/-! data whose tuples and lists are tracked themselves -/
namespace Km
open PySem PySem.Spec PyProof.Rows L2
mutual
inductive Dr (H : Hp) : V → PyData → Prop where
  | non : Dr H .non .none
  | bl (b : Bool) : Dr H (.bl b) (.bool b)
  | int (i : Int) : Dr H (.int i) (.int i)
  | str (x : Str) : Dr H (.str x) (.str x)
  | lst {a xs ds} : H a = some (.lst xs) → DrAll H xs ds → Dr H (.ref a) (.list ds)
  | tup {a xs ds} : H a = some (.tup xs) → DrAll H xs ds → Dr H (.ref a) (.tuple ds)
inductive DrAll (H : Hp) : List V → List PyData → Prop where
  | nil : DrAll H [] []
  | cons {v d vs ds} : Dr H v d → DrAll H vs ds → DrAll H (v :: vs) (d :: ds)
end
section
variable {K : PySem.W.Frag} {H J : Hp}
mutual
theorem dr_dp : ∀ {v : V} {d : PyData}, Dr H v d → Dp K H v d
  | _, _, .non => .non
  | _, _, .bl b => .bl b
  | _, _, .int i => .int i
  | _, _, .str x => .str x
  | _, _, .lst h t => .lst (SqL.of h) (drs_dps t)
  | _, _, .tup h t => .tup (SqT.of h) (drs_dps t)
theorem drs_dps : ∀ {vs : List V} {ds : List PyData}, DrAll H vs ds → DpAll K H vs ds
  | _, _, .nil => .nil
  | _, _, .cons h t => .cons (dr_dp h) (drs_dps t)
end
mutual
theorem dr_gr (g : Gr H J) : ∀ {v : V} {d : PyData}, Dr H v d → Dr J v d
  | _, _, .non => .non
  | _, _, .bl b => .bl b
  | _, _, .int i => .int i
  | _, _, .str x => .str x
  | _, _, .lst h t => .lst (g.lst h) (drs_gr g t)
  | _, _, .tup h t => .tup (g.tup h) (drs_gr g t)
theorem drs_gr (g : Gr H J) : ∀ {vs : List V} {ds : List PyData}, DrAll H vs ds → DrAll J vs ds
  | _, _, .nil => .nil
  | _, _, .cons h t => .cons (dr_gr g h) (drs_gr g t)
end
/-- all tuples stay -/
def Gtu (H J : Hp) : Prop := ∀ a xs, H a = some (.tup xs) → J a = some (.tup xs)
theorem Gr.tu (g : Gr H J) : Gtu H J := fun a xs h => g.tup h
theorem Gtu.trans {A B C : Hp} (x : Gtu A B) (y : Gtu B C) : Gtu A C := fun a xs h => y a xs (x a xs h)
theorem gtu_upd {a : Addr} {o o' : HO} (h : H a = some o) (ho : ∀ xs, o ≠ .tup xs) : Gtu H (upd H a o') := fun b xs e => by
  rw [upd_ne]
  · exact e
  · intro z; rw [z, h] at e; exact ho xs (Option.some.inj e)
theorem gtu_new {a : Addr} {o' : HO} (h : H a = none) : Gtu H (upd H a o') := fun b xs e => by
  rw [upd_ne (ne_of_none e h)]; exact e
mutual
theorem dr_tu (g : Gtu H J) : ∀ {v : V} {d : PyData}, lf d = true → Dr H v d → Dr J v d
  | _, _, _, .non => .non
  | _, _, _, .bl b => .bl b
  | _, _, _, .int i => .int i
  | _, _, _, .str x => .str x
  | _, _, f, .lst h t => by cases f
  | _, _, f, .tup h t => .tup (g _ _ h) (drs_tu g f t)
theorem drs_tu (g : Gtu H J) : ∀ {vs : List V} {ds : List PyData}, lfs ds = true → DrAll H vs ds → DrAll J vs ds
  | _, _, _, .nil => .nil
  | _, _, f, .cons h t => by
    have f2 := Bool.and_eq_true_iff.mp f
    exact .cons (dr_tu g f2.1 h) (drs_tu g f2.2 t)
end
theorem drs_len : ∀ {vs : List V} {ds : List PyData}, DrAll H vs ds → vs.length = ds.length
  | _, _, .nil => rfl
  | _, _, .cons _ t => by simp only [List.length_cons, drs_len t]
theorem drs_at : ∀ {vs : List V} {ds : List PyData} {i : Nat} {v : V}, DrAll H vs ds → vs[i]? = some v → ∃ d, ds[i]? = some d ∧ Dr H v d
  | _, _, _, _, .nil, h => by simp at h
  | _, _, 0, _, .cons h t, e => by
    simp only [List.getElem?_cons_zero, Option.some.injEq] at e
    subst e; exact ⟨_, List.getElem?_cons_zero, h⟩
  | _, _, i + 1, _, .cons h t, e => by
    obtain ⟨d, e2, r⟩ := drs_at (i := i) t (by simpa using e)
    exact ⟨d, by simpa using e2, r⟩
theorem drs_app : ∀ {vs : List V} {ds : List PyData} {ws : List V} {es : List PyData}, DrAll H vs ds → DrAll H ws es → DrAll H (vs ++ ws) (ds ++ es)
  | _, _, _, _, .nil, b => b
  | _, _, _, _, .cons h t, b => .cons h (drs_app t b)
theorem drs_ints : ∀ (ns : List Int), DrAll H (ns.map V.int) (ns.map PyData.int)
  | [] => .nil
  | n :: r => .cons (.int n) (drs_ints r)
theorem drs_take : ∀ {vs : List V} {ds : List PyData} (n : Nat), DrAll H vs ds → DrAll H (vs.take n) (ds.take n)
  | _, _, 0, _ => by simp only [List.take_zero]; exact .nil
  | _, _, _ + 1, .nil => .nil
  | _, _, n + 1, .cons h t => .cons h (drs_take n t)
theorem drs_drop : ∀ {vs : List V} {ds : List PyData} (n : Nat), DrAll H vs ds → DrAll H (vs.drop n) (ds.drop n)
  | _, _, 0, h => by simpa using h
  | _, _, _ + 1, .nil => .nil
  | _, _, n + 1, .cons _ t => by simpa using drs_drop n t
theorem ints_drs : ∀ {vs : List V} {ns : List Int}, DrAll H vs (ns.map PyData.int) → vs = ns.map V.int
  | _, [], .nil => rfl
  | _, n :: r, .cons h t => by cases h; rw [ints_drs t]; rfl
theorem dr_word {v : V} {w : List Int} (h : Dr H v (dW w)) : ∃ a, v = .ref a ∧ H a = some (.tup (w.map V.int)) := by
  generalize hd : dW w = d at h
  cases h with
  | tup s t => cases hd; rw [ints_drs t] at s; exact ⟨_, rfl, s⟩
  | _ => cases hd
theorem word_dr {a : Addr} {w : List Int} (h : H a = some (.tup (w.map V.int))) : Dr H (.ref a) (dW w) := .tup h (drs_ints w)
theorem dr_lst {v : V} {ds : List PyData} (h : Dr H v (.list ds)) : ∃ a xs, v = .ref a ∧ H a = some (.lst xs) ∧ DrAll H xs ds := by
  cases h with | lst s t => exact ⟨_, _, rfl, s, t⟩
theorem dr_tup {v : V} {ds : List PyData} (h : Dr H v (.tuple ds)) : ∃ a xs, v = .ref a ∧ H a = some (.tup xs) ∧ DrAll H xs ds := by
  cases h with | tup s t => exact ⟨_, _, rfl, s, t⟩
end
abbrev PuR (te : TE) (σ : L2.St) (H : Hp) (d : PyData) : Prop := Pu te σ H fun v J => Dr J v d
abbrev PuRs (ta : TA) (σ : L2.St) (H : Hp) (ds : List PyData) : Prop := PuA ta σ H fun vs J => DrAll J vs ds
section
variable {K : PySem.W.Frag} {σ : L2.St} {H : Hp} {te ta tb : TE} {t : TA} {d : PyData} {ds : List PyData}
theorem pur_d (h : PuR te σ H d) : PuD K te σ H d := Pu.imp h fun _ _ _ p => dr_dp p
theorem prs_d (h : PuRs t σ H ds) : PuDs K t σ H ds := fun H1 e Q q => h H1 e _ fun vs J g p => q vs J g (drs_dps p)
theorem pur_var {i : Nat} {v : V} (h : σ[i]? = some (some v)) (hd : Dr H v d) : PuR (tVar i) σ H d := fun H1 e Q q => ⟨v, h, q v H1 .refl (dr_gr e hd)⟩
theorem pur_int {i : Int} : PuR (tC (.int i)) σ H (.int i) := fun H1 _ Q q => q _ H1 .refl (.int i)
theorem pur_str {i : Str} : PuR (tC (.str i)) σ H (.str i) := fun H1 _ Q q => q _ H1 .refl (.str i)
theorem pur_of_int {i : Int} (h : PuD K te σ H (.int i)) : PuR te σ H (.int i) := Pu.imp h fun _ _ _ p => by rw [dp_int p]; exact .int _
theorem prs_nil : PuRs tNil σ H [] := fun H1 _ Q q => q [] H1 .refl .nil
theorem prs_cons (h : PuR te σ H d) (ht : PuRs t σ H ds) : PuRs (tCons te t) σ H (d :: ds) :=
  fun H1 e Q q => h H1 e _ fun v J g p => ht J (e.trans g) _ fun r J2 g2 a => q (v :: r) J2 (g.trans g2) (.cons (dr_gr g2 p) a)
theorem prs_one (h : PuR te σ H d) : PuRs (tCons te tNil) σ H [d] := prs_cons h prs_nil
theorem prs_star {l : List PyData} (h : PuR te σ H (.list l)) (ht : PuRs t σ H ds) : PuRs (StX.tStar K te t) σ H (l ++ ds) :=
  fun H1 e Q q => h H1 e _ fun v J g p => by
    obtain ⟨a, xs, rfl, s, t⟩ := dr_lst p
    exact ⟨a, xs, rfl, .inr (SqL.of s), ht J (e.trans g) _ fun ys J2 g2 p2 => q _ J2 (g.trans g2) (drs_app (drs_gr g2 t) p2)⟩
theorem pur_tup (h : PuRs t σ H ds) (hl : ds.length ≤ 1000000) : PuR (tTup t) σ H (.tuple ds) :=
  fun H1 e Q q => h H1 e _ fun vs J g p => ⟨by rw [drs_len p]; exact Nat.le_trans hl (by decide), fun x hx => q _ _ (g.trans (.new hx)) (.tup upd_same (drs_gr (.new hx) p))⟩
theorem pur_lst (h : PuRs t σ H ds) (hl : ds.length ≤ 1000000) : PuR (tLst t) σ H (.list ds) :=
  fun H1 e Q q => h H1 e _ fun vs J g p => ⟨by rw [drs_len p]; exact Nat.le_trans hl (by decide), fun x hx => q _ _ (g.trans (.new hx)) (.lst upd_same (drs_gr (.new hx) p))⟩
theorem pur_tupleL {l : List PyData} (h : PuRs t σ H [.list l]) : PuR (tCB (fun xs H Q => ∃ p ys, xs = [.ref p] ∧ ((SqL K H p ys ∧ ∀ l, H l = none → Q (.ref l) (upd H l (.tup ys))) ∨ (SqT K H p ys ∧ Q (.ref p) H))) t) σ H (.tuple l) :=
  fun H1 e Q q => h H1 e _ fun vs J g p => by
    obtain _ | ⟨p1, _ | _⟩ := p
    obtain ⟨a, xs, rfl, s, t⟩ := dr_lst p1
    exact ⟨a, xs, rfl, .inl ⟨SqL.of s, fun x hx => q _ _ (g.trans (.new hx)) (.tup upd_same (drs_gr (.new hx) t))⟩⟩
theorem pur_tupleW {l : List Int} (h : PuDs K t σ H [.list (l.map .int)]) : PuR (tCB (fun xs H Q => ∃ p ys, xs = [.ref p] ∧ ((SqL K H p ys ∧ ∀ l, H l = none → Q (.ref l) (upd H l (.tup ys))) ∨ (SqT K H p ys ∧ Q (.ref p) H))) t) σ H (dW l) :=
  fun H1 e Q q => h H1 e _ fun vs J g p => by
    obtain _ | ⟨p1, _ | _⟩ := p
    obtain ⟨a, xs, rfl, s, t⟩ := dp_lst p1
    rw [ints_dps t] at s
    exact ⟨a, _, rfl, .inl ⟨s, fun x hx => q _ _ (g.trans (.new hx)) (word_dr upd_same)⟩⟩
theorem pur_if {tt : L2.TT} {c : Bool} (h : Pb tt σ H c) (h1 : c = true → PuR ta σ H d) (h2 : c = false → PuR tb σ H d) : PuR (tIf tt ta tb) σ H d :=
  fun H1 e Q q => h H1 e _ fun J g1 => by
    cases c with
    | true => rw [if_pos rfl]; exact h1 rfl J (e.trans g1) _ fun w J2 g2 p2 => q w J2 (g1.trans g2) p2
    | false => rw [if_neg Bool.false_ne_true]; exact h2 rfl J (e.trans g1) _ fun w J2 g2 p2 => q w J2 (g1.trans g2) p2
theorem src_listR {α : Type} {l : List α} {enc : α → PyData} {tl : TE} (h : PuR tl σ H (.list (l.map enc))) : SrcL (iList K tl) σ H l fun a x B => Dr B x (enc a) :=
  fun H0 e0 C c => h H0 e0 _ fun v J g p => by
    obtain ⟨a, xs, rfl, s, t⟩ := dr_lst p
    have hl : xs.length = l.length := by rw [drs_len t, List.length_map]
    refine ⟨a, rfl, ⟨xs, SqL.of s⟩, c _ J g ?_⟩
    rw [← hl]
    refine walk_list.mono (fun B gb => SqL.of (gb.lst s)) fun i A x B hi ga y => ?_
    obtain ⟨rfl, hx⟩ := y
    obtain ⟨d, hd, hp⟩ := drs_at t hx
    rw [List.getElem?_map] at hd
    obtain ⟨b, hb, e⟩ := Option.map_eq_some_iff.mp hd
    subst e; exact ⟨.refl, b, hb, dr_gr ga hp⟩
theorem src_tupR {α : Type} {l : List α} {enc : α → PyData} {tl : TE} (h : PuR tl σ H (.tuple (l.map enc))) : SrcL (iTup K tl) σ H l fun a x B => Dr B x (enc a) :=
  fun H0 e0 C c => h H0 e0 _ fun v J g p => by
    obtain ⟨a, xs, rfl, s, t⟩ := dr_tup p
    have hl : xs.length = l.length := by rw [drs_len t, List.length_map]
    refine ⟨a, rfl, ⟨xs, SqT.of s⟩, c _ J g ?_⟩
    rw [← hl]
    refine walk_tup.mono (fun B gb => SqT.of (gb.tup s)) fun i A x B hi ga y => ?_
    obtain ⟨rfl, hx⟩ := y
    obtain ⟨d, hd, hp⟩ := drs_at t hx
    rw [List.getElem?_map] at hd
    obtain ⟨b, hb, e⟩ := Option.map_eq_some_iff.mp hd
    subst e; exact ⟨.refl, b, hb, dr_gr ga hp⟩
end
/-- a comprehension, its items raw -/
theorem pur_lcN {K : PySem.W.Frag} {σ : L2.St} {H : Hp} {wi : TI} {te : TE} {vs : List Nat} {α : Type} {l : List α} {R : α → V → Hp → Prop} {j : Nat} {el : α → PyData} (hs : SrcL wi σ H l R) (hl : l.length ≤ 1000000) (hf : ∀ a, lf (el a) = true)
    (hw : ∀ x, wipe ((wipe σ vs).set j (some x)) vs = wipe σ vs) (he : ∀ a ∈ l, ∀ x J, Gr H J → R a x J → PuR te ((wipe σ vs).set j (some x)) J (el a)) :
    PuR (tLc wi (gName j) tYes te vs) σ H (.list (l.map el)) := fun H0 e0 Q q => hs H0 e0 _ fun I H1 g1 w D hD => by
  refine lc_it w (fun i A => Gr H1 A ∧ ∃ acc, A D = some (.lst acc) ∧ DrAll A acc ((l.take i).map el)) ⟨.new hD, [], upd_same, by simp only [List.take_zero]; exact .nil⟩ (fun _ _ _ p => p.1) ?_ ?_
  · rintro i x A B hi ⟨ga, acc, ea, da⟩ ⟨gab, a, ha, hR⟩
    have hm : a ∈ l := List.mem_of_getElem? ha
    refine ⟨hw x, pb_yes (σ := (wipe σ vs).set j (some x)) B .refl _ fun J gj => ?_⟩
    rw [if_pos rfl]
    refine he a hm x B (e0.trans (g1.trans (ga.trans gab))) hR J gj _ fun y J2 g3 dy => ?_
    have g2 := gj.trans g3
    have eD : J2 D = some (.lst acc) := g2.lst (gab.lst ea)
    have hlen : acc.length ≤ l.length := by rw [drs_len da, List.length_map, List.length_take]; omega
    refine ⟨acc, eD, Nat.lt_of_le_of_lt (Nat.le_trans hlen hl) (by decide), (ga.trans (gab.trans g2)).mut hD, acc ++ [y], upd_same, ?_⟩
    have gq : Gtu J2 (upd J2 D (.lst (acc ++ [y]))) := gtu_upd eD (fun xs z => nomatch z)
    rw [take_more ha, List.map_append]
    exact drs_app (drs_tu gq (lfs_map hf _) (drs_gr (gab.trans g2) da)) (.cons (dr_tu gq (hf a) dy) .nil)
  · rintro A ⟨ga, acc, ea, da⟩
    rw [List.take_length] at da
    exact q _ A (g1.trans ga) (.lst ea da)
/-- a promise that asks for data and hands back raw data -/
def sPR (K : PySem.W.Frag) (G : Hp → Prop) (ρ : List PyData → PyData → Prop) : Sp := fun vs H Q _ => ∃ ds d, DpAll K H vs ds ∧ ρ ds d ∧ G H ∧ ∀ v J, Gr H J → Dr J v d → Q v J
/-- .. that asks for raw data and hands back raw data -/
def sRR (G : Hp → Prop) (ρ : List PyData → PyData → Prop) : Sp := fun vs H Q _ => ∃ ds d, DrAll H vs ds ∧ ρ ds d ∧ G H ∧ ∀ v J, Gr H J → Dr J v d → Q v J
theorem givesP {K : PySem.W.Frag} {G : Hp → Prop} {ρ : List PyData → PyData → Prop} {ds : List PyData} {d : PyData} (h : ρ ds d) : GivesD K (sPR K G ρ) G ds d :=
  fun _ _ _ _ hd hG k => ⟨ds, d, hd, h, hG, fun v J g p => k v J g (dr_dp p)⟩
section
variable {K : PySem.W.Frag} {σ : L2.St} {H : Hp} {t : TA} {d : PyData} {ds : List PyData} {E : XK} {G : Hp → Prop} {ρ : List PyData → PyData → Prop}
theorem pur_callP (hs : ρ ds d) (h : PuDs K t σ H ds) (hG : ∀ J, Gr H J → G J) : PuR (tCall (sPR K G ρ) [] E t) σ H d :=
  fun H1 e Q q => h H1 e _ fun vs J g p => by
    show sPR K G ρ (vs ++ []) J Q E
    rw [List.append_nil]
    exact ⟨ds, d, p, hs, hG J (e.trans g), fun v J2 g2 p2 => q v J2 (g.trans g2) p2⟩
theorem pur_callR (hs : ρ ds d) (h : PuRs t σ H ds) (hG : ∀ J, Gr H J → G J) : PuR (tCall (sRR G ρ) [] E t) σ H d :=
  fun H1 e Q q => h H1 e _ fun vs J g p => by
    show sRR G ρ (vs ++ []) J Q E
    rw [List.append_nil]
    exact ⟨ds, d, p, hs, hG J (e.trans g), fun v J2 g2 p2 => q v J2 (g.trans g2) p2⟩
end
section
variable {P : Program} {w : World} {K : PySem.W.Frag} {mg : Str → Option Value} {base : Heap}
theorem okP {x : Str} {st : Stmt} {N ps : List Str} {k : Nat} {G : Hp → Prop} {ρ : List PyData → PyData → Prop} (D : Df K mg x st ps) (S : FnScope N ps (defScope st)) (hl : ∀ ds d, ρ ds d → ds.length = ps.length)
    (hb : ∀ (f : Addr) (cdv : Value) (A : Around) (outer : List Env) (s : Shared) (H : Hp) (vs : List V) (Q : VK) (E : XK) (ds : List PyData) (d : PyData), Room k (A.deeper (envOfC x (defScope st) s.heap.objs.size f cdv)) →
      DpAll K H vs ds → ρ ds d → G H → (∀ v J, Gr H J → Dr J v d → Q v J) →
      ∃ t, PSs (cxOf CX0 P w K mg base N x (defScope st) f cdv A outer s H E).nox (defBody st) t ∧ t { nx := fun _ H' => Q .non H', rt := Q } (start N vs) H) :
    Ok P w K mg base CX0 (k + 1) x ps (sPR K G ρ) := D.ok fun f fd F =>
  F.ok S (fun vs H Q E h => by obtain ⟨ds, d, hd, r, _⟩ := h; rw [dps_len hd]; exact hl ds d r) fun cdv A outer s H vs Q E hr h => by
    obtain ⟨ds, d, hd, r, hG, k⟩ := h
    exact hb f cdv A outer s H vs Q E ds d hr hd r hG k
theorem okR {x : Str} {st : Stmt} {N ps : List Str} {k : Nat} {G : Hp → Prop} {ρ : List PyData → PyData → Prop} (D : Df K mg x st ps) (S : FnScope N ps (defScope st)) (hl : ∀ ds d, ρ ds d → ds.length = ps.length)
    (hb : ∀ (f : Addr) (cdv : Value) (A : Around) (outer : List Env) (s : Shared) (H : Hp) (vs : List V) (Q : VK) (E : XK) (ds : List PyData) (d : PyData), Room k (A.deeper (envOfC x (defScope st) s.heap.objs.size f cdv)) →
      DrAll H vs ds → ρ ds d → G H → (∀ v J, Gr H J → Dr J v d → Q v J) →
      ∃ t, PSs (cxOf CX0 P w K mg base N x (defScope st) f cdv A outer s H E).nox (defBody st) t ∧ t { nx := fun _ H' => Q .non H', rt := Q } (start N vs) H) :
    Ok P w K mg base CX0 (k + 1) x ps (sRR G ρ) := D.ok fun f fd F =>
  F.ok S (fun vs H Q E h => by obtain ⟨ds, d, hd, r, _⟩ := h; rw [drs_len hd]; exact hl ds d r) fun cdv A outer s H vs Q E hr h => by
    obtain ⟨ds, d, hd, r, hG, k⟩ := h
    exact hb f cdv A outer s H vs Q E ds d hr hd r hG k
end
end Km
set_option Elab.async false
set_option linter.all false
set_option maxRecDepth 100000
set_option maxHeartbeats 2000000
set_option autoImplicit false
namespace Km
open PySem PySem.Spec PyProof.Rows L2

section
variable {P : Program} {w : World} {K : PySem.W.Frag} {mg : Str → Option Value} {base : Heap}
/-! ### is_integer, is_within -/
def great : Int := 1000000000000000000000000000000000000000000000000000000000000
/-- the module's constants -/
structure Cs (mg : Str → Option Value) : Prop where
  gr : ∃ t, mg "GREAT" = some (.int great t)
def spIsInteger (K : PySem.W.Frag) : Sp := sPD K gT fun ds d => ∃ i : Int, ds = [.int i] ∧ -great < i ∧ i < great ∧ d = .bool true
abbrev s_is_integer : Stmt := top 14
theorem sc_is_integer : FnScope ["value"] ["value"] (defScope s_is_integer) := ⟨rfl, rfl, rfl, by decide +kernel, rfl, by decide +kernel, by decide +kernel⟩
theorem ok_is_integer (B : Bl mg) (Z : Cs mg) (D : Df K mg "is_integer" s_is_integer ["value"]) : Ok P w K mg base CX0 1 "is_integer" ["value"] (spIsInteger K) := by
  obtain ⟨tg, hG⟩ := Z.gr
  refine okD D sc_is_integer (fun ds d h => by obtain ⟨_, rfl, _⟩ := h; rfl) ?_
  rintro f cdv A outer s H vs Q E ds d hr hd ⟨i, rfl, h1, h2, rfl⟩ _ k
  obtain _ | ⟨hv, _ | _⟩ := hd
  refine ⟨_, pss_one (ps_ret (pe_and (pe_callB call_isi (by rfl) B.isinstance boot_isinstance (pa_cons (pv 0) (pa_cons (pe_bltn (v := .ty "int") (by rfl) B.int boot_int rfl) pa_nil)))
      (pe_and (pe_not (pe_callB call_isi (by rfl) B.isinstance boot_isinstance (pa_cons (pv 0) (pa_cons (pe_bltn (v := .ty "bool") (by rfl) B.bool boot_bool rfl) pa_nil))))
      (pe_one (pe_chain op_lt op_lt (pe_un un_neg (pe_glob (v := .int great) rfl hG ⟨_, rfl⟩)) (pv 0) (pe_glob (v := .int great) rfl hG ⟨_, rfl⟩)))))), ?_⟩
  refine sq_ret (pud_is (pud_and (pud_isII (pud_var rfl hv) pu_c) fun _ => pud_and (pud_not (pud_isIB (pud_var rfl hv) pu_c)) fun _ =>
    pud_chain (pud_unI pud_int fun _ => .int _) (pud_var rfl hv) pud_int) (d2 := .bool true) ?_) k
  rw [decide_eq_true h1, decide_eq_true h2]; rfl
def spIsWithin (K : PySem.W.Frag) : Sp := sPD K gT fun ds d => ∃ i lo hi : Int, ds = [.int i, .int lo, .int hi] ∧ -great < i ∧ i < great ∧ d = .bool (decide (lo ≤ i) && decide (i ≤ hi))
abbrev s_is_within : Stmt := top 15
theorem sc_is_within : FnScope ["value", "low", "high"] ["value", "low", "high"] (defScope s_is_within) := ⟨rfl, rfl, rfl, by decide +kernel, rfl, by decide +kernel, by decide +kernel⟩
theorem ok_is_within (o_is_integer : Ok P w K mg base CX0 1 "is_integer" ["value"] (spIsInteger K)) (D : Df K mg "is_within" s_is_within ["value", "low", "high"]) : Ok P w K mg base CX0 2 "is_within" ["value", "low", "high"] (spIsWithin K) := by
  refine okD D sc_is_within (fun ds d h => by obtain ⟨_, _, _, rfl, _⟩ := h; rfl) ?_
  rintro f cdv A outer s H vs Q E ds d hr hd ⟨i, lo, hi, rfl, h1, h2, rfl⟩ _ k
  obtain _ | ⟨h0, _ | ⟨hlo, _ | ⟨hhi, _ | _⟩⟩⟩ := hd
  refine ⟨_, (pss_one (ps_ret (pe_and (pe_ok o_is_integer (hr.mono (by decide)) (by rfl) pass0 (pa_cons (pv 0) pa_nil)) (pe_one (pe_chain op_le op_le (pv 1) (pv 0) (pv 2)))))), ?_⟩
  exact sq_ret (pud_is (pud_and (pud_call (gives ⟨i, rfl, h1, h2, rfl⟩) (pds_one (pud_var rfl h0)) fun _ _ => trivial) fun _ =>
    pud_chain (pud_var rfl hlo) (pud_var rfl h0) (pud_var rfl hhi)) (d2 := .bool (decide (lo ≤ i) && decide (i ≤ hi))) rfl) k
/-! ### words -/
def spIsZero (K : PySem.W.Frag) : Sp := sPD K gT fun ds d => ∃ u : List Int, ds = [dW u] ∧ u.length ≤ 1000 ∧ d = .bool (isZ u)
abbrev s_is_zero : Stmt := top 26
theorem sc_is_zero : FnScope ["word", "entry"] ["word"] (defScope s_is_zero) := ⟨rfl, rfl, rfl, by decide +kernel, rfl, by decide +kernel, by decide +kernel⟩
theorem ok_is_zero (B : Bl mg) (D : Df K mg "is_zero" s_is_zero ["word"]) : Ok P w K mg base CX0 1 "is_zero" ["word"] (spIsZero K) := by
  refine okD D sc_is_zero (fun ds d h => by obtain ⟨_, rfl, _⟩ := h; rfl) ?_
  rintro f cdv A outer s H vs Q E ds d hr hd ⟨u, rfl, h1, rfl⟩ _ k
  obtain _ | ⟨h0, _ | _⟩ := hd
  refine ⟨_, (pss_one (ps_ret (pe_callB (cr_all rfl) (by rfl) B.all boot_all (pa_cons (pe_lc (own := [("entry", 1)]) (g := (gName 1)) (tt := tYes) rfl sc_is_zero.nd (pi_tup (pv 0)) (blkOk_by (N := ["word", "entry"]) (sc := defScope s_is_zero) (by decide +kernel)) (fun _ _ _ _ _ => pg_name (i := 1) sc_is_zero.nd rfl (Or.inl rfl)) (fun _ _ _ _ _ => pts_nil) (fun _ _ _ _ _ => (pe_cmpR op_eq (pv 1) pe_int (nomark _)))) pa_nil)))), ?_⟩
  refine sq_ret (pud_all (ns := u.map fun e => decide (e = 0)) (pds_one ?_)) k
  refine pud_is (pu_lcN (src_tup (enc := PyData.int) (pud_var rfl h0)) (by omega) (el := fun e => .bool (decide (e = 0))) (fun _ _ => rfl) (fun _ => rfl) fun e he x J g r => ?_) (by rw [List.map_map]; rfl)
  exact pud_eqI (pud_var rfl r) pud_int
def spMul (K : PySem.W.Frag) : Sp := sPR K gT fun ds d => ∃ (p : Int) (u : List Int) (b : Int), ds = [.int p, dW u, .int b] ∧ Prm p ∧ WR p u ∧ u.length ≤ 1000 ∧ d = dW (mul p u b)
abbrev s_multiple_of : Stmt := top 29
theorem sc_multiple_of : FnScope ["p", "word", "by", "entry"] ["p", "word", "by"] (defScope s_multiple_of) := ⟨rfl, rfl, rfl, by decide +kernel, rfl, by decide +kernel, by decide +kernel⟩
theorem ok_multiple_of (B : Bl mg) (D : Df K mg "multiple_of" s_multiple_of ["p", "word", "by"]) : Ok P w K mg base CX0 1 "multiple_of" ["p", "word", "by"] (spMul K) := by
  refine okP D sc_multiple_of (fun ds d h => by obtain ⟨_, _, _, rfl, _⟩ := h; rfl) ?_
  rintro f cdv A outer s H vs Q E ds d hr hd ⟨p, u, b, rfl, hp, hu, h1, rfl⟩ _ k
  obtain _ | ⟨h0, _ | ⟨hu0, _ | ⟨hb, _ | _⟩⟩⟩ := hd
  refine ⟨_, (pss_one (ps_ret (pe_callTy call_tuple_of (by rfl) B.tuple boot_tuple (pa_cons (pe_lc (own := [("entry", 3)]) (g := (gName 3)) (tt := tYes) rfl sc_multiple_of.nd (pi_tup (pv 1)) (blkOk_by (N := ["p", "word", "by", "entry"]) (sc := defScope s_multiple_of) (by decide +kernel)) (fun _ _ _ _ _ => pg_name (i := 3) sc_multiple_of.nd rfl (Or.inl rfl)) (fun _ _ _ _ _ => pts_nil) (fun _ _ _ _ _ => (pe_op op_mod (pe_op op_mul (pv 2) (pv 3)) (pv 0)))) pa_nil)))), ?_⟩
  refine sq_ret (pur_tupleW (l := mul p u b) (pds_one ?_)) k
  refine pud_is (pu_lcN (src_tup (enc := PyData.int) (pud_var rfl hu0)) (by omega) (el := fun e => .int (b * e % p)) (fun _ _ => rfl) (fun _ => rfl) fun e he x J g r => ?_) (by unfold mul; rw [List.map_map]; rfl)
  exact pud_mod (pud_mul (pud_var rfl (dp_gr g hb)) (pud_var rfl r) (mulR (hu.small hp he))) (pud_var rfl (dp_gr g h0)) (by have := hp.pos; omega)
def spSumW (K : PySem.W.Frag) : Sp := sPR K gT fun ds d => ∃ (p : Int) (u o : List Int) (b : Int), ds = [.int p, dW u, dW o, .int b] ∧ Prm p ∧ WR p o ∧ u.length ≤ 1000 ∧ d = dW (sumW p u o b)
abbrev s_sum_with : Stmt := top 30
theorem sc_sum_with : FnScope ["p", "word", "other", "by", "one", "two"] ["p", "word", "other", "by"] (defScope s_sum_with) := ⟨rfl, rfl, rfl, by decide +kernel, rfl, by decide +kernel, by decide +kernel⟩
theorem ok_sum_with (B : Bl mg) (D : Df K mg "sum_with" s_sum_with ["p", "word", "other", "by"]) : Ok P w K mg base CX0 1 "sum_with" ["p", "word", "other", "by"] (spSumW K) := by
  refine okP D sc_sum_with (fun ds d h => by obtain ⟨_, _, _, _, rfl, _⟩ := h; rfl) ?_
  rintro f cdv A outer s H vs Q E ds d hr hd ⟨p, u, o, b, rfl, hp, ho, h1, rfl⟩ _ k
  obtain _ | ⟨h0, _ | ⟨hu0, _ | ⟨ho0, _ | ⟨hb, _ | _⟩⟩⟩⟩ := hd
  refine ⟨_, (pss_one (ps_ret (pe_callTy call_tuple_of (by rfl) B.tuple boot_tuple (pa_cons (pe_lc (own := [("one", 4), ("two", 5)]) (g := (gTup K 2 (gCons (gName 4) (gCons (gName 5) gNil)))) (tt := tYes) rfl sc_sum_with.nd (RZ.pi_zipA (by rfl) B.zip (pa_cons (pv 1) (pa_cons (pv 2) pa_nil))) (blkOk_by (N := ["p", "word", "other", "by", "one", "two"]) (sc := defScope s_sum_with) (by decide +kernel)) (fun _ _ _ _ _ => pg_tup rfl (pgs_cons (pg_name (i := 4) sc_sum_with.nd rfl (Or.inl rfl)) (pgs_cons (pg_name (i := 5) sc_sum_with.nd rfl (Or.inl rfl)) pgs_nil))) (fun _ _ _ _ _ => pts_nil) (fun _ _ _ _ _ => (pe_op op_mod (pe_op op_add (pv 4) (pe_op op_mul (pv 3) (pv 5))) (pv 0)))) pa_nil)))), ?_⟩
  refine sq_ret (pur_tupleW (l := sumW p u o b) (pds_one ?_)) k
  refine pud_is (pu_lcP (src_zip (w := u) (o := o) (pds_cons (pud_var rfl hu0) (pds_one (pud_var rfl ho0)))) (by rw [List.length_zip]; omega) (el := fun x => .int ((x.1 + b * x.2) % p)) (fun _ _ => rfl) (fun _ _ => rfl) fun x hx v J g r => ?_) (by unfold sumW; rw [List.map_map]; rfl)
  obtain ⟨T, rfl, hT⟩ := r
  refine ⟨T, _, _, rfl, SqT.of hT, ?_⟩
  exact pud_mod (pud_add (pud_var rfl (.int _)) (pud_mul (pud_var rfl (dp_gr g hb)) (pud_var rfl (.int _)) (mulR (ho.small hp (List.of_mem_zip hx).2)))) (pud_var rfl (dp_gr g h0)) (by have := hp.pos; omega)
def spDot (K : PySem.W.Frag) : Sp := sPD K gT fun ds d => ∃ (p : Int) (u o : List Int), ds = [.int p, dW u, dW o] ∧ Prm p ∧ WR p o ∧ u.length ≤ 1000 ∧ d = .int (dot p u o)
abbrev s_dot : Stmt := top 32
theorem sc_dot : FnScope ["p", "word", "levels", "entry", "level"] ["p", "word", "levels"] (defScope s_dot) := ⟨rfl, rfl, rfl, by decide +kernel, rfl, by decide +kernel, by decide +kernel⟩
theorem ok_dot (B : Bl mg) (D : Df K mg "dot" s_dot ["p", "word", "levels"]) : Ok P w K mg base CX0 1 "dot" ["p", "word", "levels"] (spDot K) := by
  refine okD D sc_dot (fun ds d h => by obtain ⟨_, _, _, rfl, _⟩ := h; rfl) ?_
  rintro f cdv A outer s H vs Q E ds d hr hd ⟨p, u, o, rfl, hp, ho, h1, rfl⟩ _ k
  obtain _ | ⟨h0, _ | ⟨hu0, _ | ⟨ho0, _ | _⟩⟩⟩ := hd
  refine ⟨_, (pss_one (ps_ret (pe_op op_mod (pe_callB (cr_sum rfl) (by rfl) B.sum boot_sum (pa_cons (pe_lc (own := [("entry", 3), ("level", 4)]) (g := (gTup K 2 (gCons (gName 3) (gCons (gName 4) gNil)))) (tt := tYes) rfl sc_dot.nd (RZ.pi_zipA (by rfl) B.zip (pa_cons (pv 1) (pa_cons (pv 2) pa_nil))) (blkOk_by (N := ["p", "word", "levels", "entry", "level"]) (sc := defScope s_dot) (by decide +kernel)) (fun _ _ _ _ _ => pg_tup rfl (pgs_cons (pg_name (i := 3) sc_dot.nd rfl (Or.inl rfl)) (pgs_cons (pg_name (i := 4) sc_dot.nd rfl (Or.inl rfl)) pgs_nil))) (fun _ _ _ _ _ => pts_nil) (fun _ _ _ _ _ => (pe_op op_mul (pv 3) (pv 4)))) pa_nil)) (pv 0)))), ?_⟩
  refine sq_ret (pud_is (pud_mod (pud_sum (ns := (u.zip o).map fun x => x.1 * x.2) (pds_one ?_)) (pud_var rfl h0) (by have := hp.pos; omega)) (d2 := .int (dot p u o)) rfl) k
  refine pud_is (pu_lcP (src_zip (w := u) (o := o) (pds_cons (pud_var rfl hu0) (pds_one (pud_var rfl ho0)))) (by rw [List.length_zip]; omega) (el := fun x => .int (x.1 * x.2)) (fun _ _ => rfl) (fun _ _ => rfl) fun x hx v J g r => ?_) (by rw [List.map_map]; rfl)
  obtain ⟨T, rfl, hT⟩ := r
  refine ⟨T, _, _, rfl, SqT.of hT, ?_⟩
  exact pud_mul (pud_var rfl (.int _)) (pud_var rfl (.int _)) (mulR (ho.small hp (List.of_mem_zip hx).2))
/-- a power -/
def pw (p : Int) : Nat → Int
  | 0 => 1
  | n + 1 => pw p n * p
def spPower (K : PySem.W.Frag) : Sp := sPD K gT fun ds d => ∃ (p : Int) (n : Nat), ds = [.int p, .int (n : Int)] ∧ Prm p ∧ n ≤ 1000 ∧ d = .int (pw p n)
abbrev s_power : Stmt := top 25
theorem sc_power : FnScope ["p", "many", "found", "turn"] ["p", "many"] (defScope s_power) := ⟨rfl, rfl, rfl, by decide +kernel, rfl, by decide +kernel, by decide +kernel⟩
theorem ok_power (B : Bl mg) (D : Df K mg "power" s_power ["p", "many"]) : Ok P w K mg base CX0 1 "power" ["p", "many"] (spPower K) := by
  refine okD D sc_power (fun ds d h => by obtain ⟨_, _, rfl, _⟩ := h; rfl) ?_
  rintro f cdv A outer s H vs Q E ds d hr hd ⟨p, n, rfl, hp, hn, rfl⟩ _ k
  obtain _ | ⟨h0, _ | ⟨h1, _ | _⟩⟩ := hd
  cases h0; cases h1
  refine ⟨_, (pss_cons (ps_set (i := 2) sc_power.nd rfl (Or.inl rfl) pe_int) (pss_cons (ps_for PassesOwn.never rfl (pi_range1 (by rfl) B.range (pa_cons (pv 1) pa_nil)) (pg_name (i := 3) sc_power.nd rfl (Or.inl rfl)) (pss_one (ps_set (i := 2) sc_power.nd rfl (Or.inl rfl) (pe_op op_mul (pv 2) (pv 0))))) (pss_one (ps_ret (pv 2))))), ?_⟩
  refine sq_set (pud_int (K := K)) fun v J g p1 => ?_
  cases p1
  refine ⟨_, rfl, n, rfl, by omega, by omega, for_range (n := n) (fun i σ H' => Gr H H' ∧ ∃ x, σ = [some (.int p), some (.int (n : Int)), some (.int (pw p i)), x]) ⟨g, none, rfl⟩ ?_ ?_⟩
  · rintro i σ H' hi ⟨g1, x, rfl⟩
    refine sq_set (pud_mul (K := K) (pud_var rfl (.int _)) (pud_var rfl (.int _)) (mulR (by have := hp.pos; omega))) fun v J g2 p2 => ?_
    cases p2
    exact ⟨g1.trans g2, _, rfl⟩
  · rintro σ H' ⟨g1, x, rfl⟩
    exact sq_ret (pud_var (K := K) rfl (.int (pw p n))) fun v J g2 p2 => k v J (g1.trans g2) p2
end
end Km
section
set_option linter.all false
set_option autoImplicit false
/-! laws of the mirrors -/
namespace Km
theorem Prm.b {p : Int} (h : Prm p) : 2 ≤ p ∧ p ≤ 7 := by rcases h with h | h | h | h <;> omega
theorem emod_rng {p : Int} (h : Prm p) (x : Int) : 0 ≤ x % p ∧ x % p < p := by have := h.b; exact ⟨Int.emod_nonneg _ (by omega), Int.emod_lt_of_pos _ (by omega)⟩
theorem wr_sum {p : Int} (h : Prm p) (w o : List Int) (b : Int) : WR p (sumW p w o b) := fun e he => by
  obtain ⟨x, _, rfl⟩ := List.mem_map.mp he
  exact emod_rng h _
theorem len_sum {p : Int} {w o : List Int} {n : Nat} (h1 : w.length = n) (h2 : o.length = n) (b : Int) : (sumW p w o b).length = n := by
  unfold sumW
  rw [List.length_map, List.length_zip, h1, h2, Nat.min_self]
theorem wr_mul {p : Int} (h : Prm p) (w : List Int) (b : Int) : WR p (mul p w b) := fun e he => by
  obtain ⟨x, _, rfl⟩ := List.mem_map.mp he
  exact emod_rng h _
theorem len_mul {p : Int} (w : List Int) (b : Int) : (mul p w b).length = w.length := by unfold mul; rw [List.length_map]
theorem restStep_ok {p : Int} {n : Nat} {r a : Row} (hp : Prm p) (h1 : RowOk p n r) (h2 : RowOk p n a) : RowOk p n (restStep p r a) :=
  ⟨len_sum h1.len h2.len _, wr_sum hp _ _ _, emod_rng hp _⟩
theorem restOf_ok {p : Int} {n : Nat} (hp : Prm p) : ∀ {rows : List Row} {r : Row}, (∀ q ∈ rows, RowOk p n q) → RowOk p n r → RowOk p n (restOf p rows r)
  | [], _, _, h => h
  | q :: rs, r, hq, h => restOf_ok hp (rows := rs) (r := restStep p r q) (fun x hx => hq x (List.mem_cons_of_mem _ hx)) (restStep_ok hp h (hq q List.mem_cons_self))
/-! ### with_row: the pairs of leads and places, sorted -/
def lexle (a b : Int × Int) : Bool := decide (a.1 < b.1 ∨ (a.1 = b.1 ∧ a.2 ≤ b.2))
def pairsOf (l : List Row) : List (Int × Int) := l.zipIdx.map fun x => ((lead x.1.1 : Int), (x.2 : Int))
def placesOf (l : List Row) : List (Int × Int) := (pairsOf l).mergeSort lexle
def foundOf (p : Int) (rows : List Row) (r : Row) : List Row := newRow p (restOf p rows r) :: rows.map fun o => restOf p [newRow p (restOf p rows r)] o
def pick (l : List Row) (q : Int × Int) : Row := l.getD q.2.toNat ([], 0)
def withRow (p : Int) (rows : List Row) (r : Row) : List Row := (placesOf (foundOf p rows r)).map (pick (foundOf p rows r))
def redGo (p : Int) : List Row → Nat → List Row → List Row × Option Nat
  | f, _, [] => (f, none)
  | f, i, r :: rs => if isZ (restOf p f r).1 = true then (f, some i) else redGo p (withRow p f r) (i + 1) rs
theorem places_perm (l : List Row) : (placesOf l).Perm (pairsOf l) := List.mergeSort_perm _ _
theorem lexle_trans (a b c : Int × Int) : lexle a b = true → lexle b c = true → lexle a c = true := by
  unfold lexle; simp only [decide_eq_true_eq]; omega
theorem lexle_total (a b : Int × Int) : (lexle a b || lexle b a) = true := by
  unfold lexle; simp only [Bool.or_eq_true, decide_eq_true_eq]; omega
theorem zipIdx_pw : ∀ (l : List Row) (n : Nat), ((l.zipIdx n).map fun x => ((lead x.1.1 : Int), (x.2 : Int))).Pairwise fun a b => a.2 < b.2
  | [], _ => .nil
  | a :: r, n => by
    rw [List.zipIdx_cons, List.map_cons, List.pairwise_cons]
    refine ⟨fun b hb => ?_, zipIdx_pw r (n + 1)⟩
    obtain ⟨x, hx, rfl⟩ := List.mem_map.mp hb
    have := List.le_snd_of_mem_zipIdx hx
    show (n : Int) < (x.2 : Int)
    omega
theorem places_sorted (l : List Row) : (placesOf l).Pairwise fun a b => a.1 < b.1 ∨ (a.1 = b.1 ∧ a.2 < b.2) := by
  have h1 : (placesOf l).Pairwise fun a b => lexle a b = true := List.pairwise_mergeSort lexle_trans lexle_total _
  have h2 : (pairsOf l).Pairwise fun a b => a.2 ≠ b.2 := (zipIdx_pw l 0).imp fun {a b} h => by omega
  have h3 : (placesOf l).Pairwise fun a b => a.2 ≠ b.2 := (places_perm l).symm.pairwise h2 fun {a b} h => by omega
  refine (h1.and h3).imp fun {a b} h => ?_
  have h0 := h.1
  unfold lexle at h0
  simp only [decide_eq_true_eq] at h0
  have := h.2
  omega
theorem pairs_mem {l : List Row} {q : Int × Int} (h : q ∈ pairsOf l) : ∃ i, ∃ hi : i < l.length, q = ((lead l[i].1 : Int), (i : Int)) := by
  obtain ⟨x, hx, rfl⟩ := List.mem_map.mp h
  have h2 := List.mem_zipIdx' hx
  exact ⟨x.2, h2.1, by rw [← h2.2]⟩
theorem places_mem {l : List Row} {q : Int × Int} (h : q ∈ placesOf l) : ∃ i, ∃ hi : i < l.length, q = ((lead l[i].1 : Int), (i : Int)) := pairs_mem ((places_perm l).mem_iff.mp h)
/-! ### inverses, leads -/
theorem inv_mul {p e : Int} (hp : Prm p) (h : 0 < e ∧ e < p) : inv p e * e % p = 1 := by
  have key : ∀ q : Fin 4, ∀ i : Fin 6, let p : Int := [2, 3, 5, 7].getD q.val 2; let e : Int := (i.val : Int) + 1; e < p → inv p e * e % p = 1 := by decide +kernel
  obtain ⟨n, rfl⟩ : ∃ n : Nat, e = (n : Int) + 1 := ⟨(e - 1).toNat, by omega⟩
  rcases hp with rfl | rfl | rfl | rfl
  · exact key 0 ⟨n, by omega⟩ h.2
  · exact key 1 ⟨n, by omega⟩ h.2
  · exact key 2 ⟨n, by omega⟩ h.2
  · exact key 3 ⟨n, by omega⟩ h.2
theorem inv_rng2 {p : Int} (hp : Prm p) (e : Int) : 1 ≤ inv p e ∧ inv p e < p := by
  have hpp := hp.b
  unfold inv
  split
  · rename_i i h
    have := List.mem_range.mp (List.mem_of_find?_eq_some h)
    omega
  · omega
theorem lead_le (w : List Int) : lead w ≤ w.length := List.findIdx_le_length
theorem lead_ne {w : List Int} (h : lead w < w.length) : w.getD (lead w) 0 ≠ 0 := by
  have := @List.findIdx_getElem _ (fun e : Int => !decide (e = 0)) w h
  rw [List.getD_eq_getElem?_getD, List.getElem?_eq_getElem h]
  have h3 : (!decide (w[lead w]'h = 0)) = true := this
  simpa using h3
theorem lead_before {w : List Int} {i : Nat} (h : i < lead w) : w.getD i 0 = 0 := by
  have hl : i < w.length := Nat.lt_of_lt_of_le h (lead_le w)
  have := List.not_of_lt_findIdx h
  rw [List.getD_eq_getElem?_getD, List.getElem?_eq_getElem hl]
  simpa using this
theorem lead_of_ne {w : List Int} {i : Nat} (h : w.getD i 0 ≠ 0) (hb : ∀ j, j < i → w.getD j 0 = 0) : lead w = i := by
  have hl : i < w.length := by
    rcases Nat.lt_or_ge i w.length with z | z
    · exact z
    · exfalso; apply h; rw [List.getD_eq_getElem?_getD, List.getElem?_eq_none z]; rfl
  rcases Nat.lt_trichotomy (lead w) i with z | z | z
  · exact absurd (hb _ z) (lead_ne (Nat.lt_trans z hl))
  · exact z
  · exact absurd (lead_before z) h
theorem isZ_iff {w : List Int} : isZ w = true ↔ ∀ i, w.getD i 0 = 0 := by
  unfold isZ
  rw [List.all_eq_true]
  constructor
  · intro h i
    rcases Nat.lt_or_ge i w.length with z | z
    · have := h (decide (w[i] = 0)) (List.mem_map.mpr ⟨_, List.getElem_mem z, rfl⟩)
      rw [List.getD_eq_getElem?_getD, List.getElem?_eq_getElem z]
      simpa using this
    · rw [List.getD_eq_getElem?_getD, List.getElem?_eq_none z]; rfl
  · intro h b hb
    obtain ⟨e, he, rfl⟩ := List.mem_map.mp hb
    obtain ⟨i, hi, rfl⟩ := List.getElem_of_mem he
    have := h i
    rw [List.getD_eq_getElem?_getD, List.getElem?_eq_getElem hi] at this
    simpa using this
theorem isZ_lead {w : List Int} : isZ w = true ↔ lead w = w.length := by
  rw [isZ_iff]
  constructor
  · intro h
    rcases Nat.lt_or_ge (lead w) w.length with z | z
    · exact absurd (h _) (lead_ne z)
    · exact Nat.le_antisymm (lead_le w) z
  · intro h i
    rcases Nat.lt_or_ge i w.length with z | z
    · exact lead_before (by omega)
    · rw [List.getD_eq_getElem?_getD, List.getElem?_eq_none z]; rfl
theorem getD_mul {p : Int} {w : List Int} {b : Int} (i : Nat) : (mul p w b).getD i 0 = b * w.getD i 0 % p := by
  unfold mul
  rw [List.getD_eq_getElem?_getD, List.getElem?_map, List.getD_eq_getElem?_getD]
  cases w[i]? <;> simp
theorem getD_sum {p : Int} {w o : List Int} {b : Int} {n : Nat} (h1 : w.length = n) (h2 : o.length = n) (i : Nat) : (sumW p w o b).getD i 0 = (w.getD i 0 + b * o.getD i 0) % p := by
  unfold sumW
  rw [List.getD_eq_getElem?_getD, List.getElem?_map]
  rcases Nat.lt_or_ge i n with z | z
  · have e : (w.zip o)[i]? = some (w[i]'(by omega), o[i]'(by omega)) := List.getElem?_zip_eq_some.mpr ⟨List.getElem?_eq_getElem _, List.getElem?_eq_getElem _⟩
    rw [e, List.getD_eq_getElem?_getD, List.getD_eq_getElem?_getD, List.getElem?_eq_getElem (by omega), List.getElem?_eq_getElem (by omega)]
    rfl
  · rw [List.getElem?_eq_none (by rw [List.length_zip]; omega), List.getD_eq_getElem?_getD, List.getD_eq_getElem?_getD, List.getElem?_eq_none (by omega), List.getElem?_eq_none (by omega)]
    simp
theorem wr_getD {p : Int} {w : List Int} (hp : Prm p) (h : WR p w) (i : Nat) : 0 ≤ w.getD i 0 ∧ w.getD i 0 < p := by
  have := hp.b
  rcases Nat.lt_or_ge i w.length with z | z
  · rw [List.getD_eq_getElem?_getD, List.getElem?_eq_getElem z]
    exact h _ (List.getElem_mem z)
  · rw [List.getD_eq_getElem?_getD, List.getElem?_eq_none z]
    exact ⟨Int.le_refl _, by show (0 : Int) < p; omega⟩
theorem newRow_ok {p : Int} {n : Nat} {r : Row} (hp : Prm p) (h : RowOk p n r) : RowOk p n (newRow p r) := ⟨by show (mul _ _ _).length = n; rw [len_mul]; exact h.len, wr_mul hp _ _, emod_rng hp _⟩
theorem newRow_one {p : Int} {n : Nat} {r : Row} (hp : Prm p) (h : RowOk p n r) (hl : lead r.1 < n) : (newRow p r).1.getD (lead r.1) 0 = 1 := by
  show (mul _ _ _).getD _ 0 = 1
  rw [getD_mul]
  have h1 := wr_getD hp h.ent (lead r.1)
  have h2 := lead_ne (w := r.1) (by rw [h.len]; exact hl)
  exact inv_mul hp ⟨by omega, h1.2⟩
theorem newRow_lead {p : Int} {n : Nat} {r : Row} (hp : Prm p) (h : RowOk p n r) (hl : lead r.1 < n) : lead (newRow p r).1 = lead r.1 := by
  refine lead_of_ne (by rw [newRow_one hp h hl]; decide) fun j hj => ?_
  show (mul _ _ _).getD _ 0 = 0
  rw [getD_mul, lead_before hj]
  simp
end Km
end
set_option Elab.async false
set_option linter.all false
set_option maxRecDepth 100000
set_option maxHeartbeats 2000000
set_option autoImplicit false
namespace Km
open PySem PySem.Spec PyProof.Rows L2
section
variable {K : PySem.W.Frag} {H : Hp} {vs : List V} {d0 d1 d2 d3 : PyData}
theorem dps1 (h : DpAll K H vs [d0]) : ∃ v0, vs = [v0] ∧ Dp K H v0 d0 := by obtain _ | ⟨h0, _ | _⟩ := h; exact ⟨_, rfl, h0⟩
theorem dps2 (h : DpAll K H vs [d0, d1]) : ∃ v0 v1, vs = [v0, v1] ∧ Dp K H v0 d0 ∧ Dp K H v1 d1 := by obtain _ | ⟨h0, _ | ⟨h1, _ | _⟩⟩ := h; exact ⟨_, _, rfl, h0, h1⟩
theorem dps3 (h : DpAll K H vs [d0, d1, d2]) : ∃ v0 v1 v2, vs = [v0, v1, v2] ∧ Dp K H v0 d0 ∧ Dp K H v1 d1 ∧ Dp K H v2 d2 := by obtain _ | ⟨h0, _ | ⟨h1, _ | ⟨h2, _ | _⟩⟩⟩ := h; exact ⟨_, _, _, rfl, h0, h1, h2⟩
theorem dps4 (h : DpAll K H vs [d0, d1, d2, d3]) : ∃ v0 v1 v2 v3, vs = [v0, v1, v2, v3] ∧ Dp K H v0 d0 ∧ Dp K H v1 d1 ∧ Dp K H v2 d2 ∧ Dp K H v3 d3 := by obtain _ | ⟨h0, _ | ⟨h1, _ | ⟨h2, _ | ⟨h3, _ | _⟩⟩⟩⟩ := h; exact ⟨_, _, _, _, rfl, h0, h1, h2, h3⟩
end
section
variable {P : Program} {w : World} {K : PySem.W.Frag} {mg : Str → Option Value} {base : Heap} {T1 T2 c1 c2 : Addr}
/-! ### lead_of, inverse_of, normal_of -/
def spLead (K : PySem.W.Frag) (T1 T2 : Addr) : Sp := sPD K (TT T1 T2) fun ds d => ∃ u : List Int, ds = [dW u] ∧ d = .int (lead u : Int)
abbrev s_lead_of : Stmt := top 27
theorem sc_lead_of : FnScope ["word", "most", "at", "entry"] ["word"] (defScope s_lead_of) := ⟨rfl, rfl, rfl, by decide +kernel, rfl, by decide +kernel, by decide +kernel⟩
theorem ok_lead_of (B : Bl mg) (TB : GxR.TabB base mg c1 T1) (D : DfG K mg "lead_of" s_lead_of ["word"] c1) : Ok P w K mg base CX0 1 "lead_of" ["word"] (spLead K T1 T2) := by
  refine okDG D sc_lead_of (fun ds d h => by obtain ⟨_, rfl, _⟩ := h; rfl) ?_
  rintro f A outer s H vs Q E ds d hr hd ⟨u, rfl, rfl⟩ hT k
  obtain _ | ⟨h0, _ | _⟩ := hd
  obtain ⟨a, rfl, hq⟩ := dp_word h0
  refine ⟨_, pss_cons (ps_set (i := 1) sc_lead_of.nd rfl (Or.inl rfl) (pe_callB call_len_seq (by rfl) B.len boot_len (pa_cons (pv 0) pa_nil)))
    (pss_one (ps_ret (pe_nextE2 0 1 hr (by rfl) B.next TB rfl (show genC (defScope s_lead_of) _ _ = true by decide +kernel) (by decide +kernel) (by decide +kernel) (by decide +kernel) (by rfl) B.enumerate (pv 0) (by rfl) (by rfl) (by decide +kernel) (fun _ => rfl)))), ?_⟩
  refine sq_set (pud_lenT (pds_one (pud_var rfl h0))) fun v J g p => ?_
  have e := dp_int p
  subst e
  refine sq_ret (pud_is (pud_nextE rfl rfl (g.sqT hq) (tabG_gr g hT.1)) ?_) fun v J' g' p' => k v J' (g.trans g') p'
  rw [List.length_map]
  exact congrArg PyData.int (lead_find u)
def spInv (K : PySem.W.Frag) (T1 T2 : Addr) : Sp := sPD K (TT T1 T2) fun ds d => ∃ p e : Int, ds = [.int p, .int e] ∧ Prm p ∧ (-1000 ≤ e ∧ e ≤ 1000) ∧ d = .int (inv p e)
abbrev s_inverse_of : Stmt := top 28
theorem sc_inverse_of : FnScope ["p", "entry", "one"] ["p", "entry"] (defScope s_inverse_of) := ⟨rfl, rfl, rfl, by decide +kernel, rfl, by decide +kernel, by decide +kernel⟩
theorem ok_inverse_of (B : Bl mg) (TB : GxR.TabB base mg c2 T2) (D : DfG K mg "inverse_of" s_inverse_of ["p", "entry"] c2) : Ok P w K mg base CX0 1 "inverse_of" ["p", "entry"] (spInv K T1 T2) := by
  refine okDG D sc_inverse_of (fun ds d h => by obtain ⟨_, _, rfl, _⟩ := h; rfl) ?_
  rintro f A outer s H vs Q E ds d hr hd ⟨p, e, rfl, hp, he, rfl⟩ hT k
  obtain _ | ⟨h0, _ | ⟨h1, _ | _⟩⟩ := hd
  cases h0; cases h1
  refine ⟨_, pss_one (ps_ret (pe_nextI2 0 1 hr (by rfl) B.next TB rfl (show genC (defScope s_inverse_of) _ _ = true by decide +kernel) (by decide +kernel) (by decide +kernel) (by decide +kernel) (by decide +kernel) (by decide +kernel)
    (by rfl) (by rfl) (by rfl) (by rfl) (by rfl) (by rfl) (by rfl) B.range (fun _ => rfl))), ?_⟩
  refine sq_ret (pud_is (pud_nextI rfl rfl hp he hT.2) ?_) k
  exact congrArg PyData.int (inv_find p e)
theorem inv_rng {p : Int} (hp : Prm p) (e : Int) : 1 ≤ inv p e ∧ inv p e < p := by
  have hpp := hp.pos
  unfold inv
  split
  · rename_i i h
    have := List.mem_range.mp (List.mem_of_find?_eq_some h)
    omega
  · omega
def spNormal (T1 T2 : Addr) : Sp := sRR (TT T1 T2) fun ds d => ∃ (p : Int) (u : List Int), ds = [.int p, dW u] ∧ Prm p ∧ WR p u ∧ u.length ≤ 1000 ∧ d = dW (norm p u)
abbrev s_normal_of : Stmt := top 31
theorem sc_normal_of : FnScope ["p", "word", "lead"] ["p", "word"] (defScope s_normal_of) := ⟨rfl, rfl, rfl, by decide +kernel, rfl, by decide +kernel, by decide +kernel⟩
theorem ok_normal_of (B : Bl mg) (o_lead_of : Ok P w K mg base CX0 1 "lead_of" ["word"] (spLead K T1 T2)) (o_inverse_of : Ok P w K mg base CX0 1 "inverse_of" ["p", "entry"] (spInv K T1 T2))
    (o_multiple_of : Ok P w K mg base CX0 1 "multiple_of" ["p", "word", "by"] (spMul K)) (D : Df K mg "normal_of" s_normal_of ["p", "word"]) : Ok P w K mg base CX0 2 "normal_of" ["p", "word"] (spNormal T1 T2) := by
  refine okR D sc_normal_of (fun ds d h => by obtain ⟨_, _, rfl, _⟩ := h; rfl) ?_
  rintro f cdv A outer s H vs Q E ds d hr hd ⟨p, u, rfl, hp, hu, hl, rfl⟩ hT k
  obtain _ | ⟨h0, _ | ⟨h1, _ | _⟩⟩ := hd
  refine ⟨_, (pss_cons (ps_set (i := 2) sc_normal_of.nd rfl (Or.inl rfl) (pe_ok o_lead_of (hr.mono (by decide)) (by rfl) pass0 (pa_cons (pv 1) pa_nil))) (pss_one (ps_ret (pe_ifExp (pt_cmpR op_eq (pv 2) (pe_callB call_len_seq (by rfl) B.len boot_len (pa_cons (pv 1) pa_nil)) (nomark _)) (pv 1) (pe_ok o_multiple_of (hr.mono (by decide)) (by rfl) pass0 (pa_cons (pv 0) (pa_cons (pv 1) (pa_cons (pe_ok o_inverse_of (hr.mono (by decide)) (by rfl) pass0 (pa_cons (pv 0) (pa_cons (pe_ix (r := rIxT K) ix_tup (pv 1) (pv 2) (fun _ _ => rfl)) pa_nil))) pa_nil)))))))), ?_⟩
  refine sq_set (pud_call (K := K) (G := TT T1 T2) (gives ⟨u, rfl, rfl⟩) (pds_one (pud_var rfl (dr_dp h1))) fun J g => hT.gr g) fun v J g p1 => ?_
  have e := dp_int p1
  subst e
  dsimp only [tSeq]
  refine sq_ret (P := fun v J => Dr J v (dW (norm p u))) ?_ fun v J' g' p' => ?_
  rotate_left
  · exact k v J' (g.trans g') p'
  have hu1 := dr_gr g h1
  have hT1 := hT.gr g
  refine pur_if (pb_test (pud_eqI (pud_var rfl (.int _)) (pud_lenT (pds_one (pud_var rfl (dr_dp hu1)))))) (fun hc => ?_) (fun hc => ?_)
  · rw [decide_eq_true_eq, List.length_map] at hc
    unfold norm
    rw [if_pos (by exact_mod_cast hc)]
    exact pur_var rfl hu1
  · rw [decide_eq_false_iff_not, List.length_map] at hc
    have hc2 : lead u ≠ u.length := fun z => hc (by rw [z])
    have hlt : lead u < u.length := Nat.lt_of_le_of_ne List.findIdx_le_length hc2
    unfold norm
    rw [if_neg hc2]
    have hget : (u.map PyData.int)[lead u]? = some (.int (u.getD (lead u) 0)) := by
      rw [List.getElem?_map, List.getD_eq_getElem?_getD, List.getElem?_eq_getElem hlt]; rfl
    have hmem : u.getD (lead u) 0 ∈ u := by
      rw [List.getD_eq_getElem?_getD, List.getElem?_eq_getElem hlt]; exact List.getElem_mem hlt
    refine pur_callP (G := gT) (show _ from ⟨p, u, inv p (u.getD (lead u) 0), rfl, hp, hu, hl, rfl⟩) (pds_cons (pud_var rfl (dr_dp (dr_gr g h0))) (pds_cons (pud_var rfl (dr_dp hu1)) (pds_one ?_))) fun _ _ => trivial
    exact pud_call (G := TT T1 T2) (gives ⟨p, _, rfl, hp, hu.small hp hmem, rfl⟩) (pds_cons (pud_var rfl (dr_dp (dr_gr g h0))) (pds_one (pud_ixT (pud_var rfl (dr_dp hu1)) (pud_var rfl (.int _)) (lead u) rfl hget))) fun J g => hT1.gr g
/-! ### rest_of -/
theorem sq_for {α : Type} {l : List α} {R : α → V → Hp → Prop} {wi : TI} {g : TG} {tb : TS} {D : Ends} {σ : L2.St} {H : Hp} (Iv : Nat → L2.St → Hp → Prop) (hs : SrcL wi σ H l R) (h0 : ∀ H1, Gr H H1 → Iv 0 σ H1)
    (step : ∀ H1, Gr H H1 → ∀ i a, l[i]? = some a → ∀ σ' H', Gr H1 H' → Iv i σ' H' → ∀ x J, Gr H' J → R a x J → g x σ' J fun σ2 H2 => tb { D with nx := fun σ3 H3 => Gr H1 H3 ∧ Iv (i + 1) σ3 H3, ct := fun σ3 H3 => Gr H1 H3 ∧ Iv (i + 1) σ3 H3, bk := D.nx } σ2 H2)
    (done : ∀ H1, Gr H H1 → ∀ σ' H', Gr H1 H' → Iv l.length σ' H' → D.nx σ' H') : tFor wi g tb D σ H :=
  hs H .refl _ fun J H1 g1 w => for_it w (fun i σ' H' => Gr H1 H' ∧ Iv i σ' H') ⟨.refl, h0 H1 g1⟩ (fun _ _ _ _ p => p.1)
    (fun i x σ' A B hi p y => by
      obtain ⟨gab, a, ha, hr⟩ := y
      exact step H1 g1 i a ha σ' A p.1 p.2 x B gab hr) fun σ' A p => done H1 g1 σ' A p.1 p.2
theorem sq_par {K : PySem.W.Frag} {σ : L2.St} {H : Hp} {ta : TA} {d1 d2 : PyData} {D : Ends} {i j : Nat} (h : PuDs K ta σ H [d1, d2]) (k : ∀ x y J, Gr H J → Dp K J x d1 → Dp K J y d2 → D.nx ((σ.set i (some x)).set j (some y)) J) : tPar i j ta D σ H :=
  h H .refl _ fun vs J g p => by
    obtain ⟨x, y, rfl, hx, hy⟩ := dps2 p
    exact ⟨x, y, rfl, k x y J g hx hy⟩
def spRest (K : PySem.W.Frag) (T1 T2 : Addr) : Sp := sPD K (TT T1 T2) fun ds d => ∃ (p : Int) (n : Nat) (rows : List Row) (r : Row), (ds = [.int p, .list (rows.map dR), dR r] ∨ ds = [.int p, .tuple (rows.map dR), dR r]) ∧ Prm p ∧ n ≤ 1000 ∧ (∀ q ∈ rows, RowOk p n q ∧ lead q.1 < n) ∧ RowOk p n r ∧ d = dR (restOf p rows r)
abbrev s_rest_of : Stmt := top 33
theorem sc_rest_of : FnScope ["p", "rows", "row", "word", "side", "other", "value", "by"] ["p", "rows", "row"] (defScope s_rest_of) := ⟨rfl, rfl, rfl, by decide +kernel, rfl, by decide +kernel, by decide +kernel⟩

theorem ok_rest_of (o_lead_of : Ok P w K mg base CX0 1 "lead_of" ["word"] (spLead K T1 T2)) (o_sum_with : Ok P w K mg base CX0 1 "sum_with" ["p", "word", "other", "by"] (spSumW K))
    (D : Df K mg "rest_of" s_rest_of ["p", "rows", "row"]) : Ok P w K mg base CX0 2 "rest_of" ["p", "rows", "row"] (spRest K T1 T2) := by
  refine okD D sc_rest_of (fun ds d h => by obtain ⟨_, _, _, _, h | h, _⟩ := h <;> rw [h] <;> rfl) ?_
  rintro f cdv A outer s H vs Q E ds d hr hd ⟨p, n, rows, r, hds, hp, hn, hrs, hrr, rfl⟩ hT k
  rcases hds with rfl | rfl <;> obtain ⟨v0, v1, v2, rfl, h0, h1, h2⟩ := dps3 hd
  refine ⟨_, (pss_cons (ps_asg (pv 2) (pg_tup rfl (pgs_cons (pg_name (i := 3) sc_rest_of.nd rfl (Or.inl rfl)) (pgs_cons (pg_name (i := 4) sc_rest_of.nd rfl (Or.inl rfl)) pgs_nil)))) (pss_cons (ps_for PassesOwn.never rfl (pi_list (pv 1)) (pg_tup rfl (pgs_cons (pg_name (i := 5) sc_rest_of.nd rfl (Or.inl rfl)) (pgs_cons (pg_name (i := 6) sc_rest_of.nd rfl (Or.inl rfl)) pgs_nil))) (pss_cons (ps_set (i := 7) sc_rest_of.nd rfl (Or.inl rfl) (pe_op op_mod (pe_un un_neg (pe_ix (r := rIxT K) ix_tup (pv 3) (pe_ok o_lead_of (hr.mono (by decide)) (by rfl) pass0 (pa_cons (pv 5) pa_nil)) (fun _ _ => rfl))) (pv 0))) (pss_one (ps_par (i := 3) (j := 4) (by rfl) sc_rest_of.nd rfl rfl (by decide) rfl rfl (pa_cons (pe_ok o_sum_with (hr.mono (by decide)) (by rfl) pass0 (pa_cons (pv 0) (pa_cons (pv 3) (pa_cons (pv 5) (pa_cons (pv 7) pa_nil))))) (pa_cons (pe_op op_mod (pe_op op_add (pv 4) (pe_op op_mul (pv 7) (pv 6))) (pv 0)) pa_nil)) (by rfl))))) (pss_one (ps_ret (pe_tup (pa_cons (pv 3) (pa_cons (pv 4) pa_nil))))))), ?_⟩
  rotate_left
  refine ⟨_, (pss_cons (ps_asg (pv 2) (pg_tup rfl (pgs_cons (pg_name (i := 3) sc_rest_of.nd rfl (Or.inl rfl)) (pgs_cons (pg_name (i := 4) sc_rest_of.nd rfl (Or.inl rfl)) pgs_nil)))) (pss_cons (ps_for PassesOwn.never rfl (pi_tup (pv 1)) (pg_tup rfl (pgs_cons (pg_name (i := 5) sc_rest_of.nd rfl (Or.inl rfl)) (pgs_cons (pg_name (i := 6) sc_rest_of.nd rfl (Or.inl rfl)) pgs_nil))) (pss_cons (ps_set (i := 7) sc_rest_of.nd rfl (Or.inl rfl) (pe_op op_mod (pe_un un_neg (pe_ix (r := rIxT K) ix_tup (pv 3) (pe_ok o_lead_of (hr.mono (by decide)) (by rfl) pass0 (pa_cons (pv 5) pa_nil)) (fun _ _ => rfl))) (pv 0))) (pss_one (ps_par (i := 3) (j := 4) (by rfl) sc_rest_of.nd rfl rfl (by decide) rfl rfl (pa_cons (pe_ok o_sum_with (hr.mono (by decide)) (by rfl) pass0 (pa_cons (pv 0) (pa_cons (pv 3) (pa_cons (pv 5) (pa_cons (pv 7) pa_nil))))) (pa_cons (pe_op op_mod (pe_op op_add (pv 4) (pe_op op_mul (pv 7) (pv 6))) (pv 0)) pa_nil)) (by rfl))))) (pss_one (ps_ret (pe_tup (pa_cons (pv 3) (pa_cons (pv 4) pa_nil))))))), ?_⟩
  all_goals
    refine sq_two (pud_var rfl h2) fun x y J g hx hy => ?_
    have ey := dp_int hy
    subst ey
    dsimp only [tSeq]
    refine sq_for (fun i σ' H' => ∃ x3 x5 x6 x7, σ' = [some v0, some v1, some v2, some x3, some (V.int (restOf p (rows.take i) r).2), x5, x6, x7] ∧ RowOk p n (restOf p (rows.take i) r) ∧ Dp K H' x3 (dW (restOf p (rows.take i) r).1)) (l := rows) (R := fun a x B => Dp K B x (dR a)) ?src ?h0 ?step ?done
    case src => first | exact src_list (pud_var rfl (dp_gr g h1)) | exact src_tup (pud_var rfl (dp_gr g h1))
    case h0 => exact fun H1 g1 => ⟨_, _, _, _, rfl, hrr, dp_gr g1 hx⟩
    case step =>
      rintro H1 g1 i a ha σ' H' g2 ⟨x3, x5, x6, x7, rfl, hok, hx3⟩ z J2 g4 hz
      obtain ⟨T, x, rfl, hT3, hxa⟩ := dp_row hz
      have hmem := List.mem_of_getElem? ha
      have gJ := g.trans (g1.trans (g2.trans g4))
      have hlt : lead a.1 < (restOf p (rows.take i) r).1.length := by rw [hok.len]; exact (hrs a hmem).2
      have hget : ((restOf p (rows.take i) r).1.map PyData.int)[lead a.1]? = some (.int ((restOf p (rows.take i) r).1.getD (lead a.1) 0)) := by
        rw [List.getElem?_map, List.getD_eq_getElem?_getD, List.getElem?_eq_getElem hlt]; rfl
      have hstep : restOf p (rows.take (i + 1)) r = restStep p (restOf p (rows.take i) r) a := by
        unfold restOf
        rw [take_more ha, List.foldl_append]; rfl
      refine ⟨T, _, rfl, hT3, rfl, x, _, rfl, _, [], rfl, rfl, ?_⟩
      refine sq_set (P := fun v J => Dp K J v (.int ((-(restOf p (rows.take i) r).1.getD (lead a.1) 0) % p))) ?_ fun v J3 g5 hv => ?_
      · refine pud_mod (pud_unI (pud_ixT (pud_var rfl (dp_gr g4 hx3)) (pud_call (G := TT T1 T2) (gives ⟨a.1, rfl, rfl⟩) (pds_one (pud_var rfl hxa)) fun J g => hT.gr (gJ.trans g)) (lead a.1) rfl hget) fun _ => .int _) (pud_var rfl (dp_gr gJ h0)) (by have := hp.pos; omega)
      · have ev := dp_int hv
        subst ev
        refine sq_par (pds_cons (pud_call (G := gT) (givesP ⟨p, _, a.1, _, rfl, hp, (hrs a hmem).1.ent, by rw [hok.len]; exact hn, rfl⟩) (pds_cons (pud_var rfl (dp_gr (gJ.trans g5) h0)) (pds_cons (pud_var rfl (dp_gr (g4.trans g5) hx3)) (pds_cons (pud_var rfl (dp_gr g5 hxa)) (pds_one (pud_var rfl (.int _)))))) fun _ _ => trivial)
          (pds_one (pud_mod (pud_add (pud_var rfl (.int _)) (pud_mul (pud_var rfl (.int _)) (pud_var rfl (.int _)) (mulR (by have := (hrs a hmem).1.side; have := hp.pos; omega)))) (pud_var rfl (dp_gr (gJ.trans g5) h0)) (by have := hp.pos; omega)))) fun x9 y9 J9 g9 p9 q9 => ?_
        have eq9 := dp_int q9
        subst eq9
        refine ⟨g2.trans (g4.trans (g5.trans g9)), x9, _, _, _, by rw [hstep]; rfl, by rw [hstep]; exact restStep_ok hp hok (hrs a hmem).1, by rw [hstep]; exact p9⟩
    case done =>
      rintro H1 g1 σ' H' g2 ⟨x3, x5, x6, x7, rfl, hok, hx3⟩
      rw [List.take_length] at hx3 ⊢
      dsimp only [tSeq]
      refine sq_ret (pud_tup (pds_cons (pud_var rfl hx3) (pds_one (pud_var rfl (.int _)))) (by simp)) fun v J' g' p' => ?_
      exact k v J' (g.trans (g1.trans (g2.trans g'))) p'
end
end Km
set_option Elab.async false
set_option linter.all false
set_option maxRecDepth 100000
set_option maxHeartbeats 2000000
set_option autoImplicit false
namespace Km
open PySem PySem.Spec PyProof.Rows L2 StX
section
variable {K : PySem.W.Frag} {σ : L2.St} {H : Hp} {te : TE} {ta : TA}
theorem src_enumL {α : Type} {l : List α} {enc : α → PyData} (h : PuDs K ta σ H [.list (l.map enc)]) : SrcL (iEnum K ta) σ H l.zipIdx fun a v B => ∃ T x, v = .ref T ∧ SqT K B T [.int (a.2 : Int), x] ∧ Dp K B x (enc a.1) :=
  fun H0 e0 C c => h H0 e0 _ fun vs J g p => by
    obtain _ | ⟨p1, _ | _⟩ := p
    obtain ⟨a, xs, rfl, s, t⟩ := dp_lst p1
    have hl : xs.length = l.zipIdx.length := by rw [dps_len t, List.length_map, List.length_zipIdx]
    refine ⟨a, xs, rfl, s, c _ J g ?_⟩
    rw [← hl]
    refine walk_enum.mono (fun B gb => gb.sqL s) fun i A x B hi ga y => ?_
    obtain ⟨T, x1, y1, rfl, hT, rfl, h1, h2⟩ := y
    cases h1
    obtain ⟨d, hd, hp⟩ := dps_at t h2
    rw [List.getElem?_map] at hd
    obtain ⟨b, hb, rfl⟩ := Option.map_eq_some_iff.mp hd
    have g2 : Gr A (upd A T (.tup [.int (i : Nat), y1])) := .new hT
    exact ⟨g2, (b, i), by rw [List.getElem?_zipIdx, hb]; simp, T, y1, rfl, SqT.of upd_same, dp_gr (ga.trans g2) hp⟩
theorem src_enumT {α : Type} {l : List α} {enc : α → PyData} (h : PuDs K ta σ H [.tuple (l.map enc)]) : SrcL (iEnumT K ta) σ H l.zipIdx fun a v B => ∃ T x, v = .ref T ∧ SqT K B T [.int (a.2 : Int), x] ∧ Dp K B x (enc a.1) :=
  fun H0 e0 C c => h H0 e0 _ fun vs J g p => by
    obtain _ | ⟨p1, _ | _⟩ := p
    obtain ⟨a, xs, rfl, s, t⟩ := dp_tup p1
    have hl : xs.length = l.zipIdx.length := by rw [dps_len t, List.length_map, List.length_zipIdx]
    refine ⟨a, xs, rfl, s, c _ J g ?_⟩
    rw [← hl]
    refine walk_enumT.mono (fun B gb => gb.sqT s) fun i A x B hi ga y => ?_
    obtain ⟨T, x1, y1, rfl, hT, rfl, h1, h2⟩ := y
    cases h1
    obtain ⟨d, hd, hp⟩ := dps_at t h2
    rw [List.getElem?_map] at hd
    obtain ⟨b, hb, rfl⟩ := Option.map_eq_some_iff.mp hd
    have g2 : Gr A (upd A T (.tup [.int (i : Nat), y1])) := .new hT
    exact ⟨g2, (b, i), by rw [List.getElem?_zipIdx, hb]; simp, T, y1, rfl, SqT.of upd_same, dp_gr (ga.trans g2) hp⟩
theorem pds_star {l ds : List PyData} (h : PuD K te σ H (.list l)) (ht : PuDs K ta σ H ds) : PuDs K (StX.tStar K te ta) σ H (l ++ ds) :=
  fun H1 e Q q => h H1 e _ fun v J g p => by
    obtain ⟨a, xs, rfl, s, t⟩ := dp_lst p
    exact ⟨a, xs, rfl, .inr s, ht J (e.trans g) _ fun ys J2 g2 p2 => q _ J2 (g.trans g2) (dps_app (dps_gr g2 t) p2)⟩
theorem pds_starT {l ds : List PyData} (h : PuD K te σ H (.tuple l)) (ht : PuDs K ta σ H ds) : PuDs K (StX.tStar K te ta) σ H (l ++ ds) :=
  fun H1 e Q q => h H1 e _ fun v J g p => by
    obtain ⟨a, xs, rfl, s, t⟩ := dp_tup p
    exact ⟨a, xs, rfl, .inl s, ht J (e.trans g) _ fun ys J2 g2 p2 => q _ J2 (g.trans g2) (dps_app (dps_gr g2 t) p2)⟩
end
section
variable {P : Program} {w : World} {K : PySem.W.Frag} {mg : Str → Option Value} {base : Heap} {T1 T2 c1 c2 : Addr}
theorem pud_isA {K : PySem.W.Frag} {σ : L2.St} {H : Hp} {ta : TA} {d d2 : List PyData} (h : PuDs K ta σ H d) (e : d = d2) : PuDs K ta σ H d2 := e ▸ h
def spWith (K : PySem.W.Frag) (T1 T2 : Addr) : Sp := sPD K (TT T1 T2) fun ds d => ∃ (p : Int) (n : Nat) (rows : List Row) (r : Row), ds = [.int p, .list (rows.map dR), dR r] ∧ Prm p ∧ n ≤ 1000 ∧ rows.length ≤ 1000 ∧ (∀ q ∈ rows, RowOk p n q ∧ lead q.1 < n) ∧ RowOk p n r ∧ lead (restOf p rows r).1 < n ∧ d = .list ((withRow p rows r).map dR)
abbrev s_with_row : Stmt := top 34
theorem sc_with_row : FnScope ["p", "rows", "row", "by", "new", "found", "places", "word", "side", "lead", "at", "other"] ["p", "rows", "row"] (defScope s_with_row) := ⟨rfl, rfl, rfl, by decide +kernel, rfl, by decide +kernel, by decide +kernel⟩
theorem ok_with_row (B : Bl mg) (o_lead_of : Ok P w K mg base CX0 1 "lead_of" ["word"] (spLead K T1 T2)) (o_inverse_of : Ok P w K mg base CX0 1 "inverse_of" ["p", "entry"] (spInv K T1 T2))
    (o_multiple_of : Ok P w K mg base CX0 1 "multiple_of" ["p", "word", "by"] (spMul K)) (o_rest_of : Ok P w K mg base CX0 2 "rest_of" ["p", "rows", "row"] (spRest K T1 T2))
    (D : Df K mg "with_row" s_with_row ["p", "rows", "row"]) : Ok P w K mg base CX0 3 "with_row" ["p", "rows", "row"] (spWith K T1 T2) := by
  refine okD D sc_with_row (fun ds d h => by obtain ⟨_, _, _, _, rfl, _⟩ := h; rfl) ?_
  rintro f cdv A outer s H vs Q E ds d hr hd ⟨p, n, rows, r, rfl, hp, hn, hlen, hrs, hrr, hlt, rfl⟩ hT k
  obtain ⟨v0, v1, v2, rfl, h0, h1, h2⟩ := dps3 hd
  have hok : RowOk p n (restOf p rows r) := restOf_ok hp (fun q hq => (hrs q hq).1) hrr
  refine ⟨_, (pss_cons (ps_asg (pe_ok o_rest_of (hr.mono (by decide)) (by rfl) pass0 (pa_cons (pv 0) (pa_cons (pv 1) (pa_cons (pv 2) pa_nil)))) (pg_tup rfl (pgs_cons (pg_name (i := 7) sc_with_row.nd rfl (Or.inl rfl)) (pgs_cons (pg_name (i := 8) sc_with_row.nd rfl (Or.inl rfl)) pgs_nil)))) (pss_cons (ps_set (i := 3) sc_with_row.nd rfl (Or.inl rfl) (pe_ok o_inverse_of (hr.mono (by decide)) (by rfl) pass0 (pa_cons (pv 0) (pa_cons (pe_ix (r := rIxT K) ix_tup (pv 7) (pe_ok o_lead_of (hr.mono (by decide)) (by rfl) pass0 (pa_cons (pv 7) pa_nil)) (fun _ _ => rfl)) pa_nil)))) (pss_cons (ps_set (i := 4) sc_with_row.nd rfl (Or.inr rfl) (pe_tup (pa_cons (pe_ok o_multiple_of (hr.mono (by decide)) (by rfl) pass0 (pa_cons (pv 0) (pa_cons (pv 7) (pa_cons (pv 3) pa_nil)))) (pa_cons (pe_op op_mod (pe_op op_mul (pv 3) (pv 8)) (pv 0)) pa_nil)))) (pss_cons (ps_set (i := 5) sc_with_row.nd rfl (Or.inr rfl) (pe_lst (pa_cons (pv 4) (StX.pa_star (pe_lc (own := [("other", 11)]) (g := (gName 11)) (tt := tYes) rfl sc_with_row.nd (pi_list (pv 1)) (blkOk_by (N := ["p", "rows", "row", "by", "new", "found", "places", "word", "side", "lead", "at", "other"]) (sc := defScope s_with_row) (by decide +kernel)) (fun _ _ _ _ _ => pg_name (i := 11) sc_with_row.nd rfl (Or.inl rfl)) (fun _ _ _ _ _ => pts_nil) (fun _ _ _ _ _ => (pe_ok o_rest_of (hr.mono (by decide)) (by rfl) pass0 (pa_cons (pv 0) (pa_cons (pe_lst (pa_cons (pv 4) pa_nil)) (pa_cons (pv 11) pa_nil)))))) pa_nil)))) (pss_cons (ps_set (i := 6) sc_with_row.nd rfl (Or.inl rfl) (pe_callB cr_sortedP (by rfl) B.sorted boot_sorted (pa_cons (pe_lc (own := [("at", 10), ("other", 11)]) (g := (gTup K 2 (gCons (gName 10) (gCons (gName 11) gNil)))) (tt := tYes) rfl sc_with_row.nd (pi_enum (by rfl) B.enumerate (pa_cons (pv 5) pa_nil)) (blkOk_by (N := ["p", "rows", "row", "by", "new", "found", "places", "word", "side", "lead", "at", "other"]) (sc := defScope s_with_row) (by decide +kernel)) (fun _ _ _ _ _ => pg_tup rfl (pgs_cons (pg_name (i := 10) sc_with_row.nd rfl (Or.inl rfl)) (pgs_cons (pg_name (i := 11) sc_with_row.nd rfl (Or.inl rfl)) pgs_nil))) (fun _ _ _ _ _ => pts_nil) (fun _ _ _ _ _ => (pe_tup (pa_cons (pe_ok o_lead_of (hr.mono (by decide)) (by rfl) pass0 (pa_cons (pe_ix (r := rIxT K) ix_tup (pv 11) pe_int (fun _ _ => rfl)) pa_nil)) (pa_cons (pv 10) pa_nil))))) pa_nil))) (pss_one (ps_ret (pe_lc (own := [("lead", 9), ("at", 10)]) (g := (gTup K 2 (gCons (gName 9) (gCons (gName 10) gNil)))) (tt := tYes) rfl sc_with_row.nd (pi_list (pv 6)) (blkOk_by (N := ["p", "rows", "row", "by", "new", "found", "places", "word", "side", "lead", "at", "other"]) (sc := defScope s_with_row) (by decide +kernel)) (fun _ _ _ _ _ => pg_tup rfl (pgs_cons (pg_name (i := 9) sc_with_row.nd rfl (Or.inl rfl)) (pgs_cons (pg_name (i := 10) sc_with_row.nd rfl (Or.inl rfl)) pgs_nil))) (fun _ _ _ _ _ => pts_nil) (fun _ _ _ _ _ => (pe_ix (r := rIxL K) ix_list (pv 5) (pv 10) (fun _ _ => rfl))))))))))), ?_⟩
  refine sq_two (d1 := dW (restOf p rows r).1) (d2 := .int (restOf p rows r).2) (pud_call (G := TT T1 T2) (gives ⟨p, n, rows, r, .inl rfl, hp, hn, hrs, hrr, rfl⟩) (pds_cons (pud_var rfl h0) (pds_cons (pud_var rfl h1) (pds_one (pud_var rfl h2)))) fun J g => hT.gr g) fun x7 x8 J1 g1 hx7 hx8 => ?_
  have e8 := dp_int hx8
  subst e8
  dsimp only [tSeq]
  have hgl : lead (restOf p rows r).1 < (restOf p rows r).1.length := by rw [hok.len]; exact hlt
  have hget : ((restOf p rows r).1.map PyData.int)[lead (restOf p rows r).1]? = some (.int ((restOf p rows r).1.getD (lead (restOf p rows r).1) 0)) := by
    rw [List.getElem?_map, List.getD_eq_getElem?_getD, List.getElem?_eq_getElem hgl]; rfl
  have hT1 := hT.gr g1
  refine sq_set (pud_call (K := K) (G := TT T1 T2) (gives ⟨p, (restOf p rows r).1.getD (lead (restOf p rows r).1) 0, rfl, hp, by have := wr_getD hp hok.ent (lead (restOf p rows r).1); have := hp.b; omega, rfl⟩) (pds_cons (pud_var rfl (dp_gr g1 h0)) (pds_one (pud_ixT (pud_var rfl hx7) (pud_call (G := TT T1 T2) (gives ⟨_, rfl, rfl⟩) (pds_one (pud_var rfl hx7)) fun J g => hT1.gr g) (lead (restOf p rows r).1) rfl hget))) fun J g => hT1.gr g) fun v3 J2 g2 hv3 => ?_
  have e3 := dp_int hv3
  subst e3
  have hb := inv_rng2 hp ((restOf p rows r).1.getD (lead (restOf p rows r).1) 0)
  have hpb := hp.b
  dsimp only [tSeq]
  have g02 := g1.trans g2
  refine sq_set (P := fun v J => Dp K J v (dR (newRow p (restOf p rows r)))) (pud_tup (pds_cons (pud_call (G := gT) (givesP ⟨p, _, _, rfl, hp, hok.ent, by rw [hok.len]; exact hn, rfl⟩) (pds_cons (pud_var rfl (dp_gr g02 h0)) (pds_cons (pud_var rfl (dp_gr g2 hx7)) (pds_one (pud_var rfl (.int _))))) fun _ _ => trivial)
    (pds_one (pud_mod (pud_mul (pud_var rfl (.int _)) (pud_var rfl (.int _)) (mulL (by omega))) (pud_var rfl (dp_gr g02 h0)) (by omega)))) (by simp)) fun v4 J3 g3 hv4 => ?_
  dsimp only [tSeq]
  have g03 := g02.trans g3
  have hT3 := hT.gr g03
  have hnok := newRow_ok hp hok
  have hnl : lead (newRow p (restOf p rows r)).1 < n := by rw [newRow_lead hp hok hlt]; exact hlt
  refine sq_set (P := fun v J => Dp K J v (.list ((foundOf p rows r).map dR))) (pud_lst (pds_cons (pud_var rfl hv4) (pud_isA (pds_star (pu_lcN (src_list (enc := dR) (pud_var rfl (dp_gr g03 h1))) (by omega) (el := fun o => dR (restOf p [newRow p (restOf p rows r)] o)) (fun o _ => lf_row _) (fun _ => rfl) fun o ho x J g hx => ?_) pds_nil) ?_)) ?_) fun v5 J4 g4 hv5 => ?_
  · exact pud_call (G := TT T1 T2) (gives ⟨p, n, [newRow p (restOf p rows r)], o, .inl rfl, hp, hn, fun q hq => by rw [List.mem_singleton.mp hq]; exact ⟨hnok, hnl⟩, (hrs o ho).1, rfl⟩)
      (pds_cons (pud_var rfl (dp_gr (g03.trans g) h0)) (pds_cons (pud_lst (pds_one (pud_var rfl (dp_gr g hv4))) (by simp)) (pds_one (pud_var rfl hx)))) fun J9 g9 => hT3.gr (g.trans g9)
  · rw [List.append_nil, List.map_map]; rfl
  · rw [List.length_map]; unfold foundOf; rw [List.length_cons, List.length_map]; omega
  dsimp only [tSeq]
  have hfl : (foundOf p rows r).length = rows.length + 1 := by unfold foundOf; rw [List.length_cons, List.length_map]
  have hT4 := hT3.gr g4
  refine sq_set (P := fun v J => Dp K J v (.list ((placesOf (foundOf p rows r)).map dP))) (pud_sortedP (l := pairsOf (foundOf p rows r)) (pds_one (pud_is (pu_lcP (src_enumL (enc := dR) (pds_one (pud_var rfl hv5))) (by rw [List.length_zipIdx]; omega) (el := fun a => dP ((lead a.1.1 : Int), (a.2 : Int))) (fun a _ => rfl) (fun _ _ => rfl) fun a ha v J g hv => ?_) ?_)) (places_perm _) ((places_sorted _).imp fun {a b} h => SrtO.lexB_iff.mpr h)) fun v6 J6 g6 hv6 => ?_
  · obtain ⟨T, x, rfl, hq, hx⟩ := hv
    refine ⟨T, _, _, rfl, hq, ?_⟩
    exact pud_tup (pds_cons (pud_call (G := TT T1 T2) (gives ⟨a.1.1, rfl, rfl⟩) (pds_one (pud_ixT (pud_var rfl hx) pud_int 0 rfl rfl)) fun J9 g9 => hT4.gr (g.trans g9)) (pds_one (pud_var rfl (.int _)))) (by simp)
  · unfold pairsOf; rw [List.map_map]; rfl
  have hgg := g03.trans (g4.trans g6)
  refine sq_ret (pu_lcP (src_list (enc := dP) (pud_var rfl hv6)) ?_ (el := fun q => dR (pick (foundOf p rows r) q)) (fun a _ => lf_row _) (fun _ _ => rfl) fun a ha v J g hv => ?_) fun v J9 g9 hv => ?_
  · rw [(places_perm _).length_eq]; unfold pairsOf; rw [List.length_map, List.length_zipIdx]; omega
  · obtain ⟨i, hi, rfl⟩ := places_mem ha
    obtain ⟨T, rfl, hq⟩ := pairI_dp hv
    refine ⟨T, _, _, rfl, hq, ?_⟩
    refine pud_ixL (pud_var rfl (dp_gr (g6.trans g) hv5)) (pud_var rfl (.int _)) i rfl ?_
    rw [List.getElem?_map, List.getElem?_eq_getElem hi]
    show some _ = some (dR ((foundOf p rows r).getD (Int.toNat (i : Int)) ([], 0)))
    rw [Int.toNat_natCast, List.getD_eq_getElem?_getD, List.getElem?_eq_getElem hi]; rfl
  · refine k v J9 (hgg.trans g9) ?_
    unfold withRow
    rw [List.map_map]
    exact hv
end
end Km
section
set_option linter.all false
set_option autoImplicit false
/-! reduced rows stay reduced -/
namespace Km
abbrev at0 (r : Row) (i : Nat) : Int := r.1.getD i 0
theorem step_at {p : Int} {n : Nat} {ws r : Row} (h1 : ws.1.length = n) (h2 : r.1.length = n) (i : Nat) : at0 (restStep p ws r) i = (at0 ws i + ((-(at0 ws (lead r.1))) % p) * at0 r i) % p := getD_sum h1 h2 i
def Off (a b : Row) : Prop := at0 a (lead b.1) = 0 ∧ at0 b (lead a.1) = 0
theorem Off.symm {a b : Row} (h : Off a b) : Off b a := ⟨h.2, h.1⟩
theorem rest_zero {p : Int} {n : Nat} (hp : Prm p) : ∀ (rows : List Row) (ws : Row) (Z : Nat → Prop), (∀ r ∈ rows, RowOk p n r) → (∀ r ∈ rows, at0 r (lead r.1) = 1) → rows.Pairwise Off → RowOk p n ws → (∀ i, Z i → at0 ws i = 0) → (∀ r ∈ rows, ∀ i, Z i → at0 r i = 0) →
    ∀ i, (Z i ∨ ∃ r ∈ rows, lead r.1 = i) → at0 (restOf p rows ws) i = 0
  | [], ws, Z, _, _, _, _, hz, _, i, h => by
    rcases h with h | ⟨r, hr, _⟩
    · exact hz i h
    · cases hr
  | r :: rs, ws, Z, hok, hone, hoff, hws, hz, hrz, i, h => by
    have hr := hok r List.mem_cons_self
    have h1 := hone r List.mem_cons_self
    have hb := hp.b
    rw [List.pairwise_cons] at hoff
    have hstep := step_at (p := p) hws.len hr.len
    refine rest_zero hp rs (restStep p ws r) (fun j => Z j ∨ j = lead r.1) (fun q hq => hok q (List.mem_cons_of_mem _ hq)) (fun q hq => hone q (List.mem_cons_of_mem _ hq)) hoff.2 (restStep_ok hp hws hr) (fun j hj => ?_) (fun q hq j hj => ?_) i ?_
    · rw [hstep]
      rcases hj with hj | hj
      · rw [hz j hj, hrz r List.mem_cons_self j hj]; simp
      · subst hj
        rw [h1, Int.mul_one, Int.add_emod, Int.emod_emod, ← Int.add_emod, Int.add_right_neg]; simp
    · rcases hj with hj | hj
      · exact hrz q (List.mem_cons_of_mem _ hq) j hj
      · subst hj
        exact (hoff.1 q hq).2
    · rcases h with h | ⟨q, hq, e⟩
      · exact .inl (.inl h)
      · rcases List.mem_cons.mp hq with hq | hq
        · subst hq; exact .inl (.inr e.symm)
        · exact .inr ⟨q, hq, e⟩
theorem Red.offp {p : Int} {n : Nat} {rows : List Row} (h : Red p n rows) : rows.Pairwise Off := h.off.imp fun {a b} h => h
theorem red_zero {p : Int} {n : Nat} {rows : List Row} {ws : Row} (hp : Prm p) (h : Red p n rows) (hw : RowOk p n ws) {r : Row} (hr : r ∈ rows) : at0 (restOf p rows ws) (lead r.1) = 0 :=
  rest_zero hp rows ws (fun _ => False) h.ok h.one h.offp hw (fun _ z => z.elim) (fun _ _ _ z => z.elim) _ (.inr ⟨r, hr, rfl⟩)
theorem red_with {p : Int} {n : Nat} {f : List Row} {r : Row} (hp : Prm p) (h : Red p n f) (hr : RowOk p n r) (hz : isZ (restOf p f r).1 = false) : Red p n (withRow p f r) := by
  have hb := hp.b
  have hR := restOf_ok hp h.ok hr
  have hlt : lead (restOf p f r).1 < n := by
    have h1 := lead_le (restOf p f r).1
    rw [hR.len] at h1
    rcases Nat.lt_or_ge (lead (restOf p f r).1) n with z | z
    · exact z
    · have : isZ (restOf p f r).1 = true := isZ_lead.mpr (by rw [hR.len]; omega)
      rw [hz] at this; cases this
  have nok := newRow_ok hp hR
  have none_ := newRow_one hp hR hlt
  have nlead := newRow_lead hp hR hlt
  have nz : ∀ q ∈ f, at0 (newRow p (restOf p f r)) (lead q.1) = 0 := fun q hq => by
    show (mul _ _ _).getD _ 0 = 0
    rw [getD_mul]
    have := red_zero hp h hr hq
    rw [show (restOf p f r).1.getD (lead q.1) 0 = 0 from this]; simp
  unfold withRow
  generalize hnr : newRow p (restOf p f r) = nr at *
  have hl : lead nr.1 < n := by rw [nlead]; exact hlt
  have one' : at0 nr (lead nr.1) = 1 := by rw [nlead]; exact none_
  -- the rows struck by the new one
  have oat : ∀ o ∈ f, ∀ i, at0 (restOf p [nr] o) i = (at0 o i + ((-(at0 o (lead nr.1))) % p) * at0 nr i) % p := fun o ho i => step_at (h.ok o ho).len nok.len i
  have ook : ∀ o ∈ f, RowOk p n (restOf p [nr] o) := fun o ho => restStep_ok hp (h.ok o ho) nok
  have olow : ∀ o ∈ f, ∀ i, i ≤ lead o.1 → at0 (restOf p [nr] o) i = at0 o i := fun o ho i hi => by
    rw [oat o ho i]
    have hrg := wr_getD hp (h.ok o ho).ent i
    have key : ((-(at0 o (lead nr.1))) % p) * at0 nr i = 0 := by
      rcases Nat.lt_or_ge (lead nr.1) (lead o.1) with z | z
      · rw [show at0 o (lead nr.1) = 0 from lead_before z]; simp
      · rcases Nat.lt_or_ge i (lead nr.1) with y | y
        · rw [show at0 nr i = 0 from lead_before y]; simp
        · have : i = lead o.1 := by omega
          subst this
          rw [nz o ho]; simp
    rw [key, Int.add_zero]
    exact Int.emod_eq_of_lt hrg.1 hrg.2
  have olead : ∀ o ∈ f, lead (restOf p [nr] o).1 = lead o.1 := fun o ho => by
    refine lead_of_ne ?_ fun j hj => ?_
    · have := olow o ho (lead o.1) (Nat.le_refl _)
      rw [show (restOf p [nr] o).1.getD (lead o.1) 0 = at0 o (lead o.1) from this]
      exact fun e => by have := h.one o ho; rw [show at0 o (lead o.1) = 1 from this] at e; cases e
    · have := olow o ho j (Nat.le_of_lt hj)
      rw [show (restOf p [nr] o).1.getD j 0 = at0 o j from this]
      exact lead_before hj
  have oz : ∀ o ∈ f, at0 (restOf p [nr] o) (lead nr.1) = 0 := fun o ho => by
    rw [oat o ho, one', Int.mul_one, Int.add_emod, Int.emod_emod, ← Int.add_emod, Int.add_right_neg]; simp
  generalize hF : foundOf p f r = F
  have eF : F = nr :: f.map fun o => restOf p [nr] o := by rw [← hF]; unfold foundOf; rw [hnr]
  have Fok : ∀ q ∈ F, RowOk p n q := by
    intro q hq
    rw [eF] at hq
    rcases List.mem_cons.mp hq with e | hq
    · rw [e]; exact nok
    · obtain ⟨o, ho, rfl⟩ := List.mem_map.mp hq
      exact ook o ho
  have Flt : ∀ q ∈ F, lead q.1 < n := by
    intro q hq
    rw [eF] at hq
    rcases List.mem_cons.mp hq with e | hq
    · rw [e]; exact hl
    · obtain ⟨o, ho, rfl⟩ := List.mem_map.mp hq
      rw [olead o ho]; exact h.lt o ho
  have Fone : ∀ q ∈ F, at0 q (lead q.1) = 1 := by
    intro q hq
    rw [eF] at hq
    rcases List.mem_cons.mp hq with e | hq
    · rw [e]; exact one'
    · obtain ⟨o, ho, rfl⟩ := List.mem_map.mp hq
      rw [olead o ho, olow o ho _ (Nat.le_refl _)]; exact h.one o ho
  have Foff : F.Pairwise Off := by
    rw [eF, List.pairwise_cons, List.pairwise_map]
    refine ⟨fun q hq => ?_, ?_⟩
    · obtain ⟨o, ho, rfl⟩ := List.mem_map.mp hq
      exact ⟨by rw [olead o ho]; exact nz o ho, oz o ho⟩
    · refine (List.Pairwise.and_mem.mp h.offp).imp fun {a b} hab => ?_
      obtain ⟨ha, hb', h1, h2⟩ := hab
      refine ⟨?_, ?_⟩
      · rw [olead b hb', oat a ha, h1, nz b hb']; simp
      · rw [olead a ha, oat b hb', h2, nz a ha]; simp
  -- sorting
  have hpick : (pairsOf F).map (pick F) = F := by
    unfold pairsOf pick
    rw [List.map_map]
    refine List.ext_getElem (by simp) fun i h1 h2 => ?_
    simp only [List.getElem_map, List.getElem_zipIdx, Function.comp_apply]
    rw [show (((0 + i : Nat) : Int)).toNat = i by omega, List.getD_eq_getElem?_getD, List.getElem?_eq_getElem h2]; rfl
  have hperm : ((placesOf F).map (pick F)).Perm F := by
    have := (places_perm F).map (pick F)
    rwa [hpick] at this
  have hne : ∀ i j (hi : i < F.length) (hj : j < F.length), i ≠ j → lead F[i].1 ≠ lead F[j].1 := fun i j hi hj hij e => by
    have key : ∀ i j (hi : i < F.length) (hj : j < F.length), i < j → lead F[i].1 ≠ lead F[j].1 := fun i j hi hj hij e => by
      have h1 := (List.pairwise_iff_getElem.mp Foff i j hi hj hij).1
      rw [← e] at h1
      have h2 := Fone F[i] (List.getElem_mem hi)
      rw [h2] at h1; cases h1
    rcases Nat.lt_or_gt_of_ne hij with z | z
    · exact key i j hi hj z e
    · exact key j i hj hi z e.symm
  refine ⟨fun q hq => Fok q (hperm.mem_iff.mp hq), fun q hq => Flt q (hperm.mem_iff.mp hq), fun q hq => Fone q (hperm.mem_iff.mp hq), (hperm.pairwise_iff (fun {a b} (h : Off a b) => h.symm)).mpr Foff, ?_⟩
  rw [List.pairwise_map]
  refine (List.Pairwise.and_mem.mp (places_sorted F)).imp fun {a b} hab => ?_
  obtain ⟨ha, hb', h1⟩ := hab
  obtain ⟨i, hi, rfl⟩ := places_mem ha
  obtain ⟨j, hj, rfl⟩ := places_mem hb'
  have pk : ∀ k (hk : k < F.length), pick F ((lead F[k].1 : Int), (k : Int)) = F[k] := fun k hk => by
    unfold pick
    rw [show ((k : Int)).toNat = k from Int.toNat_natCast k, List.getD_eq_getElem?_getD, List.getElem?_eq_getElem hk]; rfl
  rw [pk i hi, pk j hj]
  rcases h1 with h1 | ⟨h1, h2⟩
  · simpa using h1
  · exact absurd (Int.ofNat.inj h1) (hne i j hi hj (fun e => by subst e; exact absurd h2 (Int.lt_irrefl _)))
theorem withRow_len {p : Int} {f : List Row} {r : Row} : (withRow p f r).length = f.length + 1 := by
  unfold withRow
  rw [List.length_map, (places_perm _).length_eq]
  unfold pairsOf foundOf
  rw [List.length_map, List.length_zipIdx, List.length_cons, List.length_map]
theorem red_nil {p : Int} {n : Nat} : Red p n [] := ⟨nofun, nofun, nofun, .nil, .nil⟩
theorem redGo_red {p : Int} {n : Nat} (hp : Prm p) : ∀ (rows f : List Row) (i : Nat), (∀ r ∈ rows, RowOk p n r) → Red p n f → Red p n (redGo p f i rows).1
  | [], f, i, _, h => h
  | r :: rs, f, i, hr, h => by
    rw [redGo]
    split
    · exact h
    · rename_i hz
      exact redGo_red hp rs _ _ (fun x hx => hr x (List.mem_cons_of_mem _ hx)) (red_with hp h (hr r List.mem_cons_self) (by simpa using hz))
theorem redGo_len {p : Int} : ∀ (rows f : List Row) (i : Nat), (redGo p f i rows).1.length ≤ f.length + rows.length
  | [], f, i => Nat.le_refl _
  | r :: rs, f, i => by
    rw [redGo]
    split
    · exact Nat.le_add_right _ _
    · have := redGo_len (p := p) rs (withRow p f r) (i + 1)
      rw [withRow_len] at this
      rw [List.length_cons]; omega
theorem redGo_idx {p : Int} : ∀ (rows f : List Row) (i j : Nat), (redGo p f i rows).2 = some j → j < i + rows.length
  | [], f, i, j, h => by rw [redGo] at h; cases h
  | r :: rs, f, i, j, h => by
    rw [redGo] at h
    split at h
    · cases h; rw [List.length_cons]; omega
    · have := redGo_idx rs _ _ _ h
      rw [List.length_cons]; omega
end Km
end
set_option Elab.async false
set_option linter.all false
set_option maxRecDepth 100000
set_option maxHeartbeats 2000000
set_option autoImplicit false
namespace Km
open PySem PySem.Spec PyProof.Rows L2 StX
section
variable {P : Program} {w : World} {K : PySem.W.Frag} {mg : Str → Option Value} {base : Heap} {T1 T2 c1 c2 : Addr}
def dO : Option Nat → PyData
  | none => .none
  | some i => .int (i : Int)
theorem dp_non {K : PySem.W.Frag} {H : Hp} {v : V} (h : Dp K H v .none) : v = .non := by cases h; rfl
theorem pud_non {K : PySem.W.Frag} {σ : L2.St} {H : Hp} : PuD K (tC .non) σ H .none := fun H1 _ Q q => q _ H1 .refl .non
def spReduced (K : PySem.W.Frag) (T1 T2 : Addr) : Sp := sPD K (TT T1 T2) fun ds d => ∃ (p : Int) (n : Nat) (rows : List Row), ds = [.int p, .tuple (rows.map dR)] ∧ Prm p ∧ n ≤ 1000 ∧ rows.length ≤ 500 ∧ (∀ q ∈ rows, RowOk p n q) ∧ d = .tuple [.list ((redGo p [] 0 rows).1.map dR), dO (redGo p [] 0 rows).2]
abbrev s_reduced_of : Stmt := top 35
theorem sc_reduced_of : FnScope ["p", "rows", "found", "index", "row"] ["p", "rows"] (defScope s_reduced_of) := ⟨rfl, rfl, rfl, by decide +kernel, rfl, by decide +kernel, by decide +kernel⟩
theorem ok_reduced_of (B : Bl mg) (o_is_zero : Ok P w K mg base CX0 1 "is_zero" ["word"] (spIsZero K)) (o_rest_of : Ok P w K mg base CX0 2 "rest_of" ["p", "rows", "row"] (spRest K T1 T2)) (o_with_row : Ok P w K mg base CX0 3 "with_row" ["p", "rows", "row"] (spWith K T1 T2))
    (D : Df K mg "reduced_of" s_reduced_of ["p", "rows"]) : Ok P w K mg base CX0 4 "reduced_of" ["p", "rows"] (spReduced K T1 T2) := by
  refine okD D sc_reduced_of (fun ds d h => by obtain ⟨_, _, _, rfl, _⟩ := h; rfl) ?_
  rintro f cdv A outer s H vs Q E ds d hr hd ⟨p, n, rows, rfl, hp, hn, hlen, hrs, rfl⟩ hT k
  obtain ⟨v0, v1, rfl, h0, h1⟩ := dps2 hd
  refine ⟨_, (pss_cons (ps_set (i := 2) sc_reduced_of.nd rfl (Or.inl rfl) (pe_lst pa_nil)) (pss_cons (ps_for PassesOwn.never rfl (pi_enumT (by rfl) B.enumerate (pa_cons (pv 1) pa_nil)) (pg_tup rfl (pgs_cons (pg_name (i := 3) sc_reduced_of.nd rfl (Or.inl rfl)) (pgs_cons (pg_name (i := 4) sc_reduced_of.nd rfl (Or.inl rfl)) pgs_nil))) (pss_cons (ps_if (pt_val (pe_ok o_is_zero (hr.mono (by decide)) (by rfl) pass0 (pa_cons (pe_ix (r := rIxT K) ix_tup (pe_ok o_rest_of (hr.mono (by decide)) (by rfl) pass0 (pa_cons (pv 0) (pa_cons (pv 2) (pa_cons (pv 4) pa_nil)))) pe_int (fun _ _ => rfl)) pa_nil))) (pss_one (ps_ret (pe_tup (pa_cons (pv 2) (pa_cons (pv 3) pa_nil))))) pss_nil) (pss_one (ps_set (i := 2) sc_reduced_of.nd rfl (Or.inl rfl) (pe_ok o_with_row (hr.mono (by decide)) (by rfl) pass0 (pa_cons (pv 0) (pa_cons (pv 2) (pa_cons (pv 4) pa_nil)))))))) (pss_one (ps_ret (pe_tup (pa_cons (pv 2) (pa_cons pe_non pa_nil))))))), ?_⟩
  refine sq_set (P := fun v J => Dp K J v (.list (([] : List Row).map dR))) (pud_lst pds_nil (by simp)) fun v2 J g hv2 => ?_
  dsimp only [tSeq]
  refine sq_for (fun i σ' H' => ∃ x2 x3 x4 fi, σ' = [some v0, some v1, some x2, x3, x4] ∧ Dp K H' x2 (.list (fi.map dR)) ∧ Red p n fi ∧ fi.length = i ∧ redGo p [] 0 rows = redGo p fi i (rows.drop i))
    (src_enumT (l := rows) (enc := dR) (pds_one (pud_var rfl (dp_gr g h1)))) (fun H1 g1 => ⟨v2, _, _, [], rfl, dp_gr g1 hv2, ⟨nofun, nofun, nofun, .nil, .nil⟩, rfl, rfl⟩) ?_ ?_
  · rintro H1 g1 i ⟨a, i'⟩ ha σ' H' g2 ⟨x2, x3, x4, fi, rfl, hx2, hred, hfl, hgo⟩ z J2 g4 ⟨T, x, rfl, hq, hx⟩
    rw [List.getElem?_zipIdx] at ha
    obtain ⟨b, hb, e⟩ := Option.map_eq_some_iff.mp ha
    simp only [Prod.mk.injEq] at e
    obtain ⟨rfl, rfl⟩ := e
    have hi : i < rows.length := (List.getElem?_eq_some_iff.mp hb).1
    have hbm := List.mem_of_getElem? hb
    have hbo := hrs b hbm
    have hdrop : rows.drop i = b :: rows.drop (i + 1) := by
      rw [List.drop_eq_getElem_cons hi]
      rw [List.getElem?_eq_getElem hi] at hb
      rw [Option.some.inj hb]
    rw [hdrop] at hgo
    have gJ := g.trans (g1.trans (g2.trans g4))
    have hok : RowOk p n (restOf p fi b) := restOf_ok hp hred.ok hbo
    have hrl : ∀ q ∈ fi, RowOk p n q ∧ lead q.1 < n := fun q hq => ⟨hred.ok q hq, hred.lt q hq⟩
    refine ⟨T, _, rfl, hq, rfl, _, _, rfl, x, [], rfl, rfl, ?_⟩
    dsimp only [tSeq]
    refine sq_if (pb_test (pud_call (G := gT) (gives ⟨(restOf p fi b).1, rfl, by rw [hok.len]; exact hn, rfl⟩) (pds_one (pud_ixT (pud_call (G := TT T1 T2) (gives ⟨p, n, fi, b, .inl rfl, hp, hn, hrl, hbo, rfl⟩) (pds_cons (pud_var rfl (dp_gr gJ h0)) (pds_cons (pud_var rfl (dp_gr g4 hx2)) (pds_one (pud_var rfl hx)))) fun J g => hT.gr (gJ.trans g)) pud_int 0 rfl rfl)) fun _ _ => trivial)) (fun hz J5 g5 => ?_) (fun hz J5 g5 => ?_)
    · refine sq_ret (pud_tup (pds_cons (pud_var rfl (dp_gr (g4.trans g5) hx2)) (pds_one (pud_var rfl (.int _)))) (by simp)) fun v J6 g6 hv => ?_
      refine k v J6 (gJ.trans (g5.trans g6)) ?_
      rw [hgo]
      unfold redGo
      rw [if_pos hz]
      have e0 : (0 : Nat) + i = i := Nat.zero_add i
      simp only [Nat.zero_add] at hv
      exact hv
    · have hlt : lead (restOf p fi b).1 < n := by
        have h1 := lead_le (restOf p fi b).1
        rw [hok.len] at h1
        refine Nat.lt_of_le_of_ne h1 fun e => ?_
        rw [isZ_lead.mpr (by rw [hok.len]; exact e)] at hz
        cases hz
      refine sq_set (P := fun v J => Dp K J v (.list ((withRow p fi b).map dR))) (pud_call (G := TT T1 T2) (gives ⟨p, n, fi, b, rfl, hp, hn, by omega, hrl, hbo, hlt, rfl⟩) (pds_cons (pud_var rfl (dp_gr (gJ.trans g5) h0)) (pds_cons (pud_var rfl (dp_gr (g4.trans g5) hx2)) (pds_one (pud_var rfl (dp_gr g5 hx))))) fun J g => hT.gr (gJ.trans (g5.trans g))) fun v J6 g6 hv => ?_
      refine ⟨g2.trans (g4.trans (g5.trans g6)), v, _, _, withRow p fi b, rfl, hv, red_with hp hred hbo hz, by rw [withRow_len]; omega, ?_⟩
      rw [hgo, redGo, if_neg (by rw [hz]; exact Bool.false_ne_true)]
  · rintro H1 g1 σ' H' g2 ⟨x2, x3, x4, fi, rfl, hx2, hred, hfl, hgo⟩
    dsimp only [tSeq]
    refine sq_ret (pud_tup (pds_cons (pud_var rfl hx2) (pds_one pud_non)) (by simp)) fun v J6 g6 hv => ?_
    refine k v J6 (g.trans (g1.trans (g2.trans g6))) ?_
    rw [hgo, List.length_zipIdx, List.drop_length, redGo]
    exact hv
end
end Km
set_option Elab.async false
set_option linter.all false
set_option maxRecDepth 100000
set_option maxHeartbeats 2000000
set_option autoImplicit false
namespace Km
open PySem PySem.Spec PyProof.Rows L2 StX
def letters : Str := "abcdefghijklmnopqrstuvwxyz"
def digits : Str := "0123456789"
def reserved : List Str := ["else", "fun", "if", "in", "stop", "text", "try", "with"]
/-- the module's constants -/
structure Cn (K : PySem.W.Frag) (mg : Str → Option Value) : Prop where
  MOST_NAME : ∃ t, mg "MOST_NAME" = some (.int 8 t)
  LETTERS : ∃ t, mg "LETTERS" = some (.str letters t)
  DIGITS : ∃ t, mg "DIGITS" = some (.str digits t)
  RESERVED : ∃ a, mg "RESERVED" = some (.ref a) ∧ ∀ H, SqT K H a (reserved.map V.str)
  PRIMES : ∃ a, mg "PRIMES" = some (.ref a) ∧ ∀ H, SqT K H a [.int 2, .int 3, .int 5, .int 7]
  MAX_FACTORS : ∃ t, mg "MAX_FACTORS" = some (.int 8 t)
  MAX_RUNS : ∃ t, mg "MAX_RUNS" = some (.int 128 t)
  MOST_WANTED : ∃ t, mg "MOST_WANTED" = some (.int 64 t)
section
variable {K : PySem.W.Frag} {σ : L2.St} {H : Hp} {te ta tb : TE} {t : TA}
theorem pud_lenS {x : Str} (h : PuDs K t σ H [.str x]) (hx : x.length ≤ sizeLine) : PuD K (tCB (fun xs H Q => ∃ z, xs = [.str z] ∧ z.length ≤ sizeLine ∧ Q (.int z.length) H) t) σ H (.int (x.length : Int)) :=
  fun H1 e Q q => h H1 e _ fun vs J g p => by
    obtain _ | ⟨p1, _ | _⟩ := p
    rw [dp_str p1]
    exact ⟨x, rfl, hx, q _ J g (.int _)⟩
theorem pud_inSign {c : Nat} {z : Str} (h1 : PuD K ta σ H (.str ⟨#[c]⟩)) (h2 : PuD K tb σ H (.str z)) : PuD K (tOp (fun x y H Q => ∃ (c : Nat) (z : Str), x = .str ⟨#[c]⟩ ∧ y = .str z ∧ Q (.bl (decide (c ∈ z.cps.toList))) H) ta tb) σ H (.bool (decide (c ∈ z.cps.toList))) :=
  fun H1 e Q q => h1 H1 e _ fun v J g1 p => h2 J (e.trans g1) _ fun w J2 g2 p2 => ⟨c, z, dp_str p, dp_str p2, q _ J2 (g1.trans g2) (.bl _)⟩
theorem pud_ixS {x : Str} {i : Int} {c : Nat} (h1 : PuD K ta σ H (.str x)) (h2 : PuD K tb σ H (.int i)) (hx : x.length ≤ sizeLine) (hc : atI x.cps.toList i = some c) : PuD K (tOp rIxS ta tb) σ H (.str ⟨#[c]⟩) :=
  fun H1 e Q q => h1 H1 e _ fun v J g1 p => h2 J (e.trans g1) _ fun w J2 g2 p2 => ⟨x, i, c, dp_str p, dp_int p2, hx, hc, q _ J2 (g1.trans g2) (.str _)⟩
theorem pud_notInK {x : V} {d : PyData} {a : Addr} {xs : List V} (h1 : PuD K ta σ H d) (hx : ∀ v J, Dp K J v d → v = x) (ha : ∀ H, SqT K H a xs) (f1 : flatV x = true) (f2 : xs.all flatV = true) : PuD K (tOp (rIn K true) ta (tC (.ref a))) σ H (.bool (!inV x xs)) :=
  fun H1 e Q q => h1 H1 e _ fun v J g1 p => by
    have := hx v J p
    subst this
    exact ⟨a, xs, rfl, .inr (ha J), f1, f2, q _ J g1 (.bl _)⟩
theorem src_str {x : Str} (h : PuD K te σ H (.str x)) : SrcL (iStr te) σ H x.cps.toList fun c v B => v = .str ⟨#[c]⟩ :=
  fun H0 e0 C c => h H0 e0 _ fun v J g p => by
    refine ⟨x, dp_str p, c _ J g ?_⟩
    rw [Array.length_toList]
    refine (walk_str (z := x)).mono (fun _ _ => True.intro) fun i A y B hi _ h => ?_
    obtain ⟨rfl, cc, hc, rfl⟩ := h
    exact ⟨.refl, cc, by simpa using hc, rfl⟩
end
/-- a dict comprehension's loop over a walk -/
theorem dc_walk {J : It} {n : Nat} {G : Hp → Prop} {Y : Nat → Hp → V → Hp → Prop} (w : Walk J n G Y) {g : TG} {tt : L2.TT} {tk tv : TE} {vs : List Nat} {σ : L2.St} {H1 : Hp} {D : Addr} {Qd : Hp → Prop} (Pv : Nat → Hp → Prop) (h0 : Pv 0 (upd H1 D (.dK []))) (hG : ∀ i A, Pv i A → G A)
    (hs : ∀ i x A B, i < n → Pv i A → Y i A x B → g x (wipe σ vs) B fun σ2 H2 => wipe σ2 vs = wipe σ vs ∧ tt σ2 H2 fun b H3 =>
      if b = true then tk σ2 H3 fun y H4 => tv σ2 H4 fun z H5 => ∃ kvs k, y = kV k ∧ H5 D = some (.dK kvs) ∧ kvs.length < sizeLine ∧ Pv (i + 1) (upd H5 D (.dK (putK kvs k z))) else Pv (i + 1) H3) (hd : ∀ A, Pv n A → Qd A) :
    ∃ W : Nat → Nat → Hp → Prop, (∃ m, W 0 m (upd H1 D (.dK []))) ∧ ∀ i m A, W i m A →
      (J.stop i A ∧ Qd A) ∨ (J.go i A ∧ ∃ Nx : Hp → Prop, (∀ A', Nx A' → ∃ m', m' < m ∧ W (i + 1) m' A') ∧ ∀ x B, J.yld i A x B → g x (wipe σ vs) B fun σ2 H2 => wipe σ2 vs = wipe σ vs ∧ tt σ2 H2 fun b H3 =>
        if b = true then tk σ2 H3 fun y H4 => tv σ2 H4 fun z H5 => ∃ kvs k, y = kV k ∧ H5 D = some (.dK kvs) ∧ kvs.length < sizeLine ∧ Nx (upd H5 D (.dK (putK kvs k z))) else Nx H3) := by
  refine ⟨fun i m A => m = n - i ∧ i ≤ n ∧ Pv i A, ⟨n, rfl, Nat.zero_le _, h0⟩, ?_⟩
  rintro i m A ⟨rfl, hi, p⟩
  by_cases hlt : i < n
  · exact .inr ⟨w.goes i A hlt (hG i A p), Pv (i + 1), fun A' p' => ⟨n - (i + 1), by omega, rfl, hlt, p'⟩, fun x B y => hs i x A B hlt p (w.yields i A x B hlt (hG i A p) y)⟩
  · obtain rfl : i = n := by omega
    exact .inl ⟨w.stops A (hG i A p), hd A p⟩
theorem valV_none {κ : Type} [DecidableEq κ] {kvs : List (κ × V)} {k : κ} (h : ∀ q ∈ kvs, q.1 ≠ k) : valV kvs k = none := by
  unfold valV
  rw [List.find?_eq_none.mpr fun q hq => by simpa using h q hq]
  rfl
/-- {x: True for x in texts}, all unlike -/
theorem pu_dcS {K : PySem.W.Frag} {σ : L2.St} {H : Hp} {wi : TI} {vs : List Nat} {l : List Str} {j : Nat} (hs : SrcL wi σ H l fun a x _ => x = .str a) (hl : l.length ≤ 1000000) (hn : l.Nodup) (hw : ∀ x, wipe ((wipe σ vs).set j (some x)) vs = wipe σ vs) (hj : j < (wipe σ vs).length) :
    Pu (tDc wi (gName j) tYes (tVar j) (tC (.bl true)) vs) σ H fun v J => ∃ D, v = .ref D ∧ J D = some (.dK (l.map fun x => (Sum.inr x, V.bl true))) := fun H0 e0 Q q => hs H0 e0 _ fun I H1 g1 w D hD => by
  refine dc_walk w (fun i A => Gr H1 A ∧ A D = some (.dK ((l.take i).map fun x => (Sum.inr x, V.bl true)))) ⟨.new hD, upd_same⟩ (fun _ _ p => p.1) ?_ ?_
  · rintro i x A B hi ⟨ga, ea⟩ ⟨gab, a, ha, rfl⟩
    have eD : B D = some (.dK ((l.take i).map fun x => (Sum.inr x, V.bl true))) := gab.keep _ _ ea True.intro
    refine ⟨hw _, pb_yes (σ := (wipe σ vs).set j (some (.str a))) B .refl _ fun J gj => ?_⟩
    rw [if_pos rfl]
    have eD2 := gj.keep _ _ eD True.intro
    refine ⟨.str a, by rw [List.getElem?_set_self hj], _, Sum.inr a, rfl, eD2, ?_, (ga.trans (gab.trans gj)).mut hD, ?_⟩
    · rw [List.length_map, List.length_take]
      exact Nat.lt_of_le_of_lt (Nat.le_trans (Nat.min_le_right _ _) hl) (by decide)
    · rw [upd_same, putK_new, take_more ha, List.map_append]
      · rfl
      · refine valV_none fun q hq => ?_
        obtain ⟨y, hy, rfl⟩ := List.mem_map.mp hq
        intro z
        have z : y = a := Sum.inr.inj z
        subst z
        obtain ⟨k, hk, e⟩ := List.getElem_of_mem hy
        rw [List.getElem_take] at e
        have hk2 : k < i := by rw [List.length_take] at hk; omega
        have h1 : l[k]? = l[i]? := by rw [ha, List.getElem?_eq_getElem (by omega), e]
        exact absurd ((List.getElem?_inj (by omega) hn).mp h1) (by omega)
  · rintro A ⟨ga, ea⟩
    rw [List.take_length] at ea
    exact q _ A (g1.trans ga) ⟨D, rfl, ea⟩
end Km
set_option Elab.async false
set_option linter.all false
set_option maxRecDepth 100000
set_option maxHeartbeats 2000000
set_option autoImplicit false
namespace Km
open PySem PySem.Spec PyProof.Rows L2 StX
def okNames : List Str := ["k", "b", "a", "zz", "c"]
theorem okn_len {x : Str} (h : x ∈ okNames) : 1 ≤ x.length ∧ x.length ≤ 8 := by
  have : ∀ x ∈ okNames, 1 ≤ x.length ∧ x.length ≤ 8 := by decide +kernel
  exact this x h
theorem okn_signs {x : Str} (h : x ∈ okNames) : (x.cps.toList.map fun c => (decide (c ∈ letters.cps.toList) || decide (c ∈ digits.cps.toList))).all id = true := by
  have : ∀ x ∈ okNames, (x.cps.toList.map fun c => (decide (c ∈ letters.cps.toList) || decide (c ∈ digits.cps.toList))).all id = true := by decide +kernel
  exact this x h
theorem okn_head {x : Str} (h : x ∈ okNames) : ∃ c, x.cps.toList[0]? = some c ∧ decide (c ∈ letters.cps.toList) = true := by
  have : ∀ x ∈ okNames, decide (x.cps.toList.getD 0 0 ∈ letters.cps.toList) = true ∧ 0 < x.cps.toList.length := by decide +kernel
  obtain ⟨h1, h2⟩ := this x h
  rw [List.getD_eq_getElem?_getD, List.getElem?_eq_getElem h2] at h1
  exact ⟨_, List.getElem?_eq_getElem h2, h1⟩
theorem okn_free {x : Str} (h : x ∈ okNames) : inV (.str x) (reserved.map V.str) = false := by
  have : ∀ x ∈ okNames, inV (.str x) (reserved.map V.str) = false := by decide +kernel
  exact this x h
section
variable {P : Program} {w : World} {K : PySem.W.Frag} {mg : Str → Option Value} {base : Heap} {T1 T2 c1 c2 : Addr}
def spIsRun (K : PySem.W.Frag) : Sp := sPD K gT fun ds d => ∃ x : Str, ds = [.str x] ∧ x ∈ okNames ∧ d = .bool true
abbrev s_is_run : Stmt := top 16
theorem sc_is_run : FnScope ["value", "sign"] ["value"] (defScope s_is_run) := ⟨rfl, rfl, rfl, by decide +kernel, rfl, by decide +kernel, by decide +kernel⟩
theorem ok_is_run (B : Bl mg) (C : Cn K mg) (D : Df K mg "is_run" s_is_run ["value"]) : Ok P w K mg base CX0 1 "is_run" ["value"] (spIsRun K) := by
  refine okD D sc_is_run (fun ds d h => by obtain ⟨_, rfl, _⟩ := h; rfl) ?_
  rintro f cdv A outer s H vs Q E ds d hr hd ⟨x, rfl, hx, rfl⟩ _ k
  obtain ⟨v0, rfl, h0⟩ := dps1 hd
  have hl := okn_len hx
  refine ⟨_, (pss_cons (ps_if (PW.pt (pw_or (pt_not (pt_val (pe_callB call_isi (by rfl) B.isinstance boot_isinstance (pa_cons (pv 0) (pa_cons (pe_bltn (v := .ty "str") (by rfl) B.str boot_str rfl) pa_nil))))) (pw_or1 (pt_not (pt_chain op_le op_le pe_int (pe_callB call_len_str (by rfl) B.len boot_len (pa_cons (pv 0) pa_nil)) (pe_glob (v := (.int 8)) rfl C.MOST_NAME.choose_spec ⟨_, rfl⟩)))))) (pss_one (ps_ret pe_bl)) pss_nil) (pss_one (ps_ret (pe_callB (cr_all rfl) (by rfl) B.all boot_all (pa_cons (pe_lc (own := [("sign", 1)]) (g := (gName 1)) (tt := tYes) rfl sc_is_run.nd (pi_str (pv 0)) (blkOk_by (N := ["value", "sign"]) (sc := defScope s_is_run) (by decide +kernel)) (fun _ _ _ _ _ => pg_name (i := 1) sc_is_run.nd rfl (Or.inl rfl)) (fun _ _ _ _ _ => pts_nil) (fun _ _ _ _ _ => (pe_or (pe_cmpR op_in_sign (pv 1) (pe_glob (v := (.str letters)) rfl C.LETTERS.choose_spec ⟨_, rfl⟩) (by rfl)) (pe_one (pe_cmpR op_in_sign (pv 1) (pe_glob (v := (.str digits)) rfl C.DIGITS.choose_spec ⟨_, rfl⟩) (by rfl)))))) pa_nil))))), ?_⟩
  refine sq_if (b := false) (pb_is (pb_or (pb_not (pb_B (pud_isSS (pud_var rfl h0) pu_c))) fun _ => pb_not (pb_test (pud_chain pud_int (pud_lenS (pds_one (pud_var rfl h0)) (Nat.le_trans hl.2 (by decide))) pud_int))) ?_) nofun fun _ J g => ?_
  · rw [decide_eq_true (by omega), decide_eq_true (by omega)]; rfl
  refine sq_ret (pud_is (pud_all (ns := x.cps.toList.map fun c => (decide (c ∈ letters.cps.toList) || decide (c ∈ digits.cps.toList))) (pds_one (pud_is (pu_lcN (src_str (pud_var rfl (dp_gr g h0))) (by rw [Array.length_toList]; exact Nat.le_trans hl.2 (by decide)) (el := fun c => .bool (decide (c ∈ letters.cps.toList) || decide (c ∈ digits.cps.toList))) (fun _ _ => rfl) (fun _ => rfl) fun c hc y J9 g9 hy => ?_) ?_))) (d2 := .bool true) ?_) fun v J9 g9 p => k v J9 (g.trans g9) p
  · subst hy
    exact pud_or (pud_inSign (pud_var rfl (.str _)) pud_str) fun _ => pud_inSign (pud_var rfl (.str _)) pud_str
  · rw [List.map_map]; rfl
  · rw [okn_signs hx]
def spIsName (K : PySem.W.Frag) : Sp := sPD K gT fun ds d => ∃ x : Str, ds = [.str x] ∧ x ∈ okNames ∧ d = .bool true
abbrev s_is_name : Stmt := top 17
theorem sc_is_name : FnScope ["value"] ["value"] (defScope s_is_name) := ⟨rfl, rfl, rfl, by decide +kernel, rfl, by decide +kernel, by decide +kernel⟩
theorem ok_is_name (B : Bl mg) (C : Cn K mg) (o_is_run : Ok P w K mg base CX0 1 "is_run" ["value"] (spIsRun K)) (D : Df K mg "is_name" s_is_name ["value"]) : Ok P w K mg base CX0 2 "is_name" ["value"] (spIsName K) := by
  refine okD D sc_is_name (fun ds d h => by obtain ⟨_, rfl, _⟩ := h; rfl) ?_
  rintro f cdv A outer s H vs Q E ds d hr hd ⟨x, rfl, hx, rfl⟩ _ k
  obtain ⟨v0, rfl, h0⟩ := dps1 hd
  obtain ⟨c, hc, hc2⟩ := okn_head hx
  refine ⟨_, (pss_one (ps_ret (pe_and (pe_ok o_is_run (hr.mono (by decide)) (by rfl) pass0 (pa_cons (pv 0) pa_nil)) (pe_and (pe_cmpR op_in_sign (pe_ix (r := rIxS) ix_str (pv 0) pe_int (fun _ _ => rfl)) (pe_glob (v := (.str letters)) rfl C.LETTERS.choose_spec ⟨_, rfl⟩) (by rfl)) (pe_one (pe_cmpR op_notIn_seq (pv 0) (pe_glob (v := .ref C.RESERVED.choose) rfl C.RESERVED.choose_spec.1 rfl) (by rfl))))))), ?_⟩
  refine sq_ret (pud_is (pud_and (pud_call (G := gT) (gives ⟨x, rfl, hx, rfl⟩) (pds_one (pud_var rfl h0)) fun _ _ => trivial) fun _ => pud_and (pud_inSign (pud_ixS (pud_var rfl h0) pud_int (Nat.le_trans (okn_len hx).2 (by decide)) (atI_nat (j := 0) hc)) pud_str) fun _ =>
    pud_notInK (x := .str x) (pud_var rfl h0) (fun v J h => dp_str h) C.RESERVED.choose_spec.2 rfl (by decide +kernel)) (d2 := .bool true) ?_) k
  rw [hc2, okn_free hx]; rfl
def spAreNames (K : PySem.W.Frag) : Sp := sPD K gT fun ds d => ∃ ns : List Str, ds = [.tuple (ns.map .str)] ∧ (∀ x ∈ ns, x ∈ okNames) ∧ ns.Nodup ∧ ns.length ≤ 8 ∧ d = .bool true
abbrev s_are_names : Stmt := top 18
theorem sc_are_names : FnScope ["value", "name"] ["value"] (defScope s_are_names) := ⟨rfl, rfl, rfl, by decide +kernel, rfl, by decide +kernel, by decide +kernel⟩
theorem pud_lenDc {σ : L2.St} {H : Hp} {te : TE} {kvs : List (Key × V)} (h : Pu te σ H fun v J => ∃ D, v = .ref D ∧ J D = some (.dK kvs)) : PuD K (tCB (fun xs H Q => ∃ a kvs, xs = [V.ref a] ∧ H a = some (.dK kvs) ∧ Q (.int kvs.length) H) (tCons te tNil)) σ H (.int (kvs.length : Int)) :=
  fun H1 e Q q => h H1 e _ fun v J g p => by
    obtain ⟨D, rfl, hD⟩ := p
    exact ⟨D, kvs, rfl, hD, q _ J g (.int _)⟩
theorem ok_are_names (B : Bl mg) (o_is_name : Ok P w K mg base CX0 2 "is_name" ["value"] (spIsName K)) (D : Df K mg "are_names" s_are_names ["value"]) : Ok P w K mg base CX0 3 "are_names" ["value"] (spAreNames K) := by
  refine okD D sc_are_names (fun ds d h => by obtain ⟨_, rfl, _⟩ := h; rfl) ?_
  rintro f cdv A outer s H vs Q E ds d hr hd ⟨ns, rfl, hx, hn, hl, rfl⟩ _ k
  obtain ⟨v0, rfl, h0⟩ := dps1 hd
  refine ⟨_, (pss_cons (ps_if (PW.pt (pw_or (pt_not (pt_val (pe_callB call_isi (by rfl) B.isinstance boot_isinstance (pa_cons (pv 0) (pa_cons (pe_bltn (v := .ty "tuple") (by rfl) B.tuple boot_tuple rfl) pa_nil))))) (pw_or1 (pt_not (pt_val (pe_callB (cr_all rfl) (by rfl) B.all boot_all (pa_cons (pe_lc (own := [("name", 1)]) (g := (gName 1)) (tt := tYes) rfl sc_are_names.nd (pi_tup (pv 0)) (blkOk_by (N := ["value", "name"]) (sc := defScope s_are_names) (by decide +kernel)) (fun _ _ _ _ _ => pg_name (i := 1) sc_are_names.nd rfl (Or.inl rfl)) (fun _ _ _ _ _ => pts_nil) (fun _ _ _ _ _ => (pe_ok o_is_name (hr.mono (by decide)) (by rfl) pass0 (pa_cons (pv 1) pa_nil)))) pa_nil))))))) (pss_one (ps_ret pe_bl)) pss_nil) (pss_one (ps_ret (pe_cmpR op_eq (pe_callB call_lenD (by rfl) B.len boot_len (pa_cons (pe_dc (own := [("name", 1)]) (g := (gName 1)) (tt := tYes) rfl sc_are_names.nd (pi_tup (pv 0)) (blkOk_by (N := ["value", "name"]) (sc := defScope s_are_names) (by decide +kernel)) (fun _ _ _ _ _ => pg_name (i := 1) sc_are_names.nd rfl (Or.inl rfl)) (fun _ _ _ _ _ => pts_nil) (fun _ _ _ _ _ => (pv 1)) (fun _ _ _ _ _ => pe_bl)) pa_nil)) (pe_callB call_len_seq (by rfl) B.len boot_len (pa_cons (pv 0) pa_nil)) (nomark _))))), ?_⟩
  refine sq_if (b := false) (pb_is (pb_or (pb_not (pb_B (pud_isTT (pud_var rfl h0) pu_c))) fun _ => pb_not (pb_B (pud_all (ns := ns.map fun _ => true) (pds_one (pud_is (pu_lcN (src_tup (enc := PyData.str) (pud_var rfl h0)) (by omega) (el := fun _ => .bool true) (fun _ _ => rfl) (fun _ => rfl) fun x hxm y J9 g9 hy =>
    pud_call (G := gT) (gives ⟨x, rfl, hx x hxm, rfl⟩) (pds_one (pud_var rfl hy)) fun _ _ => trivial) (by rw [List.map_map]; rfl)))))) ?_) nofun fun _ J g => ?_
  · have : (ns.map fun _ => true).all id = true := by rw [List.all_eq_true]; intro b hb; obtain ⟨_, _, rfl⟩ := List.mem_map.mp hb; rfl
    rw [this]; rfl
  dsimp only [tSeq, tNext]
  refine sq_ret (P := fun v J => Dp K J v (.bool true)) (pud_is (pud_eqI (i := ((ns.map fun x => ((Sum.inr x : Key), V.bl true)).length : Int)) (j := ((ns.map PyData.str).length : Int)) ?_ ?_) ?_) fun v J9 g9 p => ?_
  refine pud_lenDc (pu_dcS (K := K) (l := ns) (fun H0 e0 => ?_) (by omega) hn (fun _ => rfl) ?_)
  · intro C c
    refine src_tup (enc := PyData.str) (pud_var rfl (dp_gr g h0)) H0 e0 C fun J' H1 g1 w => c J' H1 g1 (w.mono (fun _ x => x) fun i A x B _ _ y => ?_)
    obtain ⟨g2, a, ha, hp⟩ := y
    exact ⟨g2, a, ha, dp_str hp⟩
  · show 1 < 2
    decide
  · exact pud_lenT (pds_one (pud_var rfl (dp_gr g h0)))
  · rw [List.length_map, List.length_map, decide_eq_true rfl]
  · exact k v J9 (g.trans g9) p
end
end Km
set_option Elab.async false
set_option linter.all false
set_option maxRecDepth 100000
set_option maxHeartbeats 2000000
set_option autoImplicit false
namespace Km
open PySem PySem.Spec PyProof.Rows L2 StX
/-- the outer loop of a comprehension of two -/
theorem lc2_it {J : It} {n : Nat} {G : Hp → Prop} {Y : Nat → Hp → V → Hp → Prop} (w : Walk J n G Y) {g g1 : TG} {tt tt1 : L2.TT} {wi1 : TI} {te : TE} {vs vs1 : List Nat} {σ : L2.St} {H1 : Hp} (D : Addr) {Qd : Hp → Prop} (Pv : Nat → Hp → Prop) (h0 : Pv 0 (upd H1 D (.lst []))) (hG : ∀ i A, Pv i A → G A)
    (hs : ∀ i x A B, i < n → Pv i A → Y i A x B → g x (wipe σ vs) B fun σ2 H2 => wipe σ2 vs = wipe σ vs ∧ tt σ2 H2 fun b H3 =>
      if b = true then wi1 σ2 H3 fun J1 H4 => ∃ W1 : Nat → Nat → Hp → Prop, (∃ m, W1 0 m H4) ∧ ∀ j k A, W1 j k A →
        (J1.stop j A ∧ Pv (i + 1) A) ∨ (J1.go j A ∧ ∃ Nx1 : Hp → Prop, (∀ A', Nx1 A' → ∃ k', k' < k ∧ W1 (j + 1) k' A') ∧ ∀ x B, J1.yld j A x B → g1 x (wipe σ2 vs1) B fun σ3 H5 => wipe σ3 vs1 = wipe σ2 vs1 ∧ tt1 σ3 H5 fun b H6 =>
          if b = true then te σ3 H6 fun y H7 => ∃ acc, H7 D = some (.lst acc) ∧ acc.length < sizeLine ∧ Nx1 (upd H7 D (.lst (acc ++ [y]))) else Nx1 H6)
      else Pv (i + 1) H3) (hd : ∀ A, Pv n A → Qd A) :
    ∃ W : Nat → Nat → Hp → Prop, (∃ m, W 0 m (upd H1 D (.lst []))) ∧ ∀ i m A, W i m A →
      (J.stop i A ∧ Qd A) ∨ (J.go i A ∧ ∃ Nx : Hp → Prop, (∀ A', Nx A' → ∃ m', m' < m ∧ W (i + 1) m' A') ∧ ∀ x B, J.yld i A x B → g x (wipe σ vs) B fun σ2 H2 => wipe σ2 vs = wipe σ vs ∧ tt σ2 H2 fun b H3 =>
        if b = true then wi1 σ2 H3 fun J1 H4 => ∃ W1 : Nat → Nat → Hp → Prop, (∃ m, W1 0 m H4) ∧ ∀ j k A, W1 j k A →
          (J1.stop j A ∧ Nx A) ∨ (J1.go j A ∧ ∃ Nx1 : Hp → Prop, (∀ A', Nx1 A' → ∃ k', k' < k ∧ W1 (j + 1) k' A') ∧ ∀ x B, J1.yld j A x B → g1 x (wipe σ2 vs1) B fun σ3 H5 => wipe σ3 vs1 = wipe σ2 vs1 ∧ tt1 σ3 H5 fun b H6 =>
            if b = true then te σ3 H6 fun y H7 => ∃ acc, H7 D = some (.lst acc) ∧ acc.length < sizeLine ∧ Nx1 (upd H7 D (.lst (acc ++ [y]))) else Nx1 H6)
        else Nx H3) := by
  refine ⟨fun i m A => m = n - i ∧ i ≤ n ∧ Pv i A, ⟨n, rfl, Nat.zero_le _, h0⟩, ?_⟩
  rintro i m A ⟨rfl, hi, p⟩
  by_cases hlt : i < n
  · exact .inr ⟨w.goes i A hlt (hG i A p), Pv (i + 1), fun A' p' => ⟨n - (i + 1), by omega, rfl, hlt, p'⟩, fun x B y => hs i x A B hlt p (w.yields i A x B hlt (hG i A p) y)⟩
  · obtain rfl : i = n := by omega
    exact .inl ⟨w.stops A (hG i A p), hd A p⟩
/-- the inner loop, over a range -/
theorem rng_it {n : Nat} {g1 : TG} {tt1 : L2.TT} {te : TE} {vs1 : List Nat} {σ2 : L2.St} {H4 : Hp} {D : Addr} {N : Hp → Prop} (Pv : Nat → Hp → Prop) (h0 : Pv 0 H4)
    (hs : ∀ k A, k < n → Pv k A → g1 (.int ((0 : Int) + (k : Int))) (wipe σ2 vs1) A fun σ3 H5 => wipe σ3 vs1 = wipe σ2 vs1 ∧ tt1 σ3 H5 fun b H6 =>
      if b = true then te σ3 H6 fun y H7 => ∃ acc, H7 D = some (.lst acc) ∧ acc.length < sizeLine ∧ Pv (k + 1) (upd H7 D (.lst (acc ++ [y]))) else Pv (k + 1) H6) (hd : ∀ A, Pv n A → N A) :
    ∃ W1 : Nat → Nat → Hp → Prop, (∃ m, W1 0 m H4) ∧ ∀ j k A, W1 j k A →
      ((Itr 0 n).stop j A ∧ N A) ∨ ((Itr 0 n).go j A ∧ ∃ Nx1 : Hp → Prop, (∀ A', Nx1 A' → ∃ k', k' < k ∧ W1 (j + 1) k' A') ∧ ∀ x B, (Itr 0 n).yld j A x B → g1 x (wipe σ2 vs1) B fun σ3 H5 => wipe σ3 vs1 = wipe σ2 vs1 ∧ tt1 σ3 H5 fun b H6 =>
        if b = true then te σ3 H6 fun y H7 => ∃ acc, H7 D = some (.lst acc) ∧ acc.length < sizeLine ∧ Nx1 (upd H7 D (.lst (acc ++ [y]))) else Nx1 H6) := by
  refine ⟨fun i m A => m = n - i ∧ i ≤ n ∧ Pv i A, ⟨n, rfl, Nat.zero_le _, h0⟩, ?_⟩
  rintro i m A ⟨rfl, hi, p⟩
  by_cases hlt : i < n
  · refine .inr ⟨hlt, Pv (i + 1), fun A' p' => ⟨n - (i + 1), by omega, rfl, hlt, p'⟩, fun x B y => ?_⟩
    obtain ⟨rfl, rfl⟩ := y
    exact hs i _ hlt p
  · obtain rfl : i = n := by omega
    exact .inl ⟨Nat.le_refl _, hd A p⟩
section
variable {K : PySem.W.Frag} {σ : L2.St} {H : Hp} {wi : TI} {te : TE} {ta : TA} {vs vs1 : List Nat}
/-- [.. for x in l for b in range(n)] -/
theorem pu_lc2 {α : Type} {l : List α} {n : Nat} {R : α → V → Hp → Prop} {i j : Nat} {el : α → Nat → PyData} (hs : SrcL wi σ H l R) (hR : ∀ a x A B, Gq A B → R a x A → R a x B) (hl : l.length * n ≤ 1000000) (hn : n ≤ 1000000) (hf : ∀ a b, lf (el a b) = true)
    (hw : ∀ x, wipe ((wipe σ vs).set i (some x)) vs = wipe σ vs) (hw1 : ∀ x y, wipe ((wipe ((wipe σ vs).set i (some x)) vs1).set j (some y)) vs1 = wipe ((wipe σ vs).set i (some x)) vs1)
    (ha : ∀ a ∈ l, ∀ x J, Gr H J → R a x J → PuA ta ((wipe σ vs).set i (some x)) J fun us _ => us = [.int (n : Int)])
    (he : ∀ a ∈ l, ∀ b, b < n → ∀ x J, Gr H J → R a x J → PuD K te ((wipe ((wipe σ vs).set i (some x)) vs1).set j (some (.int (b : Int)))) J (el a b)) :
    PuD K (tLc2 wi (gName i) tYes (iRng1 ta) (gName j) tYes te vs vs1) σ H (.list (l.flatMap fun a => (List.range n).map (el a))) := fun H0 e0 Q q => hs H0 e0 _ fun I H1 g1 w D hD => by
  have hD0 : H0 D = none ∨ ∃ ps, H0 D = some (.tbl ps) := (g1.back hD).symm
  have lff : ∀ (m : List α) (k : List Nat) (a : α), lfs (m.flatMap (fun a => (List.range n).map (el a)) ++ k.map (el a)) = true := by
    have app : ∀ x y : List PyData, lfs x = true → lfs y = true → lfs (x ++ y) = true := by
      intro x y h1 h2
      induction x with
      | nil => exact h2
      | cons d r ih =>
        have h3 := Bool.and_eq_true_iff.mp h1
        show (lf d && lfs (r ++ y)) = true
        rw [h3.1, ih h3.2]; rfl
    intro m k a
    refine app _ _ ?_ (lfs_map (hf a) k)
    induction m with
    | nil => rfl
    | cons b r ih => rw [List.flatMap_cons]; exact app _ _ (lfs_map (hf b) _) ih
  have hlen : ∀ (m : List α), (m.flatMap fun a => (List.range n).map (el a)).length = m.length * n := by
    intro m
    induction m with
    | nil => simp
    | cons b r ih => rw [List.flatMap_cons, List.length_append, ih, List.length_map, List.length_range, List.length_cons, Nat.succ_mul]; omega
  refine lc2_it w D (fun i A => Gr H1 A ∧ ∃ acc, A D = some (.lst acc) ∧ DpAll K A acc ((l.take i).flatMap fun a => (List.range n).map (el a))) ⟨.new hD, [], upd_same, by simp only [List.take_zero]; exact .nil⟩ (fun _ _ p => p.1) ?_ ?_
  · rintro t x A B hi ⟨ga, acc, ea, da⟩ ⟨gab, a, hat, hRa⟩
    have hm : a ∈ l := List.mem_of_getElem? hat
    have gB : Gr H B := e0.trans (g1.trans (ga.trans gab))
    refine ⟨hw x, pb_yes (σ := (wipe σ vs).set i (some x)) B .refl _ fun J gj => ?_⟩
    rw [if_pos rfl]
    refine ha a hm x J (gB.trans gj) (hR a x B J gj.q hRa) J .refl _ fun us H4 g4 eu => ?_
    subst eu
    refine ⟨(n : Int), rfl, by omega, by omega, ?_⟩
    rw [Int.toNat_natCast]
    refine rng_it (fun k A2 => Gr H1 A2 ∧ R a x A2 ∧ ∃ acc, A2 D = some (.lst acc) ∧ DpAll K A2 acc (((l.take t).flatMap fun a => (List.range n).map (el a)) ++ ((List.range n).take k).map (el a))) ?_ ?_ ?_
    · refine ⟨ga.trans (gab.trans (gj.trans g4)), hR a x B H4 (gj.trans g4).q hRa, acc, (gj.trans g4).lst (gab.lst ea), ?_⟩
      simp only [List.take_zero, List.map_nil, List.append_nil]
      exact dps_gr (gab.trans (gj.trans g4)) da
    · rintro k A2 hk ⟨g5, r5, acc5, e5, d5⟩
      refine ⟨hw1 x _, pb_yes (σ := (wipe ((wipe σ vs).set i (some x)) vs1).set j (some (.int ((0 : Int) + (k : Int))))) A2 .refl _ fun J6 g6 => ?_⟩
      rw [if_pos rfl, Int.zero_add]
      refine he a hm k hk x J6 (e0.trans (g1.trans (g5.trans g6))) (hR a x A2 J6 g6.q r5) J6 .refl _ fun y J7 g7 dy => ?_
      have e7 : J7 D = some (.lst acc5) := g7.lst (g6.lst e5)
      have d7 := dps_gr (g6.trans g7) d5
      have hacc : acc5.length < sizeLine := by
        rw [dps_len d5, List.length_append, hlen, List.length_map, List.length_take, List.length_take, List.length_range]
        have ht : t < l.length := (List.getElem?_eq_some_iff.mp hat).1
        have h1 : (min t l.length) * n + n ≤ l.length * n := by
          rw [Nat.min_eq_left (Nat.le_of_lt ht), ← Nat.succ_mul]
          exact Nat.mul_le_mul_right n ht
        refine Nat.lt_of_le_of_lt (Nat.le_trans (Nat.add_le_add_left (Nat.min_le_right k n) _) (Nat.le_trans h1 hl)) (by decide)
      have gq : Gq J7 (upd J7 D (.lst (acc5 ++ [y]))) := gq_upd e7
      refine ⟨acc5, e7, hacc, (g5.trans (g6.trans g7)).mut hD, hR a x A2 _ ((g6.trans g7).q.trans gq) r5, acc5 ++ [y], upd_same, ?_⟩
      rw [take_more (a := k) (by simp [hk]), List.map_append, ← List.append_assoc]
      exact dps_app (dps_gq gq (lff _ _ a) d7) (dps_one (dp_gq gq (hf a k) dy))
    · rintro A2 ⟨g5, r5, acc5, e5, d5⟩
      refine ⟨g5, acc5, e5, ?_⟩
      rw [take_more hat, List.flatMap_append]
      have et : (List.range n).take n = List.range n := List.take_of_length_le (by simp)
      rw [et] at d5
      simpa using d5
  · rintro A ⟨ga, acc, ea, da⟩
    rw [List.take_length] at da
    exact q _ A (g1.trans ga) (.lst (SqL.of ea) da)
end
end Km
set_option Elab.async false
set_option linter.all false
set_option maxRecDepth 100000
set_option maxHeartbeats 2000000
set_option autoImplicit false
namespace Km
open PySem PySem.Spec PyProof.Rows L2 StX
section
variable {P : Program} {w : World} {K : PySem.W.Frag} {mg : Str → Option Value} {base : Heap} {T1 T2 c1 c2 : Addr}
def spReqPrime (K : PySem.W.Frag) : Sp := sPD K gT fun ds d => ∃ p : Int, ds = [.int p] ∧ Prm p ∧ d = .none
abbrev s_require_prime : Stmt := top 22
theorem sc_require_prime : FnScope ["p"] ["p"] (defScope s_require_prime) := ⟨rfl, rfl, rfl, by decide +kernel, rfl, by decide +kernel, by decide +kernel⟩
theorem ok_require_prime (C : Cn K mg) (o_is_integer : Ok P w K mg base CX0 1 "is_integer" ["value"] (spIsInteger K)) (D : Df K mg "require_prime" s_require_prime ["p"]) : Ok P w K mg base CX0 2 "require_prime" ["p"] (spReqPrime K) := by
  refine okD D sc_require_prime (fun ds d h => by obtain ⟨_, rfl, _⟩ := h; rfl) ?_
  rintro f cdv A outer s H vs Q E ds d hr hd ⟨p, rfl, hp, rfl⟩ _ k
  obtain ⟨v0, rfl, h0⟩ := dps1 hd
  have hpp := hp.b
  refine ⟨_, (pss_one (ps_if (PW.pt (pw_or (pt_not (pt_val (pe_ok o_is_integer (hr.mono (by decide)) (by rfl) pass0 (pa_cons (pv 0) pa_nil)))) (pw_or1 (pt_cmpR op_notIn_seq (pv 0) (pe_glob (v := .ref C.PRIMES.choose) rfl C.PRIMES.choose_spec.1 rfl) (by rfl))))) (pss_one ps_never) pss_nil)), ?_⟩
  refine sq_if (b := false) (pb_is (pb_or (pb_not (pb_B (pud_call (G := gT) (gives ⟨p, rfl, by unfold great; omega, by unfold great; omega, rfl⟩) (pds_one (pud_var rfl h0)) fun _ _ => trivial))) fun _ => pb_test (pud_notInK (x := .int p) (pud_var rfl h0) (fun v J h => dp_int h) C.PRIMES.choose_spec.2 rfl (by decide +kernel))) ?_) nofun fun _ J g => k .non J g .non
  have : inV (.int p) [.int 2, .int 3, .int 5, .int 7] = true := by rcases hp with rfl | rfl | rfl | rfl <;> decide +kernel
  rw [this]; rfl
def spWordIn (K : PySem.W.Frag) : Sp := sPD K gT fun ds d => ∃ (p : Int) (n : Nat) (u : List Int), ds = [.int p, .int (n : Int), dW u] ∧ Prm p ∧ u.length = n ∧ n ≤ 1000 ∧ WR p u ∧ d = .bool true
abbrev s_is_word_in : Stmt := top 23
theorem sc_is_word_in : FnScope ["p", "many", "value", "entry"] ["p", "many", "value"] (defScope s_is_word_in) := ⟨rfl, rfl, rfl, by decide +kernel, rfl, by decide +kernel, by decide +kernel⟩
theorem all_true {α : Type} (l : List α) : (l.map fun _ => true).all id = true := by
  rw [List.all_eq_true]; intro b hb; obtain ⟨_, _, rfl⟩ := List.mem_map.mp hb; rfl
theorem ok_is_word_in (B : Bl mg) (o_is_within : Ok P w K mg base CX0 2 "is_within" ["value", "low", "high"] (spIsWithin K)) (D : Df K mg "is_word_in" s_is_word_in ["p", "many", "value"]) : Ok P w K mg base CX0 3 "is_word_in" ["p", "many", "value"] (spWordIn K) := by
  refine okD D sc_is_word_in (fun ds d h => by obtain ⟨_, _, _, rfl, _⟩ := h; rfl) ?_
  rintro f cdv A outer s H vs Q E ds d hr hd ⟨p, n, u, rfl, hp, hn, hn2, hu, rfl⟩ _ k
  obtain ⟨v0, v1, v2, rfl, h0, h1, h2⟩ := dps3 hd
  have hpp := hp.b
  refine ⟨_, (pss_one (ps_ret (pe_and (pe_callB call_isi (by rfl) B.isinstance boot_isinstance (pa_cons (pv 2) (pa_cons (pe_bltn (v := .ty "tuple") (by rfl) B.tuple boot_tuple rfl) pa_nil))) (pe_and (pe_cmpR op_eq (pe_callB call_len_seq (by rfl) B.len boot_len (pa_cons (pv 2) pa_nil)) (pv 1) (nomark _)) (pe_one (pe_callB (cr_all rfl) (by rfl) B.all boot_all (pa_cons (pe_lc (own := [("entry", 3)]) (g := (gName 3)) (tt := tYes) rfl sc_is_word_in.nd (pi_tup (pv 2)) (blkOk_by (N := ["p", "many", "value", "entry"]) (sc := defScope s_is_word_in) (by decide +kernel)) (fun _ _ _ _ _ => pg_name (i := 3) sc_is_word_in.nd rfl (Or.inl rfl)) (fun _ _ _ _ _ => pts_nil) (fun _ _ _ _ _ => (pe_ok o_is_within (hr.mono (by decide)) (by rfl) pass0 (pa_cons (pv 3) (pa_cons pe_int (pa_cons (pe_op op_sub (pv 0) pe_int) pa_nil)))))) pa_nil))))))), ?_⟩
  refine sq_ret (pud_is (pud_and (pud_isTT (pud_var rfl h2) pu_c) fun _ => pud_and (pud_eqI (pud_lenT (pds_one (pud_var rfl h2))) (pud_var rfl h1)) fun _ => pud_all (ns := u.map fun _ => true) (pds_one (pud_is (pu_lcN (src_tup (enc := PyData.int) (pud_var rfl h2)) (by omega) (el := fun _ => .bool true) (fun _ _ => rfl) (fun _ => rfl) fun e he y J9 g9 hy => ?_) ?_))) (d2 := .bool true) ?_) k
  · have := hu e he
    refine pud_is (pud_call (G := gT) (gives ⟨e, 0, p - 1, rfl, by unfold great; omega, by unfold great; omega, rfl⟩) (pds_cons (pud_var rfl hy) (pds_cons pud_int (pds_one (pud_sub (pud_var rfl (dp_gr g9 h0)) pud_int)))) fun _ _ => trivial) ?_
    rw [decide_eq_true (by omega), decide_eq_true (by omega)]; rfl
  · rw [List.map_map]; rfl
  · rw [all_true, List.length_map, decide_eq_true (by rw [hn])]; rfl
def spRowIn (K : PySem.W.Frag) : Sp := sPD K gT fun ds d => ∃ (p : Int) (n : Nat) (r : Row), ds = [.int p, .int (n : Int), dR r] ∧ Prm p ∧ n ≤ 1000 ∧ RowOk p n r ∧ d = .bool true
abbrev s_is_row_in : Stmt := top 24
theorem sc_is_row_in : FnScope ["p", "many", "value"] ["p", "many", "value"] (defScope s_is_row_in) := ⟨rfl, rfl, rfl, by decide +kernel, rfl, by decide +kernel, by decide +kernel⟩
theorem ok_is_row_in (B : Bl mg) (o_is_within : Ok P w K mg base CX0 2 "is_within" ["value", "low", "high"] (spIsWithin K)) (o_is_word_in : Ok P w K mg base CX0 3 "is_word_in" ["p", "many", "value"] (spWordIn K)) (D : Df K mg "is_row_in" s_is_row_in ["p", "many", "value"]) : Ok P w K mg base CX0 4 "is_row_in" ["p", "many", "value"] (spRowIn K) := by
  refine okD D sc_is_row_in (fun ds d h => by obtain ⟨_, _, _, rfl, _⟩ := h; rfl) ?_
  rintro f cdv A outer s H vs Q E ds d hr hd ⟨p, n, r, rfl, hp, hn, hrr, rfl⟩ _ k
  obtain ⟨v0, v1, v2, rfl, h0, h1, h2⟩ := dps3 hd
  have hpp := hp.b
  have hs := hrr.side
  refine ⟨_, (pss_cons (ps_if (PW.pt (pw_or (pt_not (pt_val (pe_callB call_isi (by rfl) B.isinstance boot_isinstance (pa_cons (pv 2) (pa_cons (pe_bltn (v := .ty "tuple") (by rfl) B.tuple boot_tuple rfl) pa_nil))))) (pw_or1 (pt_cmpR op_ne (pe_callB call_len_seq (by rfl) B.len boot_len (pa_cons (pv 2) pa_nil)) pe_int (nomark _))))) (pss_one (ps_ret pe_bl)) pss_nil) (pss_one (ps_ret (pe_and (pe_ok o_is_word_in (hr.mono (by decide)) (by rfl) pass0 (pa_cons (pv 0) (pa_cons (pv 1) (pa_cons (pe_ix (r := rIxT K) ix_tup (pv 2) pe_int (fun _ _ => rfl)) pa_nil)))) (pe_one (pe_ok o_is_within (hr.mono (by decide)) (by rfl) pass0 (pa_cons (pe_ix (r := rIxT K) ix_tup (pv 2) pe_int (fun _ _ => rfl)) (pa_cons pe_int (pa_cons (pe_op op_sub (pv 0) pe_int) pa_nil))))))))), ?_⟩
  refine sq_if (b := false) (pb_is (pb_or (pb_not (pb_B (pud_isTT (pud_var rfl h2) pu_c))) fun _ => pb_test (pud_neI (pud_lenT (pds_one (pud_var rfl h2))) pud_int)) (by simp)) nofun fun _ J g => ?_
  dsimp only [tSeq, tNext]
  have h2' := dp_gr g h2
  refine sq_ret (P := fun v J => Dp K J v (.bool true)) (pud_is (pud_and (a := true) (b := true) (pud_call (G := gT) (gives ⟨p, n, r.1, rfl, hp, hrr.len, hn, hrr.ent, rfl⟩) (pds_cons (pud_var rfl (dp_gr g h0)) (pds_cons (pud_var rfl (dp_gr g h1)) (pds_one (pud_ixT (pud_var rfl h2') pud_int 0 rfl rfl)))) fun _ _ => trivial) fun _ =>
    pud_is (pud_call (G := gT) (gives ⟨r.2, 0, p - 1, rfl, by unfold great; omega, by unfold great; omega, rfl⟩) (pds_cons (pud_ixT (pud_var rfl h2') pud_int 1 rfl rfl) (pds_cons pud_int (pds_one (pud_sub (pud_var rfl (dp_gr g h0)) pud_int)))) fun _ _ => trivial) ?_) ?_) fun v J9 g9 p => k v J9 (g.trans g9) p
  · rw [decide_eq_true (by omega), decide_eq_true (by omega)]; rfl
  · rfl
def spReqRows (K : PySem.W.Frag) : Sp := sPD K gT fun ds d => ∃ (p : Int) (ns : List Str) (rows : List Row), ds = [.int p, .tuple (ns.map .str), .tuple (rows.map dR)] ∧ Prm p ∧ (∀ x ∈ ns, x ∈ okNames) ∧ ns.Nodup ∧ 1 ≤ ns.length ∧ ns.length ≤ 8 ∧ rows.length ≤ ns.length ∧ (∀ r ∈ rows, RowOk p ns.length r) ∧ d = .none
abbrev s_require_rows : Stmt := top 39
theorem sc_require_rows : FnScope ["p", "names", "rows", "many", "row"] ["p", "names", "rows"] (defScope s_require_rows) := ⟨rfl, rfl, rfl, by decide +kernel, rfl, by decide +kernel, by decide +kernel⟩
theorem ok_require_rows (B : Bl mg) (C : Cn K mg) (o_are_names : Ok P w K mg base CX0 3 "are_names" ["value"] (spAreNames K)) (o_is_row_in : Ok P w K mg base CX0 4 "is_row_in" ["p", "many", "value"] (spRowIn K)) (D : Df K mg "require_rows" s_require_rows ["p", "names", "rows"]) : Ok P w K mg base CX0 5 "require_rows" ["p", "names", "rows"] (spReqRows K) := by
  refine okD D sc_require_rows (fun ds d h => by obtain ⟨_, _, _, rfl, _⟩ := h; rfl) ?_
  rintro f cdv A outer s H vs Q E ds d hr hd ⟨p, ns, rows, rfl, hp, hx, hnd, hl1, hl8, hrl, hro, rfl⟩ _ k
  obtain ⟨v0, v1, v2, rfl, h0, h1, h2⟩ := dps3 hd
  refine ⟨_, (pss_cons (ps_if (PW.pt (pw_or (pt_not (pt_val (pe_ok o_are_names (hr.mono (by decide)) (by rfl) pass0 (pa_cons (pv 1) pa_nil)))) (pw_or1 (pt_not (pt_chain op_le op_le pe_int (pe_callB call_len_seq (by rfl) B.len boot_len (pa_cons (pv 1) pa_nil)) (pe_glob (v := (.int 8)) rfl C.MAX_FACTORS.choose_spec ⟨_, rfl⟩)))))) (pss_one ps_never) pss_nil) (pss_cons (ps_set (i := 3) sc_require_rows.nd rfl (Or.inr rfl) (pe_callB call_len_seq (by rfl) B.len boot_len (pa_cons (pv 1) pa_nil))) (pss_one (ps_if (PW.pt (pw_or (pt_not (pt_val (pe_callB call_isi (by rfl) B.isinstance boot_isinstance (pa_cons (pv 2) (pa_cons (pe_bltn (v := .ty "tuple") (by rfl) B.tuple boot_tuple rfl) pa_nil))))) (pw_or (pt_cmpR op_gt (pe_callB call_len_seq (by rfl) B.len boot_len (pa_cons (pv 2) pa_nil)) (pv 3) (nomark _)) (pw_or1 (pt_not (pt_val (pe_callB (cr_all rfl) (by rfl) B.all boot_all (pa_cons (pe_lc (own := [("row", 4)]) (g := (gName 4)) (tt := tYes) rfl sc_require_rows.nd (pi_tup (pv 2)) (blkOk_by (N := ["p", "names", "rows", "many", "row"]) (sc := defScope s_require_rows) (by decide +kernel)) (fun _ _ _ _ _ => pg_name (i := 4) sc_require_rows.nd rfl (Or.inl rfl)) (fun _ _ _ _ _ => pts_nil) (fun _ _ _ _ _ => (pe_ok o_is_row_in (hr.mono (by decide)) (by rfl) pass0 (pa_cons (pv 0) (pa_cons (pv 3) (pa_cons (pv 4) pa_nil)))))) pa_nil)))))))) (pss_one ps_never) pss_nil)))), ?_⟩
  refine sq_if (b := false) (pb_is (pb_or (pb_not (pb_B (pud_call (G := gT) (gives ⟨ns, rfl, hx, hnd, hl8, rfl⟩) (pds_one (pud_var rfl h1)) fun _ _ => trivial))) fun _ => pb_not (pb_test (pud_chain pud_int (pud_lenT (pds_one (pud_var rfl h1))) pud_int))) ?_) nofun fun _ J g => ?_
  · rw [List.length_map, decide_eq_true (by omega), decide_eq_true (by omega)]; rfl
  dsimp only [tSeq, tNext]
  have h1' := dp_gr g h1
  refine sq_set (P := fun v J => Dp K J v (.int (ns.length : Int))) (pud_is (pud_lenT (pds_one (pud_var rfl h1'))) (by rw [List.length_map])) fun v3 J3 g3 hv3 => ?_
  have e3 := dp_int hv3
  subst e3
  have h2' := dp_gr (g.trans g3) h2
  refine sq_if (b := false) (pb_is (pb_or (pb_not (pb_B (pud_isTT (pud_var rfl h2') pu_c))) fun _ => pb_or (pb_test (pud_opI (g := fun i j => .bl (decide (j < i))) (dv := .bool (decide ((ns.length : Int) < (rows.map dR).length))) (pud_lenT (pds_one (pud_var rfl h2'))) (pud_var rfl (.int _)) fun _ => .bl _)) fun _ => pb_not (pb_B (pud_all (ns := rows.map fun _ => true) (pds_one (pud_is (pu_lcN (src_tup (enc := dR) (pud_var rfl h2')) (by omega) (el := fun _ => .bool true) (fun _ _ => rfl) (fun _ => rfl) fun r hrm y J9 g9 hy => ?_) ?_))))) ?_) nofun fun _ J4 g4 => k .non J4 (g.trans (g3.trans g4)) .non
  · exact pud_call (G := gT) (gives ⟨p, ns.length, r, rfl, hp, by omega, hro r hrm, rfl⟩) (pds_cons (pud_var rfl (dp_gr (g.trans (g3.trans g9)) h0)) (pds_cons (pud_var rfl (.int _)) (pds_one (pud_var rfl hy)))) fun _ _ => trivial
  · rw [List.map_map]; rfl
  · rw [all_true, List.length_map, decide_eq_false (by omega)]; rfl
end
end Km
section
set_option linter.all false
set_option autoImplicit false
/-! the runs of reduced rows -/
namespace Km
def freeOf (n : Nat) (rows : List Row) : List Nat := (List.range n).filter fun at_ => !(rows.any fun r => decide (lead r.1 = at_))
def runOf (n : Nat) (free : List Nat) (levels : List Int) : List Int := (free.zip levels).foldl (fun run x => run.set x.1 x.2) (List.replicate n 0)
def toldOf (p : Int) (rows : List Row) (run : List Int) : List Int := rows.foldl (fun t r => t.set (lead r.1) ((r.2 - dot p r.1 run) % p)) run
def toldList (p : Int) (n : Nat) (rows : List Row) : List (List Int) := (wordsOf p.toNat (freeOf n rows).length).map fun l => toldOf p rows (runOf n (freeOf n rows) l)
theorem words_len {p : Nat} : ∀ {k : Nat} {w : List Int}, w ∈ wordsOf p k → w.length = k ∧ WR (p : Int) w
  | 0, w, h => by
    rw [wordsOf, List.mem_singleton] at h
    subst h; exact ⟨rfl, nofun⟩
  | k + 1, w, h => by
    rw [wordsOf, List.mem_flatMap] at h
    obtain ⟨v, hv, h⟩ := h
    obtain ⟨e, he, rfl⟩ := List.mem_map.mp h
    obtain ⟨h1, h2⟩ := words_len hv
    refine ⟨by simp [h1], fun x hx => ?_⟩
    rcases List.mem_append.mp hx with hx | hx
    · exact h2 x hx
    · rw [List.mem_singleton.mp hx]
      have := List.mem_range.mp he
      omega
theorem words_count {p : Nat} : ∀ k : Nat, (wordsOf p k).length = p ^ k
  | 0 => rfl
  | k + 1 => by
    rw [wordsOf, List.length_flatMap, Nat.pow_succ, ← words_count k]
    have : ∀ l : List (List Int), (l.map fun w => ((List.range p).map fun (e : Nat) => w ++ [(e : Int)]).length).sum = l.length * p := by
      intro l
      induction l with
      | nil => simp
      | cons a r ih => rw [List.map_cons, List.sum_cons, ih, List.length_map, List.length_range, List.length_cons, Nat.succ_mul]; omega
    exact this _
theorem free_le (n : Nat) (rows : List Row) : (freeOf n rows).length ≤ n := by
  have := List.length_filter_le (fun at_ => !(rows.any fun r => decide (lead r.1 = at_))) (List.range n)
  rw [List.length_range] at this
  exact this
theorem free_lt {n : Nat} {rows : List Row} {i : Nat} (h : i ∈ freeOf n rows) : i < n := List.mem_range.mp (List.mem_filter.mp h).1
/-! ### all words -/
theorem words_mem {p : Nat} : ∀ {k : Nat} {w : List Int}, w.length = k → WR (p : Int) w → w ∈ wordsOf p k
  | 0, w, h, _ => by rw [wordsOf, List.mem_singleton]; exact List.length_eq_zero_iff.mp h
  | k + 1, w, h, hw => by
    rw [wordsOf, List.mem_flatMap]
    have hne : w ≠ [] := fun e => by rw [e] at h; cases h
    refine ⟨w.dropLast, words_mem (by rw [List.length_dropLast]; omega) (fun e he => hw e ((List.dropLast_sublist w).subset he)), List.mem_map.mpr ⟨(w.getLast hne).toNat, ?_, ?_⟩⟩
    · have := hw _ (List.getLast_mem hne)
      rw [List.mem_range]; omega
    · have := hw _ (List.getLast_mem hne)
      rw [Int.toNat_of_nonneg this.1, List.dropLast_concat_getLast]
theorem words_nodup {p : Nat} : ∀ k : Nat, (wordsOf p k).Nodup
  | 0 => by rw [wordsOf]; simp
  | k + 1 => by
    rw [wordsOf]
    unfold List.Nodup
    rw [List.pairwise_flatMap]
    refine ⟨fun w _ => ?_, (words_nodup k).imp fun {a b} hab x hx y hy e => ?_⟩
    · rw [List.pairwise_map]
      refine List.nodup_range.imp fun {a b} hab e => hab ?_
      have := List.append_cancel_left e
      simpa using Int.ofNat.inj (List.cons.inj this).1
    · obtain ⟨e1, _, rfl⟩ := List.mem_map.mp hx
      obtain ⟨e2, _, rfl⟩ := List.mem_map.mp hy
      exact hab (List.append_inj' e rfl).1
/-! ### sums -/
def sm (n : Nat) (f : Nat → Int) : Int := ((List.range n).map f).sum
theorem sm_z (f : Nat → Int) : sm 0 f = 0 := rfl
theorem sm_s (n : Nat) (f : Nat → Int) : sm (n + 1) f = sm n f + f n := by unfold sm; rw [List.range_succ, List.map_append, List.sum_append]; simp
theorem sm_add (n : Nat) (f g : Nat → Int) : sm n (fun i => f i + g i) = sm n f + sm n g := by
  induction n with
  | zero => rfl
  | succ n ih => rw [sm_s, sm_s, sm_s, ih]; omega
theorem sm_mul (n : Nat) (c : Int) (f : Nat → Int) : sm n (fun i => c * f i) = c * sm n f := by
  induction n with
  | zero => rw [sm_z, sm_z, Int.mul_zero]
  | succ n ih => rw [sm_s, sm_s, ih, Int.mul_add]
theorem sm_congr {n : Nat} {f g : Nat → Int} (h : ∀ i, i < n → f i = g i) : sm n f = sm n g := by
  induction n with
  | zero => rfl
  | succ n ih => rw [sm_s, sm_s, ih fun i hi => h i (by omega), h n (by omega)]
theorem sm_zero {n : Nat} {f : Nat → Int} (h : ∀ i, i < n → f i = 0) : sm n f = 0 := by
  induction n with
  | zero => rfl
  | succ n ih => rw [sm_s, ih fun i hi => h i (by omega), h n (by omega)]; rfl
theorem sm_single {n : Nat} {f : Nat → Int} {j : Nat} (hj : j < n) (h : ∀ i, i < n → i ≠ j → f i = 0) : sm n f = f j := by
  induction n with
  | zero => omega
  | succ n ih =>
    rw [sm_s]
    by_cases e : j = n
    · subst e
      rw [sm_zero fun i hi => h i (by omega) (by omega)]; omega
    · rw [ih (by omega) fun i hi => h i (by omega), h n (by omega) (by omega)]; omega
theorem dot_sm {p : Int} {n : Nat} {w x : List Int} (h1 : w.length = n) (h2 : x.length = n) : dot p w x = sm n (fun i => w.getD i 0 * x.getD i 0) % p := by
  unfold dot sm
  congr 2
  refine List.ext_getElem (by simp [h1, h2]) fun i a b => ?_
  simp only [List.length_map, List.length_zip, List.length_range] at a b
  simp only [List.getElem_map, List.getElem_zip, List.getElem_range, List.getD_eq_getElem?_getD]
  rw [List.getElem?_eq_getElem (by omega), List.getElem?_eq_getElem (by omega)]; rfl
/-! ### the run of free levels -/
theorem getD_set {l : List Int} {i j : Nat} {e : Int} : (l.set i e).getD j 0 = if i = j ∧ i < l.length then e else l.getD j 0 := by
  rw [List.getD_eq_getElem?_getD, List.getD_eq_getElem?_getD, List.getElem?_set]
  by_cases h : i = j
  · subst h
    by_cases h2 : i < l.length
    · simp [h2]
    · simp [h2]
  · simp [h]
theorem runOf_len (n : Nat) (f : List Nat) (l : List Int) : (runOf n f l).length = n := by
  have : ∀ (z : List (Nat × Int)) (t : List Int), (z.foldl (fun run x => run.set x.1 x.2) t).length = t.length := by
    intro z
    induction z with
    | nil => intro t; rfl
    | cons a r ih => intro t; rw [List.foldl_cons, ih, List.length_set]
  unfold runOf
  rw [this, List.length_replicate]
theorem toldOf_len (p : Int) : ∀ (rows : List Row) (run t : List Int), (rows.foldl (fun t r => t.set (lead r.1) ((r.2 - dot p r.1 run) % p)) t).length = t.length := by
  intro rows run
  induction rows with
  | nil => intro t; rfl
  | cons a r ih => intro t; rw [List.foldl_cons, ih, List.length_set]
theorem runOf_get (n : Nat) (φ : Nat → Int) (f : List Nat) (j : Nat) (hf : ∀ i ∈ f, i < n) : (runOf n f (f.map φ)).getD j 0 = if j ∈ f then φ j else 0 := by
  have key : ∀ (f : List Nat) (t : List Int), (∀ i ∈ f, i < t.length) → ((f.zip (f.map φ)).foldl (fun run x => run.set x.1 x.2) t).getD j 0 = if j ∈ f then φ j else t.getD j 0 := by
    intro f
    induction f with
    | nil => intro t _; simp
    | cons a r ih =>
      intro t ht
      rw [List.map_cons, List.zip_cons_cons, List.foldl_cons, ih _ fun i hi => by rw [List.length_set]; exact ht i (List.mem_cons_of_mem _ hi), getD_set]
      have ha := ht a List.mem_cons_self
      by_cases h1 : j ∈ r
      · rw [if_pos h1, if_pos (List.mem_cons_of_mem _ h1)]
      · rw [if_neg h1]
        by_cases h2 : a = j
        · subst h2
          rw [if_pos ⟨rfl, ha⟩, if_pos List.mem_cons_self]
        · rw [if_neg fun h => h2 h.1, if_neg]
          intro h
          rcases List.mem_cons.mp h with h | h
          · exact h2 h.symm
          · exact h1 h
  unfold runOf
  rw [key f _ fun i hi => by rw [List.length_replicate]; exact hf i hi]
  congr 1
  rw [List.getD_eq_getElem?_getD, List.getElem?_replicate]
  split <;> rfl
theorem told_free {p : Int} {run : List Int} {j : Nat} : ∀ (rows : List Row) (t : List Int), (∀ r ∈ rows, lead r.1 ≠ j) → (rows.foldl (fun t r => t.set (lead r.1) ((r.2 - dot p r.1 run) % p)) t).getD j 0 = t.getD j 0
  | [], t, _ => rfl
  | a :: r, t, h => by
    rw [List.foldl_cons, told_free r _ fun q hq => h q (List.mem_cons_of_mem _ hq), getD_set, if_neg fun z => h a List.mem_cons_self z.1]
theorem told_lead {p : Int} {run : List Int} : ∀ (rows : List Row) (t : List Int), rows.Pairwise (fun a b => lead a.1 < lead b.1) → (∀ r ∈ rows, lead r.1 < t.length) → ∀ r ∈ rows, (rows.foldl (fun t r => t.set (lead r.1) ((r.2 - dot p r.1 run) % p)) t).getD (lead r.1) 0 = (r.2 - dot p r.1 run) % p
  | a :: rs, t, hp, hl, r, hr => by
    rw [List.pairwise_cons] at hp
    rw [List.foldl_cons]
    rcases List.mem_cons.mp hr with e | hr
    · subst e
      rw [told_free rs _ fun q hq => by have := hp.1 q hq; omega, getD_set, if_pos ⟨rfl, hl r List.mem_cons_self⟩]
    · exact told_lead rs _ hp.2 (fun q hq => by rw [List.length_set]; exact hl q (List.mem_cons_of_mem _ hq)) r hr
theorem mem_free {n : Nat} {rows : List Row} {j : Nat} : j ∈ freeOf n rows ↔ j < n ∧ ∀ r ∈ rows, lead r.1 ≠ j := by
  unfold freeOf
  rw [List.mem_filter, List.mem_range]
  simp
/-- the run with these levels at the free places -/
def lift (p : Int) (n : Nat) (rows : List Row) (φ : Nat → Int) : List Int := toldOf p rows (runOf n (freeOf n rows) ((freeOf n rows).map φ))
theorem lift_len {p : Int} {n : Nat} {rows : List Row} {φ : Nat → Int} : (lift p n rows φ).length = n := by
  unfold lift toldOf
  rw [toldOf_len, runOf_len]
theorem lift_free {p : Int} {n : Nat} {rows : List Row} {φ : Nat → Int} {j : Nat} (h : j ∈ freeOf n rows) : (lift p n rows φ).getD j 0 = φ j := by
  unfold lift toldOf
  rw [told_free _ _ (mem_free.mp h).2, runOf_get n φ _ j fun i hi => free_lt hi, if_pos h]
theorem pw_all {α : Type} {R : α → α → Prop} (hs : ∀ x y, R x y → R y x) (hr : ∀ x, R x x) : ∀ {l : List α}, l.Pairwise R → ∀ x ∈ l, ∀ y ∈ l, R x y
  | a :: r, h, x, hx, y, hy => by
    rw [List.pairwise_cons] at h
    rcases List.mem_cons.mp hx with e | hx <;> rcases List.mem_cons.mp hy with e' | hy
    · rw [e, e']; exact hr _
    · rw [e]; exact h.1 y hy
    · rw [e']; exact hs _ _ (h.1 x hx)
    · exact pw_all hs hr h.2 x hx y hy
theorem Red.off2 {p : Int} {n : Nat} {rows : List Row} (h : Red p n rows) {a b : Row} (ha : a ∈ rows) (hb : b ∈ rows) (hne : lead a.1 ≠ lead b.1) : a.1.getD (lead b.1) 0 = 0 := by
  have : ∀ x ∈ rows, ∀ y ∈ rows, (x ≠ y → x.1.getD (lead y.1) 0 = 0 ∧ y.1.getD (lead x.1) 0 = 0) := by
    exact pw_all (R := fun (x y : Row) => x ≠ y → x.1.getD (lead y.1) 0 = 0 ∧ y.1.getD (lead x.1) 0 = 0) (fun x y z hne => (z hne.symm).symm) (fun x h => absurd rfl h) (List.Pairwise.imp (S := fun (x y : Row) => x ≠ y → x.1.getD (lead y.1) 0 = 0 ∧ y.1.getD (lead x.1) 0 = 0) (fun {a b} z _ => z) h.off)
  exact (this a ha b hb fun e => hne (by rw [e])).1
theorem Red.uniq {p : Int} {n : Nat} {rows : List Row} (h : Red p n rows) {a b : Row} (ha : a ∈ rows) (hb : b ∈ rows) (e : lead a.1 = lead b.1) : a = b := by
  have : ∀ x ∈ rows, ∀ y ∈ rows, (x ≠ y → x.1.getD (lead y.1) 0 = 0 ∧ y.1.getD (lead x.1) 0 = 0) := by
    exact pw_all (R := fun (x y : Row) => x ≠ y → x.1.getD (lead y.1) 0 = 0 ∧ y.1.getD (lead x.1) 0 = 0) (fun x y z hne => (z hne.symm).symm) (fun x h => absurd rfl h) (List.Pairwise.imp (S := fun (x y : Row) => x ≠ y → x.1.getD (lead y.1) 0 = 0 ∧ y.1.getD (lead x.1) 0 = 0) (fun {a b} z _ => z) h.off)
  rcases Classical.em (a = b) with z | z
  · exact z
  · have h1 := (this a ha b hb z).1
    rw [← e, h.one a ha] at h1
    cases h1
theorem dot_of_leads {p : Int} {n : Nat} {rows : List Row} (hp : Prm p) (h : Red p n rows) {r : Row} (hr : r ∈ rows) {x y : List Int} (hx : x.length = n) (hy : y.length = n) (hf : ∀ j ∈ freeOf n rows, x.getD j 0 = y.getD j 0) (hz : ∀ q ∈ rows, y.getD (lead q.1) 0 = 0) :
    sm n (fun i => r.1.getD i 0 * x.getD i 0) = sm n (fun i => r.1.getD i 0 * y.getD i 0) + x.getD (lead r.1) 0 := by
  have e : sm n (fun i => r.1.getD i 0 * x.getD i 0) = sm n (fun i => r.1.getD i 0 * y.getD i 0 + if i = lead r.1 then x.getD (lead r.1) 0 else 0) := by
    refine sm_congr fun i hi => ?_
    by_cases hfr : i ∈ freeOf n rows
    · rw [hf i hfr, if_neg fun e => (mem_free.mp hfr).2 r hr e.symm, Int.add_zero]
    · obtain ⟨q, hq, e⟩ : ∃ q ∈ rows, lead q.1 = i := by
        rcases Classical.em (∃ q ∈ rows, lead q.1 = i) with z | z
        · exact z
        · exact absurd (mem_free.mpr ⟨hi, fun q hq e => z ⟨q, hq, e⟩⟩) hfr
      subst e
      rw [hz q hq, Int.mul_zero, Int.zero_add]
      by_cases e : lead q.1 = lead r.1
      · rw [if_pos e, e, h.one r hr, Int.one_mul]
      · rw [if_neg e, h.off2 hr hq (Ne.symm e), Int.zero_mul]
  rw [e, sm_add]
  congr 1
  rw [sm_single (h.lt r hr) fun i _ hi => if_neg hi, if_pos rfl]
theorem run_zero {n : Nat} {rows : List Row} {φ : Nat → Int} {q : Row} (hq : q ∈ rows) : (runOf n (freeOf n rows) ((freeOf n rows).map φ)).getD (lead q.1) 0 = 0 := by
  rw [runOf_get n φ _ _ fun i hi => free_lt hi, if_neg fun z => (mem_free.mp z).2 q hq rfl]
theorem lift_dot {p : Int} {n : Nat} {rows : List Row} {φ : Nat → Int} (hp : Prm p) (h : Red p n rows) {r : Row} (hr : r ∈ rows) : dot p r.1 (lift p n rows φ) = r.2 := by
  have hb := hp.b
  have ok := h.ok r hr
  rw [dot_sm ok.len lift_len, dot_of_leads hp h hr lift_len (runOf_len n (freeOf n rows) ((freeOf n rows).map φ)) (fun j hj => ?_) (fun q hq => run_zero hq)]
  · unfold lift toldOf
    rw [told_lead rows _ h.asc (fun q hq => by rw [runOf_len]; exact h.lt q hq) r hr, dot_sm ok.len (runOf_len _ _ _), Int.add_emod, Int.emod_emod, ← Int.add_emod]
    rw [Int.add_emod, Int.sub_emod, Int.emod_emod, ← Int.sub_emod, ← Int.add_emod]
    rw [show ∀ a b : Int, a + (b - a) = b from fun a b => by omega]
    exact Int.emod_eq_of_lt ok.side.1 ok.side.2
  · rw [lift_free hj, runOf_get n φ _ j fun i hi => free_lt hi, if_pos hj]
theorem wr_set {p : Int} {w : List Int} {i : Nat} {e : Int} (h : WR p w) (he : 0 ≤ e ∧ e < p) : WR p (w.set i e) := fun x hx => by
  rcases List.mem_or_eq_of_mem_set hx with z | z
  · exact h x z
  · rw [z]; exact he
theorem runOf_wr {p : Int} (hp : Prm p) (n : Nat) (f : List Nat) {l : List Int} (hl : WR p l) : WR p (runOf n f l) := by
  have hb := hp.b
  have : ∀ (z : List (Nat × Int)) (t : List Int), (∀ x ∈ z, 0 ≤ x.2 ∧ x.2 < p) → WR p t → WR p (z.foldl (fun run x => run.set x.1 x.2) t) := by
    intro z
    induction z with
    | nil => intro t _ h; exact h
    | cons a r ih => intro t hz h; exact ih _ (fun x hx => hz x (List.mem_cons_of_mem _ hx)) (wr_set h (hz a List.mem_cons_self))
  refine this _ _ (fun x hx => hl _ (List.of_mem_zip hx).2) fun x hx => ?_
  rw [(List.mem_replicate.mp hx).2]; omega
theorem toldOf_wr {p : Int} (hp : Prm p) (rows : List Row) {run : List Int} (h : WR p run) : WR p (toldOf p rows run) := by
  have : ∀ (rows : List Row) (t : List Int), WR p t → WR p (rows.foldl (fun t r => t.set (lead r.1) ((r.2 - dot p r.1 run) % p)) t) := by
    intro rows
    induction rows with
    | nil => intro t h; exact h
    | cons a r ih => intro t h; exact ih _ (wr_set h (emod_rng hp _))
  exact this rows run h
/-- a run that fulfils the rows -/
structure Sol (p : Int) (n : Nat) (rows : List Row) (x : List Int) : Prop where
  len : x.length = n
  wr : WR p x
  ful : ∀ r ∈ rows, dot p r.1 x = r.2
theorem mem_runs {p : Int} {n : Nat} {rows : List Row} {x : List Int} (hp : Prm p) : x ∈ runsOf p n rows ↔ Sol p n rows x := by
  have hb := hp.b
  have ep : ((p.toNat : Nat) : Int) = p := Int.toNat_of_nonneg (by omega)
  unfold runsOf fulfils
  rw [List.mem_filter, List.all_eq_true]
  constructor
  · rintro ⟨h1, h2⟩
    have := words_len h1
    rw [ep] at this
    exact ⟨this.1, this.2, fun r hr => by simpa using h2 r hr⟩
  · rintro ⟨h1, h2, h3⟩
    exact ⟨words_mem h1 (by rw [ep]; exact h2), fun r hr => by simpa using h3 r hr⟩
theorem lift_sol {p : Int} {n : Nat} {rows : List Row} {φ : Nat → Int} (hp : Prm p) (h : Red p n rows) (hφ : ∀ j, 0 ≤ φ j ∧ φ j < p) : Sol p n rows (lift p n rows φ) :=
  ⟨lift_len, toldOf_wr hp rows (runOf_wr hp n _ fun e he => by obtain ⟨j, _, rfl⟩ := List.mem_map.mp he; exact hφ j), fun r hr => lift_dot hp h hr⟩
theorem ext_getD {x y : List Int} (hl : x.length = y.length) (h : ∀ i, i < x.length → x.getD i 0 = y.getD i 0) : x = y := by
  refine List.ext_getElem hl fun i h1 h2 => ?_
  have := h i h1
  rw [List.getD_eq_getElem?_getD, List.getD_eq_getElem?_getD, List.getElem?_eq_getElem h1, List.getElem?_eq_getElem h2] at this
  exact this
/-- a run is told by its levels at the free places -/
theorem sol_lift {p : Int} {n : Nat} {rows : List Row} {x : List Int} (hp : Prm p) (h : Red p n rows) (hx : Sol p n rows x) : lift p n rows (fun j => x.getD j 0) = x := by
  have hb := hp.b
  refine ext_getD (by rw [lift_len, hx.len]) fun i hi => ?_
  rw [lift_len] at hi
  by_cases hfr : i ∈ freeOf n rows
  · exact lift_free hfr
  · obtain ⟨q, hq, e⟩ : ∃ q ∈ rows, lead q.1 = i := by
      rcases Classical.em (∃ q ∈ rows, lead q.1 = i) with z | z
      · exact z
      · exact absurd (mem_free.mpr ⟨hi, fun q hq e => z ⟨q, hq, e⟩⟩) hfr
    subst e
    have ok := h.ok q hq
    have h1 := hx.ful q hq
    rw [dot_sm ok.len hx.len, dot_of_leads hp h hq hx.len (runOf_len n (freeOf n rows) ((freeOf n rows).map fun j => x.getD j 0)) (fun j hj => by rw [runOf_get n _ _ j fun i hi => free_lt hi, if_pos hj]) (fun q hq => run_zero hq)] at h1
    unfold lift toldOf
    rw [told_lead rows _ h.asc (fun q hq => by rw [runOf_len]; exact h.lt q hq) q hq, dot_sm ok.len (runOf_len _ _ _), ← h1]
    rw [Int.sub_emod, Int.emod_emod, Int.emod_emod, ← Int.sub_emod, show ∀ a b : Int, a + b - a = b from fun a b => by omega]
    have := wr_getD hp hx.wr (lead q.1)
    exact Int.emod_eq_of_lt this.1 this.2
theorem map_of_len {α : Type} {f : List Nat} {l : List Int} (hf : f.Nodup) (hl : l.length = f.length) : l = f.map fun j => l.getD (f.idxOf j) 0 := by
  refine List.ext_getElem (by simp [hl]) fun i h1 h2 => ?_
  rw [List.getElem_map, hf.idxOf_getElem i (by omega), List.getD_eq_getElem?_getD, List.getElem?_eq_getElem h1]; rfl
theorem free_nodup (n : Nat) (rows : List Row) : (freeOf n rows).Nodup := List.nodup_range.sublist List.filter_sublist
theorem runs_perm {p : Int} {n : Nat} {rows : List Row} (hp : Prm p) (h : Red p n rows) : (runsOf p n rows).Perm (toldList p n rows) := by
  have hb := hp.b
  have ep : ((p.toNat : Nat) : Int) = p := Int.toNat_of_nonneg (by omega)
  have hlift : ∀ l ∈ wordsOf p.toNat (freeOf n rows).length, ∃ φ : Nat → Int, (∀ j, 0 ≤ φ j ∧ φ j < p) ∧ l = (freeOf n rows).map φ := fun l hl => by
    have hl2 := words_len hl
    rw [ep] at hl2
    exact ⟨fun j => l.getD ((freeOf n rows).idxOf j) 0, fun j => wr_getD hp hl2.2 _, map_of_len (α := Nat) (free_nodup n rows) hl2.1⟩
  refine (List.perm_ext_iff_of_nodup ((words_nodup n).sublist List.filter_sublist) ?_).mpr fun x => ?_
  · unfold toldList
    unfold List.Nodup
    rw [List.pairwise_map]
    refine (List.Pairwise.and_mem.mp (words_nodup _)).imp fun {a b} hab e => ?_
    obtain ⟨ha, hb', hne⟩ := hab
    obtain ⟨φ, _, rfl⟩ := hlift a ha
    obtain ⟨ψ, _, rfl⟩ := hlift b hb'
    refine hne (List.map_congr_left fun j hj => ?_)
    have h1 := lift_free (p := p) (φ := φ) hj
    have h2 := lift_free (p := p) (φ := ψ) hj
    unfold lift at h1 h2
    rw [← h1, ← h2, e]
  · show x ∈ runsOf p n rows ↔ _
    rw [mem_runs hp]
    unfold toldList
    rw [List.mem_map]
    constructor
    · intro hx
      refine ⟨(freeOf n rows).map fun j => x.getD j 0, words_mem (by simp) (fun e he => ?_), sol_lift hp h hx⟩
      obtain ⟨j, _, rfl⟩ := List.mem_map.mp he
      rw [ep]
      exact wr_getD hp hx.wr j
    · rintro ⟨l, hl, rfl⟩
      obtain ⟨φ, hφ, rfl⟩ := hlift l hl
      exact lift_sol hp h hφ
end Km
end
set_option Elab.async false
set_option linter.all false
set_option maxRecDepth 100000
set_option maxHeartbeats 4000000
set_option autoImplicit false
namespace Km
open PySem PySem.Spec PyProof.Rows L2 StX
/-! ### data stands while a thing that is neither list nor tuple changes -/
section
variable {K : PySem.W.Frag} {H : Hp} {D : Addr} {o' : HO}
/-- D holds neither a list nor a tuple -/
def NoSeq (H : Hp) (D : Addr) : Prop := ∀ xs, ¬ Rd H D (.lst xs) ∧ ¬ Rd H D (.tup xs)
theorem noSeq_of {u : HO} (h : H D = some u) (hl : ∀ o xs, u ≠ .lst xs ∧ u ≠ .frz o (.lst xs)) (ht : ∀ o xs, u ≠ .tup xs ∧ u ≠ .frz o (.tup xs)) : NoSeq H D := by
  intro xs
  constructor
  · rintro (z | ⟨o, z⟩)
    · rw [h] at z; exact (hl default xs).1 (Option.some.inj z)
    · rw [h] at z; exact (hl o xs).2 (Option.some.inj z)
  · rintro (z | ⟨o, z⟩)
    · rw [h] at z; exact (ht default xs).1 (Option.some.inj z)
    · rw [h] at z; exact (ht o xs).2 (Option.some.inj z)
theorem noSeq_dK {kvs : List (Key × V)} (h : H D = some (.dK kvs)) : NoSeq H D := noSeq_of h (fun _ _ => ⟨nofun, nofun⟩) (fun _ _ => ⟨nofun, nofun⟩)
theorem noSeq_dT {kvs : List (List Key × V)} (h : H D = some (.dT kvs)) : NoSeq H D := noSeq_of h (fun _ _ => ⟨nofun, nofun⟩) (fun _ _ => ⟨nofun, nofun⟩)
theorem noSeq_fK {o : Obj} {kvs : List (Key × V)} (h : H D = some (.frz o (.dK kvs))) : NoSeq H D := noSeq_of h (fun _ _ => ⟨nofun, nofun⟩) (fun _ _ => ⟨nofun, nofun⟩)
theorem noSeq_fT {o : Obj} {kvs : List (List Key × V)} (h : H D = some (.frz o (.dT kvs))) : NoSeq H D := noSeq_of h (fun _ _ => ⟨nofun, nofun⟩) (fun _ _ => ⟨nofun, nofun⟩)
theorem rd_upd {a : Addr} {u : HO} (ha : a ≠ D) (h : Rd H a u) : Rd (upd H D o') a u := by
  rcases h with h | ⟨o, h⟩
  · left; rw [upd_ne ha]; exact h
  · right; exact ⟨o, by rw [upd_ne ha]; exact h⟩
theorem sqL_upd (n : NoSeq H D) {a : Addr} {xs : List V} (h : SqL K H a xs) : SqL K (upd H D o') a xs := h.elim (fun h => .inl (rd_upd (fun z => by rw [z] at h; exact (n xs).1 h) h)) .inr
theorem sqT_upd (n : NoSeq H D) {a : Addr} {xs : List V} (h : SqT K H a xs) : SqT K (upd H D o') a xs := h.elim (fun h => .inl (rd_upd (fun z => by rw [z] at h; exact (n xs).2 h) h)) .inr
mutual
theorem dp_upd (n : NoSeq H D) : ∀ {v : V} {d : PyData}, Dp K H v d → Dp K (upd H D o') v d
  | _, _, .non => .non
  | _, _, .bl b => .bl b
  | _, _, .int i => .int i
  | _, _, .str x => .str x
  | _, _, .lst h t => .lst (sqL_upd n h) (dps_upd n t)
  | _, _, .tup h t => .tup (sqT_upd n h) (dps_upd n t)
theorem dps_upd (n : NoSeq H D) : ∀ {vs : List V} {ds : List PyData}, DpAll K H vs ds → DpAll K (upd H D o') vs ds
  | _, _, .nil => .nil
  | _, _, .cons h t => .cons (dp_upd n h) (dps_upd n t)
end
theorem dp_gdk {kvs : List (Key × V)} {v : V} {d : PyData} (h : H D = some (.dK kvs)) (f : lf d = true) (x : Dp K H v d) : Dp K (upd H D o') v d := dp_upd (noSeq_dK h) x
theorem dps_gdk {kvs : List (Key × V)} {v : List V} {d : List PyData} (h : H D = some (.dK kvs)) (f : lfs d = true) (x : DpAll K H v d) : DpAll K (upd H D o') v d := dps_upd (noSeq_dK h) x
end
section
variable {K : PySem.W.Frag} {σ : L2.St} {H : Hp} {wi : TI} {te ta tb : TE} {t : TA} {vs : List Nat}
/-- two sequences of ints side by side, each a list or a tuple -/
theorem zip_dot {w o : List Int} (h : PuDs K t σ H [dW w, .list (o.map .int)]) : SrcL (iZipX K t) σ H (w.zip o) fun p v B => ∃ T, v = .ref T ∧ B T = some (.tup [.int p.1, .int p.2]) :=
  fun H0 e0 C c => h H0 e0 _ fun vs J g p => by
    obtain _ | ⟨pa, _ | ⟨pb, _ | _⟩⟩ := p
    obtain ⟨a, rfl, sa⟩ := dp_word pa
    obtain ⟨b, ys, rfl, sb, tb⟩ := dp_lst pb
    rw [ints_dps tb] at sb
    refine ⟨false, true, a, b, _, _, rfl, sa, sb, c _ J g ?_⟩
    have hl : (w.zip o).length = min (w.map V.int).length (o.map V.int).length := by rw [List.length_zip, List.length_map, List.length_map]
    refine (walk_zipX (K := K) (ka := false) (kb := true) (a := a) (b := b) (xs := w.map V.int) (ys := o.map V.int) hl).mono (fun B gb => ⟨gb.sqT sa, gb.sqL sb⟩) fun i A v B hi ga y => ?_
    obtain ⟨T, x, y, rfl, hT, rfl, h1, h2⟩ := y
    have h1 : (w.map V.int)[i]? = some x := h1
    have h2 : (o.map V.int)[i]? = some y := h2
    rw [List.getElem?_map] at h1 h2
    obtain ⟨m, hm, rfl⟩ := Option.map_eq_some_iff.mp h1
    obtain ⟨n, hn, rfl⟩ := Option.map_eq_some_iff.mp h2
    exact ⟨Gr.new hT, (m, n), List.getElem?_zip_eq_some.mpr ⟨hm, hn⟩, T, rfl, upd_same⟩
/-- a dict from ints, the keys unlike -/
theorem pu_dcI {α : Type} {l : List α} {R : α → V → Hp → Prop} {g : TG} {tk tv : TE} {key : α → Int} {el : α → PyData} (hs : SrcL wi σ H l R) (hl : l.length ≤ 1000000) (hf : ∀ a, lf (el a) = true) (hn : (l.map key).Nodup)
    (ht : ∀ a ∈ l, ∀ x J, Gr H J → R a x J → ∃ σ2, wipe σ2 vs = wipe σ vs ∧ (∀ C : L2.St → Hp → Prop, C σ2 J → g x (wipe σ vs) J C) ∧ PuD K tk σ2 J (.int (key a)) ∧ PuD K tv σ2 J (el a)) :
    Pu (tDc wi g tYes tk tv vs) σ H fun v J => ∃ D kvs, v = .ref D ∧ J D = some (.dK kvs) ∧ kvs.map Prod.fst = l.map (fun a => (Sum.inl (key a) : Key)) ∧ DpAll K J (kvs.map Prod.snd) (l.map el) := fun H0 e0 Q q => hs H0 e0 _ fun I H1 g1 w D hD => by
  refine dc_walk w (fun i A => Gr H1 A ∧ ∃ kvs, A D = some (.dK kvs) ∧ kvs.map Prod.fst = (l.take i).map (fun a => (Sum.inl (key a) : Key)) ∧ DpAll K A (kvs.map Prod.snd) ((l.take i).map el)) ⟨.new hD, [], upd_same, rfl, .nil⟩ (fun _ _ p => p.1) ?_ ?_
  · rintro i x A B hi ⟨ga, kvs, ea, ek, dv⟩ ⟨gab, a, ha, hR⟩
    have hm : a ∈ l := List.mem_of_getElem? ha
    obtain ⟨σ2, hw, hg, hk, hv⟩ := ht a hm x B (e0.trans (g1.trans (ga.trans gab))) hR
    refine hg _ ⟨hw, pb_yes (σ := σ2) B .refl _ fun J gj => ?_⟩
    rw [if_pos rfl]
    refine hk J gj _ fun y J2 g2 py => hv J2 (gj.trans g2) _ fun z J3 g3 pz => ?_
    rw [dp_int py]
    have gA := gab.trans (gj.trans (g2.trans g3))
    have eD := gA.keep _ _ ea True.intro
    have hlen : kvs.length = (l.take i).length := by
      have := congrArg List.length ek
      rwa [List.length_map, List.length_map] at this
    have gm : ∀ {d : PyData} {v : V}, lf d = true → Dp K J3 v d → Dp K (upd J3 D (.dK (putK kvs (Sum.inl (key a)) z))) v d := fun {d v} f h => dp_gdk eD f h
    refine ⟨kvs, Sum.inl (key a), rfl, eD, ?_, (ga.trans gA).mut hD, _, upd_same, ?_, ?_⟩
    · rw [hlen, List.length_take]
      exact Nat.lt_of_le_of_lt (Nat.le_trans (Nat.min_le_right _ _) hl) (by decide)
    · rw [putK_new, List.map_append, ek, take_more ha, List.map_append]
      · rfl
      · refine valV_none fun qv hq => ?_
        intro z
        have hin : qv.1 ∈ kvs.map Prod.fst := List.mem_map.mpr ⟨qv, hq, rfl⟩
        rw [ek] at hin
        obtain ⟨y, hy, e⟩ := List.mem_map.mp hin
        rw [z] at e
        have e : key y = key a := Sum.inl.inj e
        obtain ⟨k, hk, e2⟩ := List.getElem_of_mem hy
        rw [List.getElem_take] at e2
        have hk2 : k < i := by rw [List.length_take] at hk; omega
        have h1 : (l.map key)[k]? = (l.map key)[i]? := by
          rw [List.getElem?_map, List.getElem?_map, ha, List.getElem?_eq_getElem (by omega), e2, Option.map_some, Option.map_some, e]
        exact absurd ((List.getElem?_inj (by rw [List.length_map]; omega) hn).mp h1) (by omega)
    · rw [putK_new, List.map_append, take_more ha, List.map_append]
      · refine dps_app ?_ (dps_one (dp_gdk eD (hf a) pz))
        have h2 := dps_gr gA dv
        refine dps_gdk eD ?_ h2
        exact lfs_map hf _
      · refine valV_none fun qv hq => ?_
        intro z
        have hin : qv.1 ∈ kvs.map Prod.fst := List.mem_map.mpr ⟨qv, hq, rfl⟩
        rw [ek] at hin
        obtain ⟨y, hy, e⟩ := List.mem_map.mp hin
        rw [z] at e
        have e : key y = key a := Sum.inl.inj e
        obtain ⟨k, hk, e2⟩ := List.getElem_of_mem hy
        rw [List.getElem_take] at e2
        have hk2 : k < i := by rw [List.length_take] at hk; omega
        have h1 : (l.map key)[k]? = (l.map key)[i]? := by
          rw [List.getElem?_map, List.getElem?_map, ha, List.getElem?_eq_getElem (by omega), e2, Option.map_some, Option.map_some, e]
        exact absurd ((List.getElem?_inj (by rw [List.length_map]; omega) hn).mp h1) (by omega)
  · rintro A ⟨ga, kvs, ea, ek, dv⟩
    rw [List.take_length] at ek dv
    exact q _ A (g1.trans ga) ⟨D, kvs, rfl, ea, ek, dv⟩
end
end Km
set_option Elab.async false
set_option linter.all false
set_option maxRecDepth 100000
set_option maxHeartbeats 4000000
set_option autoImplicit false
namespace Km
open PySem PySem.Spec PyProof.Rows L2 StX
theorem ixN_n {n j : Nat} (h : j < n) : ixN n (j : Int) = some j := by
  unfold ixN
  rw [if_pos (by omega), if_pos (by omega), Int.toNat_natCast]
/-! ### the codes of words -/
theorem code_snoc (B : Int) (e : Int) : ∀ w : List Int, TS.code B (w ++ [e]) = TS.code B w * B + e
  | [] => by simp [TS.code]
  | d :: r => by
    rw [List.cons_append, TS.code, TS.code, code_snoc B e r, List.length_append, List.length_singleton, Int.pow_succ, Int.add_mul, Int.mul_assoc]
    omega
theorem words_asc {p : Int} (hp : Prm p) : ∀ k : Nat, (wordsOf p.toNat k).Pairwise fun a b => TS.code p a < TS.code p b
  | 0 => by rw [wordsOf]; exact List.pairwise_singleton _ _
  | k + 1 => by
    have hb := hp.b
    rw [wordsOf, List.pairwise_flatMap]
    refine ⟨fun w hw => ?_, (words_asc hp k).imp fun {a b} h x hx y hy => ?_⟩
    · rw [List.pairwise_map]
      refine List.pairwise_lt_range.imp fun {a b} h => ?_
      rw [code_snoc, code_snoc]; omega
    · obtain ⟨e, he, rfl⟩ := List.mem_map.mp hx
      obtain ⟨d, hd, rfl⟩ := List.mem_map.mp hy
      have he := List.mem_range.mp he
      have hd := List.mem_range.mp hd
      rw [code_snoc, code_snoc]
      have h2 : (TS.code p a + 1) * p ≤ TS.code p b * p := Int.mul_le_mul_of_nonneg_right (by omega) (by omega)
      rw [Int.add_mul, Int.one_mul] at h2
      omega
theorem runs_asc {p : Int} (hp : Prm p) (n : Nat) (rows : List Row) : (runsOf p n rows).Pairwise fun a b => TS.code p a < TS.code p b := (words_asc hp n).filter _
/-- the value at a key -/
theorem valV_at {κ : Type} [DecidableEq κ] : ∀ {kvs : List (κ × V)} {i : Nat} {k : κ} {v : V}, (kvs.map Prod.fst).Nodup → kvs[i]? = some (k, v) → valV kvs k = some v
  | [], _, _, _, _, h => by simp at h
  | q :: r, 0, k, v, _, h => by
    simp only [List.getElem?_cons_zero, Option.some.injEq] at h
    subst h; exact valV_pos rfl
  | q :: r, i + 1, k, v, hn, h => by
    rw [List.map_cons, List.nodup_cons] at hn
    have h : r[i]? = some (k, v) := by simpa using h
    rw [valV_neg, valV_at hn.2 h]
    intro z
    exact hn.1 (List.mem_map.mpr ⟨(k, v), List.mem_of_getElem? h, z.symm⟩)
section
variable {P : Program} {w : World} {K : PySem.W.Frag} {mg : Str → Option Value} {base : Heap} {T1 T2 c1 c2 : Addr}
def spDotL (K : PySem.W.Frag) : Sp := sPD K gT fun ds d => ∃ (p : Int) (u o : List Int), ds = [.int p, dW u, .list (o.map .int)] ∧ Prm p ∧ WR p o ∧ u.length ≤ 1000 ∧ d = .int (dot p u o)

theorem ok_dotL (B : Bl mg) (D : Df K mg "dot" s_dot ["p", "word", "levels"]) : Ok P w K mg base CX0 1 "dot" ["p", "word", "levels"] (spDotL K) := by
  refine okD D sc_dot (fun ds d h => by obtain ⟨_, _, _, rfl, _⟩ := h; rfl) ?_
  rintro f cdv A outer s H vs Q E ds d hr hd ⟨p, u, o, rfl, hp, ho, h1, rfl⟩ _ k
  obtain ⟨v0, v1, v2, rfl, h0, hu0, ho0⟩ := dps3 hd
  refine ⟨_, (pss_one (ps_ret (pe_op op_mod (pe_callB (cr_sum rfl) (by rfl) B.sum boot_sum (pa_cons (pe_lc (own := [("entry", 3), ("level", 4)]) (g := (gTup K 2 (gCons (gName 3) (gCons (gName 4) gNil)))) (tt := tYes) rfl sc_dot.nd (pi_zipX (by rfl) B.zip (pa_cons (pv 1) (pa_cons (pv 2) pa_nil))) (blkOk_by (N := ["p", "word", "levels", "entry", "level"]) (sc := defScope s_dot) (by decide +kernel)) (fun _ _ _ _ _ => pg_tup rfl (pgs_cons (pg_name (i := 3) sc_dot.nd rfl (Or.inl rfl)) (pgs_cons (pg_name (i := 4) sc_dot.nd rfl (Or.inl rfl)) pgs_nil))) (fun _ _ _ _ _ => pts_nil) (fun _ _ _ _ _ => (pe_op op_mul (pv 3) (pv 4)))) pa_nil)) (pv 0)))), ?_⟩
  refine sq_ret (pud_is (pud_mod (pud_sum (ns := (u.zip o).map fun x => x.1 * x.2) (pds_one ?_)) (pud_var rfl h0) (by have := hp.pos; omega)) (d2 := .int (dot p u o)) rfl) k
  refine pud_is (pu_lcP (zip_dot (w := u) (o := o) (pds_cons (pud_var rfl hu0) (pds_one (pud_var rfl ho0)))) (by rw [List.length_zip]; omega) (el := fun x => .int (x.1 * x.2)) (fun _ _ => rfl) (fun _ _ => rfl) fun x hx v J g r => ?_) (by rw [List.map_map]; rfl)
  obtain ⟨T, rfl, hT⟩ := r
  refine ⟨T, _, _, rfl, SqT.of hT, ?_⟩
  exact pud_mul (pud_var rfl (.int _)) (pud_var rfl (.int _)) (mulR (ho.small hp (List.of_mem_zip hx).2))
def spRuns (K : PySem.W.Frag) (T1 T2 : Addr) : Sp := sPD K (TT T1 T2) fun ds d => ∃ (p : Int) (n : Nat) (rows : List Row), ds = [.int p, .int (n : Int), .list (rows.map dR)] ∧ Prm p ∧ Red p n rows ∧ 1 ≤ n ∧ n ≤ 8 ∧ p.toNat ^ n ≤ 49 ∧ rows.length ≤ 8 ∧ d = .list ((runsOf p n rows).map dW)
abbrev s_runs_of : Stmt := top 40
theorem sc_runs_of : FnScope ["p", "many", "rows", "leads", "free", "found", "place", "runs", "levels", "run", "told", "lead", "at", "level", "word", "side"] ["p", "many", "rows"] (defScope s_runs_of) := ⟨rfl, rfl, rfl, by decide +kernel, rfl, by decide +kernel, by decide +kernel⟩
theorem ok_runs_of (B : Bl mg) (o_lead_of : Ok P w K mg base CX0 1 "lead_of" ["word"] (spLead K T1 T2)) (o_dot : Ok P w K mg base CX0 1 "dot" ["p", "word", "levels"] (spDotL K))
    (D : Df K mg "runs_of" s_runs_of ["p", "many", "rows"]) : Ok P w K mg base CX0 2 "runs_of" ["p", "many", "rows"] (spRuns K T1 T2) := by
  refine okD D sc_runs_of (fun ds d h => by obtain ⟨_, _, _, rfl, _⟩ := h; rfl) ?_
  rintro f cdv A outer s H vs Q E ds d hr hd ⟨p, n, rows, rfl, hp, hred, hn1, hn8, hpn, hrl, rfl⟩ hT k
  obtain ⟨v0, v1, v2, rfl, h0, h1, h2⟩ := dps3 hd
  have hu := hu_of hr
  refine ⟨_, (pss_cons (ps_set (i := 3) sc_runs_of.nd rfl (Or.inr rfl) (pe_dc (own := [("word", 14), ("side", 15)]) (g := (gTup K 2 (gCons (gName 14) (gCons (gName 15) gNil)))) (tt := tYes) rfl sc_runs_of.nd (pi_list (pv 2)) (blkOk_by (N := ["p", "many", "rows", "leads", "free", "found", "place", "runs", "levels", "run", "told", "lead", "at", "level", "word", "side"]) (sc := defScope s_runs_of) (by decide +kernel)) (fun _ _ _ _ _ => pg_tup rfl (pgs_cons (pg_name (i := 14) sc_runs_of.nd rfl (Or.inl rfl)) (pgs_cons (pg_name (i := 15) sc_runs_of.nd rfl (Or.inl rfl)) pgs_nil))) (fun _ _ _ _ _ => pts_nil) (fun _ _ _ _ _ => (pe_ok o_lead_of (hr.mono (by decide)) (by rfl) pass0 (pa_cons (pv 14) pa_nil))) (fun _ _ _ _ _ => (pe_tup (pa_cons (pv 14) (pa_cons (pv 15) pa_nil)))))) (pss_cons (ps_setLc (i := 4) (own := [("at", 12)]) (g := (gName 12)) rfl sc_runs_of.nd rfl rfl (sw_true rfl rfl rfl (by decide +kernel)) (pi_range1 (by rfl) B.range (pa_cons (pv 1) pa_nil)) (blkOk_by (N := ["p", "many", "rows", "leads", "free", "found", "place", "runs", "levels", "run", "told", "lead", "at", "level", "word", "side"]) (sc := defScope s_runs_of) (by decide +kernel)) (fun _ _ _ _ _ => pg_name (i := 12) sc_runs_of.nd rfl (Or.inl rfl)) (fun _ _ _ _ _ => pts_one (pt_cmp (pc_dnotin hu (pv 12) (pv 3)))) (fun _ _ _ _ _ => (pv 12))) (pss_cons (ps_set (i := 5) sc_runs_of.nd rfl (Or.inl rfl) (pe_lst (pa_cons (pe_tup pa_nil) pa_nil))) (pss_cons (ps_for PassesOwn.never rfl (pi_list (pv 4)) (pg_name (i := 6) sc_runs_of.nd rfl (Or.inl rfl)) (pss_one (ps_setLc2 (i := 5) (te := tTup (StX.tStar K (tVar 8) (tCons (tVar 13) tNil))) (own := [("levels", 8), ("level", 13)]) (vs1 := [13]) (g := (gName 8)) (g1 := (gName 13)) (tt := tYes) (tt1 := tYes) rfl sc_runs_of.nd rfl rfl (sw_true rfl rfl rfl (by decide +kernel)) (pi_list (pv 5)) (blkOk_by (N := ["p", "many", "rows", "leads", "free", "found", "place", "runs", "levels", "run", "told", "lead", "at", "level", "word", "side"]) (sc := defScope s_runs_of) (by decide +kernel)) (by decide) (fun _ _ _ _ _ => pg_name (i := 8) sc_runs_of.nd rfl (Or.inl rfl)) (fun _ _ _ _ _ => pts_nil) (fun _ _ _ _ _ => (pi_range1 (by rfl) B.range (pa_cons (pv 0) pa_nil))) (fun _ _ _ _ _ => pg_name (i := 13) sc_runs_of.nd rfl (Or.inl rfl)) (fun _ _ _ _ _ => pts_nil) (fun _ _ _ _ _ => (pe_tup (StX.pa_star (pv 8) (pa_cons (pv 13) pa_nil))))))) (pss_cons (ps_set (i := 7) sc_runs_of.nd rfl (Or.inl rfl) (pe_lst pa_nil)) (pss_cons (ps_lock (ps_for PassesOwn.never rfl (pi_list (pv 5)) (pg_name (i := 8) sc_runs_of.nd rfl (Or.inl rfl)) (pss_cons (ps_set (i := 9) sc_runs_of.nd rfl (Or.inl rfl) (pe_op op_rep (pe_lst (pa_cons pe_int pa_nil)) (pv 1))) (pss_cons (ps_for PassesOwn.never rfl (pi_zipX (by rfl) B.zip (pa_cons (pv 4) (pa_cons (pv 8) pa_nil))) (pg_tup rfl (pgs_cons (pg_name (i := 6) sc_runs_of.nd rfl (Or.inl rfl)) (pgs_cons (pg_name (i := 13) sc_runs_of.nd rfl (Or.inl rfl)) pgs_nil))) (pss_one (ps_asg (pv 13) (pg_sub (pv 9) (pv 6) set_list)))) (pss_cons (ps_set (i := 10) sc_runs_of.nd rfl (Or.inl rfl) (pe_callTy call_list_of (by rfl) B.list boot_list (pa_cons (pv 9) pa_nil))) (pss_cons (ps_for PassesOwn.never rfl (pi_keys (pv 3)) (pg_name (i := 11) sc_runs_of.nd rfl (Or.inl rfl)) (pss_cons (ps_asg (pe_dget hu (pv 3) (pv 11) (fun _ _ => rfl)) (pg_tup rfl (pgs_cons (pg_name (i := 14) sc_runs_of.nd rfl (Or.inl rfl)) (pgs_cons (pg_name (i := 15) sc_runs_of.nd rfl (Or.inl rfl)) pgs_nil)))) (pss_one (ps_asg (pe_op op_mod (pe_op op_sub (pv 15) (pe_ok o_dot (hr.mono (by decide)) (by rfl) pass0 (pa_cons (pv 0) (pa_cons (pv 14) (pa_cons (pv 9) pa_nil))))) (pv 0)) (pg_sub (pv 10) (pv 11) set_list))))) (pss_one (ps_expr (pe_bm PySem.F.plainAttrs_list PySem.F.slot_list_append PySem.F.type_list_append mt_append (pv 7) (pa_cons (pe_callTy call_tuple_of (by rfl) B.tuple boot_tuple (pa_cons (pv 10) pa_nil)) pa_nil)))))))))) (pss_one (ps_ret (pe_callB (cr_sortT (d := n) (B := p) hn1) (by rfl) B.sorted boot_sorted (pa_cons (pv 7) pa_nil)))))))))), ?_⟩
  -- leads
  refine sq_set (P := fun v J => ∃ D kvs, v = .ref D ∧ J D = some (.dK kvs) ∧ kvs.map Prod.fst = rows.map (fun r => (Sum.inl (lead r.1 : Int) : Key)) ∧ DpAll K J (kvs.map Prod.snd) (rows.map dR))
    (pu_dcI (l := rows) (key := fun r => (lead r.1 : Int)) (el := dR) (src_list (enc := dR) (pud_var rfl h2)) (by omega) (fun r => lf_row r) ?nd fun r hrm x J g hx => ?_) fun v3 J1 g1 hv3 => ?_
  case nd =>
    rw [List.nodup_iff_pairwise_ne, List.pairwise_map]
    exact hred.asc.imp fun {a b} h => by omega
  · obtain ⟨T, x1, rfl, hq, hx1⟩ := dp_row hx
    refine ⟨_, ?hw, fun C c => ⟨T, _, rfl, hq, rfl, _, _, rfl, _, _, rfl, rfl, c⟩, ?_, ?_⟩
    case hw => rfl
    · exact pud_call (G := TT T1 T2) (gives ⟨r.1, rfl, rfl⟩) (pds_one (pud_var rfl hx1)) fun J9 g9 => hT.gr (g.trans g9)
    · exact pud_tup (pds_cons (pud_var rfl hx1) (pds_one (pud_var rfl (.int _)))) (by simp)
  obtain ⟨D, kvs, rfl, hD, hk, hv⟩ := hv3
  have hT1 := hT.gr g1
  dsimp only [tSeq, tNext]
  -- free
  have hany : ∀ i : Nat, (valV kvs (Sum.inl (i : Int))).isSome = rows.any fun r => decide (lead r.1 = i) := fun i => by
    rw [← valV_any]
    have e1 : (kvs.any fun kv => decide (kv.1 = Sum.inl (i : Int))) = (kvs.map Prod.fst).any fun k => decide (k = Sum.inl (i : Int)) := by rw [List.any_map]; rfl
    rw [e1, hk, List.any_map]
    congr 1
    funext r
    show decide ((Sum.inl (lead r.1 : Int) : Key) = Sum.inl (i : Int)) = decide (lead r.1 = i)
    by_cases z : lead r.1 = i
    · rw [decide_eq_true z, z]; simp
    · rw [decide_eq_false z, decide_eq_false fun e => z (by have := Sum.inl.inj e; omega)]
  refine sq_set (P := fun v J => Dp K J v (.list ((freeOf n rows).map fun (i : Nat) => PyData.int (i : Int)))) (pu_lcT (l := List.range n) (keep := fun at_ => !(rows.any fun r => decide (lead r.1 = at_))) (el := fun (i : Nat) => PyData.int (i : Int)) (src_rng1 (n := n) ?rg (by omega)) (by rw [List.length_range]; omega) (fun _ _ => rfl) (fun _ => rfl) (fun i hi x J g hx => ?_) (fun i hi hkp x J g hx => ?_)) fun v4 J2 g2 hv4 => ?_
  case rg =>
    have e1 := dp_int h1
    subst e1
    exact fun H1 e Q q => ⟨_, rfl, q _ H1 .refl rfl⟩
  · subst hx
    intro H1 e Q q
    refine ⟨_, rfl, _, rfl, D, valV kvs (Sum.inl (i : Int)), rfl, DGet.k (k := Sum.inl (i : Int)) (e.keep _ _ (g.keep _ _ hD True.intro) True.intro), _, rfl, ?_⟩
    have := q H1 .refl
    rw [← hany] at this
    exact this
  · subst hx
    exact pud_var rfl (.int _)
  dsimp only [tSeq, tNext]
  obtain ⟨a4, xs4, rfl, sq4, t4⟩ := dp_lst hv4
  have e4 : xs4 = (freeOf n rows).map fun (i : Nat) => V.int (i : Int) := by
    have : ((freeOf n rows).map fun (i : Nat) => PyData.int (i : Int)) = ((freeOf n rows).map fun (i : Nat) => (i : Int)).map PyData.int := by rw [List.map_map]; rfl
    rw [this] at t4
    rw [ints_dps t4, List.map_map]; rfl
  subst e4
  -- found
  refine sq_set (P := fun v J => Dp K J v (.list ((wordsOf p.toNat 0).map dW))) (pud_lst (pds_one (pud_tup pds_nil (by simp))) (by simp [wordsOf])) fun v5 J3 g3 hv5 => ?_
  dsimp only [tSeq, tNext]
  have hpp := hp.b
  have hfl := free_le n rows
  have hcnt : ∀ i, i ≤ n → p.toNat ^ i ≤ 49 := fun i hi => Nat.le_trans (Nat.pow_le_pow_right (by omega) hi) hpn
  refine sq_for (l := freeOf n rows) (R := fun (i : Nat) x _ => x = V.int (i : Int)) (fun i σ' H' => ∃ x5 x6, σ' = [some v0, some v1, some v2, some (.ref D), some (.ref a4), some x5, x6, none, none, none, none, none, none, none, none, none] ∧ Dp K H' x5 (.list ((wordsOf p.toNat i).map dW))) ?src (fun H1 g => ⟨_, _, rfl, dp_gr g hv5⟩) ?step ?done
  case src =>
    intro H0 e0 C c
    refine src_list (K := K) (l := freeOf n rows) (enc := fun (i : Nat) => PyData.int (i : Int)) (pud_var rfl (dp_gr g3 hv4)) H0 e0 C fun I H1 g1 w => c I H1 g1 (w.mono (fun _ x => x) fun i A x B _ _ y => ?_)
    obtain ⟨g2, a, ha, hp⟩ := y
    exact ⟨g2, a, ha, dp_int hp⟩
  case step =>
    rintro H1 g4 i a ha σ' H' g5 ⟨x5, x6, rfl, hx5⟩ x J4 g6 rfl
    have hil : i < (freeOf n rows).length := (List.getElem?_eq_some_iff.mp ha).1
    refine sq_set (P := fun v J => Dp K J v (.list ((wordsOf p.toNat (i + 1)).map dW))) (pud_is (pu_lc2 (n := p.toNat) (l := wordsOf p.toNat i) (el := fun w e => dW (w ++ [(e : Int)])) (src_list (enc := dW) (pud_var rfl (dp_gr g6 hx5))) (fun a x A B gq h => dp_gq gq (lf_word a) h) ?_ (by omega) (fun a b => lf_word _) (fun _ => rfl) (fun _ _ => rfl) (fun a ha x J g hx => ?_) (fun a ha b hb x J g hx => ?_)) ?_) fun v9 J5 g7 hv9 => ?_
    · rw [words_count]
      have := hcnt i (by omega)
      have : p.toNat ^ i * p.toNat ≤ 49 * 7 := Nat.mul_le_mul this (by omega)
      omega
    · have e0 := dp_int h0
      subst e0
      exact fun H1 e Q q => ⟨_, rfl, q _ H1 .refl (by rw [Int.toNat_of_nonneg (by omega)])⟩
    · refine pud_is (pud_tup (pds_starT (l := a.map PyData.int) (pud_var rfl hx) (pds_one (pud_var rfl (.int _)))) ?_) ?_
      · rw [List.length_append, List.length_map, (words_len ha).1, List.length_singleton]; omega
      · show PyData.tuple _ = PyData.tuple _
        rw [List.map_append]; rfl
    · rw [wordsOf, List.map_flatMap]
      simp only [List.map_map]
      rfl
    · exact ⟨g5.trans (g6.trans g7), v9, _, rfl, hv9⟩
  case done =>
    rintro H1 g4 σ' H' g5 ⟨x5, x6, rfl, hx5⟩
    dsimp only [tSeq, tNext]
    have gH : Gr J3 H' := g4.trans g5
    have gJ : Gr H H' := g1.trans (g2.trans (g3.trans gH))
    have gD : Gr J1 H' := g2.trans (g3.trans gH)
    have hD' : H' D = some (.dK kvs) := gD.keep _ _ hD True.intro
    obtain ⟨a5, xs5, rfl, sq5, t5⟩ := dp_lst hx5
    -- runs = []
    refine ⟨by show 0 ≤ _; exact Nat.zero_le _, fun r hr0 => ?_⟩
    have hrD : r ≠ D := fun z => by rw [z, hD'] at hr0; cases hr0
    -- the dict is only read from here
    refine ⟨D, .dK kvs, by rw [upd_ne hrD.symm]; exact hD', True.intro, fun od => ?_⟩
    dsimp only [tSeq, tNext]
    have nq : NoSeq H' D := noSeq_dK hD'
    generalize hBdef : upd H' D (.frz od (.dK kvs)) = B
    have hBr : B r = none := by rw [← hBdef, upd_ne hrD]; exact hr0
    have hBD : B D = some (.frz od (.dK kvs)) := by rw [← hBdef]; exact upd_same
    have gL : Gr B (upd (upd H' r (.lst [])) D (.frz od (.dK kvs))) := by
      refine ⟨fun a o e _ => ?_, fun a ps e t => ⟨ps, ?_, t⟩⟩
      · by_cases za : a = D
        · rw [za] at e ⊢; rw [hBD] at e; rw [upd_same]; exact e
        · rw [← hBdef, upd_ne za] at e
          rw [upd_ne za, upd_ne (ne_of_none e hr0)]; exact e
      · by_cases za : a = D
        · rw [za, hBD] at e; cases e
        · rw [← hBdef, upd_ne za] at e
          rw [upd_ne za, upd_ne (ne_of_none e hr0)]; exact e
    have b0 : Dp K B v0 (.int p) := by rw [← hBdef]; exact dp_upd nq (dp_gr gJ h0)
    have b1 : Dp K B v1 (.int (n : Int)) := by rw [← hBdef]; exact dp_upd nq (dp_gr gJ h1)
    have b4 : SqL K B a4 ((freeOf n rows).map fun (i : Nat) => V.int (i : Int)) := by rw [← hBdef]; exact sqL_upd nq ((g3.trans gH).sqL sq4)
    have b5 : SqL K B a5 xs5 := by rw [← hBdef]; exact sqL_upd nq sq5
    have bt5 : DpAll K B xs5 ((wordsOf p.toNat (freeOf n rows).length).map dW) := by rw [← hBdef]; exact dps_upd nq t5
    have bv : DpAll K B (kvs.map Prod.snd) (rows.map dR) := by rw [← hBdef]; exact dps_upd nq (dps_gr gD hv)
    have hTH : TT T1 T2 H' := hT.gr gJ
    have hTB : TT T1 T2 B := by
      obtain ⟨⟨ps1, q1, r1⟩, ⟨ps2, q2, r2⟩⟩ := hTH
      refine ⟨⟨ps1, ?_, r1⟩, ⟨ps2, ?_, r2⟩⟩
      · rw [← hBdef, upd_ne fun z => by rw [z, hD'] at q1; cases q1]; exact q1
      · rw [← hBdef, upd_ne fun z => by rw [z, hD'] at q2; cases q2]; exact q2
    have e0 := dp_int b0
    subst e0
    have e1 := dp_int b1
    subst e1
    have hlen5 : xs5.length = (wordsOf p.toNat (freeOf n rows).length).length := by rw [dps_len t5, List.length_map]
    refine ⟨_, rfl, a5, rfl, ⟨xs5, gL.sqL b5⟩, for_list (K := K) (a := a5) (xs := xs5) (fun i σ' H2 => ∃ x6 x8 x9 x10 x11 x13 x14 x15, σ' = [some (V.int p), some (V.int (n : Int)), some v2, some (.ref D), some (.ref a4), some (.ref a5), x6, some (.ref r), x8, x9, x10, x11, none, x13, x14, x15] ∧ Gr B H2 ∧
      ∃ acc, H2 r = some (.lst acc) ∧ DpAll K H2 acc (((toldList p n rows).take i).map dW)) ⟨_, _, _, _, _, _, _, _, rfl, gL, [], by rw [upd_ne hrD, upd_same], by simp only [List.take_zero]; exact .nil⟩ (fun i σ' H2 _ q => by obtain ⟨_, _, _, _, _, _, _, _, _, q, _⟩ := q; exact q.sqL b5) ?_ ?_⟩
    · rintro i x σ' H2 hx ⟨x6, x8, x9, x10, x11, x13, x14, x15, rfl, gB, acc, hacc, dacc⟩
      obtain ⟨dl, hdl, dx⟩ := dps_at bt5 hx
      rw [List.getElem?_map] at hdl
      obtain ⟨l, hl, rfl⟩ := Option.map_eq_some_iff.mp hdl
      obtain ⟨a8, rfl, q8⟩ := dp_word dx
      obtain ⟨hl1, hl2⟩ := words_len (List.mem_of_getElem? hl)
      have hl3 : WR p l := by rwa [Int.toNat_of_nonneg (by omega)] at hl2
      dsimp only [tSeq, tNext, gName]
      -- run = [0] * many
      refine ⟨Nat.le_of_ble_eq_true rfl, fun q hq => ⟨_, rfl, q, (n : Int), [.int 0], rfl, rfl, upd_same, by omega, by omega, ?_, fun u hu0 => ?_⟩⟩
      · show 1 * (n : Int).toNat ≤ sizeLine
        rw [Int.toNat_natCast]
        exact Nat.le_trans (by omega : 1 * n ≤ 8) (by decide)
      have gq : Gr H2 (upd H2 q (.lst [.int 0])) := .new hq
      generalize hJ0 : upd H2 q (.lst [V.int 0]) = J0 at hu0 gq
      have gJ0 : Gr B J0 := gB.trans gq
      have hrep : (List.replicate (n : Int).toNat [V.int 0]).flatten = (List.replicate n (0 : Int)).map V.int := by
        rw [Int.toNat_natCast, List.map_replicate, List.flatten_replicate_singleton]
      rw [hrep]
      dsimp only [tSeq, tNext, gName]
      have hu1 : Gr J0 (upd J0 u (.lst ((List.replicate n (0 : Int)).map V.int))) := .new hu0
      -- run[place] = level
      refine ⟨_, rfl, _, rfl, true, false, a4, a8, _, _, rfl, (hu1.sqL (gJ0.sqL b4)), (hu1.sqT (gJ0.sqT q8)), for_it (walk_zipX (K := K) (ka := true) (kb := false) (a := a4) (b := a8) (xs := (freeOf n rows).map fun (i : Nat) => V.int (i : Int)) (ys := l.map V.int) (n := ((freeOf n rows).zip l).length) (by rw [List.length_zip, List.length_map, List.length_map]))
        (fun j σ' H3 => ∃ x6 x13, σ' = [some (V.int p), some (V.int (n : Int)), some v2, some (.ref D), some (.ref a4), some (.ref a5), x6, some (.ref r), some (.ref a8), some (.ref u), x10, x11, none, x13, x14, x15] ∧ Gr J0 H3 ∧ H3 u = some (.lst (((((freeOf n rows).zip l).take j).foldl (fun run x => run.set x.1 x.2) (List.replicate n (0 : Int))).map V.int)))
        ⟨_, _, rfl, hu1, upd_same⟩ (fun j σ' H3 _ h => by obtain ⟨_, _, _, g, _⟩ := h; exact ⟨g.sqL (gJ0.sqL b4), g.sqT (gJ0.sqT q8)⟩) ?_ ?_⟩
      · rintro j y σ' H3 H4 hj ⟨y6, y13, rfl, g3', h3'⟩ ⟨T, x, z, rfl, hT0, rfl, hx1, hx2⟩
        have hx1 : ((freeOf n rows).map fun (i : Nat) => V.int (i : Int))[j]? = some x := hx1
        have hx2 : (l.map V.int)[j]? = some z := hx2
        rw [List.getElem?_map] at hx1 hx2
        obtain ⟨pl, hpl, rfl⟩ := Option.map_eq_some_iff.mp hx1
        obtain ⟨lv, hlv, rfl⟩ := Option.map_eq_some_iff.mp hx2
        have hzip : ((freeOf n rows).zip l)[j]? = some (pl, lv) := List.getElem?_zip_eq_some.mpr ⟨hpl, hlv⟩
        have gT : Gr H3 (upd H3 T (.tup [V.int (pl : Int), V.int lv])) := .new hT0
        have hpn2 : pl < n := free_lt (List.mem_of_getElem? hpl)
        have hlenf : (((((freeOf n rows).zip l).take j).foldl (fun run x => run.set x.1 x.2) (List.replicate n (0 : Int))).map V.int).length = n := by
          rw [List.length_map]
          have : ∀ (z : List (Nat × Int)) (t : List Int), (z.foldl (fun run x => run.set x.1 x.2) t).length = t.length := by
            intro z
            induction z with
            | nil => intro t; rfl
            | cons a r ih => intro t; rw [List.foldl_cons, ih, List.length_set]
          rw [this, List.length_replicate]
        refine ⟨T, _, rfl, SqT.of upd_same, rfl, _, _, rfl, _, [], rfl, rfl, ?_⟩
        refine ⟨_, rfl, _, rfl, _, rfl, u, _, (pl : Int), pl, rfl, rfl, gT.lst h3', by rw [hlenf]; exact ixN_n hpn2, ?_⟩
        refine ⟨_, _, rfl, (g3'.trans gT).mut hu0, ?_⟩
        rw [upd_same, take_more hzip, List.foldl_append]
        show _ = some (HO.lst (List.map V.int (List.set _ pl lv)))
        rw [List.map_set]
      · rintro σ' H3 ⟨y6, y13, rfl, g3', h3'⟩
        have hrun : ((((freeOf n rows).zip l).take ((freeOf n rows).zip l).length).foldl (fun run x => run.set x.1 x.2) (List.replicate n (0 : Int))) = runOf n (freeOf n rows) l := by
          rw [List.take_length]; rfl
        rw [hrun] at h3'
        dsimp only [tSeq, tNext, gName]
        -- told = list(run)
        refine ⟨_, rfl, u, _, rfl, .inl (SqL.of h3'), fun t ht0 => ?_⟩
        have htu : Gr H3 (upd H3 t (.lst ((runOf n (freeOf n rows) l).map V.int))) := .new ht0
        dsimp only [tSeq, tNext, gName]
        have gB3 : Gr B H3 := gJ0.trans g3'
        have hrl : (runOf n (freeOf n rows) l).length = n := runOf_len n _ l
        have hrw : WR p (runOf n (freeOf n rows) l) := runOf_wr hp n _ hl3
        have hkl : kvs.length = rows.length := by have := congrArg List.length hk; rwa [List.length_map, List.length_map] at this
        refine ⟨_, rfl, D, od, rfl, .inl ⟨kvs, htu.keep _ _ (gB3.keep _ _ hBD True.intro) True.intro, for_it (walk_keys (d := D) (o := od) (kvs := kvs))
          (fun j σ' H4 => ∃ x6 x11 x13 x14 x15, σ' = [some (V.int p), some (V.int (n : Int)), some v2, some (.ref D), some (.ref a4), some (.ref a5), x6, some (.ref r), some (.ref a8), some (.ref u), some (.ref t), x11, none, x13, x14, x15] ∧ Gr H3 H4 ∧ H4 t = some (.lst (((rows.take j).foldl (fun t r => t.set (lead r.1) ((r.2 - dot p r.1 (runOf n (freeOf n rows) l)) % p)) (runOf n (freeOf n rows) l)).map V.int)))
          ⟨_, _, _, _, _, rfl, htu, upd_same⟩ (fun j σ' H4 _ h => by obtain ⟨_, _, _, _, _, _, g, _⟩ := h; exact g.keep _ _ (gB3.keep _ _ hBD True.intro) True.intro) ?_ ?_⟩⟩
        · rintro j y σ' H4x H4 hj ⟨z6, z11, z13, z14, z15, rfl, g4', h4'⟩ ⟨rfl, kk, vv, hkv, rfl⟩
          have hj2 : j < rows.length := by rw [← hkl]; exact hj
          have hrow : rows[j]? = some rows[j] := List.getElem?_eq_getElem hj2
          have hkk : kk = Sum.inl (lead (rows[j]).1 : Int) := by
            have h1 : (kvs.map Prod.fst)[j]? = some kk := by rw [List.getElem?_map, hkv]; rfl
            rw [hk, List.getElem?_map, hrow] at h1
            exact (Option.some.inj h1).symm
          subst hkk
          have hrok := hred.ok _ (List.getElem_mem hj2)
          have hrlt := hred.lt _ (List.getElem_mem hj2)
          have gB4 : Gr B H4 := gB3.trans g4'
          have hnd : (kvs.map Prod.fst).Nodup := by
            rw [hk, List.nodup_iff_pairwise_ne, List.pairwise_map]
            exact hred.asc.imp fun {a b} h e => by have := Sum.inl.inj e; omega
          have hval := valV_at hnd hkv
          have hdv : Dp K H4 vv (dR rows[j]) := by
            have h1 : (kvs.map Prod.snd)[j]? = some vv := by rw [List.getElem?_map, hkv]; rfl
            obtain ⟨d, hd, dd⟩ := dps_at bv h1
            rw [List.getElem?_map, hrow] at hd
            cases hd
            exact dp_gr gB4 dd
          obtain ⟨Tr, xw, rfl, hqr, hxw⟩ := dp_row hdv
          have hD4 : H4 D = some (.frz od (.dK kvs)) := gB4.keep _ _ hBD True.intro
          have hlenf : (((rows.take j).foldl (fun t r => t.set (lead r.1) ((r.2 - dot p r.1 (runOf n (freeOf n rows) l)) % p)) (runOf n (freeOf n rows) l)).map V.int).length = n := by
            rw [List.length_map, toldOf_len, hrl]
          refine ⟨_, rfl, _, rfl, D, _, rfl, .inl ⟨kvs, Sum.inl (lead (rows[j]).1 : Int), .inr ⟨od, hD4⟩, rfl, hval.symm⟩, Tr, _, rfl, hqr, rfl, _, _, rfl, _, [], rfl, rfl, ?_⟩
          dsimp only [tSeq, tNext, gName]
          refine pud_mod (K := K) (i := (rows[j]).2 - dot p (rows[j]).1 (runOf n (freeOf n rows) l)) (j := p) (pud_sub (pud_var rfl (.int _)) (pud_call (G := gT) (gives ⟨p, (rows[j]).1, runOf n (freeOf n rows) l, rfl, hp, hrw, by rw [hrok.len]; omega, rfl⟩) (pds_cons (pud_var rfl (.int _)) (pds_cons (pud_var rfl hxw) (pds_one (pud_var rfl (dp_gr g4' (.lst (SqL.of h3') (dps_ints _))))))) fun _ _ => trivial)) (pud_var rfl (.int _)) (by omega) H4 .refl _ fun y J7 g7 hy => ?_
          have ey := dp_int hy
          subst ey
          refine ⟨_, rfl, _, rfl, t, _, (lead (rows[j]).1 : Int), lead (rows[j]).1, rfl, rfl, g7.lst h4', by rw [hlenf]; exact ixN_n hrlt, ?_⟩
          refine ⟨_, _, _, _, _, rfl, (g4'.trans g7).mut ht0, ?_⟩
          rw [upd_same, take_more hrow, List.foldl_append]
          show _ = some (HO.lst (List.map V.int (List.set _ (lead (rows[j]).1) _)))
          rw [List.map_set]
        · rintro σ' H4 ⟨z6, z11, z13, z14, z15, rfl, g4', h4'⟩
          dsimp only [tSeq, tNext, gName]
          have gB4 : Gr B H4 := gB3.trans g4'
          have htold : ((rows.take kvs.length).foldl (fun t r => t.set (lead r.1) ((r.2 - dot p r.1 (runOf n (freeOf n rows) l)) % p)) (runOf n (freeOf n rows) l)) = toldOf p rows (runOf n (freeOf n rows) l) := by
            rw [hkl, List.take_length]; rfl
          rw [htold] at h4'
          have g24 : Gr H2 H4 := gq.trans (g3'.trans g4')
          have hr4 : H4 r = some (.lst acc) := g24.lst hacc
          have hlacc : acc.length ≤ 49 := by
            rw [dps_len dacc, List.length_map, List.length_take]
            unfold toldList
            rw [List.length_map, words_count]
            have := hcnt _ hfl
            omega
          -- runs.append(tuple(told))
          refine ⟨_, rfl, Or.inl ⟨rfl, acc, SqL.of hr4⟩, ?_⟩
          refine ⟨_, rfl, t, _, rfl, .inl ⟨SqL.of h4', fun q2 hq2 => ?_⟩⟩
          have gn : Gr H4 (upd H4 q2 (.tup ((toldOf p rows (runOf n (freeOf n rows) l)).map V.int))) := .new hq2
          have hr5 := gn.lst hr4
          refine ⟨r, acc, .ref q2, rfl, rfl, hr5, Nat.lt_of_le_of_lt hlacc (by decide), ?_⟩
          refine ⟨_, _, _, _, _, _, _, _, rfl, (gB4.trans gn).mut hBr, acc ++ [.ref q2], upd_same, ?_⟩
          have hti : (toldList p n rows)[i]? = some (toldOf p rows (runOf n (freeOf n rows) l)) := by
            unfold toldList
            rw [List.getElem?_map, hl]; rfl
          rw [take_more hti, List.map_append]
          have gu : Gq (upd H4 q2 (.tup ((toldOf p rows (runOf n (freeOf n rows) l)).map V.int))) (upd (upd H4 q2 (.tup ((toldOf p rows (runOf n (freeOf n rows) l)).map V.int))) r (.lst (acc ++ [.ref q2]))) := gq_upd hr5
          exact dps_app (dps_gq gu (lfs_map (fun w => lf_word w) _) (dps_gr (g24.trans gn) dacc)) (dps_one (dp_gq gu (lf_word _) (word_dp (SqT.of upd_same))))
    · rintro σ' H2 ⟨x6, x8, x9, x10, x11, x13, x14, x15, rfl, gB, acc, hacc, dacc⟩
      have hD2 : H2 D = some (.frz od (.dK kvs)) := gB.keep _ _ hBD True.intro
      refine ⟨hD2, ?_⟩
      have gU : Gr H (upd H2 D (.dK kvs)) := by
        refine ⟨fun a o e nt => ?_, fun a ps e t => ?_⟩
        · have e2 := gJ.keep a o e nt
          by_cases za : a = D
          · rw [za] at e2 ⊢; rw [hD'] at e2; rw [upd_same]; exact e2
          · rw [upd_ne za]
            exact gB.keep a o (by rw [← hBdef, upd_ne za]; exact e2) nt
        · obtain ⟨qs, e2, t2⟩ := gJ.tabs a ps e t
          have za : a ≠ D := fun z => by rw [z, hD'] at e2; cases e2
          obtain ⟨us, e3, t3⟩ := gB.tabs a qs (by rw [← hBdef, upd_ne za]; exact e2) t2
          exact ⟨us, by rw [upd_ne za]; exact e3, t3⟩
      have hfull : (toldList p n rows).take xs5.length = toldList p n rows := by
        rw [hlen5]
        unfold toldList
        rw [List.take_of_length_le (by rw [List.length_map]; exact Nat.le_refl _)]
      rw [hfull] at dacc
      have dr : Dp K (upd H2 D (.dK kvs)) (.ref r) (.list ((toldList p n rows).map dW)) := dp_upd (noSeq_fK hD2) (.lst (SqL.of hacc) dacc)
      refine sq_ret (pud_sortedW (l := toldList p n rows) (qs := runsOf p n rows) (pds_one (pud_var rfl dr)) ?_ (fun w hw => ?_) (runs_perm hp hred) (runs_asc hp n rows)) fun v J9 g9 hv9 => k v J9 (gU.trans g9) hv9
      · unfold toldList
        rw [List.length_map, words_count]
        have := hcnt _ hfl
        omega
      · unfold toldList at hw
        obtain ⟨l, hl, rfl⟩ := List.mem_map.mp hw
        obtain ⟨hl1, hl2⟩ := words_len hl
        have hl3 : WR p l := by rwa [Int.toNat_of_nonneg (by omega)] at hl2
        refine ⟨?_, toldOf_wr hp rows (runOf_wr hp n _ hl3)⟩
        unfold toldOf
        rw [toldOf_len, runOf_len]
end
end Km
set_option Elab.async false
set_option linter.all false
set_option maxRecDepth 100000
set_option maxHeartbeats 4000000
set_option autoImplicit false
/-! the error Refused, made -/
namespace Km
open PySem PySem.Spec PyProof.Rows L2 PySem.W PySem.Calls
section
variable {prog : Program} {w : World} {A : Around} {E : Value → Shared → Prop} {s : Shared} {Q : Value → Shared → Prop}
theorem str_tuple {a : Addr} {o : Obj} {t1 t2 : Tok} {i : Nat} {n : Nat} (hu : A.units + 4 < cLine) (ha : s.heap.get? a = some o) (hc : o.cls = .type "tuple") (hd : o.data = .seq #[.str "hangs" t1, .int (i : Int) t2] n)
    (hi : i < 8) (h : ∀ m u tk, Q (.str m u) { s with toks := tk }) : wpAny (model prog w) A (call (.type "str") [.ref a]) Q E s := by
  have h1 : (reprText "hangs").length ≤ sizeLine := by decide +kernel
  have h2 : ∀ i : Fin 8, ((i.val : Int)).natAbs.log2 < 1920 := by decide +kernel
  have h3 : ∀ i : Fin 8, (tupleText [reprText "hangs", ((toString (i.val : Int) : String) : Str)]).length ≤ sizeLine := by decide +kernel
  have hall : ∀ (prog : Program) (w : World), ReprAll prog w [.str "hangs" t1, .int (i : Int) t2] [reprText "hangs", toString (i : Int)] := fun prog w =>
    .cons (ReprIs.str _ t1 h1) (.cons (ReprIs.int t2 (h2 ⟨i, hi⟩)) .nil)
  refine callType_new F.called_str (by decide) (F.typeCall_str_1 _) (F.newCall_str_1 _) (fun obj => F.args_object_init_2 obj _) F.entry_str_new
    (meets_str_new (S := fun A' R s' => A'.units + 3 < cLine ∧ s'.heap.get? a = some o ∧ ∀ m u tk, R (.ok (.ret (.str m u))) { s' with toks := tk }) fun prog' w' A' R s' h => ?_)
    ⟨?_, ha, fun m u tk => ⟨typeIs_str _ _ _, h m u tk⟩⟩
  · refine wpAny_strOf_slot (T := "tuple") rfl ?_ ⟨o, h.2.1, hc⟩ F.slot_tuple_str F.slot_tuple_repr ?_
    · show A'.units + 1 + 1 < cLine
      have := h.1; omega
    · refine fmt_tuple_repr h.2.1 hc hd (hall prog' w') ?_ fun m u tk hm => ?_
      · exact h3 ⟨i, hi⟩
      · exact ⟨m, u, rfl, h.2.2 m u tk⟩
  · show A.units + 1 + 3 < cLine
    omega
end
end Km
set_option Elab.async false
set_option linter.all false
set_option maxRecDepth 100000
set_option maxHeartbeats 4000000
set_option autoImplicit false
namespace Km
open PySem PySem.Spec PyProof.Rows L2 PySem.W PySem.Calls
abbrev s_refused : Stmt := inClass (top 7) 0
abbrev bmA : List Value := [.type "ArithmeticError", .type "Exception", .type "BaseException", .type "object"]
/-- what the written part says of Refused, at C, of its __init__, at fI, its code, at cda, and the cell that holds the class, at cc -/
structure RefTxt (P : Program) (K : Frag) (mg : Str → Option Value) (C fI cda cc : Addr) : Prop where
  gC : mg "Refused" = some (.ref C)
  fn : ∃ oc od kV doc pm an ct osl, K.lookup fI = some ⟨oc, od, .func (ksFn "__init__" "Refused.__init__" (defArgs s_refused) (defBody s_refused) (defScope s_refused) .none kV doc pm an (.ref cda) ct cc), osl⟩ ∧ codeIn K (.ref cda) "Refused.__init__" = true
  code : ∃ ccl cdd vs ccs file tf, K.lookup cda = some ⟨ccl, cdd, .fields vs, ccs⟩ ∧ vs[2]? = some (.str file tf) ∧ ((P.main.file : Str) == file) = true
  cell : ∃ cl cld csl, K.lookup cc = some ⟨cl, cld, .cell (some (.ref C)), csl⟩
  cls : (clsIn K C).isSome = true
  mro : mroIn K C (.ref C) = some true
  sup : nsIn K mainGlobals "super" = some none
  str : nsIn K mainGlobals "str" = some none
  any : nsIn K cStatics "thirdparty.any" = some none
  si : ks_superIn K C C "__init__" = some (some (.builtin "ArithmeticError.__init__"))
  sb : subIn K (.ref C) (.type "ArithmeticError") = some true
  ei : excInitIn K C bmA "ArithmeticError.__new__" = true
  sa : findIn K (.ref C) "__setattr__" = some (some (.builtin "object.__setattr__"))
  eo : excOver K C bmA = true
  tk : takerIn K C "reason" = some none
  hd : hasDictIn K C = true
  iC : findIn K (.ref C) "__init__" = some (some (.ref fI))
  iF : isFn K (.ref fI) = true
  kC : keepIn K (.ref C) = true
  exC : subIn K (.ref C) (.type "BaseException") = some true
  tyC : typeIn K (.ref C) = some (.type "type")
  te : exmOne K (.ref C) (.ref C) = some true
  top : (P.main.scope.names.lookup ("super" : Str)).isSome = false
/-- what __init__ leaves of a fresh exception at x -/
structure IEnd (h h' : Heap) (x C dx t1 : Addr) (v : Value) : Prop where
  keep : ∀ b o, b ≠ x → h.get? b = some o → h'.get? b = some o
  obj : h'.get? x = some { cls := .ref C, dict := some dx, data := .fields #[.ref t1, .none, .none, .none, .bool false, .none] }
  dbig : h.objs.size ≤ dx
  dne : dx ≠ x
  ns : h'.Ns1 dx (fun y => if y = "reason" then some v else none)
section
variable {P : Program} {w : World} {A : Around} {R : Result → Shared → Prop} {s : Shared} {K : Frag} {mg mb : Str → Option Value} {C fI cda cc : Addr}
theorem ref_init (T : RefTxt P K mg C fI cda cc) {x t0 : Addr} {v : Value} (X : K.In s.heap) (hg : s.heap.Ns mainGlobals mg) (hb : s.heap.Ns builtinsNs mb) (hbb : ∀ y : Str, y ≠ "__name__" → mb y = bootBuiltins y) (hlim : s.heap.NoLimit)
    (hx : s.heap.get? x = some (excObj C t0 none .none)) (hnx : K.lookup x = none) (hroom : A.depth < recursionLimit) (hgl : x ≠ mainGlobals) (hbl : x ≠ builtinsNs)
    (hstr : ∀ (A' : Around) (E : Value → Shared → Prop) (Q : Value → Shared → Prop) (s' : Shared), A'.units ≤ A.units + 10 → (∀ b o, b ≠ x → s.heap.get? b = some o → s'.heap.get? b = some o) → (∀ m u tk, Q (.str m u) { s' with toks := tk }) → wpAny (model P w) A' (call (.type "str") [v]) Q E s')
    (hq : ∀ h' tk dx t1, IEnd s.heap h' x C dx t1 v → R (.ok (.ret .none)) { s with heap := h', toks := tk }) :
    codeAny (model P w) A (.call (.ref fI) ⟨[.ref x, v], []⟩) R s := by
  obtain ⟨oc, od, kV, doc, pm, an, ct, osl, lk, hcd⟩ := T.fn
  obtain ⟨ccl, cdd, vs, ccs, file, tf, hcode, hvs, hfile⟩ := T.code
  obtain ⟨cl, cld, csl, hcell⟩ := T.cell
  refine ks_codeAny_call_defAt (fd := ksFn "__init__" "Refused.__init__" (defArgs s_refused) (defBody s_refused) (defScope s_refused) .none kV doc pm an (.ref cda) ct cc) (body := defBody s_refused) (binds := [("self", .ref x), ("reason", v)])
    hroom (X _ _ lk) rfl hlim (codeRec_of X hcd) rfl (BindsTo.of_eq rfl) (show ∀ y ∈ (defScope s_refused).names, y.2 ≠ .cell by decide +kernel) (locs rfl) (fun h₁ hns hk => ?_) rfl rfl rfl
  have xlt : x < s.heap.objs.size := Heap.lt_size hx
  generalize hG : hideAll s.heap [x] = G
  have gG : ∀ b o, b ≠ x → s.heap.get? b = some o → G.get? b = some o := fun b o hb e => by rw [← hG]; exact hideAll_get _ e (by simp [hb])
  have Gg : ∀ b o, G.get? b = some o → s.heap.get? b = some o := fun b o e => by rw [← hG] at e; exact of_hideAll _ e
  have Gx : G.get? x = none := by rw [← hG]; exact hideAll_none _ (by simp)
  have F0 : Fr G s.heap.objs.size h₁ (fun y => ([(("self" : Str), Value.ref x), (("reason" : Str), v)]).reverse.lookup y) := ⟨hns, fun b o e => hk b o (Gg b o e), by rw [← hG]; exact Nat.le_of_eq (hideAll_size _ _)⟩
  have N0 : News G s.heap.objs.size h₁ [(x, excObj C t0 none .none)] := fun p hp => by
    rw [List.mem_singleton.mp hp]
    exact ⟨hk _ _ hx, Nat.ne_of_lt xlt, Gx⟩
  have XG : K.In G := fun a o e => gG a o (fun z => by rw [z, hnx] at e; cases e) (X a o e)
  refine ks_wpAt_execs_cons (ks_wpAt_Expr_any (ks_wpAt_MethodCall ?_) rfl rfl)
  have X₁ : K.In h₁ := X.keeps hk
  obtain ⟨cdD, hD⟩ := Option.isSome_iff_exists.mp T.cls
  obtain ⟨oD, hD1, hD2⟩ : ∃ oD, h₁.get? C = some oD ∧ oD.data = .cls cdD := by
    have hD := hD
    unfold clsIn at hD
    split at hD
    · rename_i c d cd' sl ho
      cases hD
      exact ⟨_, X₁ _ _ ho, rfl⟩
    · cases hD
  have hg1 : h₁.Ns mainGlobals mg := by obtain ⟨o, es, ep, e, r⟩ := hg; exact ⟨o, es, ep, hk _ _ e, r⟩
  have hb1 : h₁.Ns builtinsNs mb := by obtain ⟨o, es, ep, e, r⟩ := hb; exact ⟨o, es, ep, hk _ _ e, r⟩
  have hx1 := (N0 _ (List.mem_singleton_self _)).1
  have mgsup : mg "super" = none := mg_none_of X hg T.sup
  have mgstr : mg "str" = none := mg_none_of X hg T.str
  refine ks_wpAt_super_base (fd := ksFn "__init__" "Refused.__init__" (defArgs s_refused) (defBody s_refused) (defScope s_refused) .none kV doc pm an (.ref cda) ct cc) (by rfl) (by rfl) (by rfl) rfl (X₁ _ _ lk) rfl rfl rfl (X₁ _ _ hcode) rfl hvs hfile T.top ?_
  refine ks_loadName_global (by rfl) (by rfl) (loadGlobal_builtin (mg := mg) (mb := mb) (v := .type "super") hg1 mgsup hb1 ((hbb _ (by decide +kernel)).trans (by first | rfl | decide +kernel)) ⟨rfl, ?_⟩)
  refine wpAny_loadName_free (by rfl) (by rfl) (c := cc) (v := .ref C) rfl ⟨_, X₁ _ _ hcell, rfl⟩ ?_
  refine wpAny_loadName_local (v := .ref x) (by rfl) (by rfl) hns (by rfl) ?_
  refine ks_wpAny_isType_cls hD1 hD2 ⟨rfl, ?_⟩
  refine ks_wpAny_call_super hD1 hD2 hx1 rfl (fun c e => by cases e) (looks_mroIn X₁ T.mro) (fun h2 e2 k2 => ?_)
  obtain ⟨F1, N1, l1⟩ := ks_newsPush (s := { s with heap := h₁ }) F0 N0 rfl e2 k2
  have xne1 : x ≠ h₁.objs.size := Nat.ne_of_lt (show x < h₁.objs.size from Heap.lt_size hx1)
  have I1 : InstAt h2 x (excObj C t0 none .none) C none := ⟨k2 _ _ hx1, rfl, rfl, trivial⟩
  refine kxs_method (s := { s with heap := h2, toks := _ }) kxs_ArithmeticError F1 XG N1 (List.mem_cons_self) I1 T.any T.si T.sb (by rfl) fun q h3 F3 N3 l3 => ?_
  have hqm : (q, kxs_mw "ArithmeticError.__init__" x) ∈ ((q, kxs_mw "ArithmeticError.__init__" x) :: (h₁.objs.size, ks_superObj C x C) :: [(x, excObj C t0 none .none)]) := List.mem_cons_self
  refine kxs_callWith1 (i := "ArithmeticError.__init__") (x := x) N3 hqm ?_ rfl rfl
  have ns3 : h3.Ns s.heap.objs.size (fun y => ([(("self" : Str), Value.ref x), (("reason" : Str), v)]).reverse.lookup y) := F3.ns
  have k03 : ∀ b o, b ≠ x → s.heap.get? b = some o → h3.get? b = some o := fun b o hb e => F3.keep b o (gG b o hb e)
  have hg3 : h3.Ns mainGlobals mg := by obtain ⟨o, es, ep, e, r⟩ := hg; exact ⟨o, es, ep, k03 _ _ hgl.symm e, r⟩
  have hb3 : h3.Ns builtinsNs mb := by obtain ⟨o, es, ep, e, r⟩ := hb; exact ⟨o, es, ep, k03 _ _ hbl.symm e, r⟩
  refine Calls.spliced_cons (Call_ (wpAny_Name (ks_loadName_global (by rfl) (by rfl) (loadGlobal_builtin (mg := mg) (mb := mb) (v := .type "str") hg3 mgstr hb3 ((hbb _ (by decide +kernel)).trans (by first | rfl | decide +kernel)) ?_)) (by rfl)))
  refine PyProof.Rows.callWith_type1 (Calls.spliced_cons (wpAny_Name (wpAny_loadName_local (v := v) (by rfl) (by rfl) ns3 (by rfl) (Calls.spliced_nil ?_)) (by rfl))) rfl rfl
  refine hstr _ _ _ _ ?_ k03 fun m u tk => ?_
  · show (A.deeper _).units ≤ A.units + 10
    exact Nat.add_le_add_left (by decide) _
  refine Calls.spliced_nil ⟨(N3 _ hqm).1, ?_⟩
  have qne : q ≠ x := fun z => by have := l3 _ (List.mem_cons_of_mem _ (List.mem_singleton_self _)); rw [z] at this; exact Nat.lt_irrefl _ this
  have sne : h₁.objs.size ≠ x := xne1.symm
  refine kxs_call (s := { s with heap := h3, toks := tk }) (x := x) (t := t0) (dv := none) (c2 := .none) F3 XG N3 PySem.F.excBase_ArithmeticError T.ei hqm (.tail qne (.tail sne (.head (by simp)))) (show 1 ≤ sizeLine by decide) fun t1 h4 F4 N4 l4 => ?_
  -- self.reason = reason
  show _root_.PySem.wpAt _ _ _ (execs _ _) _ _ _
  have ns4 : h4.Ns s.heap.objs.size (fun y => ([(("self" : Str), Value.ref x), (("reason" : Str), v)]).reverse.lookup y) := F4.ns
  refine ks_wpAt_execs_cons (ks_wpAt_Assign_Attr ?_ rfl)
  refine wpAt_of_wpAny (wpAny_Name (wpAny_loadName_local (v := v) (by rfl) (by rfl) ns4 (by rfl) ?_) (by rfl))
  refine wpAny_Name (wpAny_loadName_local (v := .ref x) (by rfl) (by rfl) ns4 (by rfl) ?_) (by rfl)
  have t1x : t1 ≠ x := fun z => by
    have := l4 (x, excObj C t0 none .none) (by simp)
    rw [z] at this; exact Nat.lt_irrefl _ this
  refine set_exc0 (s := { s with heap := h4, toks := tk }) (x := x) (t := t1) (c2 := .none) PySem.F.store_ArithmeticError F4 XG N4 (by simp) T.sa T.eo T.tk T.hd rfl (.tail t1x (.tail qne (.tail sne (.head (by simp))))) (show 1 ≤ 1000 by decide) fun dx h5 F5 N5 l5 => ?_
  refine wpAt_of_wpAny (wpAny_execs_nil ?_)
  have mdx : h5.get? dx = some (dictOf [⟨PyData.keyHash w.params "reason", .str "reason" (tk + 1), v⟩] 1) := (N5 _ List.mem_cons_self).1
  have mx := (N5 (x, excObj C t1 (some dx) .none) (by simp)).1
  have ldx : s.heap.objs.size < dx := by
    have a1 := l5 (q, kxs_mw "ArithmeticError.__init__" x) (by simp)
    have a2 := l3 (h₁.objs.size, ks_superObj C x C) (by simp)
    have a3 := hns.lt
    exact Nat.lt_trans a3 (Nat.lt_trans a2 a1)
  refine hq h5 _ dx t1 ⟨fun b o hb e => F5.keep b o (gG b o hb e), mx, Nat.le_of_lt ldx, Nat.ne_of_gt (Nat.lt_trans xlt ldx), ?_⟩
  refine ⟨_, _, _, mdx, rfl, fun e he => ?_, ?_, fun name => ?_⟩
  · have he2 : e ∈ [(⟨PyData.keyHash w.params "reason", .str "reason" (tk + 1), v⟩ : DictEntry)] := by simpa using he
    rw [List.mem_singleton.mp he2]
    exact ⟨_, _, rfl⟩
  · exact List.pairwise_singleton _ _
  · show findBy _ _ _ = _
    unfold findBy
    rw [List.find?_toArray, List.find?_cons]
    dsimp only
    by_cases hn : name = "reason"
    · subst hn
      rw [if_pos rfl]
      have : (Value.str "reason" (tk + 1)).isStr ("reason" : Str) = true := beq_self_eq_true _
      simp only [this]; rfl
    · rw [if_neg hn]
      have : (Value.str "reason" (tk + 1)).isStr name = false := by
        show ((("reason" : Str)) == name) = false
        simpa using fun e => hn e.symm
      simp only [this]; rfl
end
end Km
set_option Elab.async false
set_option linter.all false
set_option maxRecDepth 100000
set_option maxHeartbeats 4000000
set_option autoImplicit false
namespace Km
open PySem PySem.Spec PyProof.Rows L2 PySem.W PySem.Calls
/-- a made Refused -/
structure OMade (h h' : Heap) (e C d : Addr) (v : Value) : Prop where
  keep : ∀ b o, h.get? b = some o → h'.get? b = some o
  new : h.objs.size ≤ e
  obj : ∃ oe vs, h'.get? e = some oe ∧ oe.cls = .ref C ∧ oe.dict = some d ∧ oe.data = .fields vs ∧ vs[1]? = some .none
  dbig : h.objs.size ≤ d
  dne : d ≠ e
  ns : h'.Ns1 d (fun y => if y = "reason" then some v else none)
section
variable {P : Program} {w : World} {A : Around} {R : Result → Shared → Prop} {s : Shared} {K : Frag} {mg mb : Str → Option Value} {C fI cda cc : Addr}
theorem ref_made (T : RefTxt P K mg C fI cda cc) {v : Value} (X : K.In s.heap) (hg : s.heap.Ns mainGlobals mg) (hb : s.heap.Ns builtinsNs mb) (hbb : ∀ y : Str, y ≠ "__name__" → mb y = bootBuiltins y) (hlim : s.heap.NoLimit) (hroom : A.depth + 1 < recursionLimit)
    (hstr : ∀ (A' : Around) (E : Value → Shared → Prop) (Q : Value → Shared → Prop) (s' : Shared), A'.units ≤ A.units + 30 → (∀ b o, s.heap.get? b = some o → s'.heap.get? b = some o) → (∀ m u tk, Q (.str m u) { s' with toks := tk }) → wpAny (model P w) A' (call (.type "str") [v]) Q E s')
    (hq : ∀ h' tk e d, OMade s.heap h' e C d v → R (.ok (.ret (.ref e))) { s with heap := h', toks := tk }) :
    codeAny (model P w) A (.call (.ref C) ⟨[v], []⟩) R s := by
  obtain ⟨nm, N', qn, bs, bm, hdct, sn, sub, ab, col, dd, k0, k1, k2, k3, k5, hC, hT⟩ := excInit_of X T.ei
  obtain ⟨oI, hoI, hcI⟩ : ∃ oI, s.heap.get? fI = some oI ∧ oI.cls = .type "function" := by
    obtain ⟨o, ho, hc⟩ := Option.map_eq_some_iff.mp (show (K.lookup fI).map (·.cls) = some (.type "function") from beq_iff_eq.mp T.iF)
    exact ⟨o, X _ _ ho, hc⟩
  obtain ⟨hp, g, dr, tk, os⟩ := s
  have k : ∀ b o, hp.get? b = some o → ((hp.push (kdv_tup [v])).push (excObj C hp.objs.size none .none)).get? b = some o := fun b o e => Heap.get?_push_of_some _ (Heap.get?_push_of_some _ e)
  have hget : ((hp.push (kdv_tup [v])).push (excObj C hp.objs.size none .none)).get? (hp.objs.size + 1) = some (excObj C hp.objs.size none .none) := by heap_get
  have hnx : K.lookup (hp.objs.size + 1) = none := by
    cases e : K.lookup (hp.objs.size + 1) with
    | none => rfl
    | some o =>
      have z : hp.get? (hp.objs.size + 1) = some o := X _ _ e
      exact absurd (Nat.lt_of_succ_lt (Heap.lt_size z)) (Nat.lt_irrefl _)
  refine PX.call_own PySem.F.excBase_ArithmeticError hT hC (looks_findIn X T.iC) (fun self => exc_bind hoI hcI self) (show 1 ≤ sizeLine by decide) ?_
  refine ref_init (s := ⟨(hp.push (kdv_tup [v])).push (excObj C hp.objs.size none .none), g, dr, tk, os⟩) T (X.keeps k) (hg.keeps k) (hb.keeps k) hbb (hlim.keeps k) hget hnx ?_ ?_ ?_ ?_ fun h' tk' dx t1 I => ?_
  · show A.depth + 1 < recursionLimit
    exact hroom
  · exact Nat.ne_of_gt (Nat.lt_succ_of_lt hg.lt)
  · exact Nat.ne_of_gt (Nat.lt_succ_of_lt hb.lt)
  · intro A' E Q s' hu hk hs
    refine hstr A' E Q s' ?_ (fun b o e => hk b o (Nat.ne_of_lt (Nat.lt_succ_of_lt (Heap.lt_size e))) (k b o e)) hs
    refine Nat.le_trans hu ?_
    have hcu : (A.under (.builtin "type.__call__" ⟨.ref C :: [v], []⟩)).units = A.units + (Code.builtin "type.__call__" ⟨.ref C :: [v], []⟩).cUnits := rfl
    have hc2 : Nat.ble (Code.builtin "type.__call__" ⟨.ref C :: [v], []⟩).cUnits 20 = true := by kernel_rfl
    have := Nat.le_of_ble_eq_true hc2
    omega
  · have old : ∀ b o, hp.get? b = some o → h'.get? b = some o := fun b o e => I.keep b o (Nat.ne_of_lt (Nat.lt_succ_of_lt (Heap.lt_size e))) (k b o e)
    have z : hp.objs.size + 1 + 1 ≤ dx := by have q := I.dbig; rw [Heap.size_push, Heap.size_push] at q; exact q
    exact ⟨rfl, hq h' tk' (hp.objs.size + 1) dx ⟨old, Nat.le_succ _, ⟨_, _, I.obj, rfl, rfl, rfl, rfl⟩, Nat.le_trans (Nat.le_trans (Nat.le_succ _) (Nat.le_succ _)) z, I.dne, I.ns⟩⟩
end
end Km
namespace Km
open PySem PySem.Spec PyProof.Rows L2
theorem relO_ref {v : V} {v' : Value} (r : RelV v v') (f : Str) : RelO (List.lookup f [(("reason" : Str), v)]) (if f = "reason" then some v' else none) := by
  by_cases hw : f = "reason"
  · subst hw
    have q : List.lookup ("reason" : Str) [(("reason" : Str), v)] = some v := by simp [List.lookup]
    rw [if_pos rfl, q]
    exact r
  · have qw : (f == ("reason" : Str)) = false := by simpa using hw
    have q2 : List.lookup f [(("reason" : Str), v)] = none := by simp [List.lookup, qw]
    rw [if_neg hw, q2]
    trivial
section
variable {X : Cx} {C fI cda cc : Addr}
/-- Refused(("hangs", i)) -/
def tMkRef (C : Addr) (ta : TA) : L2.St → Hp → XK → Prop := fun σ H Q => ta σ H fun vs H1 => ∃ (t : Addr) (i : Nat), vs = [.ref t] ∧ H1 t = some (.tup [.str "hangs", .int (i : Int)]) ∧ i < 8 ∧ ∀ d, H1 d = none → Q (.ref C) (some d) (upd H1 d (.xd [(("reason" : Str), .ref t)]))
theorem pmk_ref {a : Expr} {ta : TA} {p pos : Pos} {k : Nat} (T : RefTxt X.prog X.K X.mg C fI cda cc) (hr : Room k X.A) (ha : PA X [a] ta) (hg : Gl X "Refused" := by rfl)
    (he : starEach (a :: []) X.env = (false, eval a X.env) :: starEach [] X.env := by rfl) (hpl : (backTo pos (starEach [] X.env)).any (·.1) = false := by rfl) :
    PMk X (.Call (.Name "Refused" p) [a] [] pos) (tMkRef C ta) := by
  intro pins s σ H Q I h
  refine wpAny_Call_Name_kw (ld_glob I hg T.gC ?_)
  refine PySem.W.callWith_K (h₀ := X.base) I.ok.mod.kin T.kC (thn (ha.run pos pins s σ H _ I h) fun us s1 hh => ?_) he hpl
  obtain ⟨vs, H1, I1, r1, t, i, ev, ht, hi, q1⟩ := hh
  subst ev
  refine ⟨I1.kIn, ?_⟩
  obtain rfl : us = [Value.ref t] := by
    cases r1 with
    | cons rv rn => cases rn; cases rv; rfl
  show wpAny _ _ (call (.ref C) [.ref t]) _ _ _
  obtain ⟨mb, hb, hbb⟩ := I1.mod.blt
  obtain ⟨hz, its, rv, o, ho, hc, n, hdat⟩ := (show ObjOk X.prog X.w H1 s1.heap t (.tup [.str "hangs", .int (i : Int)]) from I1.hok t _ ht)
  obtain ⟨u1, u2, rfl, ru1, ru2⟩ := vals2 rv
  obtain ⟨t1, rfl⟩ := ru1
  obtain ⟨t2, rfl⟩ := ru2
  have hglob := I1.mod.glob.keeps I1.bk
  have hblt := hb.keeps I1.bk
  have hlim := I1.nolimit
  refine wpAny_call (ref_made T I1.kIn hglob hblt hbb hlim (by have := hr.dp; omega) (fun A' E Q s' hu hk hs => ?_) fun h' tk' e d M => ?_)
  · exact str_tuple (by have := hr.un; omega) (hk _ _ ho) hc hdat hi hs
  · obtain ⟨hp, g, dr, tk, os⟩ := s1
    show MkP X pins σ Q (.ref e) ⟨h', g, dr, tk', os⟩
    obtain ⟨oe, fv, hoe, hcl, hd, hdt, h1⟩ := M.obj
    obtain ⟨G', g1, g2⟩ := restrict h' fun b => decide (b ≠ e)
    have gk : ∀ b, b ≠ e → G'.get? b = h'.get? b := fun b hb => g1 b (decide_eq_true hb)
    have ge : G'.get? e = none := g2 e (by simp)
    have old : ∀ b o, hp.get? b = some o → G'.get? b = some o := fun b o q => (gk b (Nat.ne_of_lt (Nat.lt_of_lt_of_le (Heap.lt_size q) M.new))).trans (M.keep b o q)
    have ob : ObjOk X.prog X.w (upd H1 d (.xd [(("reason" : Str), .ref t)])) G' d (.xd [(("reason" : Str), .ref t)]) :=
      ⟨_, M.ns.at (fun o q => (gk d M.dne).trans q), fun f => relO_ref (v := .ref t) (v' := .ref t) rfl f⟩
    have J : Inv X pins σ (upd H1 d (.xd [(("reason" : Str), .ref t)])) ⟨G', g, dr, tk', os⟩ := I1.laid (t' := tk') old M.dbig ob
    refine ⟨e, oe, fv, ⟨G', g, dr, tk', os⟩, _, .ref C, some d, rfl, J, fun b o q => ?_, ge, hoe, ⟨hcl, hd⟩, hdt, h1, ?_, rfl, I1.bare, raises_own T.exC T.tyC, q1 d (I1.hok.fresh M.dbig)⟩
    · by_cases hb : b = e
      · have q' : G'.get? b = some o := q
        rw [hb, ge] at q'; cases q'
      · exact (gk b hb).symm.trans q
    · rw [upd_ne (Ne.symm M.dne)]
      exact I1.hok.fresh M.new
end
end Km
set_option Elab.async false
set_option linter.all false
set_option maxRecDepth 100000
set_option maxHeartbeats 4000000
set_option autoImplicit false
/-! methods, properties and len of an instance with slots -/
namespace Km
open PySem PySem.Spec PyProof.Rows L2 SlX
section
variable {prog : Program} {w : World} {A : Around} {E : Value → Shared → Prop} {s : Shared} {K : PySem.W.Frag} {x C f : Addr} {ox : Obj} {od : Option Obj}
theorem len_own {Q : Value → Shared → Prop} (X : K.In s.heap) (I : PySem.W.InstAt s.heap x ox C od) (hs : PySem.W.findIn K (.ref C) "__len__" = some (some (.ref f))) (hf : PySem.W.isFn K (.ref f) = true)
    (h : wpAny (model prog w) A.in1 (call (.ref f) [.ref x]) (fun r s' => ∃ (n : Nat) (u : Tok), r = Value.int (n : Int) u ∧ (n : Int) < 2 ^ 63 ∧ Q (.int (n : Int) s'.toks) { s' with toks := s'.toks + 1 }) E s) : wpAny (model prog w) A (call (.builtin "len") [.ref x]) Q E s := by
  refine Calls.call_function_entry (by decide +kernel) (by decide +kernel) entry_len (args_len1 _) ?_
  unfold Builtin.«len»
  refine wpAny_bind (m := oneArg "len" _) (wpAny_pure ?_)
  refine wpAny_bind (m := callSpecial? (.ref x) (PySem.Str.ofString "__len__")) (PySem.W.special_fn X I hs (beq_iff_eq.mp hf) (wpAny_mono h (fun r s' hr => ?_) fun _ _ y => y))
  obtain ⟨n, u, rfl, hn, hq⟩ := hr
  refine wpAny_bind (wpAny_holding (wpAny_pure ?_))
  refine wpAny_bind (wpAny_letGo ?_)
  show wpAny _ _ (if ((n : Nat) : Int) < 0 then _ else _) _ _ _
  rw [if_neg (by omega)]
  show wpAny _ _ (if ((n : Nat) : Int) ≥ 2 ^ 63 then _ else _) _ _ _
  rw [if_neg (by omega)]
  exact wpAny_bind (wpAny_mkInt (wpAny_pure ⟨_, rfl, hq⟩))
end
/-- a method of the class at C keeps a promise -/
structure MOk (P : Program) (w : World) (K : PySem.W.Frag) (mg : Str → Option Value) (base : Heap) (k : Nat) (C : Addr) (m : Str) (sp : Sp) : Prop where
  ex : ∃ g, Meth K C m g ∧ FnR P w K mg base CX0 k g sp
/-- a property -/
structure POk (P : Program) (w : World) (K : PySem.W.Frag) (mg : Str → Option Value) (base : Heap) (k : Nat) (C : Addr) (f : Str) (sp : Sp) : Prop where
  ex : ∃ p g, PySem.W.findIn K (.ref C) f = some (some (.ref p)) ∧ PySem.W.specialIn K (.ref p) "__get__" = some (some (.builtin "property.__get__")) ∧ PySem.W.takesIn K (.ref p) = some true ∧
    (∃ rest, PySem.W.recIn K p "property" = some (.ref g :: rest)) ∧ FnR P w K mg base CX0 k g sp
section
variable {X : Cx} {o e : Expr} {es : List Expr} {f m : Str} {pos apos : Pos} {ta : TE} {t : TA} {k j : Nat} {C : Addr} {sp : Sp}
theorem pe_m {pl : Sem Bool} (O : MOk X.prog X.w X.K X.mg X.base k C m sp) (c : SCls X.K C) (hr : Room k X.A) (he : PE X o ta) (ha : PA X (e :: es) t)
    (hst : starEach (e :: es) X.env = (false, eval e X.env) :: starEach es X.env := by rfl) (hpl : (backTo pos (starEach es X.env)).any (·.1) = false := by rfl)
    (ht : eval (.Call (.Attribute o m apos) (e :: es) [] pos) X.env = (do
      let ov ← eval o X.env
      standAt apos.atName
      let (f, first) ← holding [ov] (getMethod ov m pl)
      callWith pos f first (backTo pos (starEach (e :: es) X.env)) (backToKw pos (keywordEach [] X.env))) := by rfl) :
    PE X (.Call (.Attribute o m apos) (e :: es) [] pos) (tMethSl C sp E0 ta t) := by
  obtain ⟨g, hm, F⟩ := O.ex
  exact pe_methSl he c hm F hr pass0 ha hst hpl ht
theorem pe_pr (O : POk X.prog X.w X.K X.mg X.base k C f sp) (c : SCls X.K C) (hr : Room (k + 1) X.A) (he : PE X e ta) (hb : attributeBase e f X.env (eval e X.env) = eval e X.env := by rfl) : PE X (.Attribute e f pos) (tPropSl C sp E0 ta) := by
  obtain ⟨p, g, h1, h2, h3, h4, F⟩ := O.ex
  exact pe_propSl he c h1 h2 h3 h4 F hr (fun _ _ _ _ h => h.elim) hb
/-- len(x) of an instance with slots -/
def rLenOwn (C : Addr) (sp : Sp) : List V → Hp → VK → Prop := fun xs H Q => ∃ a dx vs, xs = [V.ref a] ∧ Slt H a C dx vs ∧ sp [.ref a] H (fun z H' => ∃ n : Nat, z = .int (n : Int) ∧ (n : Int) < 2 ^ 63 ∧ Q z H') E0
theorem call_lenOwn (O : MOk X.prog X.w X.K X.mg X.base k C "__len__" sp) (hr : Room (k + 1) X.A) : CallR X (.builtin "len") (rLenOwn C sp) := by
  intro pins s σ H xs us Q I r h
  obtain ⟨a, dx, vs, rfl, hsl, q⟩ := h
  obtain ⟨g, hm, F⟩ := O.ex
  obtain ⟨u, rfl, ru⟩ := vals1 r
  obtain rfl : u = Value.ref a := ru
  obtain ⟨sl, od, _, J, _⟩ := slt_inst I hsl
  refine len_own I.kIn J hm.at_ hm.fn (wpAny_mono (wpAny_call (run_at (us := [.ref a]) (ws := [.ref a]) F (Room.in1 hr) I.env0.in1 pass0 I (.cons rfl .nil) q)) (fun w' s' z => ?_) fun _ _ x => x)
  obtain ⟨z', H', I', rz, n, ei, hn, qz⟩ := z
  subst ei
  obtain ⟨t, e⟩ := (show ∃ t, w' = Value.int (n : Int) t from rz)
  cases e
  exact ⟨n, t, rfl, hn, .int (n : Int), H', I'.tok _, ⟨_, rfl⟩, qz⟩
end
end Km
set_option Elab.async false
set_option linter.all false
set_option maxRecDepth 100000
set_option maxHeartbeats 4000000
set_option autoImplicit false
namespace Km
open PySem PySem.Spec PyProof.Rows L2 StX SlX
/-- the slots of Plan -/
structure PSl (K : PySem.W.Frag) (C : Addr) : Prop where
  names : ∃ q, Slot1 K C "own_names" q 0
  p : ∃ q, Slot1 K C "own_p" q 1
  rows : ∃ q, Slot1 K C "own_rows" q 2
  runs : ∃ q, Slot1 K C "own_runs" q 3
/-- good names for k factors -/
structure NamesOk (ns : List Str) : Prop where
  ok : ∀ x ∈ ns, x ∈ okNames
  nd : ns.Nodup
  l1 : 1 ≤ ns.length
  l8 : ns.length ≤ 8
/-- a plan -/
structure PlanIs (K : PySem.W.Frag) (C : Addr) (H : Hp) (v : V) (p : Int) (ns : List Str) (rows : List Row) : Prop where
  ex : ∃ x dx vn vr vu, v = .ref x ∧ Slt H x C dx [some vn, some (.int p), some vr, some vu] ∧ Dp K H vn (.tuple (ns.map .str)) ∧ Dp K H vr (.tuple (rows.map dR)) ∧ Dp K H vu (.tuple ((runsOf p ns.length rows).map dW))
theorem slt_gr {H J : Hp} {x C dx : Addr} {vs : List (Option V)} (g : Gr H J) (h : Slt H x C dx vs) : Slt J x C dx vs := by
  rcases h with ⟨h1, h2⟩ | ⟨h1, h2⟩
  · exact .inl ⟨g.keep _ _ h1 True.intro, h2⟩
  · exact .inr ⟨g.keep _ _ h1 True.intro, g.keep _ _ h2 True.intro⟩
theorem PlanIs.gr {K : PySem.W.Frag} {C : Addr} {H J : Hp} {v : V} {p : Int} {ns : List Str} {rows : List Row} (g : Gr H J) (h : PlanIs K C H v p ns rows) : PlanIs K C J v p ns rows := by
  obtain ⟨x, dx, vn, vr, vu, e, hs, h1, h2, h3⟩ := h.ex
  exact ⟨x, dx, vn, vr, vu, e, slt_gr g hs, dp_gr g h1, dp_gr g h2, dp_gr g h3⟩
theorem power_eq {p : Int} (hp : Prm p) : ∀ n : Nat, pw p n = ((p.toNat ^ n : Nat) : Int)
  | 0 => rfl
  | n + 1 => by
    have hb := hp.b
    rw [pw, power_eq hp n, Nat.pow_succ]
    push_cast
    rw [Int.toNat_of_nonneg (by omega)]
section
variable {K : PySem.W.Frag} {H H0 : Hp} {x dx C : Addr} {vs vs' : List (Option V)} {v : V} {d : PyData}
theorem gr_slH (g : Gr H0 H) (h1 : H0 x = none) (h2 : H0 dx = none) : Gr H0 (slH H x C dx vs) := (g.mut h2).mut h1
theorem noSeq_ins {c a : Addr} {fs : List (Str × V)} (h : H a = some (.ins c dx fs)) : NoSeq H a := noSeq_of h (fun _ _ => ⟨nofun, nofun⟩) (fun _ _ => ⟨nofun, nofun⟩)
theorem noSeq_own {a b : Addr} (h : H a = some (.own b)) : NoSeq H a := noSeq_of h (fun _ _ => ⟨nofun, nofun⟩) (fun _ _ => ⟨nofun, nofun⟩)
theorem noSeq_xd {a : Addr} {fs : List (Str × V)} (h : H a = some (.xd fs)) : NoSeq H a := noSeq_of h (fun _ _ => ⟨nofun, nofun⟩) (fun _ _ => ⟨nofun, nofun⟩)
theorem noSeq_slO {a : Addr} (h : H a = some (SlO a C dx vs)) : NoSeq H a := noSeq_of h (fun _ _ => ⟨fun z => (by unfold SlO at z; cases z), fun z => (by unfold SlO at z; cases z)⟩) (fun _ _ => ⟨fun z => (by unfold SlO at z; cases z), fun z => (by unfold SlO at z; cases z)⟩)
theorem dp_slH1 (h1 : H x = some (.ins C dx [])) (h2 : H dx = some (.own x)) (hne : dx ≠ x) (h : Dp K H v d) : Dp K (slH H x C dx vs) v d :=
  dp_upd (noSeq_ins (by rw [upd_ne hne.symm]; exact h1)) (dp_upd (noSeq_own h2) h)
theorem dp_slH2 {u : Option V} (hs : Slt H x C dx (u :: vs)) (hne : dx ≠ x) (h : Dp K H v d) : Dp K (slH H x C dx vs') v d := by
  rcases hs with ⟨_, z⟩ | ⟨h1, h2⟩
  · cases z
  · exact dp_upd (noSeq_slO (by rw [upd_ne hne.symm]; exact h1)) (dp_upd (noSeq_xd h2) h)
end
section
variable {P : Program} {w : World} {K : PySem.W.Frag} {mg : Str → Option Value} {base : Heap} {T1 T2 c1 c2 CP CR fR cda cc : Addr}
/-- what is asked of rows for a plan -/
structure RowsIn (p : Int) (n : Nat) (rows : List Row) : Prop where
  prm : Prm p
  le : rows.length ≤ n
  ok : ∀ r ∈ rows, RowOk p n r
  few : p.toNat ^ n ≤ 49
/-- Plan.__init__: the plan stands at x; or Refused -/
def spPlanInit (K : PySem.W.Frag) (T1 T2 C CR : Addr) : Sp := fun vs H Q E => ∃ (H0 : Hp) (x dx : Addr) (v1 v2 v3 : V) (p : Int) (ns : List Str) (rows : List Row), vs = [.ref x, v1, v2, v3] ∧ Gr H0 H ∧ H0 x = none ∧ H0 dx = none ∧ dx ≠ x ∧ H x = some (.ins C dx []) ∧ H dx = some (.own x) ∧ TT T1 T2 H0 ∧
  DpAll K H0 [v1, v2, v3] [.int p, .tuple (ns.map .str), .tuple (rows.map dR)] ∧ NamesOk ns ∧ RowsIn p ns.length rows ∧
  ((redGo p [] 0 rows).2 = none → ∀ J, Gr H0 J → PlanIs K C J (.ref x) p ns (redGo p [] 0 rows).1 → Q .non J) ∧
  ((redGo p [] 0 rows).2 ≠ none → ∀ J d, Gr H0 J → E (.ref CR) (some d) J)
abbrev s_plan_init : Stmt := inClass (top 41) 1
theorem sc_plan_init : FnScope ["self", "p", "names", "rows", "found", "hanging"] ["self", "p", "names", "rows"] (defScope s_plan_init) := ⟨rfl, rfl, rfl, by decide +kernel, rfl, by decide +kernel, by decide +kernel⟩
theorem ok_plan_init {fI : Addr} {fd : FuncData} (B : Bl mg) (C : Cn K mg) (SC : SCls K CP) (SL : PSl K CP) (TR : RefTxt P K mg CR fR cda cc) (F : Fun K "__init__" "Plan.__init__" s_plan_init fI fd)
    (o_require_prime : Ok P w K mg base CX0 2 "require_prime" ["p"] (spReqPrime K)) (o_require_rows : Ok P w K mg base CX0 5 "require_rows" ["p", "names", "rows"] (spReqRows K)) (o_reduced_of : Ok P w K mg base CX0 4 "reduced_of" ["p", "rows"] (spReduced K T1 T2))
    (o_power : Ok P w K mg base CX0 1 "power" ["p", "many"] (spPower K)) (o_runs_of : Ok P w K mg base CX0 2 "runs_of" ["p", "many", "rows"] (spRuns K T1 T2)) :
    FnOk P w K mg base (L2.CX P w) 6 fI fd ["self", "p", "names", "rows"] (spPlanInit K T1 T2 CP CR) := by
  refine F.okX sc_plan_init (fun vs H Q E h => ?_) (fun cdv A outer s H vs Q E hr h => ?_)
  · obtain ⟨_, _, _, _, _, _, _, _, _, rfl, _⟩ := h
    rfl
  obtain ⟨H0, x, dx, v1, v2, v3, p, ns, rows, rfl, g0, hx0, hdx0, hne, hx, hdx, hT, hd, hN, hR, hQ, hE⟩ := h
  refine ⟨_, (pss_cons (ps_expr (pe_ok o_require_prime (hr.mono (by decide)) (by rfl) pass0 (pa_cons (pv 1) pa_nil))) (pss_cons (ps_expr (pe_ok o_require_rows (hr.mono (by decide)) (by rfl) pass0 (pa_cons (pv 1) (pa_cons (pv 2) (pa_cons (pv 3) pa_nil))))) (pss_cons (ps_asg (pe_ok o_reduced_of (hr.mono (by decide)) (by rfl) pass0 (pa_cons (pv 1) (pa_cons (pv 3) pa_nil))) (pg_tup rfl (pgs_cons (pg_name (i := 4) sc_plan_init.nd rfl (Or.inl rfl)) (pgs_cons (pg_name (i := 5) sc_plan_init.nd rfl (Or.inl rfl)) pgs_nil)))) (pss_cons (ps_if (pt_cmpR op_notN (pv 5) pe_non (nomark _)) (pss_one (ps_raise rfl (takes_of rfl rfl rfl rfl) (pmk_ref TR (hr.mono (Nat.zero_le _)) (pa_cons (pe_tup (pa_cons pe_str (pa_cons (pv 5) pa_nil))) pa_nil)))) pss_nil) (pss_cons (ps_if (pt_cmpR op_gt (pe_ok o_power (hr.mono (by decide)) (by rfl) pass0 (pa_cons (pv 1) (pa_cons (pe_op op_sub (pe_callB call_len_seq (by rfl) B.len boot_len (pa_cons (pv 2) pa_nil)) (pe_callB call_len_seq (by rfl) B.len boot_len (pa_cons (pv 4) pa_nil))) pa_nil))) (pe_glob (v := (.int 128)) rfl C.MAX_RUNS.choose_spec ⟨_, rfl⟩) (nomark _)) (pss_one ps_never) pss_nil) (pss_cons (SlX.ps_sl (pv 0) (pv 1)) (pss_cons (SlX.ps_sl (pv 0) (pv 2)) (pss_cons (SlX.ps_sl (pv 0) (pe_callTy call_tuple_of (by rfl) B.tuple boot_tuple (pa_cons (pv 4) pa_nil))) (pss_one (SlX.ps_sl (pv 0) (pe_callTy call_tuple_of (by rfl) B.tuple boot_tuple (pa_cons (pe_ok o_runs_of (hr.mono (by decide)) (by rfl) pass0 (pa_cons (pv 1) (pa_cons (pe_callB call_len_seq (by rfl) B.len boot_len (pa_cons (pv 2) pa_nil)) (pa_cons (pv 4) pa_nil)))) pa_nil)))))))))))), ?_⟩
  have hp := hR.prm
  have hpp := hp.b
  obtain ⟨d1, d2, d3⟩ : Dp K H0 v1 (.int p) ∧ Dp K H0 v2 (.tuple (ns.map .str)) ∧ Dp K H0 v3 (.tuple (rows.map dR)) := by
    obtain ⟨a, b, c, e, h1, h2, h3⟩ := dps3 hd
    cases e; exact ⟨h1, h2, h3⟩
  have e1 := dp_int d1
  subst e1
  have d2H := dp_gr g0 d2
  have d3H := dp_gr g0 d3
  have hTH := hT.gr g0
  refine sq_drop (P := fun v J => Dp K J v .none) (pud_call (G := gT) (gives ⟨p, rfl, hp, rfl⟩) (pds_one (pud_var rfl (.int _))) fun _ _ => trivial) fun _ J1 g1 _ => ?_
  dsimp only [tSeq, tNext]
  refine sq_drop (P := fun v J => Dp K J v .none) (pud_call (G := gT) (gives ⟨p, ns, rows, rfl, hp, hN.ok, hN.nd, hN.l1, hN.l8, hR.le, hR.ok, rfl⟩) (pds_cons (pud_var rfl (.int _)) (pds_cons (pud_var rfl (dp_gr g1 d2H)) (pds_one (pud_var rfl (dp_gr g1 d3H))))) fun _ _ => trivial) fun _ J2 g2 _ => ?_
  dsimp only [tSeq, tNext]
  have g12 := g1.trans g2
  have hl8 := hN.l8
  have hle := hR.le
  refine sq_two (d1 := .list ((redGo p [] 0 rows).1.map dR)) (d2 := dO (redGo p [] 0 rows).2) (pud_call (G := TT T1 T2) (gives ⟨p, ns.length, rows, rfl, hp, by omega, by omega, hR.ok, rfl⟩) (pds_cons (pud_var rfl (.int _)) (pds_one (pud_var rfl (dp_gr g12 d3H)))) fun J g => hTH.gr (g12.trans g)) fun x4 x5 J3 g3 h4 h5 => ?_
  dsimp only [tSeq, tNext]
  have g13 := g12.trans g3
  have hred : Red p ns.length (redGo p [] 0 rows).1 := redGo_red hp rows [] 0 hR.ok red_nil
  have hlen : (redGo p [] 0 rows).1.length ≤ rows.length := by have := redGo_len (p := p) rows [] 0; simpa using this
  generalize hf : (redGo p [] 0 rows).1 = fnd at *
  cases hg : (redGo p [] 0 rows).2 with
  | some j =>
    rw [hg] at h5
    have e5 := dp_int (show Dp K J3 x5 (.int (j : Int)) from h5)
    subst e5
    have hj := redGo_idx rows [] 0 j hg
    refine sq_if (b := true) (fun H1 e Q q => ⟨_, rfl, rfl, _, rfl, q H1 .refl⟩) (fun _ J4 g4 => ?_) nofun
    refine ⟨_, rfl, Nat.le_of_ble_eq_true rfl, fun t ht => ⟨t, j, rfl, upd_same, by omega, fun d hd => ?_⟩⟩
    have ga : Gr J4 (upd J4 t (.tup [.str "hangs", .int (j : Int)])) := .new ht
    exact hE (by rw [hg]; nofun) _ d (g0.trans (g13.trans (g4.trans (ga.trans (.new hd)))))
  | none =>
    rw [hg] at h5
    have e5 := dp_non (show Dp K J3 x5 .none from h5)
    subst e5
    refine sq_if (b := false) (fun H1 e Q q => ⟨_, rfl, rfl, _, rfl, q H1 .refl⟩) nofun (fun _ J4 g4 => ?_)
    dsimp only [tSeq, tNext]
    have g14 := g13.trans g4
    have h4' := dp_gr g4 h4
    have d2' := dp_gr g14 d2H
    have hm : ((ns.map PyData.str).length : Int) - ((fnd.map dR).length : Int) = ((ns.length - fnd.length : Nat) : Int) := by rw [List.length_map, List.length_map]; omega
    have hpw : pw p (ns.length - fnd.length) ≤ 128 := by
      rw [power_eq hp]
      have h1 : p.toNat ^ (ns.length - fnd.length) ≤ p.toNat ^ ns.length := Nat.pow_le_pow_right (by omega) (Nat.sub_le _ _)
      have h2 := hR.few
      have h3 : p.toNat ^ (ns.length - fnd.length) ≤ 128 := by omega
      exact_mod_cast h3
    refine sq_if (b := false) (pb_is (pb_test (pud_opI (g := fun i j => .bl (decide (j < i))) (dv := .bool (decide (128 < pw p (ns.length - fnd.length)))) (pud_call (G := gT) (gives ⟨p, ns.length - fnd.length, rfl, hp, by omega, rfl⟩) (pds_cons (pud_var rfl (.int _)) (pds_one (pud_is (pud_sub (pud_lenT (pds_one (pud_var rfl d2'))) (pud_lenL (pds_one (pud_var rfl h4')))) (congrArg PyData.int hm)))) fun _ _ => trivial) pud_int fun _ => .bl _)) (decide_eq_false (by omega))) nofun (fun _ J5 g5 => ?_)
    dsimp only [tSeq, tNext]
    have g15 := g14.trans g5
    have hx5 := g15.keep _ _ hx True.intro
    have hdx5 := g15.keep _ _ hdx True.intro
    have gH5 := g0.trans g15
    -- self.own_p = p
    refine ⟨_, rfl, _, rfl, x, _, dx, _, [], 1, rfl, .inl ⟨hx5, rfl⟩, SC, SL.p.choose_spec, ?_⟩
    dsimp only [tSeq, tNext]
    -- self.own_names = names
    refine ⟨_, rfl, _, rfl, x, _, dx, _, _, 0, rfl, slH_slt hne, SC, SL.names.choose_spec, ?_⟩
    dsimp only [tSeq, tNext]
    rw [slH_twice hne]
    -- self.own_rows = tuple(found)
    have h45 : Dp K (slH J5 x CP dx (putS 0 v2 (putS 1 (.int p) []))) x4 (.list (fnd.map dR)) := dp_slH1 hx5 hdx5 hne (dp_gr g5 h4')
    have gS2 : Gr H0 (slH J5 x CP dx (putS 0 v2 (putS 1 (.int p) []))) := gr_slH gH5 hx0 hdx0
    refine pud_tupleL (K := K) (pds_one (pud_var rfl h45)) _ .refl _ fun y3 J6 g6 hy3 => ?_
    refine ⟨_, rfl, x, _, dx, _, _, 2, rfl, slt_gr g6 (slH_slt hne), SC, SL.rows.choose_spec, ?_⟩
    dsimp only [tSeq, tNext]
    -- self.own_runs = tuple(runs_of(..))
    have sl6 := slt_gr g6 (slH_slt (C := CP) (H := J5) (vs := putS 0 v2 (putS 1 (.int p) [])) hne)
    have gS6 := gS2.trans g6
    have h46 := dp_slH2 sl6 (vs' := putS 2 y3 (putS 0 v2 (putS 1 (.int p) []))) hne (dp_gr g6 h45)
    have hy36 := dp_slH2 sl6 (vs' := putS 2 y3 (putS 0 v2 (putS 1 (.int p) []))) hne hy3
    have gS3 := gr_slH (vs := putS 2 y3 (putS 0 v2 (putS 1 (.int p) []))) (C := CP) gS6 hx0 hdx0
    have d23 := dp_gr gS3 d2
    refine pud_tupleL (K := K) (pds_one (pud_call (G := TT T1 T2) (gives ⟨p, ns.length, fnd, rfl, hp, hred, hN.l1, hN.l8, hR.few, by omega, rfl⟩) (pds_cons (pud_var rfl (.int _)) (pds_cons (pud_is (pud_lenT (pds_one (pud_var rfl d23))) (by rw [List.length_map])) (pds_one (pud_var rfl h46)))) fun J g => hT.gr (gS3.trans g))) _ .refl _ fun y4 J7 g7 hy4 => ?_
    refine ⟨_, rfl, x, _, dx, _, _, 3, rfl, slt_gr g7 (slH_slt hne), SC, SL.runs.choose_spec, ?_⟩
    have sl7 := slt_gr g7 (slH_slt (C := CP) (H := J6) (vs := putS 2 y3 (putS 0 v2 (putS 1 (.int p) []))) hne)
    have gS7 := gS3.trans g7
    refine hQ hg _ (gr_slH gS7 hx0 hdx0) ⟨x, dx, v2, y3, y4, rfl, slH_slt hne, dp_gr (gr_slH gS7 hx0 hdx0) d2, dp_slH2 sl7 hne (dp_gr g7 hy36), dp_slH2 sl7 hne hy4⟩
end
end Km
set_option Elab.async false
set_option linter.all false
set_option maxRecDepth 100000
set_option maxHeartbeats 4000000
set_option autoImplicit false
namespace Km
open PySem PySem.Spec PyProof.Rows L2 StX SlX
/-- a method of the text -/
structure MD (K : PySem.W.Frag) (C : Addr) (m qual : Str) (st : Stmt) (ps : List Str) : Prop where
  ex : ∃ g fd, Meth K C m g ∧ Fun K m qual st g fd ∧ Binds K fd ps []
/-- a property of the text -/
structure PD (K : PySem.W.Frag) (C : Addr) (f qual : Str) (st : Stmt) (ps : List Str) : Prop where
  ex : ∃ p g fd, PySem.W.findIn K (.ref C) f = some (some (.ref p)) ∧ PySem.W.specialIn K (.ref p) "__get__" = some (some (.builtin "property.__get__")) ∧ PySem.W.takesIn K (.ref p) = some true ∧
    (∃ rest, PySem.W.recIn K p "property" = some (.ref g :: rest)) ∧ Fun K f qual st g fd ∧ Binds K fd ps []
section
variable {P : Program} {w : World} {K : PySem.W.Frag} {mg : Str → Option Value} {base : Heap} {T1 T2 c1 c2 CP CR fR cda cc : Addr} {k : Nat} {m qual : Str} {st : Stmt} {ps : List Str} {sp : Sp}
theorem raw0 {g : Addr} {fd : FuncData} (F : FnOk P w K mg base CX0 k g fd ps sp) (hb : Binds K fd ps []) : FnR P w K mg base CX0 k g sp :=
  (F.raw hb .nil).imp fun vs H Q E h => by rw [List.append_nil]; exact h
theorem MD.ok (D : MD K CP m qual st ps) (h : ∀ g fd, Fun K m qual st g fd → FnOk P w K mg base CX0 k g fd ps sp) : MOk P w K mg base k CP m sp := by
  obtain ⟨g, fd, hm, F, hb⟩ := D.ex
  exact ⟨g, hm, raw0 (h g fd F) hb⟩
theorem PD.ok (D : PD K CP m qual st ps) (h : ∀ g fd, Fun K m qual st g fd → FnOk P w K mg base CX0 k g fd ps sp) : POk P w K mg base k CP m sp := by
  obtain ⟨p, g, fd, h1, h2, h3, h4, F, hb⟩ := D.ex
  exact ⟨p, g, h1, h2, h3, h4, raw0 (h g fd F) hb⟩
/-- a property that hands out the slot at i -/
def spSlot (CP : Addr) (i : Nat) : Sp := fun vs H Q _ => ∃ x dx svs v, vs = [.ref x] ∧ Slt H x CP dx svs ∧ svs[i]? = some (some v) ∧ Q v H
abbrev s_get_p : Stmt := inClass (top 41) 2
theorem sc_get_p : FnScope ["self"] ["self"] (defScope s_get_p) := ⟨rfl, rfl, rfl, by decide +kernel, rfl, by decide +kernel, by decide +kernel⟩
abbrev s_get_names : Stmt := inClass (top 41) 3
theorem sc_get_names : FnScope ["self"] ["self"] (defScope s_get_names) := ⟨rfl, rfl, rfl, by decide +kernel, rfl, by decide +kernel, by decide +kernel⟩
abbrev s_get_rows : Stmt := inClass (top 41) 4
theorem sc_get_rows : FnScope ["self"] ["self"] (defScope s_get_rows) := ⟨rfl, rfl, rfl, by decide +kernel, rfl, by decide +kernel, by decide +kernel⟩
abbrev s_get_runs : Stmt := inClass (top 41) 5
theorem sc_get_runs : FnScope ["self"] ["self"] (defScope s_get_runs) := ⟨rfl, rfl, rfl, by decide +kernel, rfl, by decide +kernel, by decide +kernel⟩
theorem ok_get_p (SC : SCls K CP) (SL : PSl K CP) (D : PD K CP "p" "Plan.p" s_get_p ["self"]) : POk P w K mg base 1 CP "p" (spSlot CP 1) := D.ok fun g fd F =>
  F.ok sc_get_p (fun vs H Q E h => by obtain ⟨_, _, _, _, rfl, _⟩ := h; rfl) fun cdv A outer s H vs Q E hr h => by
    obtain ⟨x, dx, svs, v, rfl, hs, hv, q⟩ := h
    exact ⟨_, (pss_one (ps_ret (SlX.pe_sl (pv 0)))), _, rfl, x, _, dx, _, _, _, v, rfl, hs, SC, SL.p.choose_spec, hv, q⟩
theorem ok_get_names (SC : SCls K CP) (SL : PSl K CP) (D : PD K CP "names" "Plan.names" s_get_names ["self"]) : POk P w K mg base 1 CP "names" (spSlot CP 0) := D.ok fun g fd F =>
  F.ok sc_get_names (fun vs H Q E h => by obtain ⟨_, _, _, _, rfl, _⟩ := h; rfl) fun cdv A outer s H vs Q E hr h => by
    obtain ⟨x, dx, svs, v, rfl, hs, hv, q⟩ := h
    exact ⟨_, (pss_one (ps_ret (SlX.pe_sl (pv 0)))), _, rfl, x, _, dx, _, _, _, v, rfl, hs, SC, SL.names.choose_spec, hv, q⟩
theorem ok_get_rows (SC : SCls K CP) (SL : PSl K CP) (D : PD K CP "rows" "Plan.rows" s_get_rows ["self"]) : POk P w K mg base 1 CP "rows" (spSlot CP 2) := D.ok fun g fd F =>
  F.ok sc_get_rows (fun vs H Q E h => by obtain ⟨_, _, _, _, rfl, _⟩ := h; rfl) fun cdv A outer s H vs Q E hr h => by
    obtain ⟨x, dx, svs, v, rfl, hs, hv, q⟩ := h
    exact ⟨_, (pss_one (ps_ret (SlX.pe_sl (pv 0)))), _, rfl, x, _, dx, _, _, _, v, rfl, hs, SC, SL.rows.choose_spec, hv, q⟩
theorem ok_get_runs (SC : SCls K CP) (SL : PSl K CP) (D : PD K CP "runs" "Plan.runs" s_get_runs ["self"]) : POk P w K mg base 1 CP "runs" (spSlot CP 3) := D.ok fun g fd F =>
  F.ok sc_get_runs (fun vs H Q E h => by obtain ⟨_, _, _, _, rfl, _⟩ := h; rfl) fun cdv A outer s H vs Q E hr h => by
    obtain ⟨x, dx, svs, v, rfl, hs, hv, q⟩ := h
    exact ⟨_, (pss_one (ps_ret (SlX.pe_sl (pv 0)))), _, rfl, x, _, dx, _, _, _, v, rfl, hs, SC, SL.runs.choose_spec, hv, q⟩
/-- a method of a plan that reckons data from data -/
def sPM (K : PySem.W.Frag) (CP : Addr) (G : Hp → Prop) (ρ : Int → List Str → List Row → List PyData → PyData → Prop) : Sp := fun vs H Q _ => ∃ v us p ns rows ds d, vs = v :: us ∧ PlanIs K CP H v p ns rows ∧ NamesOk ns ∧ Prm p ∧ Red p ns.length rows ∧ DpAll K H us ds ∧ ρ p ns rows ds d ∧ G H ∧ ∀ v' J, Gr H J → Dp K J v' d → Q v' J
section
variable {σ : L2.St} {H : Hp} {t : TA} {i : Nat} {v : V} {p : Int} {ns : List Str} {rows : List Row} {ds : List PyData} {d : PyData} {G : Hp → Prop} {ρ : Int → List Str → List Row → List PyData → PyData → Prop}
theorem pud_m (hv : σ[i]? = some (some v)) (hP : PlanIs K CP H v p ns rows) (hN : NamesOk ns) (hp : Prm p) (hR : Red p ns.length rows) (hρ : ρ p ns rows ds d) (h : PuDs K t σ H ds) (hG : ∀ J, Gr H J → G J) : PuD K (tMethSl CP (sPM K CP G ρ) E0 (tVar i) t) σ H d :=
  fun H1 e Q q => by
    obtain ⟨x, dx, vn, vr, vu, rfl, hs, _⟩ := (hP.gr e).ex
    refine ⟨_, hv, x, dx, _, rfl, hs, h H1 e _ fun ws J g hw => ?_⟩
    exact ⟨_, ws, p, ns, rows, ds, d, rfl, hP.gr (e.trans g), hN, hp, hR, hw, hρ, hG J (e.trans g), fun v' J' g' p' => q v' J' (g.trans g') p'⟩
theorem pud_prP (hv : σ[i]? = some (some v)) (hP : PlanIs K CP H v p ns rows) : PuD K (tPropSl CP (spSlot CP 1) E0 (tVar i)) σ H (.int p) := fun H1 e Q q => by
  obtain ⟨x, dx, vn, vr, vu, rfl, hs, h1, h2, h3⟩ := (hP.gr e).ex
  exact ⟨_, hv, x, dx, _, rfl, hs, x, dx, _, _, rfl, hs, rfl, q _ H1 .refl (.int p)⟩
theorem pud_prN (hv : σ[i]? = some (some v)) (hP : PlanIs K CP H v p ns rows) : PuD K (tPropSl CP (spSlot CP 0) E0 (tVar i)) σ H (.tuple (ns.map .str)) := fun H1 e Q q => by
  obtain ⟨x, dx, vn, vr, vu, rfl, hs, h1, h2, h3⟩ := (hP.gr e).ex
  exact ⟨_, hv, x, dx, _, rfl, hs, x, dx, _, _, rfl, hs, rfl, q _ H1 .refl h1⟩
theorem pud_prR (hv : σ[i]? = some (some v)) (hP : PlanIs K CP H v p ns rows) : PuD K (tPropSl CP (spSlot CP 2) E0 (tVar i)) σ H (.tuple (rows.map dR)) := fun H1 e Q q => by
  obtain ⟨x, dx, vn, vr, vu, rfl, hs, h1, h2, h3⟩ := (hP.gr e).ex
  exact ⟨_, hv, x, dx, _, rfl, hs, x, dx, _, _, rfl, hs, rfl, q _ H1 .refl h2⟩
theorem pud_prU (hv : σ[i]? = some (some v)) (hP : PlanIs K CP H v p ns rows) : PuD K (tPropSl CP (spSlot CP 3) E0 (tVar i)) σ H (.tuple ((runsOf p ns.length rows).map dW)) := fun H1 e Q q => by
  obtain ⟨x, dx, vn, vr, vu, rfl, hs, h1, h2, h3⟩ := (hP.gr e).ex
  exact ⟨_, hv, x, dx, _, rfl, hs, x, dx, _, _, rfl, hs, rfl, q _ H1 .refl h3⟩
theorem pud_slP (SC : SCls K CP) (SL : PSl K CP) (hv : σ[i]? = some (some v)) (hP : PlanIs K CP H v p ns rows) : PuD K (tSl K (tVar i) "own_p") σ H (.int p) := fun H1 e Q q => by
  obtain ⟨x, dx, vn, vr, vu, rfl, hs, h1, h2, h3⟩ := (hP.gr e).ex
  exact ⟨_, hv, x, CP, dx, _, _, 1, _, rfl, hs, SC, SL.p.choose_spec, rfl, q _ H1 .refl (.int p)⟩
theorem pud_slN (SC : SCls K CP) (SL : PSl K CP) (hv : σ[i]? = some (some v)) (hP : PlanIs K CP H v p ns rows) : PuD K (tSl K (tVar i) "own_names") σ H (.tuple (ns.map .str)) := fun H1 e Q q => by
  obtain ⟨x, dx, vn, vr, vu, rfl, hs, h1, h2, h3⟩ := (hP.gr e).ex
  exact ⟨_, hv, x, CP, dx, _, _, 0, _, rfl, hs, SC, SL.names.choose_spec, rfl, q _ H1 .refl h1⟩
theorem pud_slR (SC : SCls K CP) (SL : PSl K CP) (hv : σ[i]? = some (some v)) (hP : PlanIs K CP H v p ns rows) : PuD K (tSl K (tVar i) "own_rows") σ H (.tuple (rows.map dR)) := fun H1 e Q q => by
  obtain ⟨x, dx, vn, vr, vu, rfl, hs, h1, h2, h3⟩ := (hP.gr e).ex
  exact ⟨_, hv, x, CP, dx, _, _, 2, _, rfl, hs, SC, SL.rows.choose_spec, rfl, q _ H1 .refl h2⟩
theorem pud_slU (SC : SCls K CP) (SL : PSl K CP) (hv : σ[i]? = some (some v)) (hP : PlanIs K CP H v p ns rows) : PuD K (tSl K (tVar i) "own_runs") σ H (.tuple ((runsOf p ns.length rows).map dW)) := fun H1 e Q q => by
  obtain ⟨x, dx, vn, vr, vu, rfl, hs, h1, h2, h3⟩ := (hP.gr e).ex
  exact ⟨_, hv, x, CP, dx, _, _, 3, _, rfl, hs, SC, SL.runs.choose_spec, rfl, q _ H1 .refl h3⟩
end
theorem okM {N : List Str} {G : Hp → Prop} {ρ : Int → List Str → List Row → List PyData → PyData → Prop} (D : MD K CP m qual st ps) (S : FnScope N ps (defScope st)) (hl : ∀ p ns rows ds d, ρ p ns rows ds d → ds.length + 1 = ps.length)
    (hb : ∀ (f : Addr) (cdv : Value) (A : Around) (outer : List Env) (s : Shared) (H : Hp) (v : V) (us : List V) (Q : VK) (E : XK) (p : Int) (ns : List Str) (rows : List Row) (ds : List PyData) (d : PyData), Room k (A.deeper (envOfC qual (defScope st) s.heap.objs.size f cdv)) →
      PlanIs K CP H v p ns rows → NamesOk ns → Prm p → Red p ns.length rows → DpAll K H us ds → ρ p ns rows ds d → G H → (∀ v J, Gr H J → Dp K J v d → Q v J) →
      ∃ t, PSs (cxOf CX0 P w K mg base N qual (defScope st) f cdv A outer s H E).nox (defBody st) t ∧ t { nx := fun _ H' => Q .non H', rt := Q } (start N (v :: us)) H) :
    MOk P w K mg base (k + 1) CP m (sPM K CP G ρ) := D.ok fun g fd F =>
  F.ok S (fun vs H Q E h => by obtain ⟨v, us, p, ns, rows, ds, d, rfl, _, _, _, _, hd, r, _⟩ := h; rw [List.length_cons, dps_len hd]; exact hl _ _ _ _ _ r) fun cdv A outer s H vs Q E hr h => by
    obtain ⟨v, us, p, ns, rows, ds, d, rfl, hP, hN, hp, hR, hd, r, hG, q⟩ := h
    exact hb g cdv A outer s H v us Q E p ns rows ds d hr hP hN hp hR hd r hG q
def spReqWord (K : PySem.W.Frag) (CP : Addr) : Sp := sPM K CP gT fun p ns rows ds d => ∃ u : List Int, ds = [dW u, .bool true] ∧ WR p u ∧ u.length = ns.length ∧ d = .none
abbrev s_require_word : Stmt := inClass (top 41) 6
theorem sc_require_word : FnScope ["self", "word", "is_zero_let"] ["self", "word", "is_zero_let"] (defScope s_require_word) := ⟨rfl, rfl, rfl, by decide +kernel, rfl, by decide +kernel, by decide +kernel⟩
theorem ok_require_word (B : Bl mg) (SC : SCls K CP) (SL : PSl K CP) (o_is_word_in : Ok P w K mg base CX0 3 "is_word_in" ["p", "many", "value"] (spWordIn K)) (o_is_zero : Ok P w K mg base CX0 1 "is_zero" ["word"] (spIsZero K))
    (D : MD K CP "require_word" "Plan.require_word" s_require_word ["self", "word", "is_zero_let"]) : MOk P w K mg base 4 CP "require_word" (spReqWord K CP) := by
  refine okM D sc_require_word (fun p ns rows ds d h => by obtain ⟨_, rfl, _⟩ := h; rfl) ?_
  rintro f cdv A outer s H v us Q E p ns rows ds d hr hP hN hp hR hd ⟨u, rfl, hu, hul, rfl⟩ _ q
  obtain ⟨v1, v2, rfl, h1, h2⟩ := dps2 hd
  refine ⟨_, (pss_one (ps_if (PW.pt (pw_or (pt_not (pt_val (pe_ok o_is_word_in (hr.mono (by decide)) (by rfl) pass0 (pa_cons (SlX.pe_sl (pv 0)) (pa_cons (pe_callB call_len_seq (by rfl) B.len boot_len (pa_cons (SlX.pe_sl (pv 0)) pa_nil)) (pa_cons (pv 1) pa_nil)))))) (pw_or1 (PW.pt (pw_and (pt_not (pt_val (pv 2))) (pw_and1 (pt_val (pe_ok o_is_zero (hr.mono (by decide)) (by rfl) pass0 (pa_cons (pv 1) pa_nil))))))))) (pss_one ps_never) pss_nil)), ?_⟩
  refine sq_if (b := false) (pb_is (pb_or (pb_not (pb_B (pud_call (G := gT) (gives ⟨p, ns.length, u, rfl, hp, hul, by have := hN.l8; omega, hu, rfl⟩) (pds_cons (pud_slP SC SL rfl hP) (pds_cons (pud_is (pud_lenT (pds_one (pud_slN SC SL rfl hP))) (by rw [List.length_map])) (pds_one (pud_var rfl h1)))) fun _ _ => trivial))) fun _ =>
    pb_and (pb_not (pb_B (pud_var rfl h2))) fun _ => pb_B (pud_call (G := gT) (gives ⟨u, rfl, by have := hN.l8; omega, rfl⟩) (pds_one (pud_var rfl h1)) fun _ _ => trivial)) rfl) nofun fun _ J g => q .non J g .non
def spRestM (K : PySem.W.Frag) (CP T1 T2 : Addr) : Sp := sPM K CP (TT T1 T2) fun p ns rows ds d => ∃ u : List Int, ds = [dW u] ∧ WR p u ∧ u.length = ns.length ∧ d = dW (restOf p rows (u, 0)).1
abbrev s_rest : Stmt := inClass (top 41) 7
theorem sc_rest : FnScope ["self", "word"] ["self", "word"] (defScope s_rest) := ⟨rfl, rfl, rfl, by decide +kernel, rfl, by decide +kernel, by decide +kernel⟩
theorem ok_rest (B : Bl mg) (SC : SCls K CP) (SL : PSl K CP) (o_rest_of : Ok P w K mg base CX0 2 "rest_of" ["p", "rows", "row"] (spRest K T1 T2)) (D : MD K CP "rest" "Plan.rest" s_rest ["self", "word"]) : MOk P w K mg base 3 CP "rest" (spRestM K CP T1 T2) := by
  refine okM D sc_rest (fun p ns rows ds d h => by obtain ⟨_, rfl, _⟩ := h; rfl) ?_
  rintro f cdv A outer s H v us Q E p ns rows ds d hr hP hN hp hR hd ⟨u, rfl, hu, hul, rfl⟩ hT q
  obtain ⟨v1, rfl, h1⟩ := dps1 hd
  have hpp := hp.b
  refine ⟨_, (pss_one (ps_ret (pe_ix (r := rIxT K) ix_tup (pe_ok o_rest_of (hr.mono (by decide)) (by rfl) pass0 (pa_cons (SlX.pe_sl (pv 0)) (pa_cons (SlX.pe_sl (pv 0)) (pa_cons (pe_tup (pa_cons (pv 1) (pa_cons pe_int pa_nil))) pa_nil)))) pe_int (fun _ _ => rfl)))), ?_⟩
  exact sq_ret (pud_ixT (l := [dW (restOf p rows (u, 0)).1, .int (restOf p rows (u, 0)).2]) (pud_call (G := TT T1 T2) (gives ⟨p, ns.length, rows, (u, 0), .inr rfl, hp, by have := hN.l8; omega, fun r hr => ⟨hR.ok r hr, hR.lt r hr⟩, ⟨hul, hu, by show (0 : Int) ≤ 0 ∧ (0 : Int) < p; omega⟩, rfl⟩)
    (pds_cons (pud_slP SC SL rfl hP) (pds_cons (pud_slR SC SL rfl hP) (pds_one (pud_tup (pds_cons (pud_var rfl h1) (pds_one pud_int)) (by simp))))) fun J g => hT.gr g) pud_int 0 rfl rfl) q
def spIsConst (K : PySem.W.Frag) (CP T1 T2 : Addr) : Sp := sPM K CP (TT T1 T2) fun p ns rows ds d => ∃ u : List Int, ds = [dW u] ∧ WR p u ∧ u.length = ns.length ∧ d = .bool (isZ (restOf p rows (u, 0)).1)
abbrev s_is_constant : Stmt := inClass (top 41) 9
theorem sc_is_constant : FnScope ["self", "word"] ["self", "word"] (defScope s_is_constant) := ⟨rfl, rfl, rfl, by decide +kernel, rfl, by decide +kernel, by decide +kernel⟩
theorem ok_is_constant (B : Bl mg) (SC : SCls K CP) (o_m_require_word : MOk P w K mg base 4 CP "require_word" (spReqWord K CP)) (o_m_rest : MOk P w K mg base 3 CP "rest" (spRestM K CP T1 T2)) (o_is_zero : Ok P w K mg base CX0 1 "is_zero" ["word"] (spIsZero K))
    (D : MD K CP "is_constant" "Plan.is_constant" s_is_constant ["self", "word"]) : MOk P w K mg base 5 CP "is_constant" (spIsConst K CP T1 T2) := by
  refine okM D sc_is_constant (fun p ns rows ds d h => by obtain ⟨_, rfl, _⟩ := h; rfl) ?_
  rintro f cdv A outer s H v us Q E p ns rows ds d hr hP hN hp hR hd ⟨u, rfl, hu, hul, rfl⟩ hT q
  obtain ⟨v1, rfl, h1⟩ := dps1 hd
  have hpp := hp.b
  refine ⟨_, (pss_cons (ps_expr (pe_m o_m_require_word SC (hr.mono (by decide)) (pv 0) (pa_cons (pv 1) (pa_cons pe_bl pa_nil)))) (pss_one (ps_ret (pe_ok o_is_zero (hr.mono (by decide)) (by rfl) pass0 (pa_cons (pe_m o_m_rest SC (hr.mono (by decide)) (pv 0) (pa_cons (pv 1) pa_nil)) pa_nil))))), ?_⟩
  refine sq_drop (P := fun v J => Dp K J v .none) (pud_m rfl hP hN hp hR ⟨u, rfl, hu, hul, rfl⟩ (pds_cons (pud_var rfl h1) (pds_one pud_bl)) fun _ _ => trivial) fun _ J g _ => ?_
  dsimp only [tSeq, tNext]
  refine sq_ret (pud_call (G := gT) (gives ⟨(restOf p rows (u, 0)).1, rfl, ?_, rfl⟩) (pds_one (pud_m rfl (hP.gr g) hN hp hR ⟨u, rfl, hu, hul, rfl⟩ (pds_one (pud_var rfl (dp_gr g h1))) fun J' g' => hT.gr (g.trans g'))) fun _ _ => trivial) fun v J' g' p' => q v J' (g.trans g') p'
  have := restOf_ok hp (rows := rows) (r := (u, 0)) (n := ns.length) hR.ok ⟨hul, hu, by show (0 : Int) ≤ 0 ∧ (0 : Int) < p; omega⟩
  rw [this.len]
  have := hN.l8; omega
def spLen (K : PySem.W.Frag) (CP : Addr) : Sp := sPM K CP gT fun p ns rows ds d => ds = [] ∧ d = .int ((runsOf p ns.length rows).length : Int)
abbrev s_m_len : Stmt := inClass (top 41) 27
theorem sc_m_len : FnScope ["self"] ["self"] (defScope s_m_len) := ⟨rfl, rfl, rfl, by decide +kernel, rfl, by decide +kernel, by decide +kernel⟩
theorem ok_m_len (B : Bl mg) (SC : SCls K CP) (SL : PSl K CP) (D : MD K CP "__len__" "Plan.__len__" s_m_len ["self"]) : MOk P w K mg base 1 CP "__len__" (spLen K CP) := by
  refine okM D sc_m_len (fun p ns rows ds d h => by obtain ⟨rfl, _⟩ := h; rfl) ?_
  rintro f cdv A outer s H v us Q E p ns rows ds d hr hP hN hp hR hd ⟨rfl, rfl⟩ _ q
  cases hd
  refine ⟨_, (pss_one (ps_ret (pe_callB call_len_seq (by rfl) B.len boot_len (pa_cons (SlX.pe_sl (pv 0)) pa_nil)))), ?_⟩
  exact sq_ret (pud_is (pud_lenT (pds_one (pud_slU SC SL rfl hP))) (by rw [List.length_map])) q
end
end Km
set_option Elab.async false
set_option linter.all false
set_option maxRecDepth 100000
set_option maxHeartbeats 4000000
set_option autoImplicit false
/-! dict comprehensions whose keys are tuples -/
namespace Km
open PySem PySem.Spec PyProof.Rows L2
/-- d[t] = v by a comprehension, t a tracked tuple -/
theorem dset_tup {X : Cx} {pins : List (Addr × Obj)} {σ : L2.St} {H : Hp} {s : Shared} {E : Value → Shared → Prop} {D b : Addr} {kvs : List (List Key × V)} {k : List Key} {v : V} {r : Value} {Q : Unit → Shared → Prop} (hu : X.A.units + 1 < cLine) (I : Inv X pins σ H s)
    (hD : H D = some (.dT kvs)) (hb : H b = some (.tup (k.map kV))) (hz : kvs.length < sizeLine) (rv : RelV v r) (h : ∀ s', Inv X pins σ (upd H D (.dT (putK kvs k v))) s' → Q () s') : wpAny (model X.prog X.w) X.A (dictSet D (.ref b) r) Q E s := by
  obtain ⟨z, hd, xs, rel, dd⟩ := dt_of I.hok hD
  have hzx : xs.length ≤ sizeLine := by rw [← Paired.length rel]; exact z
  have hl : (putK kvs k v).length ≤ sizeLine := by have := length_putK kvs k v; omega
  refine wpAny_dictSet_heap (knd := tupleKind (mixKind X.prog X.w)) (hsz := hzx) (show X.A.units < cLine by omega) (key_of I.hok hb) dd fun h' dd' hs => h _ ?_
  obtain ⟨q, es, ep, hq, h2, h3, h4, _, h5⟩ := dd'
  refine d_write I (by rw [hD]; exact True.intro) hs ⟨q, hq⟩ ⟨hl, hd, _, (rel.put k hb rv).keeps fun c ys ec => ?_, q, es, ep, hq, h2, h3, h4, h5⟩
  rw [upd_ne (ne_of ec hD (fun z => nomatch z))]
  exact ec
section
variable {X : Cx}
/-- {t: v for target in iter}, t tuples: D the new dict -/
def tDcT (wi : TI) (g : TG) (tk tv : TE) (vs : List Nat) : TE := fun σ H Q => wi σ H fun J H1 => ∀ D, H1 D = none → ∃ W : Nat → Nat → Hp → Prop, (∃ m, W 0 m (upd H1 D (.dT []))) ∧ ∀ i m A, W i m A →
  (J.stop i A ∧ Q (.ref D) A) ∨ (J.go i A ∧ ∃ Nx : Hp → Prop, (∀ A', Nx A' → ∃ m', m' < m ∧ W (i + 1) m' A') ∧ ∀ x B, J.yld i A x B → g x (wipe σ vs) B fun σ2 H2 => wipe σ2 vs = wipe σ vs ∧
    tk σ2 H2 fun y H4 => tv σ2 H4 fun z H5 => ∃ kvs k b, y = .ref b ∧ H5 b = some (.tup (k.map kV)) ∧ H5 D = some (.dT kvs) ∧ kvs.length < sizeLine ∧ Nx (upd H5 D (.dT (putK kvs k z))))
theorem pe_dcT {kx vx tg iter : Expr} {scope : Scope} {own : List (Str × Nat)} {pos : Pos} {wi : TI} {g : TG} {tk tv : TE} (hu : X.A.units + 1 < cLine) (hc : X.calm = true) (hN : X.N.Nodup) (hi : PI X tg iter wi) (ok : BlkOk X.N X.env.scope scope own)
    (hg : ∀ (s : Shared) (H : Hp) (C : Addr) (cl : List (Str × Addr)) (fp : List Addr), PG (X.blk s H scope (compEnvC scope cl C X.env) fp) tg g)
    (hk : ∀ (s : Shared) (H : Hp) (C : Addr) (cl : List (Str × Addr)) (fp : List Addr), PE (X.blk s H scope (compEnvC scope cl C X.env) fp) kx tk)
    (he : ∀ (s : Shared) (H : Hp) (C : Addr) (cl : List (Str × Addr)) (fp : List Addr), PE (X.blk s H scope (compEnvC scope cl C X.env) fp) vx tv) (hs : ∀ x, foldedSetIterable iter X.env x = pure x := by intro _; rfl) :
    PE X (.DictComp kx vx [⟨tg, iter, [], 0⟩] scope pos) (tDcT wi g tk tv (own.map (·.2))) := by
  refine ⟨fun pins s σ H Q I h => ?_⟩
  rw [arm_eval_DictComp]
  have caps : ∀ y ∈ scope.names, y.2 = .free → ∃ c, X.env.cells.lookup y.1 = some c := fun y hy e => I.ok.has _ (ok.free y hy e)
  refine wpAny_comprehension_free (use := none) rfl hs (closure_ok caps) ok.kind (fun y hy e => by rw [ok.uniq y hy, e])
    (thn (hi.run pins s σ H _ I h) fun xv s1 hx => thn hx fun itv s2 h2 => ?_)
  obtain ⟨it, fp, tn, J, H2, rfl, I2, T, st2, f2, q⟩ := h2
  refine wpAny_newObj_type (newEnv_comp ?_)
  generalize hD : s2.heap.objs.size = D
  obtain ⟨W, ⟨m0, w0⟩, turn⟩ := q D (I2.hok.fresh (Nat.le_of_eq hD))
  generalize hs3 : ({ s2 with heap := s2.heap.push { cls := .type "dict", data := .dict #[] } } : Shared) = s3
  have e3 : s3.heap = s2.heap.push { cls := .type "dict", data := .dict #[] } := by subst hs3; rfl
  have I3 : Inv X pins σ (upd H2 D (.dT [])) s3 := by
    subst hs3
    refine I2.laid (t' := s2.toks) (fun b o e => Heap.get?_push_of_some _ e) (Nat.le_of_eq hD) ?_
    subst hD
    exact dt_empty s2.heap I2.big
  have lts : ∀ b ∈ fp, b < s2.heap.objs.size := fun b hb => let ⟨o, e, _⟩ := T.obj _ _ st2 b hb; Heap.lt_size e
  have f3 : ∀ b ∈ fp, FpOk X pins (upd H2 D (.dT [])) b ∧ b < s3.heap.objs.size := fun b hb => by
    refine ⟨⟨?_, (f2 b hb).2⟩, by rw [e3, Heap.size_push]; exact Nat.lt_succ_of_lt (lts b hb)⟩
    rw [upd_ne (by rw [← hD]; exact Nat.ne_of_lt (lts b hb))]
    exact (f2 b hb).1
  have st3 : tn 0 s3.heap := T.keep _ _ _ st2 fun b _ o e => by rw [e3]; exact Heap.get?_push_of_some _ e
  have I4 := block_start I3 ok hN f3
  show codeAny _ _ (.compStart (.DictComp kx vx [⟨tg, iter, [], 0⟩] scope pos) 0 (.ref it) (.ref D) (compEnvC scope (cellsFrom (s3.heap.objs.size + 1) scope.names (cloFrom X.env.cells scope.names [])) s3.heap.objs.size X.env)) (compPost (model X.prog X.w) X.A X.xe none (EP X pins σ Q) (.ref D) s3.heap.objs.size)
    { s3 with heap := pushCells (s3.heap.push { cls := .type "dict", data := .dict #[] }) scope.names }
  generalize hce : compEnvC scope (cellsFrom (s3.heap.objs.size + 1) scope.names (cloFrom X.env.cells scope.names [])) s3.heap.objs.size X.env = ce at I4 ⊢
  have pg : PG (X.blk s3 (upd H2 D (.dT [])) scope ce fp) tg g := hce ▸ hg s3 _ s3.heap.objs.size _ fp
  have pk : PE (X.blk s3 (upd H2 D (.dT [])) scope ce fp) kx tk := hce ▸ hk s3 _ s3.heap.objs.size _ fp
  have pe : PE (X.blk s3 (upd H2 D (.dT [])) scope ce fp) vx tv := hce ▸ he s3 _ s3.heap.objs.size _ fp
  have cL : ce.locals = s3.heap.objs.size := by subst hce; rfl
  have nfp : ∀ b ∈ fp, (upd H2 D (.dT [])) b = none := fun b hb => (f3 b hb).1.1
  generalize hH3 : upd H2 D (.dT []) = H3 at I3 I4 pg pk pe w0 nfp f3
  generalize hs4 : ({ s3 with heap := pushCells (s3.heap.push { cls := .type "dict", data := .dict #[] }) scope.names } : Shared) = s4 at I4 ⊢
  have st4 : tn 0 s4.heap := T.keep _ _ _ st3 fun b _ o e => by subst hs4; exact pushCells_keeps _ _ _ _ (Heap.get?_push_of_some _ e)
  have huB : (X.blk s3 H3 scope ce fp).A.units + 1 < cLine := hu
  have still : ∀ {τ : L2.St} {B : Hp} {r : Shared}, Inv (X.blk s3 H3 scope ce fp) [] τ B r → (∀ b ∈ fp, B b = none) → ∀ b ∈ fp, FpOk (X.blk s3 H3 scope ce fp) [] B b := fun {τ B r} IB hn b hb =>
    ⟨hn b hb, (IB.ok.exf b hb).1, IB.ok.exfs b hb, .inl hb, fun x c e => (IB.ok.exf b hb).2 x c e, fun p hp => absurd (show p ∈ ([] : List (Addr × Obj)) ++ [] from hp) (by simp)⟩
  have loop : codeAny (model X.prog X.w) X.A (.compLoop (.DictComp kx vx [⟨tg, iter, [], 0⟩] scope pos) 0 (.ref it) (.ref D) ce) (compPost (model X.prog X.w) X.A X.xe none (EP X pins σ Q) (.ref D) s3.heap.objs.size) s4 := by
    refine compLoop_anyD (fun n r => ∃ i B, Inv (X.blk s3 H3 scope ce fp) [] (wipe σ (own.map (·.2))) B r ∧ tn i r.heap ∧ (∀ b ∈ fp, B b = none) ∧ W i n B) ?_ m0 ⟨0, H3, I4, st4, nfp, w0⟩
    rintro n s5 ⟨i, H5, I5, st5, n5, w5⟩
    rcases turn i n H5 w5 with ⟨stop, qq⟩ | ⟨go, Nx, hNx, step⟩
    · refine thnF (T.done (X.blk s3 H3 scope ce fp) rfl rfl rfl hc i [] s5 _ H5 (fun _ _ => False) I5 (still I5 n5) st5 stop) fun r s6 ⟨hr, I6⟩ => ?_
      subst hr
      have I7 : Inv X pins σ H5 s6 := I3.call' (ch := fp) I6.os I6.base I6.hok I6.bare fun b hb => ⟨(f3 b hb).1.2.2.2.1, (f3 b hb).1.2.1, (f3 b hb).1.2.2.2.2.1, (f3 b hb).1.2.2.2.2.2⟩
      have nC : H5 s3.heap.objs.size = none := by
        have z : H5 ce.locals = none := I6.free
        rwa [cL] at z
      obtain ⟨m, hn, _⟩ := I6.loc
      have hn : s6.heap.Ns ce.locals m := hn
      rw [cL] at hn
      refine ⟨m, hn, fun h'' sb => ?_⟩
      obtain ⟨k0, k1, k2, k3, k4, k5⟩ := I3.fpOk (b := s3.heap.objs.size) (Nat.le_refl _) (I3.hok.fresh (Nat.le_refl _))
      exact ⟨.ref D, H5, I7.turned (t' := s6.toks) (fun b o hb e => (sb.2 b hb).trans e) nC k1 k3 k4 k5, rfl, qq⟩
    · refine thnF (T.item (X.blk s3 H3 scope ce fp) rfl rfl rfl hc i [] s5 _ H5 (fun _ _ => False) I5 (still I5 n5) st5 go) fun r s6 ⟨u, hr, h6⟩ => ?_
      subst hr
      refine thnF h6 fun _ s7 ⟨x, H7, I7, r7, y7, st7, n7⟩ => ?_
      refine thnF (pg.run _ s7 _ H7 x u _ (I7.pinned (still I7 n7) (T.obj _ _ st7)) r7 (step x H7 y7)) fun _ s8 ⟨σ8, H8, I8, hw8, q8⟩ => ?_
      simp only [List.forIn_nil]
      refine wpAny_pure ?_
      rw [if_pos rfl]
      refine thnF (pk.run _ s8 σ8 H8 _ I8 q8) fun z s10 ⟨yk, H10, I10, r10, q10⟩ => ?_
      refine thnF (pe.run _ s10 σ8 H10 _ I10 q10) fun z2 s11 ⟨yv, H11, I11, r11, kvs, k, b, ek, hb11, hD11, hz11, nx⟩ => ?_
      subst ek
      obtain rfl : z = Value.ref b := r10
      refine dset_tup (X := X.blk s3 H3 scope ce fp) huB I11 hD11 hb11 hz11 r11 fun s12 I12 => ?_
      obtain ⟨m', hm, w'⟩ := hNx _ nx
      have pin' : ∀ b ∈ fp, ∀ o, s7.heap.get? b = some o → s12.heap.get? b = some o ∧ (upd H11 D (.dT (putK kvs k yv))) b = none := fun b hb o e =>
        let z := I12.pin (b, o) (List.mem_append_right _ (List.mem_append_right _ (mem_pinsAt hb e)))
        ⟨z.1, z.2.1⟩
      have hl : (wipe σ (own.map (·.2))).length = σ8.length := by rw [← hw8, wipe_length]
      refine ⟨m', hm, i + 1, _, (I12.unpinned (pins := [])).weak hl (fun j v e => ?_), T.keep _ _ _ st7 fun b hb o e => (pin' b hb o e).1, fun b hb => ?_, w'⟩
      · rw [← hw8] at e
        exact (wipe_some e).1
      · obtain ⟨o, e, _⟩ := T.obj _ _ st7 b hb
        exact (pin' b hb o e).2
  exact codeAny_compStart_dict loop (T.self X.A 0 _ _ _ st4 loop)
end
end Km
set_option Elab.async false
set_option linter.all false
set_option maxRecDepth 100000
set_option maxHeartbeats 4000000
set_option autoImplicit false
namespace Km
open PySem PySem.Spec PyProof.Rows L2 StX SlX
/-! ### equality of words -/
theorem eqvAll_ints : ∀ a b : List Int, PyData.eqvAll (a.map .int) (b.map .int) = decide (a = b)
  | [], [] => by simp [PyData.eqvAll]
  | [], _ :: _ => by simp [PyData.eqvAll]
  | _ :: _, [] => by simp [PyData.eqvAll]
  | x :: a, y :: b => by
    have ih := eqvAll_ints a b
    simp only [List.map_cons, PyData.eqvAll, PyData.eqv, ih]
    rw [Bool.eq_iff_iff]; simp
theorem eqv_word (a b : List Int) : PyData.eqv (dW a) (dW b) = decide (a = b) := by
  have := eqvAll_ints a b
  show PyData.eqv (.tuple _) (.tuple _) = _
  rw [PyData.eqv]; exact this
theorem room65 {k : Nat} {A : Around} (hr : Room k A) : A.units + 65 < cLine := by have := hr.un; omega
theorem hu_of0 {k : Nat} {A : Around} (hr : Room k A) : A.units + 1 < cLine := by have := hr.un; omega
/-! ### dicts whose keys are words -/
abbrev kW (u : List Int) : List Key := u.map Sum.inl
theorem kW_V (u : List Int) : (kW u).map kV = u.map V.int := by rw [List.map_map]; rfl
theorem kW_inj {u v : List Int} (h : kW u = kW v) : u = v := by
  have : ∀ (u v : List Int), kW u = kW v → u = v := by
    intro u
    induction u with
    | nil => intro v h; cases v with
      | nil => rfl
      | cons _ _ => cases h
    | cons a r ih => intro v h; cases v with
      | nil => cases h
      | cons b s =>
        have h1 := List.cons.inj h
        rw [Sum.inl.inj h1.1, ih s h1.2]
  exact this u v h
/-- the dict's keys are the words of l -/
structure DKeys (kvs : List (List Key × V)) (l : List (List Int)) : Prop where
  sub : ∀ q ∈ kvs, ∃ u ∈ l, q.1 = kW u
  sup : ∀ u ∈ l, ∃ v, (kW u, v) ∈ kvs
theorem DKeys.put {kvs : List (List Key × V)} {l : List (List Int)} (h : DKeys kvs l) (u : List Int) (v : V) : DKeys (putK kvs (kW u) v) (l ++ [u]) := by
  unfold putK
  split
  · rename_i hany
    refine ⟨fun q hq => ?_, fun x hx => ?_⟩
    · obtain ⟨q', hq', rfl⟩ := List.mem_map.mp hq
      obtain ⟨y, hy, e⟩ := h.sub q' hq'
      refine ⟨y, List.mem_append_left _ hy, ?_⟩
      split <;> exact e
    · rcases List.mem_append.mp hx with hx | hx
      · obtain ⟨v', hv'⟩ := h.sup x hx
        by_cases e : kW x = kW u
        · exact ⟨v, List.mem_map.mpr ⟨_, hv', by rw [if_pos e]⟩⟩
        · exact ⟨v', List.mem_map.mpr ⟨_, hv', by rw [if_neg e]⟩⟩
      · rw [List.mem_singleton.mp hx]
        obtain ⟨q, hq, e⟩ := List.any_eq_true.mp hany
        have e := of_decide_eq_true e
        exact ⟨v, List.mem_map.mpr ⟨q, hq, by rw [if_pos e, e]⟩⟩
  · refine ⟨fun q hq => ?_, fun x hx => ?_⟩
    · rcases List.mem_append.mp hq with hq | hq
      · obtain ⟨y, hy, e⟩ := h.sub q hq
        exact ⟨y, List.mem_append_left _ hy, e⟩
      · rw [List.mem_singleton.mp hq]
        exact ⟨u, by simp, rfl⟩
    · rcases List.mem_append.mp hx with hx | hx
      · obtain ⟨v', hv'⟩ := h.sup x hx
        exact ⟨v', List.mem_append_left _ hv'⟩
      · rw [List.mem_singleton.mp hx]
        exact ⟨v, by simp⟩
theorem DKeys.nil : DKeys [] [] := ⟨nofun, nofun⟩
theorem Gr.mutN {H J0 J : Hp} {p : Addr} {o : HO} (g0 : Gr H J0) (hn : J0 p = none) (g : Gr H J) : Gr H (upd J p o) :=
  ⟨fun a u e n => by rw [upd_ne (ne_of_none (g0.keep a u e n) hn)]; exact g.keep a u e n,
   fun a ps e t => by
    obtain ⟨rs, h0, t0⟩ := g0.tabs a ps e t
    obtain ⟨qs, h1, t1⟩ := g.tabs a ps e t
    exact ⟨qs, by rw [upd_ne (ne_of_none h0 hn)]; exact h1, t1⟩⟩
/-- {t: True for t in words} -/
theorem pu_dcW {σ : L2.St} {H : Hp} {wi : TI} {vs : List Nat} {l : List (List Int)} {j : Nat} (hs : SrcL wi σ H l fun u x B => Dr B x (dW u)) (hl : l.length ≤ 1000000) (hw : ∀ x, wipe ((wipe σ vs).set j (some x)) vs = wipe σ vs) (hj : j < (wipe σ vs).length) :
    Pu (tDcT wi (gName j) (tVar j) (tC (.bl true)) vs) σ H fun v J => ∃ D kvs J0, v = .ref D ∧ J D = some (.dT kvs) ∧ DKeys kvs l ∧ (l.Nodup → kvs.length = l.length) ∧ Gr H J0 ∧ J0 D = none ∧ kvs.length ≤ l.length ∧ Gr J0 J := fun H0 e0 Q q => hs H0 e0 _ fun I H1 g1 w D hD => by
  refine ⟨fun i m A => m = l.length - i ∧ i ≤ l.length ∧ Gr H1 A ∧ ∃ kvs, A D = some (.dT kvs) ∧ DKeys kvs (l.take i) ∧ kvs.length ≤ i ∧ (l.Nodup → kvs.length = i), ⟨l.length, rfl, Nat.zero_le _, .new hD, [], upd_same, by rw [List.take_zero]; exact .nil, Nat.zero_le _, fun _ => rfl⟩, ?_⟩
  rintro i m A ⟨rfl, hi, ga, kvs, ea, dk, hle, hlen⟩
  by_cases hlt : i < l.length
  · refine .inr ⟨w.goes i A hlt ga, fun A' => Gr H1 A' ∧ ∃ kvs, A' D = some (.dT kvs) ∧ DKeys kvs (l.take (i + 1)) ∧ kvs.length ≤ i + 1 ∧ (l.Nodup → kvs.length = i + 1), fun A' p' => ⟨l.length - (i + 1), by omega, rfl, hlt, p'⟩, fun x B y => ?_⟩
    obtain ⟨gab, a, ha, hR⟩ := w.yields i A x B hlt ga y
    obtain ⟨b, rfl, hb⟩ := dr_word hR
    have eD := gab.keep _ _ ea True.intro
    refine ⟨hw _, .ref b, by rw [List.getElem?_set_self hj], kvs, kW a, b, rfl, by rw [kW_V]; exact hb, eD, ?_, (ga.trans gab).mut hD, putK kvs (kW a) (.bl true), upd_same, ?_, ?_, fun hn => ?_⟩
    · exact Nat.lt_of_le_of_lt (Nat.le_trans hle (Nat.le_trans hi hl)) (by decide)
    · rw [take_more ha]; exact dk.put a _
    · have := length_putK kvs (kW a) (.bl true)
      exact Nat.le_trans this (Nat.succ_le_succ hle)
    · rw [putK_new, List.length_append, hlen hn]; rfl
      refine valV_none fun qv hq e => ?_
      obtain ⟨u, hu, e2⟩ := dk.sub qv hq
      have hua : u = a := kW_inj (e2.symm.trans e)
      subst hua
      obtain ⟨k, hk, e3⟩ := List.getElem_of_mem hu
      rw [List.getElem_take] at e3
      have hk2 : k < i := by rw [List.length_take] at hk; omega
      have h1 : l[k]? = l[i]? := by rw [ha, List.getElem?_eq_getElem (by omega), e3]
      exact absurd ((List.getElem?_inj (by omega) hn).mp h1) (by omega)
  · obtain rfl : i = l.length := by omega
    rw [List.take_length] at dk
    exact .inl ⟨w.stops A ga, q _ A (g1.trans ga) ⟨D, kvs, H1, rfl, ea, dk, hlen, e0.trans g1, hD, hle, ga⟩⟩
theorem pud_lenDT {K : PySem.W.Frag} {σ : L2.St} {H : Hp} {te : TE} {n : Nat} (h : Pu te σ H fun v J => ∃ D kvs, v = .ref D ∧ J D = some (.dT kvs) ∧ kvs.length = n) : PuD K (tCB rLenT (tCons te tNil)) σ H (.int (n : Int)) :=
  fun H1 e Q q => h H1 e _ fun v J g p => by
    obtain ⟨D, kvs, rfl, hD, hn⟩ := p
    subst hn
    exact ⟨D, kvs, rfl, hD, q _ J g (.int _)⟩
theorem drs1 {H : Hp} {vs : List V} {d0 : PyData} (h : DrAll H vs [d0]) : ∃ v0, vs = [v0] ∧ Dr H v0 d0 := by obtain _ | ⟨h0, _ | _⟩ := h; exact ⟨_, rfl, h0⟩
theorem drs2 {H : Hp} {vs : List V} {d0 d1 : PyData} (h : DrAll H vs [d0, d1]) : ∃ v0 v1, vs = [v0, v1] ∧ Dr H v0 d0 ∧ Dr H v1 d1 := by obtain _ | ⟨h0, _ | ⟨h1, _ | _⟩⟩ := h; exact ⟨_, _, rfl, h0, h1⟩
theorem drs3 {H : Hp} {vs : List V} {d0 d1 d2 : PyData} (h : DrAll H vs [d0, d1, d2]) : ∃ v0 v1 v2, vs = [v0, v1, v2] ∧ Dr H v0 d0 ∧ Dr H v1 d1 ∧ Dr H v2 d2 := by obtain _ | ⟨h0, _ | ⟨h1, _ | ⟨h2, _ | _⟩⟩⟩ := h; exact ⟨_, _, _, rfl, h0, h1, h2⟩
theorem drs4 {H : Hp} {vs : List V} {d0 d1 d2 d3 : PyData} (h : DrAll H vs [d0, d1, d2, d3]) : ∃ v0 v1 v2 v3, vs = [v0, v1, v2, v3] ∧ Dr H v0 d0 ∧ Dr H v1 d1 ∧ Dr H v2 d2 ∧ Dr H v3 d3 := by obtain _ | ⟨h0, _ | ⟨h1, _ | ⟨h2, _ | ⟨h3, _ | _⟩⟩⟩⟩ := h; exact ⟨_, _, _, _, rfl, h0, h1, h2, h3⟩
theorem pu_isR {te : TE} {σ : L2.St} {H : Hp} {d d2 : PyData} (h : PuR te σ H d) (e : d = d2) : PuR te σ H d2 := e ▸ h
/-- words of classes -/
structure Wds (p : Int) (n : Nat) (ws : List (List Int)) : Prop where
  wr : ∀ u ∈ ws, WR p u
  len : ∀ u ∈ ws, u.length = n
  nz : ∀ u ∈ ws, isZ u = false
  nd : (ws.map (norm p)).Nodup
  few : ws.length ≤ 64
section
variable {P : Program} {w : World} {K : PySem.W.Frag} {mg : Str → Option Value} {base : Heap} {T1 T2 c1 c2 CP CR fR cda cc : Addr}
/-- a tuple of words; or the empty tuple that stood there from the start -/
def TupW (K : PySem.W.Frag) (H : Hp) (v : V) (ws : List (List Int)) : Prop := Dr H v (.tuple (ws.map dW)) ∨ (ws = [] ∧ Dp K H v (.tuple []))
theorem TupW.dp {H : Hp} {v : V} {ws : List (List Int)} (h : TupW K H v ws) : Dp K H v (.tuple (ws.map dW)) := by
  rcases h with h | ⟨rfl, h⟩
  · exact dr_dp h
  · exact h
theorem TupW.gr {H J : Hp} {v : V} {ws : List (List Int)} (g : Gr H J) (h : TupW K H v ws) : TupW K J v ws := by
  rcases h with h | ⟨rfl, h⟩
  · exact .inl (dr_gr g h)
  · exact .inr ⟨rfl, dp_gr g h⟩
theorem TupW.src {H : Hp} {v : V} {ws : List (List Int)} {σ : L2.St} {i : Nat} (h : TupW K H v ws) (hv : σ[i]? = some (some v)) : SrcL (iTup K (tVar i)) σ H ws fun u x B => Dr B x (dW u) := by
  rcases h with h | ⟨rfl, h⟩
  · exact src_tupR (enc := dW) (pur_var hv h)
  · intro H0 e0 C c
    exact (src_tup (K := K) (l := ([] : List (List Int))) (enc := dW) (pud_var hv h)) H0 e0 C fun J H1 g w => c J H1 g (w.mono (fun _ x => x) fun i A x B hi ga y => by
      obtain ⟨_, a, ha, _⟩ := y
      cases ha)
theorem pu_call {sp : Sp} {E : XK} {ta : TA} {σ : L2.St} {H : Hp} {A : List V → Hp → Prop} {R : V → Hp → Prop} (h : PuA ta σ H A) (hs : ∀ vs J (Q : VK), Gr H J → A vs J → (∀ v J', Gr J J' → R v J' → Q v J') → sp vs J Q E) : Pu (tCall sp [] E ta) σ H R :=
  fun H1 e Q q => h H1 e _ fun vs J g a => by
    show sp (vs ++ []) J Q E
    rw [List.append_nil]
    exact hs vs J Q (e.trans g) a fun v J' g' p => q v J' (g.trans g') p
theorem pua3 {a b c : TE} {σ : L2.St} {H : Hp} {v0 v1 v2 : V} (h0 : Pu a σ H fun x _ => x = v0) (h1 : Pu b σ H fun x _ => x = v1) (h2 : Pu c σ H fun x _ => x = v2) : PuA (tCons a (tCons b (tCons c tNil))) σ H fun vs _ => vs = [v0, v1, v2] :=
  fun H1 e Q q => h0 H1 e _ fun _ J g p => h1 J (e.trans g) _ fun _ J2 g2 p2 => h2 J2 (e.trans (g.trans g2)) _ fun _ J3 g3 p3 => q _ J3 (g.trans (g2.trans g3)) (by rw [p, p2, p3])
theorem pua4 {a b c d : TE} {σ : L2.St} {H : Hp} {v0 v1 v2 v3 : V} (h0 : Pu a σ H fun x _ => x = v0) (h1 : Pu b σ H fun x _ => x = v1) (h2 : Pu c σ H fun x _ => x = v2) (h3 : Pu d σ H fun x _ => x = v3) : PuA (tCons a (tCons b (tCons c (tCons d tNil)))) σ H fun vs _ => vs = [v0, v1, v2, v3] :=
  fun H1 e Q q => h0 H1 e _ fun _ J g p => h1 J (e.trans g) _ fun _ J2 g2 p2 => h2 J2 (e.trans (g.trans g2)) _ fun _ J3 g3 p3 => h3 J3 (e.trans (g.trans (g2.trans g3))) _ fun _ J4 g4 p4 => q _ J4 (g.trans (g2.trans (g3.trans g4))) (by rw [p, p2, p3, p4])
def spClassesIn (K : PySem.W.Frag) (T1 T2 : Addr) : Sp := fun vs H Q _ => ∃ (p : Int) (n : Nat) (ws : List (List Int)) (v : V), vs = [.int p, .int (n : Int), v] ∧ TupW K H v ws ∧ Prm p ∧ n ≤ 1000 ∧ Wds p n ws ∧ TT T1 T2 H ∧ ∀ v J, Gr H J → Dr J v (.list ((ws.map (norm p)).map dW)) → Q v J
abbrev s_classes_in : Stmt := top 44
theorem sc_classes_in : FnScope ["p", "many", "value", "good", "found", "word"] ["p", "many", "value"] (defScope s_classes_in) := ⟨rfl, rfl, rfl, by decide +kernel, rfl, by decide +kernel, by decide +kernel⟩
theorem ok_classes_in (B : Bl mg) (C : Cn K mg) (o_is_word_in : Ok P w K mg base CX0 3 "is_word_in" ["p", "many", "value"] (spWordIn K)) (o_is_zero : Ok P w K mg base CX0 1 "is_zero" ["word"] (spIsZero K)) (o_normal_of : Ok P w K mg base CX0 2 "normal_of" ["p", "word"] (spNormal T1 T2))
    (D : Df K mg "classes_in" s_classes_in ["p", "many", "value"]) : Ok P w K mg base CX0 4 "classes_in" ["p", "many", "value"] (spClassesIn K T1 T2) := by
  refine D.ok fun f fd F => F.ok sc_classes_in (fun vs H Q E h => by obtain ⟨_, _, _, _, rfl, _⟩ := h; rfl) ?_
  rintro cdv A outer s H vs Q E hr ⟨p, n, ws, v2, rfl, h2, hp, hn, hw, hT, k⟩
  have h0 : Dr H (.int p) (.int p) := .int p
  have h1 : Dr H (.int (n : Int)) (.int (n : Int)) := .int _
  have hu := hu_of0 hr
  have hfew := hw.few
  refine ⟨_, (pss_cons (ps_set (i := 3) sc_classes_in.nd rfl (Or.inl rfl) (pe_and (pe_callB call_isi (by rfl) B.isinstance boot_isinstance (pa_cons (pv 2) (pa_cons (pe_bltn (v := .ty "tuple") (by rfl) B.tuple boot_tuple rfl) pa_nil))) (pe_one (pe_cmpR op_le (pe_callB call_len_seq (by rfl) B.len boot_len (pa_cons (pv 2) pa_nil)) (pe_glob (v := (.int 64)) rfl C.MOST_WANTED.choose_spec ⟨_, rfl⟩) (nomark _))))) (pss_cons (ps_if (PW.pt (pw_or (pt_not (pt_val (pv 3))) (pw_or1 (pt_not (pt_val (pe_callB (cr_all rfl) (by rfl) B.all boot_all (pa_cons (pe_lc (own := [("word", 5)]) (g := (gName 5)) (tt := tYes) rfl sc_classes_in.nd (pi_tup (pv 2)) (blkOk_by (N := ["p", "many", "value", "good", "found", "word"]) (sc := defScope s_classes_in) (by decide +kernel)) (fun _ _ _ _ _ => pg_name (i := 5) sc_classes_in.nd rfl (Or.inl rfl)) (fun _ _ _ _ _ => pts_nil) (fun _ _ _ _ _ => (pe_and (pe_ok o_is_word_in (hr.mono (by decide)) (by rfl) pass0 (pa_cons (pv 0) (pa_cons (pv 1) (pa_cons (pv 5) pa_nil)))) (pe_one (pe_not (pe_ok o_is_zero (hr.mono (by decide)) (by rfl) pass0 (pa_cons (pv 5) pa_nil))))))) pa_nil))))))) (pss_one ps_never) pss_nil) (pss_cons (ps_setLc (i := 4) (own := [("word", 5)]) (g := (gName 5)) (tt := tYes) rfl sc_classes_in.nd rfl rfl (sw_true rfl rfl rfl (by decide +kernel)) (pi_tup (pv 2)) (blkOk_by (N := ["p", "many", "value", "good", "found", "word"]) (sc := defScope s_classes_in) (by decide +kernel)) (fun _ _ _ _ _ => pg_name (i := 5) sc_classes_in.nd rfl (Or.inl rfl)) (fun _ _ _ _ _ => pts_nil) (fun _ _ _ _ _ => (pe_ok o_normal_of (hr.mono (by decide)) (by rfl) pass0 (pa_cons (pv 0) (pa_cons (pv 5) pa_nil))))) (pss_cons (ps_if (pt_cmpR op_lt (pe_callB call_len_dT (by rfl) B.len boot_len (pa_cons (pe_dcT hu (own := [("word", 5)]) (g := (gName 5)) rfl sc_classes_in.nd (pi_list (pv 4)) (blkOk_by (N := ["p", "many", "value", "good", "found", "word"]) (sc := defScope s_classes_in) (by decide +kernel)) (fun _ _ _ _ _ => pg_name (i := 5) sc_classes_in.nd rfl (Or.inl rfl)) (fun _ _ _ _ _ => (pv 5)) (fun _ _ _ _ _ => pe_bl)) pa_nil)) (pe_callB call_len_seq (by rfl) B.len boot_len (pa_cons (pv 4) pa_nil)) (nomark _)) (pss_one ps_never) pss_nil) (pss_one (ps_ret (pv 4))))))), ?_⟩
  refine sq_set (P := fun v J => Dp K J v (.bool true)) (pud_is (pud_and (pud_isTT (pud_var rfl h2.dp) pu_c) fun _ => pud_opI (g := fun i j => .bl (decide (i ≤ j))) (dv := .bool (decide (((ws.map dW).length : Int) ≤ 64))) (pud_lenT (pds_one (pud_var rfl h2.dp))) pud_int fun _ => .bl _) ?_) fun v3 J1 g1 hv3 => ?_
  · rw [List.length_map, decide_eq_true (by omega)]; rfl
  dsimp only [tSeq, tNext]
  refine sq_if (b := false) (pb_is (pb_or (pb_not (pb_B (pud_var rfl hv3))) fun _ => pb_not (pb_B (pud_all (ns := ws.map fun _ => true) (pds_one (pud_is (pu_lcN (src_tup (enc := dW) (pud_var rfl (h2.gr g1).dp)) (by omega) (el := fun _ => .bool true) (fun _ _ => rfl) (fun _ => rfl) fun u hum y J9 g9 hy => ?_) ?_))))) ?_) nofun fun _ J2 g2 => ?_
  · refine pud_is (pud_and (a := true) (b := true) (pud_call (G := gT) (gives ⟨p, n, u, rfl, hp, hw.len u hum, hn, hw.wr u hum, rfl⟩) (pds_cons (pud_var rfl (dr_dp (dr_gr (g1.trans g9) h0))) (pds_cons (pud_var rfl (dr_dp (dr_gr (g1.trans g9) h1))) (pds_one (pud_var rfl hy)))) fun _ _ => trivial) fun _ => pud_is (pud_not (pud_call (G := gT) (gives ⟨u, rfl, by rw [hw.len u hum]; exact hn, rfl⟩) (pds_one (pud_var rfl hy)) fun _ _ => trivial)) ?_) rfl
    rw [hw.nz u hum]; rfl
  · rw [List.map_map]; rfl
  · rw [all_true]; rfl
  dsimp only [tSeq, tNext]
  have g12 := g1.trans g2
  refine sq_set (P := fun v J => Dr J v (.list ((ws.map (norm p)).map dW))) (pu_isR (pur_lcN (K := K) ((h2.gr g12).src rfl) (by omega) (el := fun u => dW (norm p u)) (fun u => lf_word _) (fun _ => rfl) fun u hum y J9 g9 hy => ?_) ?_) fun v4 J3 g3 hv4 => ?_
  · exact pur_callR (G := TT T1 T2) (show _ from ⟨p, u, rfl, hp, hw.wr u hum, by rw [hw.len u hum]; exact hn, rfl⟩) (prs_cons (pur_var rfl (dr_gr (g12.trans g9) h0)) (prs_one (pur_var rfl hy))) fun J g => hT.gr (g12.trans (g9.trans g))
  · rw [List.map_map]; rfl
  dsimp only [tSeq, tNext]
  have hlen : (ws.map (norm p)).length = ws.length := List.length_map _
  refine sq_if (b := false) (pb_is (pb_test (pud_opI (g := fun i j => .bl (decide (i < j))) (dv := .bool (decide (((ws.map (norm p)).length : Int) < (((ws.map (norm p)).map dW).length : Int)))) (pud_lenDT (Pu.imp (pu_dcW (l := ws.map (norm p)) (src_listR (K := K) (enc := dW) (pur_var rfl hv4)) (by omega) (fun _ => rfl) ?_) fun v J g h => ?_)) (pud_lenL (pds_one (pud_var rfl (dr_dp hv4)))) fun _ => .bl _)) ?_) nofun fun _ J4 g4 => ?_
  · show 5 < 6
    decide
  · obtain ⟨D, kvs, J0, e, hD, _, hl, _⟩ := h
    exact ⟨D, kvs, e, hD, hl hw.nd⟩
  · simp
  dsimp only [tSeq, tNext]
  exact sq_ret (pur_var rfl (dr_gr g4 hv4)) fun v J5 g5 hv => k v J5 (g12.trans (g3.trans (g4.trans g5))) hv
theorem lay_ints : ∀ u : List Int, PyData.canLayAll0 (u.map .int) = true ∧ PyData.depthAll (u.map .int) = PyData.depthAll []
  | [] => by simp [PyData.canLayAll0]
  | a :: r => by
    have ih := lay_ints r
    simp only [List.map_cons, PyData.canLayAll0, PyData.depthAll, PyData.canLay0, PyData.depth, ih.1, ih.2, Bool.and_self, true_and]
    simp [PyData.depthAll]
theorem lay_word (u : List Int) : (dW u).canLay0 = true ∧ (dW u).depth ≤ 2 := by
  have h := lay_ints u
  simp only [PyData.canLay0, PyData.depth, h.1, h.2, true_and]
  simp [PyData.depthAll]
theorem lay_words : ∀ l : List (List Int), PyData.canLayAll0 (l.map dW) = true ∧ PyData.depthAll (l.map dW) ≤ 3
  | [] => by simp [PyData.canLayAll0, PyData.depthAll]
  | a :: r => by
    have ih := lay_words r
    have h := lay_word a
    refine ⟨?_, ?_⟩
    · rw [List.map_cons, PyData.canLayAll0, h.1, ih.1]; rfl
    · rw [List.map_cons, PyData.depthAll]; omega
theorem shaped_word {u : List Int} : SeqAt.shaped (dW u) = true := by
  have h := lay_word u
  unfold SeqAt.shaped
  rw [h.1, decide_eq_true (by omega)]; rfl
theorem shaped_words {l : List (List Int)} : SeqAt.shaped (.list (l.map dW)) = true := by
  have h := lay_words l
  unfold SeqAt.shaped
  rw [PyData.canLay0, h.1, decide_eq_true (by rw [PyData.depth]; omega)]; rfl
def spOthersIn (K : PySem.W.Frag) (T1 T2 : Addr) : Sp := fun vs H Q _ => ∃ (p : Int) (n : Nat) (wn ws : List (List Int)) (v2 v3 : V), vs = [.int p, .int (n : Int), v2, v3] ∧ Dr H v2 (.list (wn.map dW)) ∧ TupW K H v3 ws ∧ Prm p ∧ n ≤ 1000 ∧ Wds p n ws ∧ (∀ u ∈ ws, norm p u ∉ wn) ∧ TT T1 T2 H ∧ ∀ v J, Gr H J → Dr J v (.list ((ws.map (norm p)).map dW)) → Q v J
abbrev s_others_in : Stmt := top 45
theorem sc_others_in : FnScope ["p", "many", "wanted", "value", "found", "word"] ["p", "many", "wanted", "value"] (defScope s_others_in) := ⟨rfl, rfl, rfl, by decide +kernel, rfl, by decide +kernel, by decide +kernel⟩
theorem norm_len {p : Int} {u : List Int} : (norm p u).length = u.length := by
  unfold norm
  split
  · rfl
  · exact len_mul _ _
theorem ok_others_in (B : Bl mg) (o_classes_in : Ok P w K mg base CX0 4 "classes_in" ["p", "many", "value"] (spClassesIn K T1 T2)) (D : Df K mg "others_in" s_others_in ["p", "many", "wanted", "value"]) : Ok P w K mg base CX0 5 "others_in" ["p", "many", "wanted", "value"] (spOthersIn K T1 T2) := by
  refine D.ok fun f fd F => F.ok sc_others_in (fun vs H Q E h => by obtain ⟨_, _, _, _, _, _, rfl, _⟩ := h; rfl) ?_
  rintro cdv A outer s H vs Q E hr ⟨p, n, wn, ws, v2, v3, rfl, h2, h3, hp, hn, hw, hno, hT, k⟩
  have hfew := hw.few
  refine ⟨_, (pss_cons (ps_set (i := 4) sc_others_in.nd rfl (Or.inl rfl) (pe_ok o_classes_in (hr.mono (by decide)) (by rfl) pass0 (pa_cons (pv 0) (pa_cons (pv 1) (pa_cons (pv 3) pa_nil))))) (pss_cons (ps_if (pt_val (pe_callB (cr_any rfl) (by rfl) B.any boot_any (pa_cons (pe_lc (own := [("word", 5)]) (g := (gName 5)) (tt := tYes) rfl sc_others_in.nd (pi_list (pv 4)) (blkOk_by (N := ["p", "many", "wanted", "value", "found", "word"]) (sc := defScope s_others_in) (by decide +kernel)) (fun _ _ _ _ _ => pg_name (i := 5) sc_others_in.nd rfl (Or.inl rfl)) (fun _ _ _ _ _ => pts_nil) (fun _ _ _ _ _ => (pe_cmpR (r := rInD K) (op_inD (room65 hr)) (pv 5) (pv 2) (by rfl)))) pa_nil))) (pss_one ps_never) pss_nil) (pss_one (ps_ret (pv 4))))), ?_⟩
  refine sq_set (P := fun v J => Dr J v (.list ((ws.map (norm p)).map dW))) (pu_call (pua3 (pu_var rfl) (pu_var rfl) (pu_var rfl)) fun vs J Q g e q => ⟨p, n, ws, v3, e, h3.gr g, hp, hn, hw, hT.gr g, q⟩) fun v4 J1 g1 hv4 => ?_
  dsimp only [tSeq, tNext]
  refine sq_if (b := false) (pb_is (pb_B (pud_any (ns := (ws.map (norm p)).map fun u => wn.any fun z => decide (z = u)) (pds_one (pud_is (pu_lcN (src_list (enc := dW) (pud_var rfl (dr_dp hv4))) (by rw [List.length_map]; omega) (el := fun u => .bool (wn.any fun z => decide (z = u))) (fun _ _ => rfl) (fun _ => rfl) fun u hum y J9 g9 hy => ?_) ?_)))) ?_) nofun fun _ J2 g2 => ?_
  · obtain ⟨x, hx, rfl⟩ := List.mem_map.mp hum
    refine pud_is (pud_inD (pud_var rfl hy) (pud_var rfl (dr_dp (dr_gr (g1.trans g9) h2))) shaped_word shaped_words) ?_
    rw [List.any_map]
    congr 2
    funext z
    exact eqv_word z _
  · simp only [List.map_map]; rfl
  · rw [List.any_eq_false]
    intro b hb
    obtain ⟨u, hu, rfl⟩ := List.mem_map.mp hb
    obtain ⟨x, hx, rfl⟩ := List.mem_map.mp hu
    simp only [id, Bool.not_eq_true, List.any_eq_false, decide_eq_true_eq]
    intro z hz e
    subst e
    exact hno x hx hz
  dsimp only [tSeq, tNext]
  exact sq_ret (pur_var rfl (dr_gr g2 hv4)) fun v J5 g5 hv => k v J5 (g1.trans (g2.trans g5)) hv
end
end Km
set_option Elab.async false
set_option linter.all false
set_option maxRecDepth 100000
set_option maxHeartbeats 4000000
set_option autoImplicit false
/-! name = a dict comprehension whose keys are tuples -/
namespace Km
open PySem PySem.Spec PyProof.Rows L2
section
variable {X : Cx}
theorem dcT_core {pins : List (Addr × Obj)} {s : Shared} {σ : L2.St} {H : Hp} {Q : VK} {kx vx tg iter : Expr} {scope : Scope} {own : List (Str × Nat)} {pos pos' : Pos} {wi : TI} {g : TG} {tk tv : TE} {use : Option (Value → Sem Unit)} {Qf : Value → Shared → Prop} (hu : X.A.units + 1 < cLine) (hc : X.calm = true) (hN : X.N.Nodup) (I : Inv X pins σ H s) (hi : PI X tg iter wi) (ok : BlkOk X.N X.env.scope scope own)
    (hg : ∀ (s : Shared) (H : Hp) (C : Addr) (cl : List (Str × Addr)) (fp : List Addr), PG (X.blk s H scope (compEnvC scope cl C X.env) fp) tg g)
    (hk : ∀ (s : Shared) (H : Hp) (C : Addr) (cl : List (Str × Addr)) (fp : List Addr), PE (X.blk s H scope (compEnvC scope cl C X.env) fp) kx tk)
    (he : ∀ (s : Shared) (H : Hp) (C : Addr) (cl : List (Str × Addr)) (fp : List Addr), PE (X.blk s H scope (compEnvC scope cl C X.env) fp) vx tv) (hs : ∀ x, foldedSetIterable iter X.env x = pure x)
    (h : tDcT wi g tk tv (own.map (·.2)) σ H Q)
    (hRR : ∀ D C s' m H', Inv X pins σ H' s' → Q (.ref D) H' → s'.heap.Ns C m → FpOk X pins H' C → compPost (model X.prog X.w) X.A X.xe use Qf (.ref D) C (.ok .next) s') :
    wpAny (model X.prog X.w) X.A (comprehension (.DictComp kx vx [⟨tg, iter, [], 0⟩] scope pos) scope X.env pos' newDict false (eval iter X.env) use) Qf X.xe s := by
  have caps : ∀ y ∈ scope.names, y.2 = .free → ∃ c, X.env.cells.lookup y.1 = some c := fun y hy e => I.ok.has _ (ok.free y hy e)
  refine wpAny_comprehension_free (use := use) rfl hs (closure_ok caps) ok.kind (fun y hy e => by rw [ok.uniq y hy, e])
    (thn (hi.run pins s σ H _ I h) fun xv s1 hx => thn hx fun itv s2 h2 => ?_)
  obtain ⟨it, fp, tn, J, H2, rfl, I2, T, st2, f2, q⟩ := h2
  refine wpAny_newObj_type (newEnv_comp ?_)
  generalize hD : s2.heap.objs.size = D
  obtain ⟨W, ⟨m0, w0⟩, turn⟩ := q D (I2.hok.fresh (Nat.le_of_eq hD))
  generalize hs3 : ({ s2 with heap := s2.heap.push { cls := .type "dict", data := .dict #[] } } : Shared) = s3
  have e3 : s3.heap = s2.heap.push { cls := .type "dict", data := .dict #[] } := by subst hs3; rfl
  have I3 : Inv X pins σ (upd H2 D (.dT [])) s3 := by
    subst hs3
    refine I2.laid (t' := s2.toks) (fun b o e => Heap.get?_push_of_some _ e) (Nat.le_of_eq hD) ?_
    subst hD
    exact dt_empty s2.heap I2.big
  have lts : ∀ b ∈ fp, b < s2.heap.objs.size := fun b hb => let ⟨o, e, _⟩ := T.obj _ _ st2 b hb; Heap.lt_size e
  have f3 : ∀ b ∈ fp, FpOk X pins (upd H2 D (.dT [])) b ∧ b < s3.heap.objs.size := fun b hb => by
    refine ⟨⟨?_, (f2 b hb).2⟩, by rw [e3, Heap.size_push]; exact Nat.lt_succ_of_lt (lts b hb)⟩
    rw [upd_ne (by rw [← hD]; exact Nat.ne_of_lt (lts b hb))]
    exact (f2 b hb).1
  have st3 : tn 0 s3.heap := T.keep _ _ _ st2 fun b _ o e => by rw [e3]; exact Heap.get?_push_of_some _ e
  have I4 := block_start I3 ok hN f3
  show codeAny _ _ (.compStart (.DictComp kx vx [⟨tg, iter, [], 0⟩] scope pos) 0 (.ref it) (.ref D) (compEnvC scope (cellsFrom (s3.heap.objs.size + 1) scope.names (cloFrom X.env.cells scope.names [])) s3.heap.objs.size X.env)) (compPost (model X.prog X.w) X.A X.xe use Qf (.ref D) s3.heap.objs.size)
    { s3 with heap := pushCells (s3.heap.push { cls := .type "dict", data := .dict #[] }) scope.names }
  generalize hce : compEnvC scope (cellsFrom (s3.heap.objs.size + 1) scope.names (cloFrom X.env.cells scope.names [])) s3.heap.objs.size X.env = ce at I4 ⊢
  have pg : PG (X.blk s3 (upd H2 D (.dT [])) scope ce fp) tg g := hce ▸ hg s3 _ s3.heap.objs.size _ fp
  have pk : PE (X.blk s3 (upd H2 D (.dT [])) scope ce fp) kx tk := hce ▸ hk s3 _ s3.heap.objs.size _ fp
  have pe : PE (X.blk s3 (upd H2 D (.dT [])) scope ce fp) vx tv := hce ▸ he s3 _ s3.heap.objs.size _ fp
  have cL : ce.locals = s3.heap.objs.size := by subst hce; rfl
  have nfp : ∀ b ∈ fp, (upd H2 D (.dT [])) b = none := fun b hb => (f3 b hb).1.1
  generalize hH3 : upd H2 D (.dT []) = H3 at I3 I4 pg pk pe w0 nfp f3
  generalize hs4 : ({ s3 with heap := pushCells (s3.heap.push { cls := .type "dict", data := .dict #[] }) scope.names } : Shared) = s4 at I4 ⊢
  have st4 : tn 0 s4.heap := T.keep _ _ _ st3 fun b _ o e => by subst hs4; exact pushCells_keeps _ _ _ _ (Heap.get?_push_of_some _ e)
  have huB : (X.blk s3 H3 scope ce fp).A.units + 1 < cLine := hu
  have still : ∀ {τ : L2.St} {B : Hp} {r : Shared}, Inv (X.blk s3 H3 scope ce fp) [] τ B r → (∀ b ∈ fp, B b = none) → ∀ b ∈ fp, FpOk (X.blk s3 H3 scope ce fp) [] B b := fun {τ B r} IB hn b hb =>
    ⟨hn b hb, (IB.ok.exf b hb).1, IB.ok.exfs b hb, .inl hb, fun x c e => (IB.ok.exf b hb).2 x c e, fun p hp => absurd (show p ∈ ([] : List (Addr × Obj)) ++ [] from hp) (by simp)⟩
  have loop : codeAny (model X.prog X.w) X.A (.compLoop (.DictComp kx vx [⟨tg, iter, [], 0⟩] scope pos) 0 (.ref it) (.ref D) ce) (compPost (model X.prog X.w) X.A X.xe use Qf (.ref D) s3.heap.objs.size) s4 := by
    refine compLoop_anyD (fun n r => ∃ i B, Inv (X.blk s3 H3 scope ce fp) [] (wipe σ (own.map (·.2))) B r ∧ tn i r.heap ∧ (∀ b ∈ fp, B b = none) ∧ W i n B) ?_ m0 ⟨0, H3, I4, st4, nfp, w0⟩
    rintro n s5 ⟨i, H5, I5, st5, n5, w5⟩
    rcases turn i n H5 w5 with ⟨stop, qq⟩ | ⟨go, Nx, hNx, step⟩
    · refine thnF (T.done (X.blk s3 H3 scope ce fp) rfl rfl rfl hc i [] s5 _ H5 (fun _ _ => False) I5 (still I5 n5) st5 stop) fun r s6 ⟨hr, I6⟩ => ?_
      subst hr
      have I7 : Inv X pins σ H5 s6 := I3.call' (ch := fp) I6.os I6.base I6.hok I6.bare fun b hb => ⟨(f3 b hb).1.2.2.2.1, (f3 b hb).1.2.1, (f3 b hb).1.2.2.2.2.1, (f3 b hb).1.2.2.2.2.2⟩
      have nC : H5 s3.heap.objs.size = none := by
        have z : H5 ce.locals = none := I6.free
        rwa [cL] at z
      obtain ⟨m, hn, _⟩ := I6.loc
      have hn : s6.heap.Ns ce.locals m := hn
      rw [cL] at hn
      exact hRR D s3.heap.objs.size s6 m H5 I7 qq hn (I3.fpOk (Nat.le_refl _) nC)
    · refine thnF (T.item (X.blk s3 H3 scope ce fp) rfl rfl rfl hc i [] s5 _ H5 (fun _ _ => False) I5 (still I5 n5) st5 go) fun r s6 ⟨u, hr, h6⟩ => ?_
      subst hr
      refine thnF h6 fun _ s7 ⟨x, H7, I7, r7, y7, st7, n7⟩ => ?_
      refine thnF (pg.run _ s7 _ H7 x u _ (I7.pinned (still I7 n7) (T.obj _ _ st7)) r7 (step x H7 y7)) fun _ s8 ⟨σ8, H8, I8, hw8, q8⟩ => ?_
      simp only [List.forIn_nil]
      refine wpAny_pure ?_
      rw [if_pos rfl]
      refine thnF (pk.run _ s8 σ8 H8 _ I8 q8) fun z s10 ⟨yk, H10, I10, r10, q10⟩ => ?_
      refine thnF (pe.run _ s10 σ8 H10 _ I10 q10) fun z2 s11 ⟨yv, H11, I11, r11, kvs, k, b, ek, hb11, hD11, hz11, nx⟩ => ?_
      subst ek
      obtain rfl : z = Value.ref b := r10
      refine dset_tup (X := X.blk s3 H3 scope ce fp) huB I11 hD11 hb11 hz11 r11 fun s12 I12 => ?_
      obtain ⟨m', hm, w'⟩ := hNx _ nx
      have pin' : ∀ b ∈ fp, ∀ o, s7.heap.get? b = some o → s12.heap.get? b = some o ∧ (upd H11 D (.dT (putK kvs k yv))) b = none := fun b hb o e =>
        let z := I12.pin (b, o) (List.mem_append_right _ (List.mem_append_right _ (mem_pinsAt hb e)))
        ⟨z.1, z.2.1⟩
      have hl : (wipe σ (own.map (·.2))).length = σ8.length := by rw [← hw8, wipe_length]
      refine ⟨m', hm, i + 1, _, (I12.unpinned (pins := [])).weak hl (fun j v e => ?_), T.keep _ _ _ st7 fun b hb o e => (pin' b hb o e).1, fun b hb => ?_, w'⟩
      · rw [← hw8] at e
        exact (wipe_some e).1
      · obtain ⟨o, e, _⟩ := T.obj _ _ st7 b hb
        exact (pin' b hb o e).2
  exact codeAny_compStart_dict loop (T.self X.A 0 _ _ _ st4 loop)
theorem ps_setDcT {i : Nat} {y : Str} {py : Pos} {kx vx tg iter : Expr} {scope : Scope} {own : List (Str × Nat)} {pos spos : Pos} {wi : TI} {g : TG} {tk tv : TE} (hu : X.A.units + 1 < cLine) (hc : X.calm = true) (hN : X.N.Nodup) (hy : X.N[i]? = some y) (hyl : X.env.scope.names.lookup y = some .local)
    (hsw : swapsWith (.DictComp kx vx [⟨tg, iter, [], 0⟩] scope pos) (some (.Name y py)) spos.line X.env = pure true) (hi : PI X tg iter wi) (ok : BlkOk X.N X.env.scope scope own)
    (hg : ∀ (s : Shared) (H : Hp) (C : Addr) (cl : List (Str × Addr)) (fp : List Addr), PG (X.blk s H scope (compEnvC scope cl C X.env) fp) tg g)
    (hk : ∀ (s : Shared) (H : Hp) (C : Addr) (cl : List (Str × Addr)) (fp : List Addr), PE (X.blk s H scope (compEnvC scope cl C X.env) fp) kx tk)
    (he : ∀ (s : Shared) (H : Hp) (C : Addr) (cl : List (Str × Addr)) (fp : List Addr), PE (X.blk s H scope (compEnvC scope cl C X.env) fp) vx tv) (hs : ∀ x, foldedSetIterable iter X.env x = pure x := by intro _; rfl) :
    PS X (.Assign [.Name y py] (.DictComp kx vx [⟨tg, iter, [], 0⟩] scope pos) spos) (tAsg (tDcT wi g tk tv (own.map (·.2))) (gName i)) := by
  refine ⟨fun pins s σ H D I h => ?_⟩
  rw [exec_Assign_Name_used _ _ _ _ hsw]
  refine wpAny_bind (wpAny_standAt (wpAny_bind ?_))
  show wpAny _ X.A (do let _ ← comprehension (.DictComp kx vx [⟨tg, iter, [], 0⟩] scope pos) scope X.env (firstIterPos [⟨tg, iter, [], 0⟩] pos) newDict false (eval iter X.env) (some (assign (.Name y py) X.env))) _ _ s
  have h : tDcT wi g tk tv (own.map (·.2)) σ H (fun x H1 => gName i x σ H1 D.nx) := h
  refine wpAny_bind (thn (dcT_core (Qf := fun _ s' => SP X pins D .next s') hu hc hN I hi ok hg hk he hs h fun L C s' m H' I' q hn f => ?_) fun _ s' hq => wpAny_pure (wpAny_pure hq))
  show wpAny _ _ (assign (.Name y py) X.env (.ref L)) _ _ _
  refine wpAny_assign_Name (store_ok2 (v := V.ref L) I' hN hy (.inl hyl) rfl (fun s2 I2 ⟨a, sb, ha⟩ => ?_) (.inr hyl))
  obtain ⟨f0, f1, f2, f3, f4, f5⟩ := f
  have haC : C ≠ a := by
    rcases ha with z | z
    · rw [z]; exact f1
    · exact fun e => f4 y a z e.symm
  refine ⟨m, hn.sameBut sb haC, fun h3 sb3 => ?_⟩
  exact ⟨_, H', I2.turned (t' := s2.toks) (fun b o hb e => (sb3.2 b hb).trans e) f0 f1 f3 f4 f5, q⟩
theorem sw_trueD {kx vx : Expr} {gs : List Comprehension} {scope : Scope} {pos py : Pos} {y : Str} {l : Nat} {env : Env} (hk : env.scope.kind = .function) (hy : env.scope.names.lookup y = some .local) (hl : (py.line == pos.line) = true)
    (ha : (scope.names.any fun (n, k) => n == y && (k == .local || k == .cell)) = false) : swapsWith (.DictComp kx vx gs scope pos) (some (.Name y py)) l env = pure true := by
  have ky : env.kindOf y = some .local := hy
  have hb : env.blockKind = .function := by unfold Env.blockKind; rw [hk]; rfl
  unfold swapsWith
  simp only [hb, ky, ha, Expr.pos, hl]
  rfl
end
end Km
set_option Elab.async false
set_option linter.all false
set_option maxRecDepth 100000
set_option maxHeartbeats 4000000
set_option autoImplicit false
namespace Km
open PySem PySem.Spec PyProof.Rows L2 StX SlX
def strRow (p : Int) (a b : List Int) : List (List Int) := if b = a then [] else (List.range (p - 1).toNat).map fun (i : Nat) => norm p (sumW p a b (-(1 + (i : Int))))
def struckList (p : Int) (wn al : List (List Int)) : List (List Int) := wn ++ wn.flatMap fun a => al.flatMap (strRow p a)
theorem flatMap_take {α β : Type} {l : List α} {i : Nat} {a : α} (f : α → List β) (h : l[i]? = some a) : (l.take (i + 1)).flatMap f = (l.take i).flatMap f ++ f a := by
  rw [take_more h, List.flatMap_append, List.flatMap_singleton]
theorem drs_map_at {α : Type} {H : Hp} {vs : List V} {l : List α} {enc : α → PyData} (h : DrAll H vs (l.map enc)) {i : Nat} {x : V} (hx : vs[i]? = some x) : ∃ a, l[i]? = some a ∧ Dr H x (enc a) := by
  obtain ⟨d, hd, hp⟩ := drs_at h hx
  rw [List.getElem?_map] at hd
  obtain ⟨b, hb, e⟩ := Option.map_eq_some_iff.mp hd
  subst e; exact ⟨b, hb, hp⟩
theorem sq_forL {K : PySem.W.Frag} {tl : TE} {g : TG} {tb : TS} {D : Ends} {σ : L2.St} {H0 H : Hp} {ds : List PyData} (gH : Gr H0 H) (h : PuR tl σ H0 (.list ds))
    (k : ∀ q ys J, Gr H J → J q = some (.lst ys) → DrAll J ys ds → ∃ Pv : Nat → L2.St → Hp → Prop, Pv 0 σ J ∧ (∀ i σ A, Pv i σ A → A q = some (.lst ys)) ∧
      (∀ i x σ A, ys[i]? = some x → Pv i σ A → g x σ A fun σ2 H2 => tb { D with nx := Pv (i + 1), ct := Pv (i + 1), bk := D.nx } σ2 H2) ∧ ∀ σ A, Pv ys.length σ A → D.nx σ A) : tFor (iList K tl) g tb D σ H :=
  h H gH _ fun v J g1 hv => by
    obtain ⟨q, ys, rfl, hq, dq⟩ := dr_lst hv
    obtain ⟨Pv, h0, hl, hs, hd⟩ := k q ys J g1 hq dq
    exact ⟨q, rfl, ⟨ys, SqL.of hq⟩, for_list (xs := ys) Pv h0 (fun i σ A _ p => SqL.of (hl i σ A p)) hs hd⟩
theorem sq_forI {ta : TA} {g : TG} {tb : TS} {D : Ends} {σ : L2.St} {H : Hp} {lo hi : Int} (h : PuA ta σ H fun vs _ => vs = [.int lo, .int hi]) (hb : -1000000 ≤ lo ∧ lo ≤ 1000000 ∧ -1000000 ≤ hi ∧ hi ≤ 1000000)
    (k : ∀ J, Gr H J → ∃ Pv : Nat → L2.St → Hp → Prop, Pv 0 σ J ∧
      (∀ i σ A, i < (hi - lo).toNat → Pv i σ A → g (.int (lo + (i : Int))) σ A fun σ2 H2 => tb { D with nx := Pv (i + 1), ct := Pv (i + 1), bk := D.nx } σ2 H2) ∧ ∀ σ A, Pv (hi - lo).toNat σ A → D.nx σ A) : tFor (iRng2 ta) g tb D σ H :=
  h H .refl _ fun vs J g1 hv => by
    obtain ⟨Pv, h0, hs, hd⟩ := k J g1
    exact ⟨lo, hi, hv, ⟨by omega, by omega, by omega, by omega⟩, for_range Pv h0 hs hd⟩
section
variable {P : Program} {w : World} {K : PySem.W.Frag} {mg : Str → Option Value} {base : Heap} {T1 T2 c1 c2 CP CR fR cda cc : Addr}
structure StrIn (p : Int) (n : Nat) (wn ws : List (List Int)) : Prop where
  hp : Prm p
  hn : n ≤ 1000
  ok : ∀ u ∈ wn ++ ws, WR p u ∧ u.length = n
  l1 : wn.length ≤ 64
  l2 : ws.length ≤ 64
def spStruck (T1 T2 : Addr) : Sp := fun vs H Q _ => ∃ (p : Int) (n : Nat) (wn ws : List (List Int)), DrAll H vs [.int p, .list (wn.map dW), .list (ws.map dW)] ∧ StrIn p n wn ws ∧ TT T1 T2 H ∧
  ∀ D kvs J0 J, Gr H J0 → Gr J0 J → J0 D = none → J D = some (.dT kvs) → DKeys kvs (struckList p wn (wn ++ ws)) → kvs.length ≤ 1000000 → Q (.ref D) J
abbrev s_struck : Stmt := top 46
theorem sc_struck : FnScope ["p", "wanted", "others", "found", "one", "other", "word", "by"] ["p", "wanted", "others"] (defScope s_struck) := ⟨rfl, rfl, rfl, by decide +kernel, rfl, by decide +kernel, by decide +kernel⟩
theorem ok_struck (B : Bl mg) (o_sum_with : Ok P w K mg base CX0 1 "sum_with" ["p", "word", "other", "by"] (spSumW K)) (o_normal_of : Ok P w K mg base CX0 2 "normal_of" ["p", "word"] (spNormal T1 T2))
    (D : Df K mg "struck_by" s_struck ["p", "wanted", "others"]) : Ok P w K mg base CX0 3 "struck_by" ["p", "wanted", "others"] (spStruck T1 T2) := D.ok fun f fd F => by
  refine F.ok sc_struck (fun vs H Q E h => by obtain ⟨_, _, _, _, hd, _⟩ := h; rw [drs_len hd]; rfl) ?_
  rintro cdv A outer s H vs Q E hr ⟨p, n, wn, ws, hd, hi, hT, k⟩
  obtain ⟨v0, v1, v2, rfl, h0, h1, h2⟩ := drs3 hd
  have hu := hu_of0 hr
  have hl1 := hi.l1
  have hl2 := hi.l2
  have hp7 : (p - 1).toNat ≤ 6 := by rcases hi.hp with h | h | h | h <;> subst h <;> decide
  refine ⟨_, (pss_cons (ps_setDcT hu (i := 3) (own := [("word", 6)]) (g := (gName 6)) rfl sc_struck.nd rfl rfl (sw_trueD rfl rfl rfl (by decide +kernel)) (pi_list (pv 1)) (blkOk_by (N := ["p", "wanted", "others", "found", "one", "other", "word", "by"]) (sc := defScope s_struck) (by decide +kernel)) (fun _ _ _ _ _ => pg_name (i := 6) sc_struck.nd rfl (Or.inl rfl)) (fun _ _ _ _ _ => (pv 6)) (fun _ _ _ _ _ => pe_bl)) (pss_cons (ps_for PassesOwn.never rfl (pi_list (pv 1)) (pg_name (i := 4) sc_struck.nd rfl (Or.inl rfl)) (pss_one (ps_for PassesOwn.never rfl (pi_list (pe_lst (StX.pa_star (pv 1) (StX.pa_star (pv 2) pa_nil)))) (pg_name (i := 5) sc_struck.nd rfl (Or.inl rfl)) (pss_one (ps_if (pt_cmpR (r := rNeD K) (op_neD hr.units) (pv 5) (pv 4) (nomark _)) (pss_one (ps_for PassesOwn.never rfl (pi_range2 (by rfl) B.range (pa_cons pe_int (pa_cons (pv 0) pa_nil))) (pg_name (i := 7) sc_struck.nd rfl (Or.inl rfl)) (pss_one (ps_dput hu (pv 3) (pe_ok o_normal_of (hr.mono (by decide)) (by rfl) pass0 (pa_cons (pv 0) (pa_cons (pe_ok o_sum_with (hr.mono (by decide)) (by rfl) pass0 (pa_cons (pv 0) (pa_cons (pv 4) (pa_cons (pv 5) (pa_cons (pe_un un_neg (pv 7)) pa_nil))))) pa_nil))) pe_bl rfl)))) pss_nil))))) (pss_one (ps_ret (pv 3))))), ?_⟩
  obtain ⟨A1, xs1, e1, hA1, dA1⟩ := dr_lst h1
  obtain ⟨A2, xs2, e2, hA2, dA2⟩ := dr_lst h2
  subst e1 e2
  refine sq_set (P := fun v J => ∃ D kvs J0, v = .ref D ∧ J D = some (.dT kvs) ∧ DKeys kvs wn ∧ kvs.length ≤ wn.length ∧ Gr H J0 ∧ Gr J0 J ∧ J0 D = none) (Pu.imp (pu_dcW (l := wn) (src_listR (K := K) (enc := dW) (pur_var rfl h1)) (by omega) (fun _ => rfl) ?_) ?_) ?_
  · show 6 < 8
    decide
  · rintro v J _ ⟨D, kvs, J0, e, hD, dk, _, g0, hn0, hlk, g01⟩
    exact ⟨D, kvs, J0, e, hD, dk, hlk, g0, g01, hn0⟩
  rintro v3 J1 g1 ⟨D, kvs, J0, rfl, hD, dk, hlk, g0, g01, hn0⟩
  dsimp only [tSeq, tNext]
  cases h0
  have dJ1 := drs_gr g0 dA1
  have r1 := dr_gr g0 h1
  have r2 := dr_gr g0 h2
  let Iv : Nat → List (List Int) → Option V → Option V → L2.St → Hp → Prop := fun c l x4 x5 σ A => (∃ x6 x7, σ = [some (.int p), some (.ref A1), some (.ref A2), some (.ref D), x4, x5, x6, x7]) ∧ Gr J0 A ∧ ∃ kvs, A D = some (.dT kvs) ∧ DKeys kvs l ∧ kvs.length ≤ c
  refine ⟨.ref A1, rfl, A1, rfl, ⟨xs1, SqL.of (g01.lst (g0.lst hA1))⟩, for_list (xs := xs1) (fun i σ A => ∃ x4 x5, Iv (64 + i * 768) (wn ++ (wn.take i).flatMap fun a => (wn ++ ws).flatMap (strRow p a)) x4 x5 σ A) ?_ ?_ ?_ ?_⟩
  · refine ⟨none, none, ⟨none, none, rfl⟩, g01, kvs, hD, ?_, by omega⟩
    rw [List.take_zero, List.flatMap_nil, List.append_nil]; exact dk
  · rintro i σ A _ ⟨_, _, _, gA, _⟩
    exact SqL.of (gA.lst (g0.lst hA1))
  · rintro i x σ A hx ⟨x4, x5, ⟨x6, x7, rfl⟩, gA, kvs, hD, dk, hlk⟩
    obtain ⟨a, ha, dx⟩ := drs_map_at dJ1 hx
    have ham : a ∈ wn := List.mem_of_getElem? ha
    have hio := hi.ok a (List.mem_append_left _ ham)
    have hiw : i < wn.length := by
      rcases Nat.lt_or_ge i wn.length with h | h
      · exact h
      · rw [List.getElem?_eq_none h] at ha; cases ha
    have hpl : PuR (tLst (StX.tStar K (tVar 1) (StX.tStar K (tVar 2) tNil))) [some (.int p), some (.ref A1), some (.ref A2), some (.ref D), some x, x5, x6, x7] J0 (.list (wn.map dW ++ (ws.map dW ++ []))) := pur_lst (prs_star (pur_var rfl r1) (prs_star (pur_var rfl r2) prs_nil)) (by simp only [List.length_append, List.length_map, List.length_nil]; omega)
    refine sq_forL gA hpl fun q ys J gJ hq dq => ?_
    have eq : wn.map dW ++ (ws.map dW ++ []) = (wn ++ ws).map dW := by simp
    rw [eq] at dq
    have hqD : q ≠ D := fun e => by
      have := gJ.keep _ _ hD True.intro
      rw [← e, hq] at this; cases this
    refine ⟨fun j σ A => (∃ x5, Iv (64 + i * 768 + j * 6) ((wn ++ (wn.take i).flatMap fun a => (wn ++ ws).flatMap (strRow p a)) ++ ((wn ++ ws).take j).flatMap (strRow p a)) (some x) x5 σ A) ∧ Gtu J A ∧ A q = some (.lst ys), ?_, ?_, ?_, ?_⟩
    · refine ⟨⟨x5, ⟨x6, x7, rfl⟩, gA.trans gJ, kvs, gJ.keep _ _ hD True.intro, ?_, by omega⟩, fun _ _ h => h, hq⟩
      rw [List.take_zero, List.flatMap_nil, List.append_nil]; exact dk
    · rintro j σ A ⟨_, _, e⟩
      exact e
    · rintro j y σ A3 hy ⟨⟨x5, ⟨x6, x7, rfl⟩, gA3, kvs, hD3, dk3, hlk3⟩, tu3, hq3⟩
      obtain ⟨b, hb, dyJ⟩ := drs_map_at dq hy
      have dy := dr_tu tu3 (lf_word b) dyJ
      have hbm : b ∈ wn ++ ws := List.mem_of_getElem? hb
      have hjw : j < 128 := by
        rcases Nat.lt_or_ge j (wn ++ ws).length with h | h
        · rw [List.length_append] at h; omega
        · rw [List.getElem?_eq_none h] at hb; cases hb
      have ef := flatMap_take (strRow p a) hb
      have hcond : Pb (tTest (tOp (rNeD K) (tVar 5) (tVar 4))) [some (.int p), some (.ref A1), some (.ref A2), some (.ref D), some x, some y, x6, x7] A3 (!decide (b = a)) := by
        rw [← eqv_word]
        exact pb_test (pud_neD (pud_var rfl (dr_dp dy)) (pud_var rfl (dr_dp (dr_gr gA3 dx))) shaped_word shaped_word)
      refine sq_if hcond (fun eb A4 g4 => ?_) fun eb A4 g4 => ?_
      · have hne : b ≠ a := by simpa using eb
        have hrg : PuA (tCons (tC (V.int 1)) (tCons (tVar 0) tNil)) [some (.int p), some (.ref A1), some (.ref A2), some (.ref D), some x, some y, x6, x7] A4 fun vs _ => vs = [.int 1, .int p] := fun H1 e Q q => ⟨.int p, rfl, q _ H1 .refl rfl⟩
        refine sq_forI hrg ?_ fun J9 g9 => ⟨fun k σ A => Iv (64 + i * 768 + j * 6 + k) ((wn ++ (wn.take i).flatMap fun a => (wn ++ ws).flatMap (strRow p a)) ++ ((wn ++ ws).take j).flatMap (strRow p a) ++ ((List.range k).map fun (i : Nat) => norm p (sumW p a b (-(1 + (i : Int)))))) (some x) (some y) σ A ∧ Gtu J A ∧ A q = some (.lst ys), ?_, ?_, ?_⟩
        · rcases hi.hp with h | h | h | h <;> subst h <;> decide
        · refine ⟨⟨⟨x6, x7, rfl⟩, gA3.trans (g4.trans g9), kvs, (g4.trans g9).keep _ _ hD3 True.intro, ?_, by omega⟩, tu3.trans (g4.trans g9).tu, (g4.trans g9).lst hq3⟩
          rw [List.range_zero, List.map_nil, List.append_nil]; exact dk3
        · rintro k σ A5 hk ⟨⟨⟨x6, x7, rfl⟩, gA5, kvs, hD5, dk5, hlk5⟩, tu5, hq5⟩
          refine ⟨.ref D, rfl, ?_⟩
          have dyA := dr_tu tu5 (lf_word b) dyJ
          have hob := hi.ok b hbm
          have hsum : PuR (tCall (spNormal T1 T2) [] E0 (tCons (tVar 0) (tCons (tCall (spSumW K) [] E0 (tCons (tVar 0) (tCons (tVar 4) (tCons (tVar 5) (tCons (tUn (rU fun i => V.int (-i)) (tVar 7)) tNil))))) tNil))) [some (.int p), some (.ref A1), some (.ref A2), some (.ref D), some x, some y, x6, some (.int (1 + (k : Int)))] A5 (dW (norm p (sumW p a b (-(1 + (k : Int)))))) := pur_callR (G := TT T1 T2) (ρ := fun ds d => ∃ (p : Int) (u : List Int), ds = [.int p, dW u] ∧ Prm p ∧ WR p u ∧ u.length ≤ 1000 ∧ d = dW (norm p u)) ⟨p, sumW p a b (-(1 + (k : Int))), rfl, hi.hp, wr_sum hi.hp _ _ _, by rw [len_sum hio.2 hob.2]; exact hi.hn, rfl⟩
            (prs_cons (pur_var rfl (.int p)) (prs_one (pur_callP (K := K) (G := gT) ⟨p, a, b, -(1 + (k : Int)), rfl, hi.hp, hob.1, by rw [hio.2]; exact hi.hn, rfl⟩ (pds_cons (pud_var rfl (.int p)) (pds_cons (pud_var rfl (dr_dp (dr_gr gA5 dx))) (pds_cons (pud_var rfl (dr_dp dyA)) (pds_one (pud_unI (i := 1 + (k : Int)) (dv := .int (-(1 + (k : Int)))) (pud_var rfl (.int _)) fun _ => .int _))))) fun _ _ => trivial))) (fun J g => hT.gr (g0.trans (gA5.trans g)))
          refine hsum A5 .refl _ fun v J5 g5 hv => ?_
          obtain ⟨yb, rfl, hyb⟩ := dr_word hv
          have hDJ := g5.keep _ _ hD5 True.intro
          refine ⟨D, _, rfl, DPut.t (k := kW (norm p (sumW p a b (-(1 + (k : Int)))))) hDJ (by rw [kW_V]; exact hyb) (Nat.lt_of_le_of_lt hlk5 (by rw [show sizeLine = 2 ^ 24 from rfl]; omega)), ⟨⟨x6, _, rfl⟩, (gA5.trans g5).mut hn0, _, upd_same, ?_, ?_⟩, tu5.trans (g5.tu.trans (gtu_upd hDJ fun xs z => nomatch z)), by rw [upd_ne hqD]; exact g5.lst hq5⟩
          · have := dk5.put (norm p (sumW p a b (-(1 + (k : Int))))) (.bl true)
            rw [List.range_succ, List.map_append, List.map_cons, List.map_nil, ← List.append_assoc]
            exact this
          · have := length_putK kvs (kW (norm p (sumW p a b (-(1 + (k : Int)))))) (.bl true)
            omega
        · rintro σ A5 ⟨⟨hσ, gA5, kvs, hD5, dk5, hlk5⟩, tu5, hq5⟩
          refine ⟨⟨some y, hσ, gA5, kvs, hD5, ?_, by omega⟩, tu5, hq5⟩
          rw [ef, ← List.append_assoc]
          unfold strRow at dk5 ⊢
          rw [if_neg hne]
          exact dk5
      · have hne : b = a := by simpa using eb
        refine ⟨⟨some y, ⟨x6, x7, rfl⟩, gA3.trans g4, kvs, g4.keep _ _ hD3 True.intro, ?_, by omega⟩, tu3.trans g4.tu, g4.lst hq3⟩
        rw [ef, ← List.append_assoc, show strRow p a b = [] from if_pos hne, List.append_nil]
        exact dk3
    · rintro σ A3 ⟨⟨x5, hσ, gA3, kvs, hD3, dk3, hlk3⟩, tu3, hq3⟩
      have hl : ys.length = (wn ++ ws).length := by rw [drs_len dq, List.length_map]
      refine ⟨_, x5, hσ, gA3, kvs, hD3, ?_, ?_⟩
      · rw [flatMap_take _ ha, ← List.append_assoc]
        rw [hl, List.take_length] at dk3
        exact dk3
      · rw [hl, List.length_append] at hlk3
        omega
  · rintro σ A ⟨x4, x5, ⟨x6, x7, rfl⟩, gA, kvs, hD, dk, hlk⟩
    have hl : xs1.length = wn.length := by rw [drs_len dA1, List.length_map]
    rw [hl] at hlk dk
    rw [List.take_length] at dk
    refine ⟨.ref D, rfl, k D kvs J0 A g0 gA hn0 hD dk (by omega)⟩
end
end Km
set_option Elab.async false
set_option linter.all false
set_option maxRecDepth 100000
set_option maxHeartbeats 4000000
set_option autoImplicit false
/-! cat, slices, replicate -/
namespace Km
open PySem PySem.Spec PyProof.Rows L2
def cutL {α : Type} (xs : List α) (lo hi : Option Int) : List α := (xs.drop (HT.sIx xs.length 0 lo)).take (HT.sIx xs.length xs.length hi - HT.sIx xs.length 0 lo)
theorem cutL_to {α : Type} (xs : List α) (k : Nat) : cutL xs none (some (k : Int)) = xs.take k := by
  unfold cutL
  rw [HT.sIx_none, HT.sIx_nat, List.drop_zero, Nat.sub_zero, List.take_eq_take_iff]
  omega
theorem cutL_from {α : Type} (xs : List α) (k : Nat) : cutL xs (some (k : Int)) none = xs.drop k := by
  unfold cutL
  rw [HT.sIx_none, HT.sIx_nat, List.take_of_length_le (by rw [List.length_drop]; omega)]
  rcases Nat.le_total k xs.length with h | h
  · rw [Nat.min_eq_left h]
  · rw [Nat.min_eq_right h, List.drop_of_length_le (Nat.le_refl _), List.drop_of_length_le h]
theorem cutL_mid {α : Type} (xs : List α) (i k : Nat) (h : i ≤ k) : cutL xs (some (i : Int)) (some (k : Int)) = (xs.drop i).take (k - i) := by
  unfold cutL
  rw [HT.sIx_nat, HT.sIx_nat]
  rcases Nat.le_total i xs.length with h1 | h1
  · rw [Nat.min_eq_left h1, List.take_eq_take_iff, List.length_drop]
    omega
  · rw [Nat.min_eq_right h1, List.drop_of_length_le (Nat.le_refl _), List.drop_of_length_le h1, List.take_nil, List.take_nil]
theorem cutL_map {α β : Type} (f : α → β) (xs : List α) (lo hi : Option Int) : cutL (xs.map f) lo hi = (cutL xs lo hi).map f := by
  unfold cutL
  rw [List.length_map, List.map_take, List.map_drop]
def PuO (to : TO) (σ : L2.St) (H : Hp) (o : Option Int) : Prop := ∀ H1, Gr H H1 → ∀ Q : Option Int → Hp → Prop, (∀ J, Gr H1 J → Q o J) → to σ H1 Q
section
variable {K : PySem.W.Frag} {σ : L2.St} {H J : Hp} {te ta tb : TE} {t : TA} {d : PyData} {ds l m : List PyData} {tl tu : TO} {lo hi : Option Int}
theorem puo_none : PuO tNoPart σ H none := fun H1 _ Q q => q H1 .refl
theorem puo_some {i : Int} (h : PuD K te σ H (.int i)) : PuO (tPart te) σ H (some i) := fun H1 e Q q => h H1 e _ fun v J g p => ⟨i, dp_int p, q J g⟩
theorem dps_cut {vs : List V} (h : DpAll K H vs ds) : DpAll K H (cutV vs lo hi) (cutL ds lo hi) := by
  unfold cutV cutL
  rw [dps_len h]
  exact dps_take _ (dps_drop _ h)
theorem drs_cut {vs : List V} (h : DrAll H vs ds) : DrAll H (cutV vs lo hi) (cutL ds lo hi) := by
  unfold cutV cutL
  rw [drs_len h]
  exact drs_take _ (drs_drop _ h)
theorem pud_slL (h : PuD K te σ H (.list ds)) (h1 : PuO tl σ H lo) (h2 : PuO tu σ H hi) : PuD K (tSl (rSlL K) te tl tu) σ H (.list (cutL ds lo hi)) :=
  fun H1 e Q q => h H1 e _ fun v J g1 p => h1 J (e.trans g1) _ fun J2 g2 => h2 J2 (e.trans (g1.trans g2)) _ fun J3 g3 => by
    obtain ⟨a, xs, rfl, s, t⟩ := dp_lst (dp_gr (g2.trans g3) p)
    exact ⟨a, xs, rfl, s, fun x hx => q _ _ (g1.trans (g2.trans (g3.trans (.new hx)))) (.lst (SqL.of upd_same) (dps_cut (dps_gr (.new hx) t)))⟩
theorem pur_slL (h : PuR te σ H (.list ds)) (h1 : PuO tl σ H lo) (h2 : PuO tu σ H hi) : PuR (tSl (rSlL K) te tl tu) σ H (.list (cutL ds lo hi)) :=
  fun H1 e Q q => h H1 e _ fun v J g1 p => h1 J (e.trans g1) _ fun J2 g2 => h2 J2 (e.trans (g1.trans g2)) _ fun J3 g3 => by
    obtain ⟨a, xs, rfl, s, t⟩ := dr_lst (dr_gr (g2.trans g3) p)
    exact ⟨a, xs, rfl, SqL.of s, fun x hx => q _ _ (g1.trans (g2.trans (g3.trans (.new hx)))) (.lst upd_same (drs_cut (drs_gr (.new hx) t)))⟩
theorem pur_cat (h1 : PuR ta σ H (.list l)) (h2 : PuR tb σ H (.list m)) (hl : l.length + m.length ≤ 1000000) : PuR (tOp rCat ta tb) σ H (.list (l ++ m)) :=
  fun H1 e Q q => h1 H1 e _ fun v J g1 p => h2 J (e.trans g1) _ fun w J2 g2 p2 => by
    obtain ⟨a, xs, rfl, s, t⟩ := dr_lst (dr_gr g2 p)
    obtain ⟨b, ys, rfl, s2, t2⟩ := dr_lst p2
    exact ⟨a, b, xs, ys, rfl, rfl, s, s2, by rw [drs_len t, drs_len t2]; exact Nat.le_trans hl (by decide), fun x hx => q _ _ (g1.trans (g2.trans (.new hx))) (.lst upd_same (drs_app (drs_gr (.new hx) t) (drs_gr (.new hx) t2)))⟩
theorem pur_catT (h1 : PuR ta σ H (.tuple l)) (h2 : PuR tb σ H (.tuple m)) (hl : l.length + m.length ≤ 1000000) : PuR (tOp (rCatA K) ta tb) σ H (.tuple (l ++ m)) :=
  fun H1 e Q q => h1 H1 e _ fun v J g1 p => h2 J (e.trans g1) _ fun w J2 g2 p2 => by
    obtain ⟨a, xs, rfl, s, t⟩ := dr_tup (dr_gr g2 p)
    obtain ⟨b, ys, rfl, s2, t2⟩ := dr_tup p2
    refine ⟨a, b, xs, ys, rfl, rfl, SqT.of s, SqT.of s2, by rw [drs_len t, drs_len t2]; exact Nat.le_trans hl (by decide), fun e1 => ?_, fun _ e2 => ?_, fun _ _ x hx => q _ _ (g1.trans (g2.trans (.new hx))) (.tup upd_same (drs_app (drs_gr (.new hx) t) (drs_gr (.new hx) t2)))⟩
    · subst e1
      cases t
      exact q _ _ (g1.trans g2) (.tup s2 t2)
    · subst e2
      cases t2
      refine q _ _ (g1.trans g2) ?_
      rw [List.append_nil]
      exact .tup s t
theorem pud_catT (h1 : PuD K ta σ H (.tuple l)) (h2 : PuD K tb σ H (.tuple m)) (hl : l.length + m.length ≤ 1000000) : PuD K (tOp (rCatA K) ta tb) σ H (.tuple (l ++ m)) :=
  fun H1 e Q q => h1 H1 e _ fun v J g1 p => h2 J (e.trans g1) _ fun w J2 g2 p2 => by
    obtain ⟨a, xs, rfl, s, t⟩ := dp_tup (dp_gr g2 p)
    obtain ⟨b, ys, rfl, s2, t2⟩ := dp_tup p2
    refine ⟨a, b, xs, ys, rfl, rfl, s, s2, by rw [dps_len t, dps_len t2]; exact Nat.le_trans hl (by decide), fun e1 => ?_, fun _ e2 => ?_, fun _ _ x hx => q _ _ (g1.trans (g2.trans (.new hx))) (.tup (SqT.of upd_same) (dps_app (dps_gr (.new hx) t) (dps_gr (.new hx) t2)))⟩
    · subst e1
      cases t
      exact q _ _ (g1.trans g2) (.tup s2 t2)
    · subst e2
      cases t2
      refine q _ _ (g1.trans g2) ?_
      rw [List.append_nil]
      exact .tup s t
theorem cut_whole {α : Type} {xs : List α} {lo hi : Option Int} (h : HT.sIx xs.length 0 lo = 0 ∧ HT.sIx xs.length xs.length hi = xs.length) : cutL xs lo hi = xs := by
  unfold cutL
  rw [h.1, h.2, List.drop_zero, Nat.sub_zero, List.take_length]
theorem pud_slT (h : PuD K te σ H (.tuple ds)) (h1 : PuO tl σ H lo) (h2 : PuO tu σ H hi) : PuD K (tSl (rSlA K) te tl tu) σ H (.tuple (cutL ds lo hi)) :=
  fun H1 e Q q => h H1 e _ fun v J g1 p => h1 J (e.trans g1) _ fun J2 g2 => h2 J2 (e.trans (g1.trans g2)) _ fun J3 g3 => by
    obtain ⟨a, xs, rfl, s, t⟩ := dp_tup (dp_gr (g2.trans g3) p)
    refine ⟨a, xs, rfl, s, fun hw => q _ _ (g1.trans (g2.trans g3)) ?_, fun _ x hx => q _ _ (g1.trans (g2.trans (g3.trans (.new hx)))) (.tup (SqT.of upd_same) (dps_cut (dps_gr (.new hx) t)))⟩
    rw [dps_len t] at hw
    rw [cut_whole hw]
    exact .tup s t
theorem drs_rep {v : V} : ∀ (n : Nat), Dr H v d → DrAll H (List.replicate n [v]).flatten (List.replicate n d)
  | 0, _ => .nil
  | n + 1, h => by
    rw [List.replicate_succ, List.replicate_succ, List.flatten_cons]
    exact .cons h (drs_rep n h)
theorem pud_rep {n : Nat} {ta tb : TE} (h1 : PuR ta σ H (.list [d])) (h2 : PuD K tb σ H (.int (n : Int))) (hl : n ≤ 1000000) : PuD K (tOp rRep ta tb) σ H (.list (List.replicate n d)) :=
  fun H1 e Q q => h1 H1 e _ fun v J g1 p => h2 J (e.trans g1) _ fun w J2 g2 p2 => by
    obtain ⟨a, xs, rfl, s, t⟩ := dr_lst (dr_gr g2 p)
    obtain _ | ⟨h0, _ | _⟩ := t
    refine ⟨a, _, _, rfl, dp_int p2, s, by omega, by omega, ?_, fun x hx => q _ _ (g1.trans (g2.trans (.new hx))) (.lst (SqL.of upd_same) (drs_dps ?_))⟩
    · rw [Int.toNat_natCast, List.length_singleton, Nat.one_mul]
      exact Nat.le_trans hl (by decide)
    · rw [Int.toNat_natCast]
      exact drs_gr (.new hx) (drs_rep n h0)
end
end Km
set_option Elab.async false
set_option linter.all false
set_option maxRecDepth 100000
set_option maxHeartbeats 4000000
set_option autoImplicit false
namespace Km
open PySem PySem.Spec PyProof.Rows L2 StX SlX
theorem gr_unlock {H J : Hp} {D : Addr} {o u : HO} (g : Gr (upd H D o) J) (h : H D = some u) (hu : nTbl u) : Gr H (upd J D u) := by
  refine ⟨fun a o' e n => ?_, fun a ps e t => ?_⟩
  · by_cases hd : a = D
    · subst hd
      rw [h] at e
      rw [← e, upd_same]
    · rw [upd_ne hd]
      exact g.keep a o' (by rw [upd_ne hd]; exact e) n
  · have hd : a ≠ D := fun z => by
      subst z
      rw [h] at e; cases e; exact hu
    rw [upd_ne hd]
    exact g.tabs a ps (by rw [upd_ne hd]; exact e) t
def isRight (p : Int) (rows : List Row) (ws bs : List (List Int)) : Bool := !((struckList p (ws.map (norm p)) (ws.map (norm p) ++ bs.map (norm p))).any fun u => isZ (restOf p rows (u, 0)).1)
def wordOf (k : List Key) : List Int := k.map fun x => match x with
  | .inl i => i
  | .inr _ => 0
theorem wordOf_kW (u : List Int) : wordOf (kW u) = u := by
  unfold wordOf kW
  rw [List.map_map]
  exact List.map_id' u
theorem wr_norm {p : Int} (hp : Prm p) {u : List Int} (h : WR p u) : WR p (norm p u) := by
  unfold norm
  split
  · exact h
  · exact wr_mul hp _ _
theorem struck_ok {p : Int} {n : Nat} {wn ws : List (List Int)} (h : StrIn p n wn ws) : ∀ u ∈ struckList p wn (wn ++ ws), WR p u ∧ u.length = n := by
  intro u hu
  rcases List.mem_append.mp hu with hu | hu
  · exact h.ok u (List.mem_append_left _ hu)
  · obtain ⟨a, ha, hu⟩ := List.mem_flatMap.mp hu
    obtain ⟨b, hb, hu⟩ := List.mem_flatMap.mp hu
    unfold strRow at hu
    split at hu
    · cases hu
    · obtain ⟨i, _, rfl⟩ := List.mem_map.mp hu
      have h1 := h.ok a (List.mem_append_left _ ha)
      have h2 := h.ok b hb
      exact ⟨wr_norm h.hp (wr_sum h.hp _ _ _), by rw [norm_len, len_sum h1.2 h2.2]⟩
section
variable {P : Program} {w : World} {K : PySem.W.Frag} {mg : Str → Option Value} {base : Heap} {T1 T2 c1 c2 CP CR fR cda cc : Addr}
/-- the source: the keys of a locked dict -/
theorem src_keysT {σ : L2.St} {H : Hp} {td : TE} {D : Addr} {od : Obj} {kvs : List (List Key × V)} (h : Pu td σ H fun v _ => v = .ref D) (hD : H D = some (.frz od (.dT kvs))) :
    SrcL (iKeys td) σ H kvs fun q x B => ∃ a, x = .ref a ∧ B a = some (.tup (q.1.map kV)) :=
  fun H0 e0 C c => h H0 e0 _ fun v J g p => by
    subst p
    have hJ := g.keep _ _ (e0.keep _ _ hD True.intro) True.intro
    refine ⟨D, od, rfl, .inr ⟨kvs, hJ, c _ J g ?_⟩⟩
    refine walk_keysT.mono (fun B gb => gb.keep _ _ hJ True.intro) fun i A x B hi ga y => ?_
    obtain ⟨rfl, k, v, q, hk, rfl, hq⟩ := y
    exact ⟨.refl, (k, v), hk, q, rfl, hq⟩
def spIsRight (K : PySem.W.Frag) (T1 T2 CP : Addr) : Sp := fun vs H Q _ => ∃ v v1 v2 p ns rows ws bs, vs = [v, v1, v2] ∧ PlanIs K CP H v p ns rows ∧ NamesOk ns ∧ Prm p ∧ Red p ns.length rows ∧ TupW K H v1 ws ∧ TupW K H v2 bs ∧ Wds p ns.length ws ∧ Wds p ns.length bs ∧ (∀ u ∈ bs, norm p u ∉ ws.map (norm p)) ∧ TT T1 T2 H ∧
  ∀ J, Gr H J → Q (.bl (isRight p rows ws bs)) J
abbrev s_right : Stmt := top 47
theorem sc_right : FnScope ["plan", "wanted", "beside", "first", "found", "p", "many", "word"] ["plan", "wanted", "beside"] (defScope s_right) := ⟨rfl, rfl, rfl, by decide +kernel, rfl, by decide +kernel, by decide +kernel⟩
/-- is_right of the text: a keyword-only parameter, () its default -/
structure DfR (K : PySem.W.Frag) (mg : Str → Option Value) : Prop where
  ex : ∃ f fd T o n, mg "is_right" = some (.ref f) ∧ FunD K "is_right" "is_right" (defArgs s_right) (defBody s_right) (defScope s_right) [] [("beside", .ref T)] f fd ∧ K.lookup T = some o ∧ o.cls = .type "tuple" ∧ o.data = .seq #[] n
structure OkB (P : Program) (w : World) (K : PySem.W.Frag) (mg : Str → Option Value) (base : Heap) (k : Nat) (sp : Sp) : Prop where
  ex : ∃ f fd T, mg "is_right" = some (.ref f) ∧ PySem.W.keepIn K (.ref f) = true ∧ (∃ ds, Vals [.ref T] ds ∧ Binds K fd ["plan", "wanted", "beside"] ds) ∧ KBn K fd ["plan", "wanted", "beside"] 2 ["beside"] (fun us ws => us ++ ws) (fun vs zs => vs ++ zs) ∧
    FnOk P w K mg base CX0 k f fd ["plan", "wanted", "beside"] sp ∧ ∀ H, Dp K H (.ref T) (.tuple [])
theorem FunD.toFun {x qual : Str} {st : Stmt} {kws : List (Str × V)} {f : Addr} {fd : FuncData} (F : FunD K x qual (defArgs st) (defBody st) (defScope st) [] kws f fd) : Fun K x qual st f fd := by
  obtain ⟨oc, od, dV, kV, doc, pm, an, cdv, ct, osl, h1, h2, h3, hd, _⟩ := F.ex
  rcases hd with ⟨_, rfl⟩ | ⟨e, _⟩
  · exact ⟨⟨oc, od, kV, doc, pm, an, cdv, ct, osl, h1, h2, h3⟩, F.kp⟩
  · exact absurd rfl e
theorem ok_right (B : Bl mg) (SC : SCls K CP) (SI : SIsi K CP) (kOne : PySem.W.kitOne K (.ref CP) (.ref CP) = some true) (hCP : mg "Plan" = some (.ref CP))
    (o_classes_in : Ok P w K mg base CX0 4 "classes_in" ["p", "many", "value"] (spClassesIn K T1 T2)) (o_others_in : Ok P w K mg base CX0 5 "others_in" ["p", "many", "wanted", "value"] (spOthersIn K T1 T2))
    (o_struck_by : Ok P w K mg base CX0 3 "struck_by" ["p", "wanted", "others"] (spStruck T1 T2))
    (o_p_p : POk P w K mg base 1 CP "p" (spSlot CP 1)) (o_p_names : POk P w K mg base 1 CP "names" (spSlot CP 0)) (o_m_is_constant : MOk P w K mg base 5 CP "is_constant" (spIsConst K CP T1 T2))
    (D : DfR K mg) : OkB P w K mg base 6 (spIsRight K T1 T2 CP) := by
  obtain ⟨f, fd, T, o, n, hm, FD, l1, l2, l3⟩ := D.ex
  have F := FunD.toFun FD
  refine ⟨f, fd, T, hm, F.kp, FD.binds0 2 (by simp) rfl fun D doc pm an cdv ct us ks h1 h2 => ?_, ?_, F.ok sc_right (fun vs H Q E h => by obtain ⟨_, _, _, _, _, _, _, _, rfl, _⟩ := h; rfl) ?_, fun H => .tup (.inr ⟨o, _, n, l1, l2, l3, Nat.zero_le _, .nil⟩) .nil⟩
  · match us, h1, ks, h2 with
    | [_, _], _, [_], _ => exact ⟨_, _, _, _, _, _, rfl, rfl, rfl⟩
  · obtain ⟨mv, hb⟩ := FD.kbinds0 (ps := ["plan", "wanted", "beside"]) 2 ["beside"] [] (fun us _ ws => us ++ ws) (by simp) (by simp) (fun r1 _ r3 => r1.append r3) fun D doc pm an cdv ct us mv ws h1 h2 h3 => by
      match us, h1, mv, h2, ws, h3 with
      | [_, _], _, [], _, [_], _ => rfl
    exact hb
  rintro cdv A outer s H vs Q E hr ⟨v, v1, v2, p, ns, rows, ws, bs, rfl, hP, hN, hp, hR, h1, h2, hw1, hw2, hno, hT, k⟩
  refine ⟨_, (pss_cons (ps_if (pt_not (pt_val (pe_callB (call_isiSl (.ref CP)) (by rfl) B.isinstance boot_isinstance (pa_cons (pv 0) (pa_cons (pe_glob (v := .ref CP) rfl hCP rfl) pa_nil))))) (pss_one ps_never) pss_nil) (pss_cons (ps_par (i := 5) (j := 6) (by rfl) sc_right.nd rfl rfl (by decide) rfl rfl (pa_cons (pe_pr o_p_p SC (hr.mono (by decide)) (pv 0)) (pa_cons (pe_callB call_len_seq (by rfl) B.len boot_len (pa_cons (pe_pr o_p_names SC (hr.mono (by decide)) (pv 0)) pa_nil)) pa_nil)) (by rfl)) (pss_cons (ps_set (i := 3) sc_right.nd rfl (Or.inl rfl) (pe_ok o_classes_in (hr.mono (by decide)) (by rfl) pass0 (pa_cons (pv 5) (pa_cons (pv 6) (pa_cons (pv 1) pa_nil))))) (pss_cons (ps_set (i := 4) sc_right.nd rfl (Or.inl rfl) (pe_ok o_struck_by (hr.mono (by decide)) (by rfl) pass0 (pa_cons (pv 5) (pa_cons (pv 3) (pa_cons (pe_ok o_others_in (hr.mono (by decide)) (by rfl) pass0 (pa_cons (pv 5) (pa_cons (pv 6) (pa_cons (pv 3) (pa_cons (pv 2) pa_nil))))) pa_nil))))) (pss_one (ps_ret (pe_not (pe_callB (cr_any rfl) (by rfl) B.any boot_any (pa_cons (pe_lock (pe_lc (own := [("word", 7)]) (g := (gName 7)) (tt := tYes) rfl sc_right.nd (pi_keys (pv 4)) (blkOk_by (N := ["plan", "wanted", "beside", "first", "found", "p", "many", "word"]) (sc := defScope s_right) (by decide +kernel)) (fun _ _ _ _ _ => pg_name (i := 7) sc_right.nd rfl (Or.inl rfl)) (fun _ _ _ _ _ => pts_nil) (fun _ _ _ _ _ => (pe_m o_m_is_constant SC (hr.mono (by decide)) (pv 0) (pa_cons (pv 7) pa_nil))))) pa_nil))))))))), ?_⟩
  have hl8 := hN.l8
  have hw1l := hw1.few
  have hw2l := hw2.few
  obtain ⟨x, dx, vn, vr, vu, rfl, hs, _⟩ := id hP.ex
  refine sq_if (b := false) (pb_is (pb_not (pb_B (K := K) (a := true) fun H1 e Q q => ?_)) rfl) nofun fun _ J1 g1 => ?_
  · exact ⟨_, rfl, ⟨x, CP, dx, _, _, true, rfl, rfl, fun w r => r, slt_gr e hs, SC, SI, kOne, q _ H1 .refl (.bl true)⟩⟩
  dsimp only [tSeq, tNext]
  refine sq_par (d1 := .int p) (d2 := .int (ns.length : Int)) (pds_cons (pud_prP rfl (hP.gr g1)) (pds_one (pud_is (pud_lenT (pds_one (pud_prN rfl (hP.gr g1)))) (by rw [List.length_map])))) fun x5 x6 J2 g2 h5 h6 => ?_
  dsimp only [tSeq, tNext]
  have e5 := dp_int h5
  have e6 := dp_int h6
  subst e5 e6
  have g12 := g1.trans g2
  refine sq_set (P := fun v J => Dr J v (.list ((ws.map (norm p)).map dW))) (pu_call (pua3 (pu_var rfl) (pu_var rfl) (pu_var rfl)) fun vs J Q g e q => ⟨p, ns.length, ws, v1, e, h1.gr (g12.trans g), hp, by omega, hw1, hT.gr (g12.trans g), q⟩) fun v3 J3 g3 h3 => ?_
  dsimp only [tSeq, tNext]
  have g13 := g12.trans g3
  have hsi : StrIn p ns.length (ws.map (norm p)) (bs.map (norm p)) := ⟨hp, by omega, fun u hu => by
    rcases List.mem_append.mp hu with hu | hu
    · obtain ⟨y, hy, rfl⟩ := List.mem_map.mp hu
      exact ⟨wr_norm hp (hw1.wr y hy), by rw [norm_len, hw1.len y hy]⟩
    · obtain ⟨y, hy, rfl⟩ := List.mem_map.mp hu
      exact ⟨wr_norm hp (hw2.wr y hy), by rw [norm_len, hw2.len y hy]⟩, by rw [List.length_map]; exact hw1l, by rw [List.length_map]; exact hw2l⟩
  refine sq_set (P := fun v J => ∃ D kvs J0, v = .ref D ∧ Gr J3 J0 ∧ Gr J0 J ∧ J0 D = none ∧ J D = some (.dT kvs) ∧ DKeys kvs (struckList p (ws.map (norm p)) (ws.map (norm p) ++ bs.map (norm p))) ∧ kvs.length ≤ 1000000) ?hset fun v4 J4 g4 h4 => ?_
  case hset =>
    refine pu_call (A := fun vs J => ∃ vo, vs = [.int p, v3, vo] ∧ Dr J vo (.list ((bs.map (norm p)).map dW))) (fun H1 e Q q => ⟨_, rfl, ⟨_, rfl, ?_⟩⟩) fun vs J Q g a q => ?_
    · refine (pu_call (E := E0) (R := fun v J => Dr J v (.list ((bs.map (norm p)).map dW))) (pua4 (σ := [some (.ref x), some v1, some v2, some v3, none, some (.int p), some (.int (ns.length : Int)), none]) (H := J3) (pu_var (i := 5) rfl) (pu_var (i := 6) rfl) (pu_var (i := 3) rfl) (pu_var (i := 2) rfl)) fun vs J Q g e q => ⟨p, ns.length, ws.map (norm p), bs, v3, v2, e, dr_gr g h3, h2.gr (g13.trans g), hp, by omega, hw2, hno, hT.gr (g13.trans g), q⟩) H1 e _ fun vo J g hv => ?_
      exact q _ J g ⟨vo, rfl, hv⟩
    · obtain ⟨vo, rfl, hv⟩ := a
      exact ⟨p, ns.length, ws.map (norm p), bs.map (norm p), .cons (.int p) (.cons (dr_gr g h3) (.cons hv .nil)), hsi, hT.gr (g13.trans g), fun D kvs J0 J' g0 g1' hn hD dk hl => q _ J' (g0.trans g1') ⟨D, kvs, J0, rfl, g.trans g0, g1', hn, hD, dk, hl⟩⟩
  dsimp only [tSeq, tNext]
  obtain ⟨D, kvs, J0, rfl, g0, g04, hn0, hD, dk, hkl⟩ := h4
  have gH0 := g13.trans g0
  refine sq_ret (P := fun v J => v = .bl (isRight p rows ws bs)) ?hret fun v J5 g5 hv => ?_
  case hret =>
    have hmem : ∀ z ∈ kvs, ∃ u ∈ struckList p (ws.map (norm p)) (ws.map (norm p) ++ bs.map (norm p)), z.1 = kW u := dk.sub
    have hlock : PuD K (tLockE (tLc (iKeys (tVar 4)) (gName 7) tYes (tMethSl CP (spIsConst K CP T1 T2) E0 (tVar 0) (tCons (tVar 7) tNil)) [7])) [some (.ref x), some v1, some v2, some v3, some (.ref D), some (.int p), some (.int (ns.length : Int)), none] J4 (.list ((kvs.map fun z => isZ (restOf p rows (wordOf z.1, 0)).1).map .bool)) := by
      intro H1 e Q q
      have hD1 := e.keep _ _ hD True.intro
      have gl0 : ∀ od, Gr J0 (upd H1 D (.frz od (.dT kvs))) := fun od => (g04.trans e).mut hn0
      have hcomp : ∀ od, PuD K (tLc (iKeys (tVar 4)) (gName 7) tYes (tMethSl CP (spIsConst K CP T1 T2) E0 (tVar 0) (tCons (tVar 7) tNil)) [7]) [some (.ref x), some v1, some v2, some v3, some (.ref D), some (.int p), some (.int (ns.length : Int)), none] (upd H1 D (.frz od (.dT kvs))) (.list (kvs.map fun z => .bool (isZ (restOf p rows (wordOf z.1, 0)).1))) := fun od => by
        refine pu_lcN (src_keysT (od := od) (kvs := kvs) (pu_var rfl) upd_same) (by omega) (fun _ _ => rfl) (fun _ => rfl) fun z hz y J9 g9 hy => ?_
        obtain ⟨a, rfl, ha⟩ := hy
        obtain ⟨u, hu, ez⟩ := hmem z hz
        have hu2 := struck_ok hsi u hu
        rw [ez, wordOf_kW]
        rw [ez, kW_V] at ha
        exact pud_m rfl (hP.gr (gH0.trans ((gl0 od).trans g9))) hN hp hR ⟨u, rfl, hu2.1, hu2.2, rfl⟩ (pds_one (pud_var rfl (dr_dp (word_dr ha)))) fun J' g' => hT.gr (gH0.trans ((gl0 od).trans (g9.trans g')))
      refine ⟨D, .dT kvs, hD1, True.intro, fun od => hcomp od _ .refl _ fun v J g hv => ?_⟩
      have hJD := g.keep _ _ upd_same True.intro
      refine ⟨hJD, q v _ (gr_unlock g hD1 True.intro) ?_⟩
      rw [List.map_map]
      exact dp_upd (noSeq_fT hJD) hv
    refine Pu.imp (pud_not (pud_any (pds_one hlock))) fun v J _ h => ?_
    rw [dp_bl h]
    congr 2
    rw [Bool.eq_iff_iff]
    simp only [List.any_eq_true, List.mem_map, id]
    constructor
    · rintro ⟨_, ⟨z, hz, rfl⟩, h⟩
      obtain ⟨u, hu, ez⟩ := hmem z hz
      rw [ez, wordOf_kW] at h
      exact ⟨u, hu, h⟩
    · rintro ⟨u, hu, h⟩
      obtain ⟨v', hv'⟩ := dk.sup u hu
      exact ⟨_, ⟨_, hv', rfl⟩, by rw [wordOf_kW]; exact h⟩
  subst hv
  exact k J5 (gH0.trans (g04.trans g5))
end
end Km
set_option Elab.async false
set_option linter.all false
set_option maxRecDepth 100000
set_option maxHeartbeats 4000000
set_option autoImplicit false
namespace Km
open PySem PySem.Spec PyProof.Rows L2 StX SlX
theorem words_ok {p : Int} (hp : Prm p) {n : Nat} {u : List Int} (h : u ∈ wordsOf p.toNat n) : WR p u ∧ u.length = n := by
  have := words_len h
  rw [Int.toNat_of_nonneg (by have := hp.b; omega)] at this
  exact ⟨this.2, this.1⟩
/-- p and n are a shape -/
structure Shp (p : Int) (n : Nat) : Prop where
  hp : Prm p
  l1 : 1 ≤ n
  l5 : n ≤ 5
  few : p.toNat ^ n ≤ 49
section
variable {P : Program} {w : World} {K : PySem.W.Frag} {mg : Str → Option Value} {base : Heap} {T1 T2 c1 c2 CP CR fR cda cc : Addr}
def spLWords (K : PySem.W.Frag) : Sp := sPR K gT fun ds d => ∃ (p : Int) (n : Nat), ds = [.int p, .int (n : Int)] ∧ Shp p n ∧ d = .list ((wordsOf p.toNat n).map dW)
abbrev s_lwords : Stmt := top 52
theorem sc_lwords : FnScope ["_law_p", "_law_many", "_law_found", "_law_turn", "_law_longer", "_law_word", "_law_entry"] ["_law_p", "_law_many"] (defScope s_lwords) := ⟨rfl, rfl, rfl, by decide +kernel, rfl, by decide +kernel, by decide +kernel⟩
theorem ok_lwords (B : Bl mg) (D : Df K mg "_law_words" s_lwords ["_law_p", "_law_many"]) : Ok P w K mg base CX0 1 "_law_words" ["_law_p", "_law_many"] (spLWords K) := by
  refine okP D sc_lwords (fun ds d h => by obtain ⟨_, _, rfl, _⟩ := h; rfl) ?_
  rintro f cdv A outer s H vs Q E ds d hr hd ⟨p, n, rfl, hs, rfl⟩ _ k
  obtain ⟨v0, v1, rfl, h0, h1⟩ := dps2 hd
  have e0 := dp_int h0
  have e1 := dp_int h1
  subst e0 e1
  have hp := hs.hp.b
  have hpw : ∀ i, i ≤ n → p.toNat ^ i ≤ 49 := fun i hi => Nat.le_trans (Nat.pow_le_pow_right (by omega) hi) hs.few
  have hl5 := hs.l5
  refine ⟨_, (pss_cons (ps_set (i := 2) sc_lwords.nd rfl (Or.inl rfl) (pe_lst (pa_cons (pe_tup pa_nil) pa_nil))) (pss_cons (ps_for PassesOwn.never rfl (pi_range1 (by rfl) B.range (pa_cons (pv 1) pa_nil)) (pg_name (i := 3) sc_lwords.nd rfl (Or.inl rfl)) (pss_cons (ps_set (i := 4) sc_lwords.nd rfl (Or.inl rfl) (pe_lst pa_nil)) (pss_cons (ps_for PassesOwn.never rfl (pi_list (pv 2)) (pg_name (i := 5) sc_lwords.nd rfl (Or.inr rfl)) (pss_one (ps_set (i := 4) sc_lwords.nd rfl (Or.inl rfl) (pe_op op_cat (pv 4) (pe_lc (own := [("_law_entry", 6)]) (g := (gName 6)) (tt := tYes) rfl sc_lwords.nd (pi_range1 (by rfl) B.range (pa_cons (pv 0) pa_nil)) (blkOk_by (N := ["_law_p", "_law_many", "_law_found", "_law_turn", "_law_longer", "_law_word", "_law_entry"]) (sc := defScope s_lwords) (by decide +kernel)) (fun _ _ _ _ _ => pg_name (i := 6) sc_lwords.nd rfl (Or.inl rfl)) (fun _ _ _ _ _ => pts_nil) (fun _ _ _ _ _ => (pe_op (r := rCatA K) op_catA (pv 5) (pe_tup (pa_cons (pv 6) pa_nil))))))))) (pss_one (ps_set (i := 2) sc_lwords.nd rfl (Or.inl rfl) (pv 4)))))) (pss_one (ps_ret (pv 2))))), ?_⟩
  refine sq_set (P := fun v J => Dr J v (.list ((wordsOf p.toNat 0).map dW))) (pur_lst (prs_one (pur_tup prs_nil (by simp))) (by simp [wordsOf])) fun v2 J1 g1 hv2 => ?_
  dsimp only [tSeq, tNext]
  refine sq_for (l := List.range n) (R := fun i x _ => x = .int (i : Int)) (fun i σ A => ∃ v2 x3 x4 x5 x6, σ = [some (.int p), some (.int (n : Int)), some v2, x3, x4, x5, x6] ∧ Dr A v2 (.list ((wordsOf p.toNat i).map dW))) (src_rng1 (n := n) (fun H1 e Q q => ⟨_, rfl, q _ H1 .refl rfl⟩) (by omega)) (fun H1 g => ⟨v2, _, _, _, _, rfl, dr_gr g hv2⟩) ?_ ?_
  · rintro H1 gH1 i a hia σ A gA ⟨v2, x3, x4, x5, x6, rfl, d2⟩ x J gJ rfl
    have hi : i < n := by
      rcases Nat.lt_or_ge i n with h | h
      · exact h
      · rw [List.getElem?_eq_none (by rw [List.length_range]; exact h)] at hia; cases hia
    have hia2 : a = i := by simpa [hi] using hia.symm
    subst hia2
    refine sq_set (σ := [some (.int p), some (.int (n : Int)), some v2, some (.int (a : Int)), x4, x5, x6]) (P := fun v J => Dr J v (.list [])) (pur_lst prs_nil (by simp)) fun v4 J2 g2 hv4 => ?_
    dsimp only [tSeq, tNext]
    refine sq_for (l := wordsOf p.toNat a) (R := fun u x B => Dr B x (dW u)) (fun j σ A => ∃ v4 x5 x6, σ = [some (.int p), some (.int (n : Int)), some v2, some (.int (a : Int)), some v4, x5, x6] ∧ Dr A v4 (.list ((((wordsOf p.toNat a).take j).flatMap fun w => (List.range p.toNat).map fun (e : Nat) => w ++ [(e : Int)]).map dW))) (src_listR (enc := dW) (pur_var rfl (dr_gr (gJ.trans g2) d2))) (fun H2 g => ⟨v4, x5, x6, rfl, dr_gr g hv4⟩) ?_ ?_
    · rintro H2 gH2 j u hju σ A2 gA2 ⟨v4, x5, x6, rfl, d4⟩ y J3 gJ3 dy
      have hum : u ∈ wordsOf p.toNat a := List.mem_of_getElem? hju
      have huo := words_ok hs.hp hum
      have hlen : (((wordsOf p.toNat a).take j).flatMap fun w => (List.range p.toNat).map fun (e : Nat) => w ++ [(e : Int)]).length ≤ 1000 := by
        have h1 : (((wordsOf p.toNat a).take j).flatMap fun w => (List.range p.toNat).map fun (e : Nat) => w ++ [(e : Int)]).length ≤ (wordsOf p.toNat (a + 1)).length := by
          rw [wordsOf]
          conv => rhs; rw [← List.take_append_drop j (wordsOf p.toNat a), List.flatMap_append, List.length_append]
          omega
        rw [words_count] at h1
        exact Nat.le_trans h1 (Nat.le_trans (hpw (a + 1) (by omega)) (by decide))
      have hcat : PuR (tOp rCat (tVar 4) (tLc (iRng1 (tCons (tVar 0) tNil)) (gName 6) tYes (tOp (rCatA K) (tVar 5) (tTup (tCons (tVar 6) tNil))) [6])) [some (.int p), some (.int (n : Int)), some v2, some (.int (a : Int)), some v4, some y, x6] J3
          (.list ((((wordsOf p.toNat a).take j).flatMap fun w => (List.range p.toNat).map fun (e : Nat) => w ++ [(e : Int)]).map dW ++ ((List.range p.toNat).map fun (e : Nat) => dW (u ++ [(e : Int)])))) := by
        refine pur_cat (pur_var rfl (dr_gr gJ3 d4)) (pur_lcN (K := K) (l := List.range p.toNat) (R := fun i x _ => x = .int (i : Int)) (src_rng1 (n := p.toNat) (fun H1 e Q q => ⟨_, rfl, q _ H1 .refl (by rw [Int.toNat_of_nonneg (by omega)])⟩) (by omega)) (by rw [List.length_range]; omega) (el := fun e => dW (u ++ [(e : Int)])) (fun _ => lf_word _) (fun _ => rfl) fun e he z J9 g9 hz => ?_) (by rw [List.length_map, List.length_map, List.length_range]; omega)
        subst hz
        refine pu_isR (pur_catT (pur_var rfl (dr_gr g9 dy)) (pur_tup (prs_one (pur_var rfl (.int (e : Int)))) (by simp)) (by rw [List.length_map, huo.2]; simp; omega)) ?_
        simp
      refine sq_set (P := fun v J => Dr J v (.list ((((wordsOf p.toNat a).take (j + 1)).flatMap fun w => (List.range p.toNat).map fun (e : Nat) => w ++ [(e : Int)]).map dW))) (pu_isR hcat ?_) fun v6 J4 g4 hv6 => ⟨gA2.trans (gJ3.trans g4), v6, _, _, rfl, hv6⟩
      rw [flatMap_take _ hju, List.map_append, List.map_map]
      rfl
    · rintro H2 gH2 σ A2 gA2 ⟨v4, x5, x6, rfl, d4⟩
      rw [List.take_length] at d4
      exact ⟨v4, rfl, gA.trans (gJ.trans (g2.trans (gH2.trans gA2))), v4, _, _, _, _, rfl, by rw [wordsOf]; exact d4⟩
  · rintro H1 gH1 σ A gA ⟨v2, x3, x4, x5, x6, rfl, d2⟩
    rw [List.length_range] at d2
    exact ⟨v2, rfl, k v2 A (g1.trans (gH1.trans gA)) d2⟩
end
end Km
set_option Elab.async false
set_option linter.all false
set_option maxRecDepth 100000
set_option maxHeartbeats 4000000
set_option autoImplicit false
namespace Km
open PySem PySem.Spec PyProof.Rows L2 StX SlX
theorem shaped_ints (u : List Int) : SeqAt.shaped (.list (u.map .int)) = true := by
  have h := lay_ints u
  unfold SeqAt.shaped
  rw [PyData.canLay0, h.1, decide_eq_true (by rw [PyData.depth, h.2]; simp [PyData.depthAll])]; rfl
theorem eqv_ints (a b : List Int) : PyData.eqv (.list (a.map .int)) (.list (b.map .int)) = decide (a = b) := by
  rw [PyData.eqv]; exact eqvAll_ints a b
def retScope (s : Stmt) : Scope := match defBody s with
  | [.Return (some (.ListComp _ _ sc _)) _] => sc
  | _ => defScope s
theorem pi_tupK {X : Cx} {K : PySem.W.Frag} {tg l : Expr} {tl : TE} (hK : X.K = K) (hl : PE X l tl) : PI X tg l (iTup K tl) := hK ▸ pi_tup hl
theorem pi_listK {X : Cx} {K : PySem.W.Frag} {tg l : Expr} {tl : TE} (hK : X.K = K) (hl : PE X l tl) : PI X tg l (iList K tl) := hK ▸ pi_list hl
def normB (w : List Int) : Bool := decide ((w.filter fun e => !decide (e = 0)).take 1 = [1])
theorem wr_small {p : Int} (hp : Prm p) {w : List Int} (h : WR p w) : ∀ e ∈ w, -1000 ≤ e ∧ e ≤ 1000 := fun e he => by
  have := h e he
  have := hp.b
  omega
section
variable {P : Program} {w : World} {K : PySem.W.Frag} {mg : Str → Option Value} {base : Heap} {T1 T2 c1 c2 CP CR fR cda cc : Addr} {σ : L2.St} {H : Hp} {ta : TA}
theorem pud_int1 {te : TE} {i : Int} (h : PuD K te σ H (.int i)) : PuD K (tCB (fun xs H Q => (∃ i, xs = [.int i] ∧ Q (.int i) H) ∨ ∃ k, xs = [.bl k] ∧ Q (.int (if k then 1 else 0)) H) (tCons te tNil)) σ H (.int i) :=
  fun H1 e Q q => h H1 e _ fun v J g p => .inl ⟨i, by rw [dp_int p], q _ J g (.int i)⟩
def spLSum (K : PySem.W.Frag) : Sp := sPR K gT fun ds d => ∃ (p : Int) (u o : List Int) (b : Int), ds = [.int p, dW u, dW o, .int b] ∧ Prm p ∧ WR p o ∧ u.length ≤ 1000 ∧ d = dW (sumW p u o b)
abbrev s_lsum : Stmt := top 53
theorem sc_lsum : FnScope ["_law_p", "_law_word", "_law_other", "_law_by", "_law_one", "_law_two"] ["_law_p", "_law_word", "_law_other", "_law_by"] (defScope s_lsum) := ⟨rfl, rfl, rfl, by decide +kernel, rfl, by decide +kernel, by decide +kernel⟩
theorem ok_lsum (B : Bl mg) (D : Df K mg "_law_sum" s_lsum ["_law_p", "_law_word", "_law_other", "_law_by"]) : Ok P w K mg base CX0 1 "_law_sum" ["_law_p", "_law_word", "_law_other", "_law_by"] (spLSum K) := by
  refine okP D sc_lsum (fun ds d h => by obtain ⟨_, _, _, _, rfl, _⟩ := h; rfl) ?_
  rintro f cdv A outer s H vs Q E ds d hr hd ⟨p, u, o, b, rfl, hp, ho, h1, rfl⟩ _ k
  obtain _ | ⟨h0, _ | ⟨hu0, _ | ⟨ho0, _ | ⟨hb, _ | _⟩⟩⟩⟩ := hd
  refine ⟨_, (pss_one (ps_ret (pe_callTy call_tuple_of (by rfl) B.tuple boot_tuple (pa_cons (pe_lc (own := [("_law_one", 4), ("_law_two", 5)]) (g := (gTup K 2 (gCons (gName 4) (gCons (gName 5) gNil)))) (tt := tYes) rfl sc_lsum.nd (RZ.pi_zipA (by rfl) B.zip (pa_cons (pv 1) (pa_cons (pv 2) pa_nil))) (blkOk_by (N := ["_law_p", "_law_word", "_law_other", "_law_by", "_law_one", "_law_two"]) (sc := defScope s_lsum) (by decide +kernel)) (fun _ _ _ _ _ => pg_tup rfl (pgs_cons (pg_name (i := 4) sc_lsum.nd rfl (Or.inl rfl)) (pgs_cons (pg_name (i := 5) sc_lsum.nd rfl (Or.inl rfl)) pgs_nil))) (fun _ _ _ _ _ => pts_nil) (fun _ _ _ _ _ => (pe_op op_mod (pe_callTy call_int1 (by rfl) B.int boot_int (pa_cons (pe_op op_add (pv 4) (pe_op op_mul (pv 3) (pv 5))) pa_nil)) (pv 0)))) pa_nil)))), ?_⟩
  refine sq_ret (pur_tupleW (l := sumW p u o b) (pds_one ?_)) k
  refine pud_is (pu_lcP (src_zip (w := u) (o := o) (pds_cons (pud_var rfl hu0) (pds_one (pud_var rfl ho0)))) (by rw [List.length_zip]; omega) (el := fun x => .int ((x.1 + b * x.2) % p)) (fun _ _ => rfl) (fun _ _ => rfl) fun x hx v J g r => ?_) (by unfold sumW; rw [List.map_map]; rfl)
  obtain ⟨T, rfl, hT⟩ := r
  refine ⟨T, _, _, rfl, SqT.of hT, ?_⟩
  exact pud_mod (pud_int1 (pud_add (pud_var rfl (.int _)) (pud_mul (pud_var rfl (dp_gr g hb)) (pud_var rfl (.int _)) (mulR (ho.small hp (List.of_mem_zip hx).2))))) (pud_var rfl (dp_gr g h0)) (by have := hp.pos; omega)
def spLDot (K : PySem.W.Frag) : Sp := sPD K gT fun ds d => ∃ (p : Int) (u o : List Int), ds = [.int p, dW u, dW o] ∧ Prm p ∧ WR p o ∧ u.length ≤ 1000 ∧ d = .int (dot p u o)
abbrev s_ldot : Stmt := top 55
theorem sc_ldot : FnScope ["_law_p", "_law_word", "_law_run", "_law_one", "_law_two"] ["_law_p", "_law_word", "_law_run"] (defScope s_ldot) := ⟨rfl, rfl, rfl, by decide +kernel, rfl, by decide +kernel, by decide +kernel⟩
theorem ok_ldot (B : Bl mg) (D : Df K mg "_law_dot" s_ldot ["_law_p", "_law_word", "_law_run"]) : Ok P w K mg base CX0 1 "_law_dot" ["_law_p", "_law_word", "_law_run"] (spLDot K) := by
  refine okD D sc_ldot (fun ds d h => by obtain ⟨_, _, _, rfl, _⟩ := h; rfl) ?_
  rintro f cdv A outer s H vs Q E ds d hr hd ⟨p, u, o, rfl, hp, ho, h1, rfl⟩ _ k
  obtain _ | ⟨h0, _ | ⟨hu0, _ | ⟨ho0, _ | _⟩⟩⟩ := hd
  refine ⟨_, (pss_one (ps_ret (pe_op op_mod (pe_callTy call_int1 (by rfl) B.int boot_int (pa_cons (pe_callB (cr_sum rfl) (by rfl) B.sum boot_sum (pa_cons (pe_lc (own := [("_law_one", 3), ("_law_two", 4)]) (g := (gTup K 2 (gCons (gName 3) (gCons (gName 4) gNil)))) (tt := tYes) rfl sc_ldot.nd (RZ.pi_zipA (by rfl) B.zip (pa_cons (pv 1) (pa_cons (pv 2) pa_nil))) (blkOk_by (N := ["_law_p", "_law_word", "_law_run", "_law_one", "_law_two"]) (sc := defScope s_ldot) (by decide +kernel)) (fun _ _ _ _ _ => pg_tup rfl (pgs_cons (pg_name (i := 3) sc_ldot.nd rfl (Or.inl rfl)) (pgs_cons (pg_name (i := 4) sc_ldot.nd rfl (Or.inl rfl)) pgs_nil))) (fun _ _ _ _ _ => pts_nil) (fun _ _ _ _ _ => (pe_op op_mul (pv 3) (pv 4)))) pa_nil)) pa_nil)) (pv 0)))), ?_⟩
  refine sq_ret (pud_is (pud_mod (pud_int1 (pud_sum (ns := (u.zip o).map fun x => x.1 * x.2) (pds_one ?_))) (pud_var rfl h0) (by have := hp.pos; omega)) (d2 := .int (dot p u o)) rfl) k
  refine pud_is (pu_lcP (src_zip (w := u) (o := o) (pds_cons (pud_var rfl hu0) (pds_one (pud_var rfl ho0)))) (by rw [List.length_zip]; omega) (el := fun x => .int (x.1 * x.2)) (fun _ _ => rfl) (fun _ _ => rfl) fun x hx v J g r => ?_) (by rw [List.map_map]; rfl)
  obtain ⟨T, rfl, hT⟩ := r
  refine ⟨T, _, _, rfl, SqT.of hT, ?_⟩
  exact pud_mul (pud_var rfl (.int _)) (pud_var rfl (.int _)) (mulR (ho.small hp (List.of_mem_zip hx).2))
def spLNormals (K : PySem.W.Frag) : Sp := sPD K gT fun ds d => ∃ (p : Int) (n : Nat), ds = [.int p, .int (n : Int)] ∧ Shp p n ∧ d = .list (((wordsOf p.toNat n).filter normB).map dW)
abbrev s_lnormals : Stmt := top 54
theorem sc_lnormals : FnScope ["_law_p", "_law_many", "_law_word", "_law_entry"] ["_law_p", "_law_many"] (defScope s_lnormals) := ⟨rfl, rfl, rfl, by decide +kernel, rfl, by decide +kernel, by decide +kernel⟩
theorem ok_lnormals (B : Bl mg) (o__law_words : Ok P w K mg base CX0 1 "_law_words" ["_law_p", "_law_many"] (spLWords K)) (D : Df K mg "_law_normals" s_lnormals ["_law_p", "_law_many"]) : Ok P w K mg base CX0 2 "_law_normals" ["_law_p", "_law_many"] (spLNormals K) := by
  refine okD D sc_lnormals (fun ds d h => by obtain ⟨_, _, rfl, _⟩ := h; rfl) ?_
  rintro f cdv A outer s H vs Q E ds d hr hd ⟨p, n, rfl, hs, rfl⟩ _ k
  obtain ⟨v0, v1, rfl, h0, h1⟩ := dps2 hd
  have hfew := hs.few
  refine ⟨_, (pss_one (ps_ret (pe_lc (own := [("_law_word", 2)]) (g := (gName 2)) rfl sc_lnormals.nd (pi_list (pe_ok o__law_words (hr.mono (by decide)) (by rfl) pass0 (pa_cons (pv 0) (pa_cons (pv 1) pa_nil)))) (blkOk_by (N := ["_law_p", "_law_many", "_law_word", "_law_entry"]) (sc := defScope s_lnormals) (by decide +kernel)) (fun _ _ _ _ _ => pg_name (i := 2) sc_lnormals.nd rfl (Or.inl rfl)) (fun _ _ _ _ _ => pts_one (pt_cmpR (r := rEqD K) (op_eqD hr.units) (pe_slice (r := rSlL K) sl_list (pe_lc (own := [("_law_entry", 3)]) (g := (gName 3)) rfl sc_lnormals.nd (pi_tupK rfl (pv 2)) (by apply blkOk_by; rfl) (fun _ _ _ _ _ => pg_name (i := 3) sc_lnormals.nd rfl (Or.inl rfl)) (fun _ _ _ _ _ => pts_one (pt_cmpR op_ne (pv 3) pe_int (nomark _))) (fun _ _ _ _ _ => (pv 3))) po_none (po_some pe_int)) (pe_lst (pa_cons pe_int pa_nil)) (nomark _))) (fun _ _ _ _ _ => (pv 2))))), ?_⟩
  refine sq_ret (pu_lcT (K := K) (l := wordsOf p.toNat n) (keep := normB) (el := dW) (src_listR (K := K) (enc := dW) (pur_callP (G := gT) ⟨p, n, rfl, hs, rfl⟩ (pds_cons (pud_var rfl h0) (pds_one (pud_var rfl h1))) fun _ _ => trivial)) (by rw [words_count]; omega) (fun _ _ => lf_word _) (fun _ => rfl) (fun u hum y J g hy => ?_) fun u hum _ y J g hy => pud_var rfl (dr_dp hy)) k
  have huo := words_ok hs.hp hum
  have hl5 := hs.l5
  have e1 : normB u = PyData.eqv (.list (((u.filter fun e => !decide (e = 0)).take 1).map .int)) (.list (([1] : List Int).map .int)) := by rw [eqv_ints]; rfl
  rw [e1]
  refine pb_test (pud_eqD (pud_is (pud_slL (hi := some 1) (pud_is (pu_lcT (K := K) (l := u) (keep := fun e => !decide (e = 0)) (el := .int) (src_tup (enc := PyData.int) (pud_var rfl (dr_dp hy))) (by omega) (fun _ _ => rfl) (fun _ => rfl) (fun e he z J2 g2 hz => pb_test (pud_neI (pud_var rfl hz) pud_int)) fun e he _ z J2 g2 hz => pud_var rfl hz) rfl) puo_none (puo_some (K := K) pud_int)) ?_) (pud_lst (pds_one pud_int) (by simp)) (shaped_ints _) (shaped_ints [1]))
  rw [show (some 1 : Option Int) = some ((1 : Nat) : Int) from rfl, cutL_to, List.map_take]
def spLRuns (K : PySem.W.Frag) : Sp := sPD K gT fun ds d => ∃ (p : Int) (n : Nat) (rows : List Row), ds = [.int p, .int (n : Int), .tuple (rows.map dR)] ∧ Shp p n ∧ (∀ r ∈ rows, RowOk p n r) ∧ rows.length ≤ 100 ∧ d = .list ((runsOf p n rows).map dW)
abbrev s_lruns : Stmt := top 59
theorem sc_lruns : FnScope ["_law_p", "_law_many", "_law_rows", "_law_run", "_law_word", "_law_side"] ["_law_p", "_law_many", "_law_rows"] (defScope s_lruns) := ⟨rfl, rfl, rfl, by decide +kernel, rfl, by decide +kernel, by decide +kernel⟩
theorem ok_lruns (B : Bl mg) (o__law_words : Ok P w K mg base CX0 1 "_law_words" ["_law_p", "_law_many"] (spLWords K)) (o__law_dot : Ok P w K mg base CX0 1 "_law_dot" ["_law_p", "_law_word", "_law_run"] (spLDot K)) (D : Df K mg "_law_runs" s_lruns ["_law_p", "_law_many", "_law_rows"]) : Ok P w K mg base CX0 2 "_law_runs" ["_law_p", "_law_many", "_law_rows"] (spLRuns K) := by
  refine okD D sc_lruns (fun ds d h => by obtain ⟨_, _, _, rfl, _⟩ := h; rfl) ?_
  rintro f cdv A outer s H vs Q E ds d hr hd ⟨p, n, rows, rfl, hs, hrows, hl, rfl⟩ _ k
  obtain ⟨v0, v1, v2, rfl, h0, h1, h2⟩ := dps3 hd
  have hfew := hs.few
  have hl5 := hs.l5
  refine ⟨_, (pss_one (ps_ret (pe_lc (own := [("_law_run", 3)]) (g := (gName 3)) rfl sc_lruns.nd (pi_list (pe_ok o__law_words (hr.mono (by decide)) (by rfl) pass0 (pa_cons (pv 0) (pa_cons (pv 1) pa_nil)))) (blkOk_by (N := ["_law_p", "_law_many", "_law_rows", "_law_run", "_law_word", "_law_side"]) (sc := defScope s_lruns) (by decide +kernel)) (fun _ _ _ _ _ => pg_name (i := 3) sc_lruns.nd rfl (Or.inr rfl)) (fun _ _ _ _ _ => pts_one (pt_cmpR (r := rEqD K) (op_eqD hr.units) (pe_lc (own := [("_law_word", 4), ("_law_side", 5)]) (g := (gTup K 2 (gCons (gName 4) (gCons (gName 5) gNil)))) rfl sc_lruns.nd (pi_tupK rfl (pv 2)) (by apply blkOk_by; rfl) (fun _ _ _ _ _ => pg_tup rfl (pgs_cons (pg_name (i := 4) sc_lruns.nd rfl (Or.inl rfl)) (pgs_cons (pg_name (i := 5) sc_lruns.nd rfl (Or.inl rfl)) pgs_nil))) (fun _ _ _ _ _ => pts_one (pt_cmpR op_ne (pe_ok o__law_dot (hr.mono (by decide)) (by rfl) pass0 (pa_cons (pv 0) (pa_cons (pv 4) (pa_cons (pv 3) pa_nil)))) (pv 5) (nomark _))) (fun _ _ _ _ _ => pe_int)) (pe_lst pa_nil) (nomark _))) (fun _ _ _ _ _ => (pv 3))))), ?_⟩
  refine sq_ret (pu_lcT (K := K) (l := wordsOf p.toNat n) (keep := fulfils p rows) (el := dW) (src_listR (K := K) (enc := dW) (pur_callP (G := gT) ⟨p, n, rfl, hs, rfl⟩ (pds_cons (pud_var rfl h0) (pds_one (pud_var rfl h1))) fun _ _ => trivial)) (by rw [words_count]; omega) (fun _ _ => lf_word _) (fun _ => rfl) (fun u hum y J g hy => ?_) fun u hum _ y J g hy => pud_var rfl (dr_dp hy)) k
  have huo := words_ok hs.hp hum
  have e1 : fulfils p rows u = PyData.eqv (.list (((rows.filter fun r => !decide (dot p r.1 u = r.2)).map fun _ => (1 : Int)).map .int)) (.list (([] : List Int).map .int)) := by
    rw [eqv_ints]
    unfold fulfils
    rw [Bool.eq_iff_iff]
    simp
  rw [e1]
  refine pb_test (pud_eqD (pud_is (pu_lc (K := K) (l := rows) (keep := fun r => !decide (dot p r.1 u = r.2)) (el := fun _ => .int 1) (src_tup (enc := dR) (pud_var rfl (dp_gr g h2))) (by omega) (fun _ _ _ => rfl) fun r hrm z J2 g2 hz => ?_) ?_) (pud_lst pds_nil (by simp)) (shaped_ints _) (shaped_ints []))
  · obtain ⟨T, x, rfl, hT, hx⟩ := dp_row hz
    refine ⟨_, ?_, fun C c => ⟨T, [x, .int r.2], rfl, hT, rfl, x, [.int r.2], rfl, .int r.2, [], rfl, rfl, c⟩, pb_test (pud_neI (pud_call (G := gT) (gives ⟨p, r.1, u, rfl, hs.hp, huo.1, by rw [(hrows r hrm).len]; omega, rfl⟩) (pds_cons (pud_var rfl (dp_gr (g.trans g2) h0)) (pds_cons (pud_var rfl hx) (pds_one (pud_var rfl (dr_dp (dr_gr g2 hy)))))) fun _ _ => trivial) (pud_var rfl (.int _))), fun _ => pud_int⟩
    rfl
  · rw [List.map_map]; rfl
end
end Km
set_option Elab.async false
set_option linter.all false
set_option maxRecDepth 100000
set_option maxHeartbeats 4000000
set_option autoImplicit false
/-! what hands out new lists -/
namespace Km
open PySem PySem.Spec PyProof.Rows L2
/-- .. ends in a new thing -/
def PuF (te : TE) (σ : L2.St) (H : Hp) (P : V → Hp → Prop) : Prop := ∀ H1, Gr H H1 → ∀ Q : VK, (∀ b J, Gr H1 J → (∀ o, H1 b = some o → ¬ nTbl o) → P (.ref b) J → Q (.ref b) J) → te σ H1 Q
section
variable {K : PySem.W.Frag} {σ : L2.St} {H : Hp} {wi : TI} {te : TE} {vs : List Nat} {α : Type} {l : List α} {R : α → V → Hp → Prop} {j : Nat}
theorem PuF.pu {P : V → Hp → Prop} (h : PuF te σ H P) : Pu te σ H P := fun H1 e Q q => h H1 e _ fun b J g _ p => q _ J g p
theorem pur_lcF {el : α → PyData} (hs : SrcL wi σ H l R) (hl : l.length ≤ 1000000) (hf : ∀ a, lf (el a) = true)
    (hw : ∀ x, wipe ((wipe σ vs).set j (some x)) vs = wipe σ vs) (he : ∀ a ∈ l, ∀ x J, Gr H J → R a x J → PuR te ((wipe σ vs).set j (some x)) J (el a)) :
    PuF (tLc wi (gName j) tYes te vs) σ H fun v J => Dr J v (.list (l.map el)) := fun H0 e0 Q q => hs H0 e0 _ fun I H1 g1 w D hD => by
  refine lc_it w (fun i A => Gr H1 A ∧ ∃ acc, A D = some (.lst acc) ∧ DrAll A acc ((l.take i).map el)) ⟨.new hD, [], upd_same, by simp only [List.take_zero]; exact .nil⟩ (fun _ _ _ p => p.1) ?_ ?_
  · rintro i x A B hi ⟨ga, acc, ea, da⟩ ⟨gab, a, ha, hR⟩
    have hm : a ∈ l := List.mem_of_getElem? ha
    refine ⟨hw x, pb_yes (σ := (wipe σ vs).set j (some x)) B .refl _ fun J gj => ?_⟩
    rw [if_pos rfl]
    refine he a hm x B (e0.trans (g1.trans (ga.trans gab))) hR J gj _ fun y J2 g3 dy => ?_
    have g2 := gj.trans g3
    have eD : J2 D = some (.lst acc) := g2.lst (gab.lst ea)
    have hlen : acc.length ≤ l.length := by rw [drs_len da, List.length_map, List.length_take]; omega
    refine ⟨acc, eD, Nat.lt_of_le_of_lt (Nat.le_trans hlen hl) (by decide), (ga.trans (gab.trans g2)).mut hD, acc ++ [y], upd_same, ?_⟩
    have gq : Gtu J2 (upd J2 D (.lst (acc ++ [y]))) := gtu_upd eD (fun xs z => nomatch z)
    rw [take_more ha, List.map_append]
    exact drs_app (drs_tu gq (lfs_map hf _) (drs_gr (gab.trans g2) da)) (.cons (dr_tu gq (hf a) dy) .nil)
  · rintro A ⟨ga, acc, ea, da⟩
    rw [List.take_length] at da
    refine q D A (g1.trans ga) (fun o h n => ?_) (.lst ea da)
    have := g1.keep D o h n
    rw [hD] at this; cases this
/-- lists of ints, none of them at D -/
def LL (D : Addr) (A : Hp) : List V → List (List Int) → Prop
  | [], [] => True
  | v :: vs, n :: ns => (∃ b, v = .ref b ∧ b ≠ D ∧ A b = some (.lst (n.map V.int))) ∧ LL D A vs ns
  | _, _ => False
theorem LL.len {D : Addr} {A : Hp} : ∀ {vs : List V} {ns : List (List Int)}, LL D A vs ns → vs.length = ns.length
  | [], [], _ => rfl
  | v :: vs, n :: ns, h => by rw [List.length_cons, List.length_cons, LL.len h.2]
theorem LL.to {D : Addr} {A B : Hp} (f : ∀ b x, b ≠ D → A b = some (.lst x) → B b = some (.lst x)) : ∀ {vs : List V} {ns : List (List Int)}, LL D A vs ns → LL D B vs ns
  | [], [], _ => True.intro
  | v :: vs, n :: ns, ⟨⟨b, e, h1, h2⟩, h⟩ => ⟨⟨b, e, h1, f b _ h1 h2⟩, LL.to f h⟩
theorem LL.app {D : Addr} {A : Hp} {b : Addr} {m : List Int} (h1 : b ≠ D) (h2 : A b = some (.lst (m.map V.int))) : ∀ {vs : List V} {ns : List (List Int)}, LL D A vs ns → LL D A (vs ++ [.ref b]) (ns ++ [m])
  | [], [], _ => ⟨⟨b, rfl, h1, h2⟩, True.intro⟩
  | v :: vs, n :: ns, ⟨h3, h⟩ => ⟨h3, LL.app h1 h2 h⟩
theorem LL.drs {D : Addr} {A : Hp} : ∀ {vs : List V} {ns : List (List Int)}, LL D A vs ns → DrAll A vs (ns.map fun n => .list (n.map .int))
  | [], [], _ => .nil
  | v :: vs, n :: ns, ⟨⟨b, e, _, h2⟩, h⟩ => by subst e; exact .cons (.lst h2 (drs_ints n)) (LL.drs h)
/-- a list of lists of ints -/
theorem pur_lcL {el : α → List Int} (hs : SrcL wi σ H l R) (hl : l.length ≤ 1000000)
    (hw : ∀ x, wipe ((wipe σ vs).set j (some x)) vs = wipe σ vs) (he : ∀ a ∈ l, ∀ x J, Gr H J → R a x J → PuF te ((wipe σ vs).set j (some x)) J fun v J => Dr J v (.list ((el a).map .int))) :
    PuR (tLc wi (gName j) tYes te vs) σ H (.list ((l.map el).map fun n => .list (n.map .int))) := fun H0 e0 Q q => hs H0 e0 _ fun I H1 g1 w D hD => by
  refine lc_it w (fun i A => Gr H1 A ∧ ∃ acc, A D = some (.lst acc) ∧ LL D A acc ((l.take i).map el)) ⟨.new hD, [], upd_same, by simp only [List.take_zero]; exact True.intro⟩ (fun _ _ _ p => p.1) ?_ ?_
  · rintro i x A B hi ⟨ga, acc, ea, da⟩ ⟨gab, a, ha, hR⟩
    have hm : a ∈ l := List.mem_of_getElem? ha
    refine ⟨hw x, pb_yes (σ := (wipe σ vs).set j (some x)) B .refl _ fun J gj => ?_⟩
    rw [if_pos rfl]
    refine he a hm x B (e0.trans (g1.trans (ga.trans gab))) hR J gj _ fun b J2 g3 fr dy => ?_
    have g2 := gj.trans g3
    have eD : J2 D = some (.lst acc) := g2.lst (gab.lst ea)
    have hlen : acc.length ≤ l.length := by rw [da.len, List.length_map, List.length_take]; omega
    have hbD : b ≠ D := fun e => fr _ (by rw [e]; exact gj.lst (gab.lst ea)) (show nTbl (.lst acc) from True.intro)
    obtain ⟨b', xs, e, hb, dx⟩ := dr_lst dy
    cases e
    rw [ints_drs dx] at hb
    refine ⟨acc, eD, Nat.lt_of_le_of_lt (Nat.le_trans hlen hl) (by decide), (ga.trans (gab.trans g2)).mut hD, acc ++ [.ref b], upd_same, ?_⟩
    rw [take_more ha, List.map_append]
    refine LL.app hbD (by rw [upd_ne hbD]; exact hb) (da.to fun c x hc hx => ?_)
    rw [upd_ne hc]; exact g2.lst (gab.lst hx)
  · rintro A ⟨ga, acc, ea, da⟩
    rw [List.take_length] at da
    exact q _ A (g1.trans ga) (.lst ea da.drs)
end
end Km
set_option Elab.async false
set_option linter.all false
set_option maxRecDepth 100000
set_option maxHeartbeats 4000000
set_option autoImplicit false
namespace Km
open PySem PySem.Spec PyProof.Rows L2 StX SlX
/-- where each sum first stands -/
def partsOf (p : Int) (u : List Int) (runs : List (List Int)) : List Int := (runs.map (dot p u)).map fun s => (((runs.map (dot p u)).idxOf s : Nat) : Int)
abbrev dI (n : List Int) : PyData := .list (n.map .int)
def badAt (p : Int) (runs ws bs : List (List Int)) (a : List Int × Nat) : Bool :=
  decide (a.1 = List.replicate runs.length 0) || ((((ws.map fun u => partsOf p u runs).take a.2).any fun z => decide (z = a.1)) || ((bs.map fun u => partsOf p u runs).any fun z => decide (z = a.1)))
def dueOf (p : Int) (runs ws bs : List (List Int)) : Bool := !((ws.map fun u => partsOf p u runs).zipIdx.any (badAt p runs ws bs))
theorem shaped_dIs (l : List (List Int)) : SeqAt.shaped (.list (l.map dI)) = true := by
  have h : ∀ l : List (List Int), PyData.canLayAll0 (l.map dI) = true ∧ PyData.depthAll (l.map dI) ≤ 3 := by
    intro l
    induction l with
    | nil => simp [PyData.canLayAll0, PyData.depthAll]
    | cons a r ih =>
      have h := lay_ints a
      refine ⟨?_, ?_⟩
      · rw [List.map_cons, PyData.canLayAll0, ih.1, PyData.canLay0, h.1]; rfl
      · rw [List.map_cons, PyData.depthAll, PyData.depth, h.2]; simp only [PyData.depthAll]; omega
  unfold SeqAt.shaped
  rw [PyData.canLay0, (h l).1, decide_eq_true (by rw [PyData.depth]; have := (h l).2; omega)]; rfl
section
variable {P : Program} {w : World} {K : PySem.W.Frag} {mg : Str → Option Value} {base : Heap} {T1 T2 c1 c2 CP CR fR cda cc : Addr}
theorem pe_bmK {X : Cx} {o e : Expr} {es : List Expr} {to : TE} {t : TA} {name : Str} {apos cpos : Pos} {T id : String} {r : V → List V → Hp → VK → Prop} (hK : X.K = K) (pa : PlainAttrs T) (slot : Slot T name id) (hty : typeOf (.builtin id) = pure (.type "method_descriptor")) (hm : MtR X id r) (ho : PE X o to) (ha : PA X (e :: es) t)
    (hbase : attributeBase o name X.env (eval o X.env) = eval o X.env := by rfl)
    (hfew : ((backTo cpos (starEach (e :: es) X.env)).all (fun x => !x.1) && (backToKw cpos (keywordEach [] X.env)).all (fun x => x.1.isSome)
      && decide ((e :: es).length + ([] : List Keyword).length + (if ([] : List Keyword).isEmpty then 0 else 1) < 30)) = true := by rfl)
    (hline : (apos.endLine == cpos.line) = true := by rfl) (hs : starEach (e :: es) X.env = (false, eval e X.env) :: starEach es X.env := by rfl) (hplain : (backTo cpos (starEach es X.env)).any (·.1) = false := by rfl) :
    PE X (.Call (.Attribute o name apos) (e :: es) [] cpos) (tBM K T r to t) := by
  subst hK
  exact pe_bm pa slot hty hm ho ha hbase hfew hline hs hplain
theorem pud_index {σ : L2.St} {H : Hp} {T : String} {to te : TE} {ns : List Int} {n : Int} (hT : T = "list") (h : PuD K to σ H (dI ns)) (h1 : PuD K te σ H (.int n)) (hm : n ∈ ns) : PuD K (tBM K T (rIndexD K) to (tCons te tNil)) σ H (.int ((ns.idxOf n : Nat) : Int)) := by
  intro H1 e Q q
  refine h H1 e _ fun v J g p => ?_
  obtain ⟨a, xs, rfl, s, t⟩ := dp_lst p
  refine ⟨.inl ⟨hT, xs, s⟩, h1 J (e.trans g) _ fun w J2 g2 p2 => ?_⟩
  have hlt : ns.idxOf n < ns.length := List.idxOf_lt_length_of_mem hm
  refine ⟨a, w, .int n, ns.map .int, ns.idxOf n, .int n, rfl, rfl, dp_gr g2 p, p2, shaped_ints ns, rfl, ?_, ?_, fun m z' hm' hz => ?_, q _ J2 (g.trans g2) (.int _)⟩
  · rw [List.getElem?_map, List.getElem?_eq_getElem hlt, List.getElem_idxOf hlt]; rfl
  · simp [PyData.eqv]
  · rw [List.getElem?_map] at hz
    obtain ⟨b, hb, rfl⟩ := Option.map_eq_some_iff.mp hz
    have hne : b ≠ n := fun e => by
      subst e
      obtain ⟨hml, e2⟩ := List.getElem?_eq_some_iff.mp hb
      have := List.not_of_lt_findIdx (p := (· == b)) (xs := ns) (i := m) hm'
      rw [e2] at this
      simp at this
    simp [PyData.eqv, hne]
def spLParts (K : PySem.W.Frag) : Sp := fun vs H Q _ => ∃ (p : Int) (u : List Int) (runs : List (List Int)), DpAll K H vs [.int p, dW u, .list (runs.map dW)] ∧ Prm p ∧ u.length ≤ 1000 ∧ (∀ r ∈ runs, WR p r) ∧ runs.length ≤ 1000 ∧
  ∀ b J, Gr H J → (∀ o, H b = some o → ¬ nTbl o) → Dr J (.ref b) (dI (partsOf p u runs)) → Q (.ref b) J
abbrev s_lparts : Stmt := top 60
theorem sc_lparts : FnScope ["_law_p", "_law_word", "_law_runs_here", "_law_sums", "_law_run", "_law_one"] ["_law_p", "_law_word", "_law_runs_here"] (defScope s_lparts) := ⟨rfl, rfl, rfl, by decide +kernel, rfl, by decide +kernel, by decide +kernel⟩
theorem ok_lparts (B : Bl mg) (o__law_dot : Ok P w K mg base CX0 1 "_law_dot" ["_law_p", "_law_word", "_law_run"] (spLDot K)) (D : Df K mg "_law_parts" s_lparts ["_law_p", "_law_word", "_law_runs_here"]) : Ok P w K mg base CX0 2 "_law_parts" ["_law_p", "_law_word", "_law_runs_here"] (spLParts K) := D.ok fun f fd F => by
  refine F.ok sc_lparts (fun vs H Q E h => by obtain ⟨_, _, _, hd, _⟩ := h; rw [dps_len hd]; rfl) ?_
  rintro cdv A outer s H vs Q E hr ⟨p, u, runs, hd, hp, hu, hrw, hl, k⟩
  obtain ⟨v0, v1, v2, rfl, h0, h1, h2⟩ := dps3 hd
  refine ⟨_, (pss_cons (ps_set (i := 3) sc_lparts.nd rfl (Or.inr rfl) (pe_lc (own := [("_law_run", 4)]) (g := (gName 4)) (tt := tYes) rfl sc_lparts.nd (pi_list (pv 2)) (blkOk_by (N := ["_law_p", "_law_word", "_law_runs_here", "_law_sums", "_law_run", "_law_one"]) (sc := defScope s_lparts) (by decide +kernel)) (fun _ _ _ _ _ => pg_name (i := 4) sc_lparts.nd rfl (Or.inl rfl)) (fun _ _ _ _ _ => pts_nil) (fun _ _ _ _ _ => (pe_ok o__law_dot (hr.mono (by decide)) (by rfl) pass0 (pa_cons (pv 0) (pa_cons (pv 1) (pa_cons (pv 4) pa_nil))))))) (pss_one (ps_ret (pe_lc (own := [("_law_one", 5)]) (g := (gName 5)) (tt := tYes) rfl sc_lparts.nd (pi_list (pv 3)) (blkOk_by (N := ["_law_p", "_law_word", "_law_runs_here", "_law_sums", "_law_run", "_law_one"]) (sc := defScope s_lparts) (by decide +kernel)) (fun _ _ _ _ _ => pg_name (i := 5) sc_lparts.nd rfl (Or.inl rfl)) (fun _ _ _ _ _ => pts_nil) (fun _ _ _ _ _ => (pe_bmK rfl PySem.F.plainAttrs_list PySem.F.slot_list_index PySem.F.type_list_index (r := rIndexD K) (mt_indexD (room65 hr)) (pv 3) (pa_cons (pv 5) pa_nil))))))), ?_⟩
  refine sq_set (P := fun v J => Dp K J v (dI (runs.map (dot p u)))) (pud_is (pu_lcN (K := K) (l := runs) (el := fun r => .int (dot p u r)) (src_list (enc := dW) (pud_var rfl h2)) (by omega) (fun _ _ => rfl) (fun _ => rfl) fun r hrm y J g hy =>
    pud_call (G := gT) (gives ⟨p, u, r, rfl, hp, hrw r hrm, hu, rfl⟩) (pds_cons (pud_var rfl (dp_gr g h0)) (pds_cons (pud_var rfl (dp_gr g h1)) (pds_one (pud_var rfl hy)))) fun _ _ => trivial) (by unfold dI; rw [List.map_map]; rfl)) fun v3 J1 g1 hv3 => ?_
  dsimp only [tSeq, tNext]
  refine (pur_lcF (l := runs.map (dot p u)) (el := fun s => .int (((runs.map (dot p u)).idxOf s : Nat) : Int)) (src_list (enc := PyData.int) (pud_var rfl hv3)) (by rw [List.length_map]; omega) (fun _ => rfl) (fun _ => rfl) fun z hz y J g hy => pur_of_int (K := K) (pud_index rfl (pud_var rfl (dp_gr g hv3)) (pud_var rfl hy) hz)) J1 .refl _ fun b J g fr hv => ?_
  refine k b J (g1.trans g) (fun o h n => fr o (g1.keep b o h n) n) ?_
  unfold partsOf dI
  rw [List.map_map]
  exact hv
def spLDue (K : PySem.W.Frag) : Sp := fun vs H Q _ => ∃ (p : Int) (runs ws bs : List (List Int)), DpAll K H vs [.int p, .list (runs.map dW), .tuple (ws.map dW), .tuple (bs.map dW)] ∧ Prm p ∧ (∀ u ∈ ws, u.length ≤ 1000) ∧ (∀ u ∈ bs, u.length ≤ 1000) ∧ (∀ r ∈ runs, WR p r) ∧ runs.length ≤ 1000 ∧ ws.length ≤ 1000 ∧ bs.length ≤ 1000 ∧
  ∀ J, Gr H J → Q (.bl (dueOf p runs ws bs)) J
abbrev s_ldue : Stmt := top 61
theorem sc_ldue : FnScope ["_law_p", "_law_runs_here", "_law_wanted", "_law_beside", "_law_parts_here", "_law_others", "_law_at", "_law_here", "_law_word"] ["_law_p", "_law_runs_here", "_law_wanted", "_law_beside"] (defScope s_ldue) := ⟨rfl, rfl, rfl, by decide +kernel, rfl, by decide +kernel, by decide +kernel⟩
theorem ok_ldue (B : Bl mg) (o__law_parts : Ok P w K mg base CX0 2 "_law_parts" ["_law_p", "_law_word", "_law_runs_here"] (spLParts K)) (D : Df K mg "_law_due" s_ldue ["_law_p", "_law_runs_here", "_law_wanted", "_law_beside"]) : Ok P w K mg base CX0 3 "_law_due" ["_law_p", "_law_runs_here", "_law_wanted", "_law_beside"] (spLDue K) := D.ok fun f fd F => by
  refine F.ok sc_ldue (fun vs H Q E h => by obtain ⟨_, _, _, _, hd, _⟩ := h; rw [dps_len hd]; rfl) ?_
  rintro cdv A outer s H vs Q E hr ⟨p, runs, ws, bs, hd, hp, hws, hbs, hrw, hrl, hwl, hbl, k⟩
  obtain ⟨v0, v1, v2, v3, rfl, h0, h1, h2, h3⟩ := dps4 hd
  refine ⟨_, (pss_cons (ps_setLc (i := 4) (own := [("_law_word", 8)]) (g := (gName 8)) (tt := tYes) rfl sc_ldue.nd rfl rfl (sw_true rfl rfl rfl (by decide +kernel)) (pi_tup (pv 2)) (blkOk_by (N := ["_law_p", "_law_runs_here", "_law_wanted", "_law_beside", "_law_parts_here", "_law_others", "_law_at", "_law_here", "_law_word"]) (sc := defScope s_ldue) (by decide +kernel)) (fun _ _ _ _ _ => pg_name (i := 8) sc_ldue.nd rfl (Or.inl rfl)) (fun _ _ _ _ _ => pts_nil) (fun _ _ _ _ _ => (pe_ok o__law_parts (hr.mono (by decide)) (by rfl) pass0 (pa_cons (pv 0) (pa_cons (pv 8) (pa_cons (pv 1) pa_nil)))))) (pss_cons (ps_setLc (i := 5) (own := [("_law_word", 8)]) (g := (gName 8)) (tt := tYes) rfl sc_ldue.nd rfl rfl (sw_true rfl rfl rfl (by decide +kernel)) (pi_tup (pv 3)) (blkOk_by (N := ["_law_p", "_law_runs_here", "_law_wanted", "_law_beside", "_law_parts_here", "_law_others", "_law_at", "_law_here", "_law_word"]) (sc := defScope s_ldue) (by decide +kernel)) (fun _ _ _ _ _ => pg_name (i := 8) sc_ldue.nd rfl (Or.inl rfl)) (fun _ _ _ _ _ => pts_nil) (fun _ _ _ _ _ => (pe_ok o__law_parts (hr.mono (by decide)) (by rfl) pass0 (pa_cons (pv 0) (pa_cons (pv 8) (pa_cons (pv 1) pa_nil)))))) (pss_cons (ps_for PassesOwn.never rfl (pi_enum (by rfl) B.enumerate (pa_cons (pv 4) pa_nil)) (pg_tup rfl (pgs_cons (pg_name (i := 6) sc_ldue.nd rfl (Or.inl rfl)) (pgs_cons (pg_name (i := 7) sc_ldue.nd rfl (Or.inl rfl)) pgs_nil))) (pss_one (ps_if (PW.pt (pw_or (pt_cmpR (r := rEqD K) (op_eqD hr.units) (pv 7) (pe_op op_rep (pe_lst (pa_cons pe_int pa_nil)) (pe_callB call_len_seq (by rfl) B.len boot_len (pa_cons (pv 1) pa_nil))) (nomark _)) (pw_or (pt_cmpR (r := rInD K) (op_inD (room65 hr)) (pv 7) (pe_slice (r := rSlL K) sl_list (pv 4) po_none (po_some (pv 6))) (by rfl)) (pw_or1 (pt_cmpR (r := rInD K) (op_inD (room65 hr)) (pv 7) (pv 5) (by rfl)))))) (pss_one (ps_ret pe_bl)) pss_nil))) (pss_one (ps_ret pe_bl))))), ?_⟩
  have hpart : ∀ (σ : L2.St) (J : Hp) (u : List Int) (y : V) (i j m : Nat), Gr H J → σ[i]? = some (some v0) → σ[j]? = some (some y) → σ[m]? = some (some v1) → Dp K J y (dW u) → u.length ≤ 1000 →
      PuF (tCall (spLParts K) [] E0 (tCons (tVar i) (tCons (tVar j) (tCons (tVar m) tNil)))) σ J fun v J => Dr J v (dI (partsOf p u runs)) := fun σ J u y i j m g e1 e2 e3 hy hu H1 e Q q => by
    refine ⟨v0, e1, y, e2, v1, e3, p, u, runs, ?_, hp, hu, hrw, hrl, fun b J2 g2 fr hv => q b J2 g2 fr hv⟩
    exact .cons (dp_gr (g.trans e) h0) (.cons (dp_gr e hy) (.cons (dp_gr (g.trans e) h1) .nil))
  refine sq_set (P := fun v J => Dp K J v (.list ((ws.map fun u => partsOf p u runs).map dI))) (pur_d (pur_lcL (l := ws) (el := fun u => partsOf p u runs) (src_tup (K := K) (enc := dW) (pud_var rfl h2)) (by omega) (fun _ => rfl) fun u hum y J g hy => hpart _ J u y 0 8 1 g rfl rfl rfl hy (hws u hum))) fun v4 J1 g1 hv4 => ?_
  dsimp only [tSeq, tNext]
  refine sq_set (P := fun v J => Dp K J v (.list ((bs.map fun u => partsOf p u runs).map dI))) (pur_d (pur_lcL (l := bs) (el := fun u => partsOf p u runs) (src_tup (K := K) (enc := dW) (pud_var rfl (dp_gr g1 h3))) (by omega) (fun _ => rfl) fun u hum y J g hy => hpart _ J u y 0 8 1 (g1.trans g) rfl rfl rfl hy (hbs u hum))) fun v5 J2 g2 hv5 => ?_
  dsimp only [tSeq, tNext]
  have g12 := g1.trans g2
  refine sq_for (l := (ws.map fun u => partsOf p u runs).zipIdx) (R := fun a v B => ∃ T x, v = .ref T ∧ SqT K B T [.int (a.2 : Int), x] ∧ Dp K B x (dI a.1)) (fun i σ A => (∃ x6 x7, σ = [some v0, some v1, some v2, some v3, some v4, some v5, x6, x7, none]) ∧ ∀ a ∈ ((ws.map fun u => partsOf p u runs).zipIdx).take i, badAt p runs ws bs a = false)
    (src_enumL (K := K) (enc := dI) (pds_one (pud_var rfl (dp_gr g2 hv4)))) (fun H1 g => ⟨⟨none, none, rfl⟩, by simp⟩) ?_ ?_
  · rintro H1 gH1 i a hia σ A gA ⟨⟨x6, x7, rfl⟩, hno⟩ v J gJ ⟨T, x, rfl, hT, hx⟩
    have gAll := g12.trans (gH1.trans (gA.trans gJ))
    refine ⟨T, [.int (a.2 : Int), x], rfl, hT, rfl, .int (a.2 : Int), [x], rfl, x, [], rfl, rfl, ?_⟩
    refine sq_if (σ := [some v0, some v1, some v2, some v3, some v4, some v5, some (.int (a.2 : Int)), some x, none]) (b := badAt p runs ws bs a) ?_ (fun _ J3 g3 => ?_) fun hb J3 g3 => ?_
    · refine pb_is (pb_or (pb_test (pud_eqD (d2 := dI (List.replicate runs.length 0)) (pud_var rfl hx) (pud_is (pud_rep (K := K) (n := runs.length) (d := .int 0) (pur_lst (prs_one pur_int) (by simp)) (pud_is (pud_lenL (pds_one (pud_var rfl (dp_gr gAll h1)))) (by rw [List.length_map])) (by omega)) (by unfold dI; rw [List.map_replicate])) (shaped_ints _) (shaped_ints _))) fun _ =>
        pb_or (pb_test (pud_inD (pud_var rfl hx) (pud_is (pud_slL (hi := some (a.2 : Int)) (pud_var rfl (dp_gr (g2.trans (gH1.trans (gA.trans gJ))) hv4)) puo_none (puo_some (K := K) (pud_var rfl (.int _)))) (by rw [cutL_to, ← List.map_take])) (shaped_ints _) (shaped_dIs _))) fun _ =>
        pb_test (pud_inD (pud_var rfl hx) (pud_var rfl (dp_gr (gH1.trans (gA.trans gJ)) hv5)) (shaped_ints _) (shaped_dIs _))) ?_
      unfold badAt
      rw [List.any_map, List.any_map]
      simp only [eqv_ints, Function.comp_def]
    · rename_i hb
      have := k J3 (gAll.trans g3)
      have ed : dueOf p runs ws bs = false := by
        unfold dueOf
        rw [Bool.not_eq_false', List.any_eq_true]
        exact ⟨a, List.mem_of_getElem? hia, hb⟩
      rw [ed] at this
      exact this
    · refine ⟨gA.trans (gJ.trans g3), ⟨_, _, rfl⟩, fun z hz => ?_⟩
      rw [take_more hia] at hz
      rcases List.mem_append.mp hz with hz | hz
      · exact hno z hz
      · rw [List.mem_singleton.mp hz]; exact hb
  · rintro H1 gH1 σ A gA ⟨⟨x6, x7, rfl⟩, hno⟩
    rw [List.take_length] at hno
    have := k A (g12.trans (gH1.trans gA))
    have ed : dueOf p runs ws bs = true := by
      unfold dueOf
      rw [Bool.not_eq_true', List.any_eq_false]
      intro a ha
      rw [hno a ha]; decide
    rw [ed] at this
    exact this
end
end Km
section
set_option linter.all false
set_option autoImplicit false
/-! reduced rows are left as they are -/
namespace Km
theorem mul_one_eq {p : Int} (hp : Prm p) {w : List Int} (h : WR p w) : mul p w 1 = w := by
  unfold mul
  refine List.ext_getElem (by simp) fun i h1 h2 => ?_
  have := h w[i] (List.getElem_mem h2)
  rw [List.getElem_map, Int.one_mul, Int.emod_eq_of_lt this.1 this.2]
theorem sum_zero_eq {p : Int} (hp : Prm p) {w o : List Int} (h : WR p w) (hl : o.length = w.length) : sumW p w o 0 = w := by
  unfold sumW
  refine List.ext_getElem (by simp [hl]) fun i h1 h2 => ?_
  have := h w[i] (List.getElem_mem h2)
  simp only [List.getElem_map, List.getElem_zip, Int.zero_mul, Int.add_zero]
  exact Int.emod_eq_of_lt this.1 this.2
theorem step_same {p : Int} {n : Nat} (hp : Prm p) {ws r : Row} (h1 : RowOk p n ws) (h2 : RowOk p n r) (hz : at0 ws (lead r.1) = 0) : restStep p ws r = ws := by
  unfold restStep
  rw [show ws.1.getD (lead r.1) 0 = 0 from hz]
  have e : (-(0 : Int)) % p = 0 := by simp
  rw [e, sum_zero_eq hp h1.ent (by rw [h1.len, h2.len]), Int.zero_mul, Int.add_zero, Int.emod_eq_of_lt h1.side.1 h1.side.2]
theorem rest_same {p : Int} {n : Nat} (hp : Prm p) {ws : Row} (h1 : RowOk p n ws) : ∀ (f : List Row), (∀ r ∈ f, RowOk p n r) → (∀ r ∈ f, at0 ws (lead r.1) = 0) → restOf p f ws = ws
  | [], _, _ => rfl
  | r :: f, h2, hz => by
    show restOf p f (restStep p ws r) = ws
    rw [step_same hp h1 (h2 r List.mem_cons_self) (hz r List.mem_cons_self)]
    exact rest_same hp h1 f (fun q hq => h2 q (List.mem_cons_of_mem _ hq)) fun q hq => hz q (List.mem_cons_of_mem _ hq)
theorem inv_one {p : Int} (hp : Prm p) : inv p 1 = 1 := by
  rcases hp with h | h | h | h <;> subst h <;> decide
theorem withRow_perm (p : Int) (f : List Row) (r : Row) : (withRow p f r).Perm (foundOf p f r) := by
  unfold withRow
  generalize foundOf p f r = F
  have hpick : (pairsOf F).map (pick F) = F := by
    unfold pairsOf pick
    rw [List.map_map]
    refine List.ext_getElem (by simp) fun i h1 h2 => ?_
    simp only [List.getElem_map, List.getElem_zipIdx, Function.comp_apply]
    rw [show (((0 + i : Nat) : Int)).toNat = i by omega, List.getD_eq_getElem?_getD, List.getElem?_eq_getElem h2]; rfl
  have := (places_perm F).map (pick F)
  rwa [hpick] at this
theorem Red.sub {p : Int} {n : Nat} {a b : List Row} (h : Red p n b) (s : a.Sublist b) : Red p n a :=
  ⟨fun r hr => h.ok r (s.subset hr), fun r hr => h.lt r (s.subset hr), fun r hr => h.one r (s.subset hr), h.off.sublist s, h.asc.sublist s⟩
theorem redGo_same {p : Int} {n : Nat} (hp : Prm p) : ∀ (rows f : List Row) (i : Nat), Red p n (f ++ rows) → redGo p f i rows = (f ++ rows, none)
  | [], f, i, _ => by rw [redGo, List.append_nil]
  | r :: rs, f, i, h => by
    have hf : Red p n f := h.sub (List.sublist_append_left f (r :: rs))
    have hfr : Red p n (f ++ [r]) := h.sub (by
      have : f ++ r :: rs = (f ++ [r]) ++ rs := by simp
      rw [this]; exact List.sublist_append_left _ _)
    have hr : RowOk p n r := hfr.ok r (by simp)
    have off := List.pairwise_append.mp hfr.offp
    have hz : ∀ q ∈ f, at0 r (lead q.1) = 0 := fun q hq => (off.2.2 q hq r (by simp)).2
    have hz2 : ∀ q ∈ f, at0 q (lead r.1) = 0 := fun q hq => (off.2.2 q hq r (by simp)).1
    have e1 : restOf p f r = r := rest_same hp hr f hf.ok hz
    have one : r.1.getD (lead r.1) 0 = 1 := hfr.one r (by simp)
    have hnz : isZ r.1 = false := by
      cases e : isZ r.1 with
      | false => rfl
      | true =>
        have := isZ_iff.mp e (lead r.1)
        rw [one] at this; cases this
    have e2 : newRow p r = r := by
      unfold newRow
      rw [one, inv_one hp, mul_one_eq hp hr.ent, Int.one_mul, Int.emod_eq_of_lt hr.side.1 hr.side.2]
    have e3 : foundOf p f r = r :: f := by
      unfold foundOf
      rw [e1, e2]
      congr 1
      refine (List.map_congr_left fun o ho => ?_).trans (List.map_id f)
      exact rest_same hp (hf.ok o ho) [r] (fun q hq => by rw [List.mem_singleton.mp hq]; exact hr) fun q hq => by rw [List.mem_singleton.mp hq]; exact hz2 o ho
    have e4 : withRow p f r = f ++ [r] := by
      have hp1 := withRow_perm p f r
      rw [e3] at hp1
      have hp2 : (withRow p f r).Perm (f ++ [r]) := hp1.trans (by simpa using (List.perm_append_comm (l₁ := [r]) (l₂ := f)))
      have hz' : isZ (restOf p f r).1 = false := by rw [e1]; exact hnz
      have ha := (red_with hp hf hr hz').asc
      exact hp2.eq_of_pairwise (le := fun a b => lead a.1 < lead b.1) (fun a b _ _ h1 h2 => absurd h1 (Nat.lt_asymm h2)) ha hfr.asc
    rw [redGo, e1, hnz, if_neg Bool.false_ne_true, e4]
    have := redGo_same hp rs (f ++ [r]) (i + 1) (by simpa using h)
    simpa using this
theorem redGo_of_red {p : Int} {n : Nat} {rows : List Row} (hp : Prm p) (h : Red p n rows) : redGo p [] 0 rows = (rows, none) := redGo_same hp rows [] 0 h
end Km
end
section
set_option linter.all false
set_option autoImplicit false
/-! classes that are constant on the runs, classes that part them alike -/
namespace Km
/-! ### congruences -/
theorem cg_iff {p a b : Int} (hp : Prm p) : a % p = b % p ↔ ∃ k, a = b + p * k := by
  have hb := hp.b
  constructor
  · intro h
    refine ⟨a / p - b / p, ?_⟩
    have h1 := Int.emod_add_mul_ediv a p
    have h2 := Int.emod_add_mul_ediv b p
    rw [Int.mul_sub]; omega
  · rintro ⟨k, rfl⟩
    rw [Int.add_mul_emod_self_left]
theorem cg_mod {p : Int} (hp : Prm p) (a : Int) : ∃ k, a % p = a + p * k := ⟨-(a / p), by
  have h1 := Int.emod_add_mul_ediv a p
  rw [Int.mul_neg]; omega⟩
/-- what is no multiple has an inverse -/
theorem cg_inv {p : Int} (hp : Prm p) {c : Int} (h : c % p ≠ 0) : ∃ d k, 1 ≤ d ∧ d < p ∧ d * c = 1 + p * k := by
  have hr := emod_rng hp c
  have h1 := inv_mul hp (e := c % p) ⟨by omega, hr.2⟩
  have h2 := inv_rng2 hp (c % p)
  refine ⟨inv p (c % p), ?_⟩
  have hb := hp.b
  obtain ⟨kc, ec⟩ := cg_mod hp c
  obtain ⟨k, hk⟩ := (cg_iff hp (b := 1)).mp (by rw [h1, Int.emod_eq_of_lt (by omega) (by omega)])
  refine ⟨k - inv p (c % p) * kc, h2.1, h2.2, ?_⟩
  generalize inv p (c % p) = d at *
  rw [ec] at hk
  grind
/-! ### dot of sums and multiples -/
theorem dot_cg {p : Int} (hp : Prm p) {n : Nat} {w x : List Int} (h1 : w.length = n) (h2 : x.length = n) : ∃ k, dot p w x = sm n (fun i => w.getD i 0 * x.getD i 0) + p * k := by
  rw [dot_sm h1 h2]; exact cg_mod hp _
theorem sm_cg {p : Int} (hp : Prm p) (n : Nat) (f g : Nat → Int) (h : ∀ i, i < n → ∃ k, f i = g i + p * k) : ∃ k, sm n f = sm n g + p * k := by
  induction n with
  | zero => exact ⟨0, by rw [sm_z, sm_z]; simp⟩
  | succ n ih =>
    obtain ⟨k, hk⟩ := ih fun i hi => h i (by omega)
    obtain ⟨m, hm⟩ := h n (by omega)
    exact ⟨k + m, by rw [sm_s, sm_s, hk, hm, Int.mul_add]; omega⟩
theorem dot_sum {p : Int} (hp : Prm p) {n : Nat} {w o x : List Int} {b : Int} (h1 : w.length = n) (h2 : o.length = n) (h3 : x.length = n) : ∃ k, dot p (sumW p w o b) x = dot p w x + b * dot p o x + p * k := by
  obtain ⟨k1, e1⟩ := dot_cg hp h1 h3
  obtain ⟨k2, e2⟩ := dot_cg hp h2 h3
  obtain ⟨k3, e3⟩ := dot_cg hp (len_sum (p := p) h1 h2 b) h3
  obtain ⟨k4, e4⟩ := sm_cg hp n (fun i => (sumW p w o b).getD i 0 * x.getD i 0) (fun i => w.getD i 0 * x.getD i 0 + b * (o.getD i 0 * x.getD i 0)) fun i _ => by
    obtain ⟨k, hk⟩ := cg_mod hp (w.getD i 0 + b * o.getD i 0)
    refine ⟨k * x.getD i 0, ?_⟩
    show (sumW p w o b).getD i 0 * x.getD i 0 = _
    rw [getD_sum h1 h2, hk]
    grind
  rw [sm_add, sm_mul] at e4
  exact ⟨k3 + k4 - k1 - b * k2, by rw [e3, e4, e1, e2]; grind⟩
theorem dot_mul {p : Int} (hp : Prm p) {n : Nat} {w x : List Int} {b : Int} (h1 : w.length = n) (h3 : x.length = n) : ∃ k, dot p (mul p w b) x = b * dot p w x + p * k := by
  obtain ⟨k1, e1⟩ := dot_cg hp h1 h3
  obtain ⟨k3, e3⟩ := dot_cg (p := p) hp (n := n) (w := mul p w b) (by rw [len_mul]; exact h1) h3
  obtain ⟨k4, e4⟩ := sm_cg hp n (fun i => (mul p w b).getD i 0 * x.getD i 0) (fun i => b * (w.getD i 0 * x.getD i 0)) fun i _ => by
    obtain ⟨k, hk⟩ := cg_mod hp (b * w.getD i 0)
    refine ⟨k * x.getD i 0, ?_⟩
    show (mul p w b).getD i 0 * x.getD i 0 = _
    rw [getD_mul, hk]
    grind
  rw [sm_mul] at e4
  exact ⟨k3 + k4 - b * k1, by rw [e3, e4, e1]; grind⟩
theorem dot_rng {p : Int} (hp : Prm p) (w x : List Int) : 0 ≤ dot p w x ∧ dot p w x < p := emod_rng hp _
theorem dot_eq {p : Int} (hp : Prm p) {w x v y : List Int} : dot p w x = dot p v y ↔ ∃ k, dot p w x = dot p v y + p * k := by
  rw [← cg_iff hp, Int.emod_eq_of_lt (dot_rng hp w x).1 (dot_rng hp w x).2, Int.emod_eq_of_lt (dot_rng hp v y).1 (dot_rng hp v y).2]
/-! ### the rest of a word -/
theorem rest_dot {p : Int} {n : Nat} (hp : Prm p) {x : List Int} (hx : x.length = n) : ∀ (rows : List Row) (ws : Row), (∀ r ∈ rows, RowOk p n r) → (∀ r ∈ rows, dot p r.1 x = r.2) → ws.1.length = n →
    ∃ k, dot p (restOf p rows ws).1 x - (restOf p rows ws).2 = dot p ws.1 x - ws.2 + p * k
  | [], ws, _, _, _ => ⟨0, by rw [Int.mul_zero, Int.add_zero]; rfl⟩
  | r :: rs, ws, ho, hf, hl => by
    have hr := ho r List.mem_cons_self
    obtain ⟨k1, e1⟩ := rest_dot hp hx rs (restStep p ws r) (fun q hq => ho q (List.mem_cons_of_mem _ hq)) (fun q hq => hf q (List.mem_cons_of_mem _ hq)) (len_sum hl hr.len _)
    obtain ⟨k2, e2⟩ := dot_sum hp (b := (-(ws.1.getD (lead r.1) 0)) % p) hl hr.len hx
    obtain ⟨k3, e3⟩ := cg_mod hp (ws.2 + ((-(ws.1.getD (lead r.1) 0)) % p) * r.2)
    refine ⟨k1 + k2 - k3, ?_⟩
    show dot p (restOf p rs (restStep p ws r)).1 x - (restOf p rs (restStep p ws r)).2 = _
    rw [e1]
    show dot p (sumW p ws.1 r.1 ((-(ws.1.getD (lead r.1) 0)) % p)) x - (ws.2 + ((-(ws.1.getD (lead r.1) 0)) % p) * r.2) % p + p * k1 = _
    rw [e2, e3, hf r List.mem_cons_self]
    grind
abbrev rho (p : Int) (rows : List Row) (w : List Int) : List Int := (restOf p rows (w, 0)).1
/-- a word for n factors -/
structure Wd (p : Int) (n : Nat) (w : List Int) : Prop where
  len : w.length = n
  wr : WR p w
theorem Wd.row {p : Int} {n : Nat} {w : List Int} (hp : Prm p) (h : Wd p n w) : RowOk p n (w, 0) := ⟨h.len, h.wr, by have := hp.b; exact ⟨Int.le_refl _, by show (0 : Int) < p; omega⟩⟩
theorem rho_wd {p : Int} {n : Nat} {rows : List Row} {w : List Int} (hp : Prm p) (h : Red p n rows) (hw : Wd p n w) : Wd p n (rho p rows w) := by
  have := restOf_ok hp h.ok (hw.row hp)
  exact ⟨this.len, this.ent⟩
theorem rho_lead {p : Int} {n : Nat} {rows : List Row} {w : List Int} (hp : Prm p) (h : Red p n rows) (hw : Wd p n w) {r : Row} (hr : r ∈ rows) : (rho p rows w).getD (lead r.1) 0 = 0 := red_zero hp h (hw.row hp) hr
theorem rho_off {p : Int} {n : Nat} {rows : List Row} {w : List Int} (hp : Prm p) (h : Red p n rows) (hw : Wd p n w) {j : Nat} (hj : j ∉ freeOf n rows) : (rho p rows w).getD j 0 = 0 := by
  rcases Nat.lt_or_ge j n with z | z
  · rcases Classical.em (∃ q ∈ rows, lead q.1 = j) with y | y
    · obtain ⟨q, hq, rfl⟩ := y
      exact rho_lead hp h hw hq
    · exact absurd (mem_free.mpr ⟨z, fun q hq e => y ⟨q, hq, e⟩⟩) hj
  · rw [List.getD_eq_getElem?_getD, List.getElem?_eq_none (by rw [(rho_wd hp h hw).len]; exact z)]; rfl
/-- on the runs a word's sum is that of its rest, but for a constant -/
theorem dot_rho {p : Int} {n : Nat} {rows : List Row} {w : List Int} (hp : Prm p) (h : Red p n rows) (hw : Wd p n w) : ∃ c, ∀ x, Sol p n rows x → ∃ k, dot p w x = sm n (fun i => (rho p rows w).getD i 0 * x.getD i 0) + c + p * k := by
  refine ⟨-(restOf p rows (w, 0)).2, fun x hx => ?_⟩
  obtain ⟨k1, e1⟩ := rest_dot hp hx.len rows (w, 0) h.ok hx.ful hw.len
  obtain ⟨k2, e2⟩ := dot_cg hp (rho_wd hp h hw).len hx.len
  refine ⟨k2 - k1, ?_⟩
  have e1' : dot p (rho p rows w) x - (restOf p rows (w, 0)).2 = dot p w x - 0 + p * k1 := e1
  rw [e2] at e1'
  grind
/-- constant on the runs -/
def Cst (p : Int) (n : Nat) (rows : List Row) (w : List Int) : Prop := ∀ x y, Sol p n rows x → Sol p n rows y → dot p w x = dot p w y
/-- part the runs alike -/
def Same (p : Int) (n : Nat) (rows : List Row) (u v : List Int) : Prop := ∀ x y, Sol p n rows x → Sol p n rows y → (dot p u x = dot p u y ↔ dot p v x = dot p v y)
theorem Same.symm {p : Int} {n : Nat} {rows : List Row} {u v : List Int} (h : Same p n rows u v) : Same p n rows v u := fun x y hx hy => (h x y hx hy).symm
theorem Same.trans {p : Int} {n : Nat} {rows : List Row} {u v w : List Int} (h : Same p n rows u v) (g : Same p n rows v w) : Same p n rows u w := fun x y hx hy => (h x y hx hy).trans (g x y hx hy)
/-- the run with a at the place f, b at g, 0 at the other free places -/
def two (f g : Nat) (a b : Int) : Nat → Int := fun j => if j = f then a else if j = g then b else 0
theorem two_rng {p : Int} (hp : Prm p) {f g : Nat} {a b : Int} (ha : 0 ≤ a ∧ a < p) (hb : 0 ≤ b ∧ b < p) (j : Nat) : 0 ≤ two f g a b j ∧ two f g a b j < p := by
  have := hp.b
  unfold two
  split
  · exact ha
  · split
    · exact hb
    · omega
theorem sm_two {p : Int} {n : Nat} {rows : List Row} {w : List Int} (hp : Prm p) (h : Red p n rows) (hw : Wd p n w) {f g : Nat} {a b : Int} (hf : f ∈ freeOf n rows) (hg : g ∈ freeOf n rows) (hne : f ≠ g) :
    sm n (fun i => (rho p rows w).getD i 0 * (lift p n rows (two f g a b)).getD i 0) = (rho p rows w).getD f 0 * a + (rho p rows w).getD g 0 * b := by
  have e : sm n (fun i => (rho p rows w).getD i 0 * (lift p n rows (two f g a b)).getD i 0) = sm n (fun i => (if i = f then (rho p rows w).getD f 0 * a else 0) + (if i = g then (rho p rows w).getD g 0 * b else 0)) := by
    refine sm_congr fun i hi => ?_
    by_cases hi : i ∈ freeOf n rows
    · rw [lift_free hi]
      unfold two
      by_cases h1 : i = f
      · subst h1
        rw [if_pos rfl, if_pos rfl, if_neg hne, Int.add_zero]
      · rw [if_neg h1, if_neg h1, Int.zero_add]
        by_cases h2 : i = g
        · subst h2
          rw [if_pos rfl, if_pos rfl]
        · rw [if_neg h2, if_neg h2, Int.mul_zero]
    · rw [rho_off hp h hw hi, Int.zero_mul, if_neg fun (e : i = f) => hi (by rw [e]; exact hf), if_neg fun (e : i = g) => hi (by rw [e]; exact hg)]; rfl
  rw [e, sm_add, sm_single (free_lt hf) fun i _ hi => if_neg hi, sm_single (free_lt hg) fun i _ hi => if_neg hi, if_pos rfl, if_pos rfl]
theorem sm_one {p : Int} {n : Nat} {rows : List Row} {w : List Int} (hp : Prm p) (h : Red p n rows) (hw : Wd p n w) {f : Nat} {a : Int} (hf : f ∈ freeOf n rows) :
    sm n (fun i => (rho p rows w).getD i 0 * (lift p n rows (two f f a 0)).getD i 0) = (rho p rows w).getD f 0 * a := by
  rw [sm_single (free_lt hf) fun i hi hne => ?_, lift_free hf]
  · unfold two; rw [if_pos rfl]
  · by_cases hi : i ∈ freeOf n rows
    · rw [lift_free hi]; unfold two; rw [if_neg hne, if_neg hne, Int.mul_zero]
    · rw [rho_off hp h hw hi, Int.zero_mul]
theorem sm_nil {p : Int} {n : Nat} {rows : List Row} {w : List Int} (hp : Prm p) (h : Red p n rows) (hw : Wd p n w) :
    sm n (fun i => (rho p rows w).getD i 0 * (lift p n rows fun _ => 0).getD i 0) = 0 := sm_zero fun i hi => by
  by_cases hi : i ∈ freeOf n rows
  · rw [lift_free hi, Int.mul_zero]
  · rw [rho_off hp h hw hi, Int.zero_mul]
theorem z_rng {p : Int} (hp : Prm p) : 0 ≤ (0 : Int) ∧ (0 : Int) < p := by have := hp.b; omega
theorem zero_cg {p : Int} (hp : Prm p) {a k : Int} (ha : 0 ≤ a ∧ a < p) (h : a = p * k) : a = 0 := by
  have h1 : a % p = 0 % p := (cg_iff hp).mpr ⟨k, by rw [h]; omega⟩
  rw [Int.emod_eq_of_lt ha.1 ha.2] at h1
  simpa using h1
/-- constant exactly if nothing is left -/
theorem cst_iff {p : Int} {n : Nat} {rows : List Row} {w : List Int} (hp : Prm p) (h : Red p n rows) (hw : Wd p n w) : isZ (rho p rows w) = true ↔ Cst p n rows w := by
  obtain ⟨c, hc⟩ := dot_rho hp h hw
  have hb := hp.b
  constructor
  · intro hz x y hx hy
    rw [isZ_iff] at hz
    obtain ⟨k1, e1⟩ := hc x hx
    obtain ⟨k2, e2⟩ := hc y hy
    rw [sm_zero fun i _ => by rw [hz i, Int.zero_mul]] at e1 e2
    exact (dot_eq hp).mpr ⟨k1 - k2, by rw [e1, e2]; grind⟩
  · intro hcst
    rw [isZ_iff]
    intro j
    by_cases hj : j ∈ freeOf n rows
    · have r0 := lift_sol hp h (φ := fun _ => 0) fun _ => z_rng hp
      have r1 := lift_sol hp h (φ := two j j 1 0) fun i => two_rng hp (by omega) (z_rng hp) i
      obtain ⟨k0, e0⟩ := hc _ r0
      obtain ⟨k1, e1⟩ := hc _ r1
      have e := hcst _ _ r1 r0
      rw [sm_nil hp h hw] at e0
      rw [sm_one hp h hw hj] at e1
      exact zero_cg hp (wr_getD hp (rho_wd hp h hw).wr j) (k := k0 - k1) (by rw [e0, e1] at e; grind)
    · exact rho_off hp h hw hj
theorem cst_mono {p : Int} {n : Nat} {a b : List Row} {w : List Int} (hs : ∀ r ∈ a, r ∈ b) (h : Cst p n a w) : Cst p n b w := fun x y hx hy =>
  h x y ⟨hx.len, hx.wr, fun r hr => hx.ful r (hs r hr)⟩ ⟨hy.len, hy.wr, fun r hr => hy.ful r (hs r hr)⟩
/-- a multiple that is constant after all makes two words part the runs alike -/
theorem same_of_cst {p : Int} {n : Nat} {rows : List Row} {u v : List Int} {c : Int} (hp : Prm p) (hu : Wd p n u) (hv : Wd p n v) (hc : c % p ≠ 0) (h : Cst p n rows (sumW p u v c)) : Same p n rows u v := fun x y hx hy => by
  obtain ⟨k1, e1⟩ := dot_sum hp (b := c) hu.len hv.len hx.len
  obtain ⟨k2, e2⟩ := dot_sum hp (b := c) hu.len hv.len hy.len
  have e := h x y hx hy
  rw [e1, e2] at e
  obtain ⟨d, m, _, _, hd⟩ := cg_inv hp hc
  constructor
  · intro hh
    rw [hh] at e
    refine (dot_eq hp).mpr ⟨d * (k2 - k1) - m * (dot p v x - dot p v y), ?_⟩
    have e' : c * (dot p v x - dot p v y) = p * (k2 - k1) := by grind
    have e'' : d * (c * (dot p v x - dot p v y)) = d * (p * (k2 - k1)) := by rw [e']
    have e3 : d * (c * (dot p v x - dot p v y)) = (dot p v x - dot p v y) + p * (m * (dot p v x - dot p v y)) := by rw [← Int.mul_assoc, hd]; grind
    grind
  · intro hh
    rw [hh] at e
    exact (dot_eq hp).mpr ⟨k2 - k1, by grind⟩
/-- two words that part the runs alike, one not constant: a multiple that is constant after all -/
theorem cst_of_same {p : Int} {n : Nat} {rows : List Row} {u v : List Int} (hp : Prm p) (h : Red p n rows) (hu : Wd p n u) (hv : Wd p n v) (hn : ¬ Cst p n rows u) (hs : Same p n rows u v) : ∃ c, 1 ≤ c ∧ c < p ∧ Cst p n rows (sumW p u v (-c)) := by
  have hb := hp.b
  obtain ⟨cu, hcu⟩ := dot_rho hp h hu
  obtain ⟨cv, hcv⟩ := dot_rho hp h hv
  have hU := (rho_wd hp h hu).wr
  have hV := (rho_wd hp h hv).wr
  -- a place where u's rest is not 0
  obtain ⟨f, hf, hf0⟩ : ∃ f ∈ freeOf n rows, (rho p rows u).getD f 0 ≠ 0 := by
    rcases Classical.em (∃ f ∈ freeOf n rows, (rho p rows u).getD f 0 ≠ 0) with z | z
    · exact z
    · refine absurd ((cst_iff hp h hu).mp (isZ_iff.mpr fun j => ?_)) hn
      by_cases hj : j ∈ freeOf n rows
      · rcases Classical.em ((rho p rows u).getD j 0 = 0) with y | y
        · exact y
        · exact absurd ⟨j, hj, y⟩ z
      · exact rho_off hp h hu hj
  have hUf := wr_getD hp hU f
  have r0 := lift_sol hp h (φ := fun _ => 0) fun _ => z_rng hp
  -- v's rest is not 0 there
  have hg0 : (rho p rows v).getD f 0 ≠ 0 := by
    intro z
    have r1 := lift_sol hp h (φ := two f f 1 0) fun i => two_rng hp (by omega) (z_rng hp) i
    obtain ⟨k0, e0⟩ := hcu _ r0
    obtain ⟨k1, e1⟩ := hcu _ r1
    obtain ⟨m0, d0⟩ := hcv _ r0
    obtain ⟨m1, d1⟩ := hcv _ r1
    rw [sm_nil hp h hu] at e0
    rw [sm_nil hp h hv] at d0
    rw [sm_one hp h hu hf] at e1
    rw [sm_one hp h hv hf, z] at d1
    have := (hs _ _ r1 r0).mpr ((dot_eq hp).mpr ⟨m1 - m0, by rw [d1, d0]; grind⟩)
    exact hf0 (zero_cg hp hUf (k := k0 - k1) (by rw [e0, e1] at this; grind))
  have hVf := wr_getD hp hV f
  obtain ⟨d, m, hd1, hd2, hd⟩ := cg_inv hp (c := (rho p rows v).getD f 0) (by rw [Int.emod_eq_of_lt hVf.1 hVf.2]; exact hg0)
  -- the multiple
  have hc0 : ((rho p rows u).getD f 0 * d) % p ≠ 0 := by
    intro z
    obtain ⟨k, hk⟩ := (cg_iff hp (b := 0)).mp (by rw [z]; simp)
    refine hf0 (zero_cg hp hUf (k := k * (rho p rows v).getD f 0 - m * (rho p rows u).getD f 0) ?_)
    have : (rho p rows u).getD f 0 * d * (rho p rows v).getD f 0 = (0 + p * k) * (rho p rows v).getD f 0 := by rw [hk]
    have h2 : (rho p rows u).getD f 0 * (d * (rho p rows v).getD f 0) = (rho p rows u).getD f 0 * (1 + p * m) := by rw [hd]
    grind
  have hcr := emod_rng hp ((rho p rows u).getD f 0 * d)
  obtain ⟨kc, ec⟩ := cg_mod hp ((rho p rows u).getD f 0 * d)
  generalize ((rho p rows u).getD f 0 * d) % p = c at *
  refine ⟨c, by omega, hcr.2, ?_⟩
  -- u_g * v_f = v_g * u_f for all places
  have hall : ∀ g, ∃ k, (rho p rows u).getD g 0 * (rho p rows v).getD f 0 = (rho p rows v).getD g 0 * (rho p rows u).getD f 0 + p * k := by
    intro g
    by_cases hg : g ∈ freeOf n rows
    · by_cases hfg : f = g
      · subst hfg
        exact ⟨0, by grind⟩
      · have hUg := wr_getD hp hU g
        have ha := emod_rng hp (-(rho p rows u).getD g 0)
        obtain ⟨ka, ea⟩ := cg_mod hp (-(rho p rows u).getD g 0)
        generalize (-(rho p rows u).getD g 0) % p = a at *
        have r1 := lift_sol hp h (φ := two f g a ((rho p rows u).getD f 0)) fun i => two_rng hp ha hUf i
        obtain ⟨k0, e0⟩ := hcu _ r0
        obtain ⟨k1, e1⟩ := hcu _ r1
        obtain ⟨m0, d0⟩ := hcv _ r0
        obtain ⟨m1, d1⟩ := hcv _ r1
        rw [sm_nil hp h hu] at e0
        rw [sm_nil hp h hv] at d0
        rw [sm_two hp h hu hf hg hfg] at e1
        rw [sm_two hp h hv hf hg hfg] at d1
        have := (hs _ _ r1 r0).mp ((dot_eq hp).mpr ⟨k1 - k0 + ka * (rho p rows u).getD f 0, by rw [e1, e0, ea]; grind⟩)
        rw [d1, d0, ea] at this
        exact ⟨(rho p rows v).getD f 0 * ka + m1 - m0, by grind⟩
    · exact ⟨0, by rw [rho_off hp h hu hg, rho_off hp h hv hg]; simp⟩
  intro x y hx hy
  have key : ∀ x, Sol p n rows x → ∃ k, dot p (sumW p u v (-c)) x = cu - c * cv + p * k := fun x hx => by
    obtain ⟨k1, e1⟩ := dot_sum hp (b := -c) hu.len hv.len hx.len
    obtain ⟨k2, e2⟩ := hcu x hx
    obtain ⟨k3, e3⟩ := hcv x hx
    obtain ⟨k4, e4⟩ := sm_cg hp n (fun i => (rho p rows u).getD i 0 * x.getD i 0 + (-c) * ((rho p rows v).getD i 0 * x.getD i 0)) (fun _ => 0) fun i _ => by
      obtain ⟨k, hk⟩ := hall i
      -- u_i - c v_i = u_i (d v_f - p m) - (u_f d + p kc) v_i
      refine ⟨(d * k - m * (rho p rows u).getD i 0 - kc * (rho p rows v).getD i 0) * x.getD i 0, ?_⟩
      have h1 : (rho p rows u).getD i 0 = (rho p rows u).getD i 0 * (d * (rho p rows v).getD f 0) - p * (m * (rho p rows u).getD i 0) := by rw [hd]; grind
      have h2 : (rho p rows u).getD i 0 * (d * (rho p rows v).getD f 0) = d * ((rho p rows v).getD i 0 * (rho p rows u).getD f 0 + p * k) := by rw [← hk]; grind
      have h3 : (rho p rows u).getD i 0 + (-c) * (rho p rows v).getD i 0 = p * (d * k - m * (rho p rows u).getD i 0 - kc * (rho p rows v).getD i 0) := by grind
      have h4 : (rho p rows u).getD i 0 * x.getD i 0 + (-c) * ((rho p rows v).getD i 0 * x.getD i 0) = ((rho p rows u).getD i 0 + (-c) * (rho p rows v).getD i 0) * x.getD i 0 := by grind
      rw [h4, h3]; grind
    rw [sm_add, sm_mul, sm_zero fun _ _ => rfl] at e4
    exact ⟨k1 + k2 - c * k3 + k4, by rw [e1, e2, e3]; grind⟩
  obtain ⟨k1, e1⟩ := key x hx
  obtain ⟨k2, e2⟩ := key y hy
  exact (dot_eq hp).mpr ⟨k1 - k2, by rw [e1, e2]; grind⟩
end Km
end
section
set_option linter.all false
set_option autoImplicit false
/-! right plans: the text's answer is the law's -/
namespace Km
/-! ### how sums part the runs -/
theorem idx_le {s : List Int} {j : Nat} {a : Int} (h : s[j]? = some a) : s.idxOf a ≤ j := by
  rcases Nat.lt_or_ge j (s.idxOf a) with z | z
  · obtain ⟨hj, e⟩ := List.getElem?_eq_some_iff.mp h
    have := List.not_of_lt_findIdx (p := (· == a)) (xs := s) (i := j) z
    rw [e] at this
    simp at this
  · exact z
theorem idx_at {s : List Int} {a : Int} (h : a ∈ s) : s[s.idxOf a]? = some a := by
  have hlt : s.idxOf a < s.length := List.idxOf_lt_length_of_mem h
  rw [List.getElem?_eq_getElem hlt, List.getElem_idxOf hlt]
theorem idx_same {s t : List Int} (hl : s.length = t.length) (h : ∀ (i j : Nat) (a b c d : Int), s[i]? = some a → s[j]? = some b → t[i]? = some c → t[j]? = some d → (a = b ↔ c = d)) {i : Nat} {a c : Int} (ha : s[i]? = some a) (hc : t[i]? = some c) : s.idxOf a = t.idxOf c := by
  have key : ∀ {s t : List Int}, s.length = t.length → (∀ (i j : Nat) (a b c d : Int), s[i]? = some a → s[j]? = some b → t[i]? = some c → t[j]? = some d → (a = b ↔ c = d)) → ∀ {i : Nat} {a c : Int}, s[i]? = some a → t[i]? = some c → t.idxOf c ≤ s.idxOf a := by
    intro s t hl h i a c ha hc
    have h1 := idx_at (List.mem_of_getElem? ha)
    obtain ⟨hlt, _⟩ := List.getElem?_eq_some_iff.mp h1
    have h2 : t[s.idxOf a]? = some (t[s.idxOf a]'(by omega)) := List.getElem?_eq_getElem (by omega)
    have := (h i (s.idxOf a) a a c _ ha h1 hc h2).mp rfl
    rw [← this] at h2
    exact idx_le h2
  refine Nat.le_antisymm ?_ (key hl h ha hc)
  exact key hl.symm (fun i j a b c d h1 h2 h3 h4 => (h i j c d a b h3 h4 h1 h2).symm) hc ha
theorem parts_same {p : Int} {u v : List Int} {runs : List (List Int)} : partsOf p u runs = partsOf p v runs ↔ ∀ x ∈ runs, ∀ y ∈ runs, (dot p u x = dot p u y ↔ dot p v x = dot p v y) := by
  have at_ : ∀ (w : List Int) (i : Nat), (runs.map (dot p w))[i]? = (runs[i]?).map (dot p w) := fun w i => List.getElem?_map
  constructor
  · intro h
    have key : ∀ x ∈ runs, (runs.map (dot p u)).idxOf (dot p u x) = (runs.map (dot p v)).idxOf (dot p v x) := by
      intro x hx
      obtain ⟨i, hi⟩ := List.getElem?_of_mem hx
      have := congrArg (fun l => l[i]?) h
      unfold partsOf at this
      simp only [List.getElem?_map, hi, Option.map_some, Option.some.injEq] at this
      exact_mod_cast this
    have back : ∀ w : List Int, ∀ x ∈ runs, ∀ y ∈ runs, (runs.map (dot p w)).idxOf (dot p w x) = (runs.map (dot p w)).idxOf (dot p w y) → dot p w x = dot p w y := fun w x hx y hy e => by
      have h1 := idx_at (s := runs.map (dot p w)) (List.mem_map.mpr ⟨x, hx, rfl⟩)
      have h2 := idx_at (s := runs.map (dot p w)) (List.mem_map.mpr ⟨y, hy, rfl⟩)
      rw [e, h2] at h1
      exact (Option.some.inj h1).symm
    intro x hx y hy
    constructor
    · intro e
      exact back v x hx y hy (by rw [← key x hx, ← key y hy, e])
    · intro e
      exact back u x hx y hy (by rw [key x hx, key y hy, e])
  · intro h
    unfold partsOf
    refine List.ext_getElem (by simp) fun i h1 h2 => ?_
    simp only [List.length_map] at h1 h2
    simp only [List.getElem_map]
    have := idx_same (s := runs.map (dot p u)) (t := runs.map (dot p v)) (by simp) (fun i j a b c d e1 e2 e3 e4 => ?_) (i := i) (a := dot p u runs[i]) (c := dot p v runs[i]) (by rw [List.getElem?_map, List.getElem?_eq_getElem h1]; rfl) (by rw [List.getElem?_map, List.getElem?_eq_getElem h1]; rfl)
    · rw [this]
    · rw [List.getElem?_map] at e1 e2 e3 e4
      obtain ⟨x, hx, rfl⟩ := Option.map_eq_some_iff.mp e1
      obtain ⟨y, hy, rfl⟩ := Option.map_eq_some_iff.mp e2
      rw [hx] at e3
      rw [hy] at e4
      cases e3; cases e4
      exact h x (List.mem_of_getElem? hx) y (List.mem_of_getElem? hy)
theorem parts_zero {p : Int} {u : List Int} {runs : List (List Int)} : partsOf p u runs = List.replicate runs.length 0 ↔ ∀ x ∈ runs, ∀ y ∈ runs, dot p u x = dot p u y := by
  constructor
  · intro h
    have key : ∀ x ∈ runs, (runs.map (dot p u)).idxOf (dot p u x) = 0 := by
      intro x hx
      obtain ⟨i, hi⟩ := List.getElem?_of_mem hx
      have hlt := (List.getElem?_eq_some_iff.mp hi).1
      have := congrArg (fun l => l[i]?) h
      unfold partsOf at this
      simp only [List.getElem?_map, hi, Option.map_some, List.getElem?_replicate, if_pos hlt, Option.some.injEq] at this
      exact_mod_cast this
    intro x hx y hy
    have h1 := idx_at (s := runs.map (dot p u)) (List.mem_map.mpr ⟨x, hx, rfl⟩)
    have h2 := idx_at (s := runs.map (dot p u)) (List.mem_map.mpr ⟨y, hy, rfl⟩)
    rw [key x hx] at h1
    rw [key y hy, h1] at h2
    exact Option.some.inj h2
  · intro h
    unfold partsOf
    refine List.ext_getElem (by simp) fun i h1 h2 => ?_
    simp only [List.length_map] at h1
    simp only [List.getElem_map, List.getElem_replicate]
    have h0 : 0 < runs.length := by omega
    have e : (runs.map (dot p u))[0]? = some (dot p u runs[i]) := by
      rw [List.getElem?_map, List.getElem?_eq_getElem h0, Option.map_some, h _ (List.getElem_mem h0) _ (List.getElem_mem h1)]
    have := idx_le e
    omega
section
variable {p : Int} {n : Nat} {rows : List Row} {ws bs : List (List Int)}
theorem parts_iff (hp : Prm p) {u v : List Int} : partsOf p u (runsOf p n rows) = partsOf p v (runsOf p n rows) ↔ Same p n rows u v := by
  rw [parts_same]
  exact ⟨fun h x y hx hy => h x ((mem_runs hp).mpr hx) y ((mem_runs hp).mpr hy), fun h x hx y hy => h x y ((mem_runs hp).mp hx) ((mem_runs hp).mp hy)⟩
theorem parts_cst (hp : Prm p) {u : List Int} : partsOf p u (runsOf p n rows) = List.replicate (runsOf p n rows).length 0 ↔ Cst p n rows u := by
  rw [parts_zero]
  exact ⟨fun h x y hx hy => h x ((mem_runs hp).mpr hx) y ((mem_runs hp).mpr hy), fun h x hx y hy => h x y ((mem_runs hp).mp hx) ((mem_runs hp).mp hy)⟩
/-! ### normal words -/
theorem wd_norm (hp : Prm p) {u : List Int} (h : Wd p n u) : Wd p n (norm p u) := ⟨by rw [norm_len]; exact h.len, wr_norm hp h.wr⟩
theorem wd_sum (hp : Prm p) {u v : List Int} (hu : Wd p n u) (hv : Wd p n v) (b : Int) : Wd p n (sumW p u v b) := ⟨len_sum hu.len hv.len b, wr_sum hp _ _ _⟩
/-- a normal word's sum is a multiple of the word's -/
theorem norm_mul (hp : Prm p) {u : List Int} : norm p u = u ∨ ∃ c, 1 ≤ c ∧ c < p ∧ norm p u = mul p u c := by
  unfold norm
  split
  · exact .inl rfl
  · have := inv_rng2 hp (u.getD (lead u) 0)
    exact .inr ⟨_, this.1, this.2, rfl⟩
theorem same_mul (hp : Prm p) {u : List Int} (hu : Wd p n u) {c : Int} (hc : 1 ≤ c ∧ c < p) : Same p n rows (mul p u c) u := fun x y hx hy => by
  obtain ⟨k1, e1⟩ := dot_mul hp (b := c) hu.len hx.len
  obtain ⟨k2, e2⟩ := dot_mul hp (b := c) hu.len hy.len
  obtain ⟨d, m, _, _, hd⟩ := cg_inv hp (c := c) (by rw [Int.emod_eq_of_lt (by omega) hc.2]; omega)
  constructor
  · intro hh
    rw [e1, e2] at hh
    refine (dot_eq hp).mpr ⟨d * (k2 - k1) - m * (dot p u x - dot p u y), ?_⟩
    have e' : c * (dot p u x - dot p u y) = p * (k2 - k1) := by grind
    have e'' : d * (c * (dot p u x - dot p u y)) = d * (p * (k2 - k1)) := by rw [e']
    have e3 : d * (c * (dot p u x - dot p u y)) = (dot p u x - dot p u y) + p * (m * (dot p u x - dot p u y)) := by rw [← Int.mul_assoc, hd]; grind
    grind
  · intro hh
    exact (dot_eq hp).mpr ⟨k1 - k2, by rw [e1, e2, hh]; grind⟩
theorem same_refl {u : List Int} : Same p n rows u u := fun _ _ _ _ => Iff.rfl
theorem same_norm (hp : Prm p) {u : List Int} (hu : Wd p n u) : Same p n rows (norm p u) u := by
  rcases norm_mul hp (u := u) with e | ⟨c, h1, h2, e⟩
  · rw [e]; exact same_refl
  · rw [e]; exact same_mul hp hu ⟨h1, h2⟩
theorem cst_same {u v : List Int} (h : Same p n rows u v) : Cst p n rows u ↔ Cst p n rows v := ⟨fun g x y hx hy => (h x y hx hy).mp (g x y hx hy), fun g x y hx hy => (h x y hx hy).mpr (g x y hx hy)⟩
theorem Wds.wd (h : Wds p n ws) {u : List Int} (hu : u ∈ ws) : Wd p n u := ⟨h.len u hu, h.wr u hu⟩
theorem mem_struck {wn al : List (List Int)} {u : List Int} : u ∈ struckList p wn al ↔ u ∈ wn ∨ ∃ a ∈ wn, ∃ b ∈ al, b ≠ a ∧ ∃ c, 1 ≤ c ∧ c < p ∧ u = norm p (sumW p a b (-c)) := by
  unfold struckList
  rw [List.mem_append, List.mem_flatMap]
  constructor
  · rintro (h | ⟨a, ha, h⟩)
    · exact .inl h
    · obtain ⟨b, hb, h⟩ := List.mem_flatMap.mp h
      unfold strRow at h
      split at h
      · cases h
      · rename_i hne
        obtain ⟨i, hi, rfl⟩ := List.mem_map.mp h
        have := List.mem_range.mp hi
        exact .inr ⟨a, ha, b, hb, hne, 1 + (i : Int), by omega, by omega, rfl⟩
  · rintro (h | ⟨a, ha, b, hb, hne, c, h1, h2, rfl⟩)
    · exact .inl h
    · refine .inr ⟨a, ha, List.mem_flatMap.mpr ⟨b, hb, ?_⟩⟩
      unfold strRow
      rw [if_neg hne]
      exact List.mem_map.mpr ⟨(c - 1).toNat, List.mem_range.mpr (by omega), by rw [show 1 + (((c - 1).toNat : Nat) : Int) = c by omega]⟩
theorem bad_iff {runs : List (List Int)} {a : List Int × Nat} : badAt p runs ws bs a = true ↔ a.1 = List.replicate runs.length 0 ∨ (∃ j, j < a.2 ∧ (ws.map fun u => partsOf p u runs)[j]? = some a.1) ∨ ∃ b ∈ bs, partsOf p b runs = a.1 := by
  unfold badAt
  simp only [Bool.or_eq_true, decide_eq_true_eq, List.any_eq_true, List.mem_map]
  refine or_congr Iff.rfl (or_congr ?_ ?_)
  · constructor
    · rintro ⟨z, hz, rfl⟩
      obtain ⟨j, hj⟩ := List.getElem?_of_mem hz
      rw [List.getElem?_take] at hj
      split at hj
      · rename_i h; exact ⟨j, h, hj⟩
      · cases hj
    · rintro ⟨j, h1, h2⟩
      refine ⟨_, List.mem_of_getElem? (i := j) ?_, rfl⟩
      rw [List.getElem?_take, if_pos h1]; exact h2
  · constructor
    · rintro ⟨z, ⟨b, hb, rfl⟩, h⟩; exact ⟨b, hb, h⟩
    · rintro ⟨b, hb, h⟩; exact ⟨_, ⟨b, hb, rfl⟩, h⟩
theorem due_iff {runs : List (List Int)} : dueOf p runs ws bs = false ↔ ∃ (i : Nat) (u : List Int), ws[i]? = some u ∧ (partsOf p u runs = List.replicate runs.length 0 ∨ (∃ j v, j < i ∧ ws[j]? = some v ∧ partsOf p v runs = partsOf p u runs) ∨ ∃ b ∈ bs, partsOf p b runs = partsOf p u runs) := by
  unfold dueOf
  rw [Bool.not_eq_false', List.any_eq_true]
  constructor
  · rintro ⟨⟨z, i⟩, hz, hb⟩
    have hz2 := List.mem_zipIdx_iff_getElem?.mp hz
    simp only [List.getElem?_map] at hz2
    obtain ⟨u, hu, rfl⟩ := Option.map_eq_some_iff.mp hz2
    refine ⟨i, u, hu, ?_⟩
    rcases bad_iff.mp hb with h | ⟨j, h1, h2⟩ | h
    · exact .inl h
    · rw [List.getElem?_map] at h2
      obtain ⟨v, hv, e⟩ := Option.map_eq_some_iff.mp h2
      exact .inr (.inl ⟨j, v, h1, hv, e⟩)
    · exact .inr (.inr h)
  · rintro ⟨i, u, hu, h⟩
    refine ⟨(partsOf p u runs, i), List.mem_zipIdx_iff_getElem?.mpr (by rw [List.getElem?_map, hu]; rfl), bad_iff.mpr ?_⟩
    rcases h with h | ⟨j, v, h1, h2, h3⟩ | h
    · exact .inl h
    · exact .inr (.inl ⟨j, h1, by rw [List.getElem?_map, h2, Option.map_some, h3]⟩)
    · exact .inr (.inr h)
theorem right_iff (hp : Prm p) (h : Red p n rows) (hw : Wds p n ws) (hb : Wds p n bs) : isRight p rows ws bs = false ↔ ∃ u ∈ struckList p (ws.map (norm p)) (ws.map (norm p) ++ bs.map (norm p)), Cst p n rows u := by
  unfold isRight
  rw [Bool.not_eq_false', List.any_eq_true]
  have hwd : ∀ u ∈ ws.map (norm p) ++ bs.map (norm p), Wd p n u := fun u hu => by
    rcases List.mem_append.mp hu with hu | hu
    · obtain ⟨x, hx, rfl⟩ := List.mem_map.mp hu
      exact wd_norm hp (hw.wd hx)
    · obtain ⟨x, hx, rfl⟩ := List.mem_map.mp hu
      exact wd_norm hp (hb.wd hx)
  have hs : ∀ u ∈ struckList p (ws.map (norm p)) (ws.map (norm p) ++ bs.map (norm p)), Wd p n u := fun u hu => by
    rcases mem_struck.mp hu with h | ⟨a, ha, b, hb, _, c, _, _, rfl⟩
    · exact hwd u (List.mem_append_left _ h)
    · exact wd_norm hp (wd_sum hp (hwd a (List.mem_append_left _ ha)) (hwd b hb) _)
  exact ⟨fun ⟨u, hu, z⟩ => ⟨u, hu, (cst_iff hp h (hs u hu)).mp z⟩, fun ⟨u, hu, z⟩ => ⟨u, hu, (cst_iff hp h (hs u hu)).mpr z⟩⟩
theorem same_struck (hp : Prm p) {a b : List Int} (ha : Wd p n a) (hb : Wd p n b) {c : Int} (h1 : 1 ≤ c) (h2 : c < p) (h : Cst p n rows (norm p (sumW p a b (-c)))) : Same p n rows a b := by
  have h3 := (cst_same (same_norm hp (wd_sum hp ha hb (-c)))).mp h
  refine same_of_cst hp ha hb (fun z => ?_) h3
  have hpb := hp.b
  obtain ⟨k, hk⟩ := (cg_iff hp (b := 0)).mp (by rw [z]; simp)
  have := zero_cg hp (a := c) ⟨by omega, h2⟩ (k := -k) (by rw [Int.mul_neg]; omega)
  omega
/-- the text's answer is the law's -/
theorem right_due (hp : Prm p) (h : Red p n rows) (hw : Wds p n ws) (hb : Wds p n bs) (hno : ∀ u ∈ bs, norm p u ∉ ws.map (norm p)) : isRight p rows ws bs = dueOf p (runsOf p n rows) ws bs := by
  have key : isRight p rows ws bs = false ↔ dueOf p (runsOf p n rows) ws bs = false := by
    rw [right_iff hp h hw hb, due_iff]
    simp only [parts_cst hp, parts_iff hp]
    constructor
    · rintro ⟨u, hu, hc⟩
      rcases mem_struck.mp hu with hu | ⟨a, ha, b, hb', hne, c, h1, h2, rfl⟩
      · obtain ⟨x, hx, rfl⟩ := List.mem_map.mp hu
        obtain ⟨i, hi⟩ := List.getElem?_of_mem hx
        exact ⟨i, x, hi, .inl ((cst_same (same_norm hp (hw.wd hx))).mp hc)⟩
      · obtain ⟨x, hx, rfl⟩ := List.mem_map.mp ha
        obtain ⟨i, hi⟩ := List.getElem?_of_mem hx
        have hxw := hw.wd hx
        rcases List.mem_append.mp hb' with hyy | hyy
        · obtain ⟨y, hy, rfl⟩ := List.mem_map.mp hyy
          obtain ⟨j, hj⟩ := List.getElem?_of_mem hy
          have hyw := hw.wd hy
          have hs : Same p n rows x y := ((same_norm hp hxw).symm.trans (same_struck hp (wd_norm hp hxw) (wd_norm hp hyw) h1 h2 hc)).trans (same_norm hp hyw)
          rcases Nat.lt_trichotomy i j with z | z | z
          · exact ⟨j, y, hj, .inr (.inl ⟨i, x, z, hi, hs⟩)⟩
          · subst z
            rw [hi] at hj; cases hj
            exact absurd rfl hne
          · exact ⟨i, x, hi, .inr (.inl ⟨j, y, z, hj, hs.symm⟩)⟩
        · obtain ⟨y, hy, rfl⟩ := List.mem_map.mp hyy
          have hyw := hb.wd hy
          have hs : Same p n rows x y := ((same_norm hp hxw).symm.trans (same_struck hp (wd_norm hp hxw) (wd_norm hp hyw) h1 h2 hc)).trans (same_norm hp hyw)
          exact ⟨i, x, hi, .inr (.inr ⟨y, hy, hs.symm⟩)⟩
    · rintro ⟨i, x, hi, hx⟩
      have hxm := List.mem_of_getElem? hi
      have hxw := hw.wd hxm
      have hxn : norm p x ∈ ws.map (norm p) := List.mem_map.mpr ⟨x, hxm, rfl⟩
      rcases Classical.em (Cst p n rows (norm p x)) with hc | hc
      · exact ⟨norm p x, mem_struck.mpr (.inl hxn), hc⟩
      have fin : ∀ y, Wd p n y → norm p y ∈ ws.map (norm p) ++ bs.map (norm p) → norm p y ≠ norm p x → Same p n rows y x → ∃ u ∈ struckList p (ws.map (norm p)) (ws.map (norm p) ++ bs.map (norm p)), Cst p n rows u := fun y hyw hyn hne hs => by
        have hs2 : Same p n rows (norm p x) (norm p y) := ((same_norm hp hxw).trans hs.symm).trans (same_norm hp hyw).symm
        obtain ⟨c, h1, h2, hcc⟩ := cst_of_same hp h (wd_norm hp hxw) (wd_norm hp hyw) hc hs2
        exact ⟨_, mem_struck.mpr (.inr ⟨norm p x, hxn, norm p y, hyn, hne, c, h1, h2, rfl⟩), (cst_same (same_norm hp (wd_sum hp (wd_norm hp hxw) (wd_norm hp hyw) _))).mpr hcc⟩
      rcases hx with hx | ⟨j, y, hj, hy, hs⟩ | ⟨y, hy, hs⟩
      · exact absurd ((cst_same (same_norm hp hxw)).mpr hx) hc
      · have hym := List.mem_of_getElem? hy
        refine fin y (hw.wd hym) (List.mem_append_left _ (List.mem_map.mpr ⟨y, hym, rfl⟩)) (fun e => ?_) hs
        have hlt : j < (ws.map (norm p)).length := by rw [List.length_map]; exact (List.getElem?_eq_some_iff.mp hy).1
        have := (List.getElem?_inj hlt hw.nd (j := i)).mp (by rw [List.getElem?_map, List.getElem?_map, hi, hy, Option.map_some, Option.map_some, e])
        omega
      · exact fin y (hb.wd hy) (List.mem_append_right _ (List.mem_map.mpr ⟨y, hy, rfl⟩)) (fun e => hno y hy (e ▸ hxn)) hs
  cases e1 : isRight p rows ws bs with
  | false => exact (key.mp e1).symm
  | true =>
    cases e2 : dueOf p (runsOf p n rows) ws bs with
    | true => rfl
    | false => rw [key.mpr e2] at e1; cases e1
/-- without a row a right plan stays right -/
theorem right_mono {a b : List Row} (hp : Prm p) (ha : Red p n a) (hb : Red p n b) (hs : ∀ r ∈ a, r ∈ b) (hw : Wds p n ws) (hw2 : Wds p n bs) (h : isRight p b ws bs = true) : isRight p a ws bs = true := by
  cases e : isRight p a ws bs with
  | true => rfl
  | false =>
    obtain ⟨u, hu, hc⟩ := (right_iff hp ha hw hw2).mp e
    rw [(right_iff hp hb hw hw2).mpr ⟨u, hu, cst_mono hs hc⟩] at h
    cases h
/-! ### other sides -/
theorem rest_side : ∀ (a b : List Row) (x y : Row), a.map (·.1) = b.map (·.1) → x.1 = y.1 → (restOf p a x).1 = (restOf p b y).1
  | [], [], x, y, _, h => h
  | [], _ :: _, _, _, h, _ => by cases h
  | _ :: _, [], _, _, h, _ => by cases h
  | r :: rs, q :: qs, x, y, h, e => by
    rw [List.map_cons, List.map_cons] at h
    have h1 := List.cons.inj h
    refine rest_side rs qs (restStep p x r) (restStep p y q) h1.2 ?_
    unfold restStep
    have h2 : r.1 = q.1 := h1.1
    rw [e, h2]
theorem right_side {a b : List Row} (h : a.map (·.1) = b.map (·.1)) : isRight p a ws bs = isRight p b ws bs := by
  unfold isRight
  congr 2
  funext u
  rw [rest_side a b (u, 0) (u, 0) h rfl]
theorem red_side {a b : List Row} (ha : Red p n a) (h : a.map (·.1) = b.map (·.1)) (hs : ∀ r ∈ b, 0 ≤ r.2 ∧ r.2 < p) : Red p n b := by
  have tr : ∀ q ∈ b, ∃ r ∈ a, r.1 = q.1 := fun q hq => by
    have : q.1 ∈ a.map (·.1) := by rw [h]; exact List.mem_map.mpr ⟨q, hq, rfl⟩
    obtain ⟨r, hr, e⟩ := List.mem_map.mp this
    exact ⟨r, hr, e⟩
  have h1 := ha.off
  have h2 := ha.asc
  have c1 : (b.map (·.1)).Pairwise fun u v => u.getD (lead v) 0 = 0 ∧ v.getD (lead u) 0 = 0 := by
    rw [← h, List.pairwise_map]; exact h1
  have c2 : (b.map (·.1)).Pairwise fun u v => lead u < lead v := by
    rw [← h, List.pairwise_map]; exact h2
  rw [List.pairwise_map] at c1 c2
  refine ⟨fun q hq => ?_, fun q hq => ?_, fun q hq => ?_, c1, c2⟩
  · obtain ⟨r, hr, e⟩ := tr q hq
    have := ha.ok r hr
    exact ⟨by rw [← e]; exact this.len, by rw [← e]; exact this.ent, hs q hq⟩
  · obtain ⟨r, hr, e⟩ := tr q hq
    rw [← e]; exact ha.lt r hr
  · obtain ⟨r, hr, e⟩ := tr q hq
    rw [← e]; exact ha.one r hr
theorem right_none : isRight p rows [] bs = true := rfl
/-! ### the number of runs -/
theorem nodup_len {α : Type} [BEq α] [LawfulBEq α] : ∀ {a b : List α}, a.Nodup → (∀ x ∈ a, x ∈ b) → a.length ≤ b.length
  | [], b, _, _ => Nat.zero_le _
  | x :: a, b, h, hs => by
    have hx := hs x List.mem_cons_self
    have h1 := List.nodup_cons.mp h
    have := nodup_len (b := b.erase x) h1.2 fun y hy => (List.mem_erase_of_ne (fun e => h1.1 (by rw [← e]; exact hy))).mpr (hs y (List.mem_cons_of_mem _ hy))
    rw [List.length_erase_of_mem hx] at this
    have := List.length_pos_of_mem hx
    rw [List.length_cons]; omega
/-- the run told by a multiple of a word's rest -/
def runAt (p : Int) (n : Nat) (rows : List Row) (w : List Int) (c : Int) : List Int := lift p n rows fun j => c * (rho p rows w).getD j 0 % p
theorem runAt_eq (hp : Prm p) (h : Red p n rows) {u v : List Int} (hu : Wd p n u) (hv : Wd p n v) {c d : Int} (e : runAt p n rows u c = runAt p n rows v d) : Cst p n rows (sumW p (mul p u c) v (-d)) := by
  have hmu : Wd p n (mul p u c) := ⟨by rw [len_mul]; exact hu.len, wr_mul hp _ _⟩
  obtain ⟨cu, hcu⟩ := dot_rho hp h hu
  obtain ⟨cv, hcv⟩ := dot_rho hp h hv
  have hall : ∀ i, ∃ k, c * (rho p rows u).getD i 0 = d * (rho p rows v).getD i 0 + p * k := fun i => by
    by_cases hi : i ∈ freeOf n rows
    · have e1 : (runAt p n rows u c).getD i 0 = (runAt p n rows v d).getD i 0 := by rw [e]
      unfold runAt at e1
      rw [lift_free hi, lift_free hi] at e1
      exact (cg_iff hp).mp e1
    · exact ⟨0, by rw [rho_off hp h hu hi, rho_off hp h hv hi]; simp⟩
  have key : ∀ x, Sol p n rows x → ∃ k, dot p (sumW p (mul p u c) v (-d)) x = c * cu - d * cv + p * k := fun x hx => by
    obtain ⟨k0, e0⟩ := dot_mul hp (b := c) hu.len hx.len
    obtain ⟨k1, e1⟩ := dot_sum hp (b := -d) hmu.len hv.len hx.len
    obtain ⟨k2, e2⟩ := hcu x hx
    obtain ⟨k3, e3⟩ := hcv x hx
    obtain ⟨k4, e4⟩ := sm_cg hp n (fun i => c * ((rho p rows u).getD i 0 * x.getD i 0) + (-d) * ((rho p rows v).getD i 0 * x.getD i 0)) (fun _ => 0) fun i _ => by
      obtain ⟨k, hk⟩ := hall i
      refine ⟨k * x.getD i 0, ?_⟩
      have : c * ((rho p rows u).getD i 0 * x.getD i 0) = (c * (rho p rows u).getD i 0) * x.getD i 0 := by grind
      show c * ((rho p rows u).getD i 0 * x.getD i 0) + (-d) * ((rho p rows v).getD i 0 * x.getD i 0) = _
      rw [this, hk]; grind
    rw [sm_add, sm_mul, sm_mul, sm_zero fun _ _ => rfl] at e4
    exact ⟨k0 + k1 + c * k2 - d * k3 + k4, by rw [e1, e0, e2, e3]; grind⟩
  intro x y hx hy
  obtain ⟨k1, e1⟩ := key x hx
  obtain ⟨k2, e2⟩ := key y hy
  exact (dot_eq hp).mpr ⟨k1 - k2, by rw [e1, e2]; grind⟩
theorem due_runs (hp : Prm p) (h : Red p n rows) (hw : ∀ u ∈ ws, Wd p n u) (hd : dueOf p (runsOf p n rows) ws bs = true) : 1 + (p - 1).toNat * ws.length ≤ (runsOf p n rows).length := by
  have hb := hp.b
  have hn1 : ∀ (i : Nat) (u : List Int), ws[i]? = some u → ¬ Cst p n rows u := fun i u hu hc => by
    rw [due_iff.mpr ⟨i, u, hu, .inl ((parts_cst hp).mpr hc)⟩] at hd; cases hd
  have hn2 : ∀ (i j : Nat) (u v : List Int), j < i → ws[i]? = some u → ws[j]? = some v → ¬ Same p n rows v u := fun i j u v hij hu hv hs => by
    rw [due_iff.mpr ⟨i, u, hu, .inr (.inl ⟨j, v, hij, hv, (parts_iff hp).mpr hs⟩)⟩] at hd; cases hd
  let cs : List Int := (List.range (p - 1).toNat).map fun (i : Nat) => 1 + (i : Int)
  have hcs : ∀ c ∈ cs, 1 ≤ c ∧ c < p := fun c hc => by
    obtain ⟨i, hi, rfl⟩ := List.mem_map.mp hc
    have := List.mem_range.mp hi
    omega
  have ncs : cs.Nodup := by
    unfold List.Nodup
    rw [List.pairwise_map]
    exact List.nodup_range.imp fun {a b} hab => by omega
  have key : ∀ (l : List (List Int)), l.Sublist ws → True := fun _ _ => trivial
  let L : List (List Int) := lift p n rows (fun _ => 0) :: ws.flatMap fun u => cs.map fun c => runAt p n rows u c
  have zr : ∀ u, lift p n rows (fun _ => 0) = runAt p n rows u 0 := fun u => by
    unfold runAt
    congr 1
    funext j
    rw [Int.zero_mul, Int.zero_emod]
  have noz : ∀ u ∈ ws, ∀ c ∈ cs, runAt p n rows u c ≠ runAt p n rows u 0 := fun u hu c hc e => by
    have h1 := runAt_eq hp h (hw u hu) (hw u hu) e
    have hmu : Wd p n (mul p u c) := ⟨by rw [len_mul]; exact (hw u hu).len, wr_mul hp _ _⟩
    rw [show (-(0 : Int)) = 0 from rfl, sum_zero_eq hp hmu.wr (by rw [(hw u hu).len, hmu.len])] at h1
    obtain ⟨i, hi⟩ := List.getElem?_of_mem hu
    exact hn1 i u hi ((cst_same (same_mul hp (hw u hu) (hcs c hc))).mp h1)
  have dis : ∀ u ∈ ws, ∀ v ∈ ws, ∀ c ∈ cs, ∀ d ∈ cs, runAt p n rows u c = runAt p n rows v d → Same p n rows u v := fun u hu v hv c hc d hd e => by
    have h1 := runAt_eq hp h (hw u hu) (hw v hv) e
    have hmu : Wd p n (mul p u c) := ⟨by rw [len_mul]; exact (hw u hu).len, wr_mul hp _ _⟩
    have hd' := hcs d hd
    have h2 := same_of_cst hp hmu (hw v hv) (c := -d) (fun z => by
      obtain ⟨k, hk⟩ := (cg_iff hp (b := 0)).mp (by rw [z]; simp)
      have := zero_cg hp (a := d) ⟨by omega, hd'.2⟩ (k := -k) (by rw [Int.mul_neg]; omega)
      omega) h1
    exact (same_mul hp (hw u hu) (hcs c hc)).symm.trans h2
  have nL : L.Nodup := by
    refine List.nodup_cons.mpr ⟨fun hm => ?_, ?_⟩
    · obtain ⟨u, hu, hm⟩ := List.mem_flatMap.mp hm
      obtain ⟨c, hc, e⟩ := List.mem_map.mp hm
      rw [zr u] at e
      exact noz u hu c hc e
    · unfold List.Nodup
      rw [List.pairwise_flatMap]
      refine ⟨fun u hu => ?_, ?_⟩
      · rw [List.pairwise_map]
        refine (List.Pairwise.and_mem.mp ncs).imp fun {c d} hcd e => ?_
        obtain ⟨hc, hd', hne⟩ := hcd
        -- (c - d) u is constant
        have h1 := runAt_eq hp h (hw u hu) (hw u hu) e
        have hmu : Wd p n (mul p u c) := ⟨by rw [len_mul]; exact (hw u hu).len, wr_mul hp _ _⟩
        obtain ⟨i, hi⟩ := List.getElem?_of_mem hu
        refine hn1 i u hi ?_
        intro x y hx hy
        obtain ⟨k0, e0⟩ := dot_mul hp (b := c) (hw u hu).len hx.len
        obtain ⟨k1, e1⟩ := dot_sum hp (b := -d) hmu.len (hw u hu).len hx.len
        obtain ⟨m0, f0⟩ := dot_mul hp (b := c) (hw u hu).len hy.len
        obtain ⟨m1, f1⟩ := dot_sum hp (b := -d) hmu.len (hw u hu).len hy.len
        have h2 := h1 x y hx hy
        rw [e1, f1, e0, f0] at h2
        have c1 := hcs c hc
        have d1 := hcs d hd'
        obtain ⟨g, m, _, _, hg⟩ := cg_inv hp (c := c - d) (fun z => by
          obtain ⟨k, hk⟩ := (cg_iff hp (b := 0)).mp (by rw [z]; simp)
          rcases Int.lt_or_gt_of_ne hne with y | y
          · have := zero_cg hp (a := d - c) ⟨by omega, by omega⟩ (k := -k) (by rw [Int.mul_neg]; omega)
            omega
          · have := zero_cg hp (a := c - d) ⟨by omega, by omega⟩ (k := k) (by omega)
            omega)
        refine (dot_eq hp).mpr ⟨g * (m0 + m1 - k0 - k1) - m * (dot p u x - dot p u y), ?_⟩
        have e' : (c - d) * (dot p u x - dot p u y) = p * (m0 + m1 - k0 - k1) := by grind
        have e'' : g * ((c - d) * (dot p u x - dot p u y)) = g * (p * (m0 + m1 - k0 - k1)) := by rw [e']
        have e3 : g * ((c - d) * (dot p u x - dot p u y)) = (dot p u x - dot p u y) + p * (m * (dot p u x - dot p u y)) := by rw [← Int.mul_assoc, hg]; grind
        grind
      · rw [List.pairwise_iff_getElem]
        intro i j hi hj hij x hx y hy exy
        obtain ⟨c, hc, rfl⟩ := List.mem_map.mp hx
        obtain ⟨d, hd', rfl⟩ := List.mem_map.mp hy
        exact hn2 j i _ _ hij (List.getElem?_eq_getElem hj) (List.getElem?_eq_getElem hi) (dis _ (List.getElem_mem hi) _ (List.getElem_mem hj) c hc d hd' exy)
  have sL : ∀ x ∈ L, x ∈ runsOf p n rows := fun x hx => by
    rw [mem_runs hp]
    rcases List.mem_cons.mp hx with rfl | hx
    · exact lift_sol hp h fun _ => z_rng hp
    · obtain ⟨u, hu, hm⟩ := List.mem_flatMap.mp hx
      obtain ⟨c, hc, rfl⟩ := List.mem_map.mp hm
      exact lift_sol hp h fun _ => emod_rng hp _
  have hl := nodup_len nL sL
  have hlen : L.length = 1 + (p - 1).toNat * ws.length := by
    show (_ :: ws.flatMap fun u => cs.map fun c => runAt p n rows u c).length = _
    rw [List.length_cons, List.length_flatMap]
    have : ∀ l : List (List Int), (l.map fun u => (cs.map fun c => runAt p n rows u c).length).sum = (p - 1).toNat * l.length := by
      intro l
      induction l with
      | nil => simp
      | cons a r ih => rw [List.map_cons, List.sum_cons, ih, List.length_map, List.length_map, List.length_range, List.length_cons, Nat.mul_succ]; omega
    rw [this]; omega
  omega
end
end Km
end
section
set_option linter.all false
set_option autoImplicit false
/-! words of unlike classes from normal words -/
namespace Km
theorem normB_lead : ∀ {u : List Int}, normB u = true → lead u < u.length ∧ u.getD (lead u) 0 = 1
  | [], h => by cases h
  | a :: r, h => by
    have h2 := of_decide_eq_true h
    by_cases e : a = 0
    · subst e
      rw [List.filter_cons_of_neg (by simp)] at h2
      have ih := normB_lead (u := r) (decide_eq_true h2)
      have el : lead ((0 : Int) :: r) = lead r + 1 := by unfold lead; rw [List.findIdx_cons]; simp
      rw [el]
      exact ⟨by rw [List.length_cons]; omega, by rw [List.getD_cons_succ]; exact ih.2⟩
    · rw [List.filter_cons_of_pos (by simp [e])] at h2
      have e1 : a = 1 := by simpa using h2
      have el : lead (a :: r) = 0 := by unfold lead; rw [List.findIdx_cons]; simp [e]
      rw [el]
      exact ⟨by rw [List.length_cons]; omega, e1⟩
theorem sum_self {p : Int} {u : List Int} {c : Int} : sumW p u u c = mul p u (1 + c) := by
  unfold sumW mul
  refine List.ext_getElem (by simp) fun i h1 h2 => ?_
  simp only [List.getElem_map, List.getElem_zip]
  rw [Int.add_mul, Int.one_mul]
theorem norm_of_mul {p : Int} {n : Nat} (hp : Prm p) {u : List Int} (hu : Wd p n u) (hn : normB u = true) {k : Int} (h1 : 1 ≤ k) (h2 : k < p) : norm p (mul p u k) = u ∧ lead (mul p u k) = lead u ∧ lead u < n := by
  obtain ⟨l1, l2⟩ := normB_lead hn
  have hb := hp.b
  have ek : (mul p u k).getD (lead u) 0 = k := by rw [getD_mul, l2, Int.mul_one, Int.emod_eq_of_lt (by omega) h2]
  have el : lead (mul p u k) = lead u := lead_of_ne (by rw [ek]; omega) fun j hj => by rw [getD_mul, lead_before hj]; simp
  refine ⟨?_, el, by rw [← hu.len]; exact l1⟩
  unfold norm
  rw [if_neg (by rw [el, len_mul]; omega), el, ek]
  refine ext_getD (by rw [len_mul, len_mul]) fun i _ => ?_
  rw [getD_mul, getD_mul]
  have hr := wr_getD hp hu.wr i
  have h3 := inv_mul hp (e := k) ⟨by omega, h2⟩
  obtain ⟨m, hm⟩ := (cg_iff hp (b := 1)).mp (show inv p k * k % p = 1 % p by rw [h3, Int.emod_eq_of_lt (by omega) (by omega)])
  obtain ⟨q, hq⟩ := cg_mod hp (k * u.getD i 0)
  rw [hq, ← Int.emod_eq_of_lt hr.1 hr.2]
  rw [Int.emod_eq_of_lt hr.1 hr.2]
  have : inv p k * (k * u.getD i 0 + p * q) = u.getD i 0 + p * (m * u.getD i 0 + inv p k * q) := by
    have e : inv p k * (k * u.getD i 0) = (1 + p * m) * u.getD i 0 := by rw [← Int.mul_assoc, hm]
    grind
  rw [this, Int.add_mul_emod_self_left, Int.emod_eq_of_lt hr.1 hr.2]
/-- w is a multiple of the normal word u -/
def Mlt (p : Int) (u w : List Int) : Prop := ∃ c, 0 ≤ c ∧ c < p - 1 ∧ w = sumW p u u c
theorem mlt_norm {p : Int} {n : Nat} (hp : Prm p) {u w : List Int} (hu : Wd p n u) (hn : normB u = true) (h : Mlt p u w) : norm p w = u ∧ Wd p n w ∧ isZ w = false := by
  obtain ⟨c, h1, h2, rfl⟩ := h
  rw [sum_self]
  obtain ⟨e1, e2, e3⟩ := norm_of_mul hp hu hn (k := 1 + c) (by omega) (by omega)
  refine ⟨e1, ⟨by rw [len_mul]; exact hu.len, wr_mul hp _ _⟩, ?_⟩
  cases ez : isZ (mul p u (1 + c)) with
  | false => rfl
  | true =>
    have := isZ_lead.mp ez
    rw [e2, len_mul, hu.len] at this
    omega
theorem wds_of {p : Int} {n : Nat} (hp : Prm p) {l ws : List (List Int)} (hl : l.Nodup) (hN : ∀ u ∈ l, Wd p n u ∧ normB u = true) (h64 : l.length ≤ 64) (hlen : ws.length = l.length)
    (hr : ∀ (i : Nat) (u w : List Int), l[i]? = some u → ws[i]? = some w → Mlt p u w) : Wds p n ws ∧ ws.map (norm p) = l := by
  have at_ : ∀ w ∈ ws, ∃ u ∈ l, Mlt p u w := fun w hw => by
    obtain ⟨i, hi⟩ := List.getElem?_of_mem hw
    have hlt := (List.getElem?_eq_some_iff.mp hi).1
    exact ⟨l[i]'(by omega), List.getElem_mem _, hr i _ w (List.getElem?_eq_getElem (by omega)) hi⟩
  have e : ws.map (norm p) = l := by
    refine List.ext_getElem (by rw [List.length_map, hlen]) fun i h1 h2 => ?_
    rw [List.length_map] at h1
    rw [List.getElem_map]
    have hm := hN _ (List.getElem_mem h2)
    exact (mlt_norm hp hm.1 hm.2 (hr i _ _ (List.getElem?_eq_getElem h2) (List.getElem?_eq_getElem h1))).1
  refine ⟨⟨fun w hw => ?_, fun w hw => ?_, fun w hw => ?_, by rw [e]; exact hl, by omega⟩, e⟩ <;> obtain ⟨u, hu, hm⟩ := at_ w hw <;> have hh := mlt_norm hp (hN u hu).1 (hN u hu).2 hm
  · exact hh.2.1.wr
  · exact hh.2.1.len
  · exact hh.2.2
/-- all that the law asks of the drawn words -/
theorem drawn_ok {p : Int} {n : Nat} (hs : Shp p n) {l ws bs : List (List Int)} {cut more : Nat} (hl : l.Perm ((wordsOf p.toNat n).filter normB)) (hw : ws.length = (l.take cut).length) (hwr : ∀ (i : Nat) (u w : List Int), (l.take cut)[i]? = some u → ws[i]? = some w → Mlt p u w)
    (hb : bs.length = ((l.take (cut + more)).drop cut).length) (hbr : ∀ (i : Nat) (u w : List Int), ((l.take (cut + more)).drop cut)[i]? = some u → bs[i]? = some w → Mlt p u w) : Wds p n ws ∧ Wds p n bs ∧ ∀ u ∈ bs, norm p u ∉ ws.map (norm p) := by
  have nd : l.Nodup := hl.nodup_iff.mpr ((words_nodup n).sublist List.filter_sublist)
  have len : l.length ≤ 64 := by
    rw [hl.length_eq]
    have h1 := List.length_filter_le normB (wordsOf p.toNat n)
    rw [words_count] at h1
    have := hs.few
    omega
  have hN : ∀ u ∈ l, Wd p n u ∧ normB u = true := fun u hu => by
    have := List.mem_filter.mp (hl.mem_iff.mp hu)
    have h2 := words_ok hs.hp this.1
    exact ⟨⟨h2.2, h2.1⟩, this.2⟩
  have s1 : (l.take cut).Sublist l := List.take_sublist _ _
  have s2 : ((l.take (cut + more)).drop cut).Sublist l := (List.drop_sublist _ _).trans (List.take_sublist _ _)
  obtain ⟨w1, e1⟩ := wds_of hs.hp (nd.sublist s1) (fun u hu => hN u (s1.subset hu)) (Nat.le_trans s1.length_le len) hw hwr
  obtain ⟨w2, e2⟩ := wds_of hs.hp (nd.sublist s2) (fun u hu => hN u (s2.subset hu)) (Nat.le_trans s2.length_le len) hb hbr
  refine ⟨w1, w2, fun u hu hm => ?_⟩
  rw [e1] at hm
  have hm2 : norm p u ∈ (l.take (cut + more)).drop cut := by rw [← e2]; exact List.mem_map.mpr ⟨u, hu, rfl⟩
  have nd2 : (l.take (cut + more)).Nodup := nd.sublist (List.take_sublist _ _)
  have e : l.take (cut + more) = (l.take (cut + more)).take cut ++ (l.take (cut + more)).drop cut := (List.take_append_drop _ _).symm
  rw [e, List.take_take, show min cut (cut + more) = cut by omega] at nd2
  exact (List.nodup_append.mp nd2).2.2 _ hm _ hm2 rfl
/-! ### the fixed plan -/
theorem half_red : Red 2 3 [([1, 1, 1], 1)] := by
  have e : ∀ r ∈ [(([1, 1, 1] : List Int), (1 : Int))], r = ([1, 1, 1], 1) := fun r hr => List.mem_singleton.mp hr
  refine ⟨fun r hr => ?_, fun r hr => ?_, fun r hr => ?_, List.pairwise_singleton _ _, List.pairwise_singleton _ _⟩ <;> rw [e r hr]
  · exact ⟨rfl, by unfold WR; decide, by decide⟩
  · decide
  · decide
theorem half_1 : isRight 2 [([1, 1, 1], 1)] [[1, 0, 0], [0, 1, 0], [0, 0, 1]] [] = true := by decide +kernel
theorem half_2 : isRight 2 [([1, 1, 1], 1)] [[1, 0, 0], [0, 1, 0], [0, 0, 1]] [[0, 1, 1]] = false := by decide +kernel
theorem half_3 : isRight 2 [([1, 1, 1], 1)] [[1, 1, 1]] [] = false := by decide +kernel
theorem half_4 : isRight 2 [([1, 1, 1], 1)] [[1, 0, 0], [0, 1, 0]] [] = true := by decide +kernel
theorem half_wds : Wds 2 3 [[1, 0, 0], [0, 1, 0], [0, 0, 1]] ∧ Wds 2 3 [[0, 1, 1]] ∧ Wds 2 3 [[1, 1, 1]] ∧ Wds 2 3 [[1, 0, 0], [0, 1, 0]] ∧ Wds 2 3 [] := by
  refine ⟨⟨?_, ?_, ?_, ?_, ?_⟩, ⟨?_, ?_, ?_, ?_, ?_⟩, ⟨?_, ?_, ?_, ?_, ?_⟩, ⟨?_, ?_, ?_, ?_, ?_⟩, ⟨?_, ?_, ?_, ?_, ?_⟩⟩ <;> first | decide +kernel | (unfold WR; decide +kernel)
end Km
end
set_option Elab.async false
set_option linter.all false
set_option maxRecDepth 100000
set_option maxHeartbeats 4000000
set_option autoImplicit false
/-! the pot: a list of three ints that changes -/
namespace Km
open PySem PySem.Spec PyProof.Rows L2 StX SlX
def Pot (L : Addr) (H : Hp) : Prop := ∃ a b c : Int, H L = some (.lst [.int a, .int b, .int c])
section
variable {K : PySem.W.Frag} {H J : Hp} {L : Addr}
theorem gr_del (g : Gr H J) : Gr (del H L) (del J L) := by
  refine ⟨fun a o e n => ?_, fun a ps e t => ?_⟩
  · by_cases h : a = L
    · subst h; rw [del_same] at e; cases e
    · rw [del_ne h] at e ⊢; exact g.keep a o e n
  · by_cases h : a = L
    · subst h; rw [del_same] at e; cases e
    · rw [del_ne h] at e ⊢; exact g.tabs a ps e t
theorem gr_und : Gr (del H L) H := Gr.of_same fun a o e => by
  by_cases h : a = L
  · subst h; rw [del_same] at e; cases e
  · rwa [del_ne h] at e
theorem del_upd {o : HO} : del (upd H L o) L = del H L := by
  funext b
  by_cases h : b = L
  · subst h; rw [del_same, del_same]
  · rw [del_ne h, del_ne h, upd_ne h]
theorem Pot.gr (g : Gr H J) (h : Pot L H) : Pot L J := by
  obtain ⟨a, b, c, h⟩ := h
  exact ⟨a, b, c, g.lst h⟩
theorem del_q (h : Pot L H) : Gq H (del H L) := fun a o e n m => by
  obtain ⟨x, y, z, h⟩ := h
  rw [del_ne]
  · exact e
  · intro q; subst q; rw [h] at e; cases e; exact m
theorem del_tu (h : Pot L H) : Gtu H (del H L) := fun a o e => del_q h a _ e True.intro True.intro
theorem dp_del {v : V} {d : PyData} (h : Pot L H) (f : lf d = true) (x : Dp K H v d) : Dp K (del H L) v d := dp_gq (del_q h) f x
theorem dr_del {v : V} {d : PyData} (h : Pot L H) (f : lf d = true) (x : Dr H v d) : Dr (del H L) v d := dr_tu (del_tu h) f x
/-- no three ints -/
def n3 (ds : List PyData) : Prop := ∀ a b c : Int, ds ≠ [.int a, .int b, .int c]
theorem n3_words (l : List (List Int)) : n3 (l.map dW) := fun a b c e => by
  match l, e with
  | [], e => cases e
  | _ :: _, e => cases (List.cons.inj e).1
theorem ne_pot {ds : List PyData} {a : Addr} {xs : List V} (h : Pot L H) (n : n3 ds) (e : H a = some (.lst xs)) (t : DpAll K H xs ds) : a ≠ L := fun z => by
  subst z
  obtain ⟨x, y, z, h⟩ := h
  rw [h] at e; cases e
  obtain _ | ⟨h0, _ | ⟨h1, _ | ⟨h2, _ | _⟩⟩⟩ := t
  cases h0; cases h1; cases h2
  exact n x y z rfl
theorem drl_del {v : V} {ds : List PyData} (h : Pot L H) (f : lfs ds = true) (n : n3 ds) (x : Dr H v (.list ds)) : Dr (del H L) v (.list ds) := by
  obtain ⟨a, xs, rfl, s, t⟩ := dr_lst x
  exact .lst (by rw [del_ne (ne_pot (K := []) h n s (drs_dps t))]; exact s) (drs_tu (del_tu h) f t)
theorem PlanIs.del {C : Addr} {v : V} {p : Int} {ns : List Str} {rows : List Row} (h : Pot L H) (x : PlanIs K C H v p ns rows) : PlanIs K C (del H L) v p ns rows := by
  obtain ⟨x, dx, vn, vr, vu, e, hs, h1, h2, h3⟩ := x.ex
  refine ⟨x, dx, vn, vr, vu, e, ?_, dp_del h ?_ h1, dp_del h ?_ h2, dp_del h ?_ h3⟩
  · rcases hs with ⟨z, _⟩ | ⟨h1, h2⟩
    · exact .inl ⟨del_q h _ _ z True.intro True.intro, by assumption⟩
    · exact .inr ⟨del_q h _ _ h1 True.intro True.intro, del_q h _ _ h2 True.intro True.intro⟩
  · exact lfs_map (f := PyData.str) (fun _ => rfl) ns
  · exact lfs_map lf_row rows
  · exact lfs_map lf_word _
end
section
variable {K : PySem.W.Frag} {L : Addr} {σ : L2.St} {H : Hp} {te : TE} {P : V → Hp → Prop}
/-- an expression beside the pot at L: H and P speak of the heap without the pot -/
def Pw (L : Addr) (te : TE) (σ : L2.St) (H : Hp) (P : V → Hp → Prop) : Prop := ∀ H1, Gr H (del H1 L) → Pot L H1 → ∀ Q : VK, (∀ v J, Gr (del H1 L) (del J L) → Pot L J → P v (del J L) → Q v J) → te σ H1 Q
theorem pw_of (h : Pu te σ H P) (hP : ∀ v J, Pot L J → P v J → P v (del J L)) : Pw L te σ H P := fun H1 e hp Q q =>
  h H1 (e.trans gr_und) Q fun v J g p => q v J (gr_del g) (hp.gr g) (hP v J (hp.gr g) p)
theorem Pw.gr {J : Hp} (g : Gr H J) (h : Pw L te σ H P) : Pw L te σ J P := fun H1 e => h H1 (g.trans e)
theorem Pw.imp {R : V → Hp → Prop} (h : Pw L te σ H P) (f : ∀ v J, Gr H J → P v J → R v J) : Pw L te σ H R := fun H1 e hp Q q => h H1 e hp Q fun v J g p x => q v J g p (f v _ (e.trans g) x)
theorem pw_int {i : Int} (h : PuD K te σ H (.int i)) : Pw L te σ H fun v _ => v = .int i := (pw_of (L := L) h fun v J hp p => dp_del hp rfl p).imp fun v J _ p => dp_int p
theorem pw_lf {d : PyData} (f : lf d = true) (h : PuD K te σ H d) : Pw L te σ H fun v J => Dp K J v d := pw_of h fun v J hp p => dp_del hp f p
theorem pwr_lf {d : PyData} (f : lf d = true) (h : PuR te σ H d) : Pw L te σ H fun v J => Dr J v d := pw_of h fun v J hp p => dr_del hp f p
theorem pwr_l {ds : List PyData} (f : lfs ds = true) (n : n3 ds) (h : PuR te σ H (.list ds)) : Pw L te σ H fun v J => Dr J v (.list ds) := pw_of h fun v J hp p => drl_del hp f n p
theorem pq_set {i : Nat} {D : Ends} {A : Hp} (hp : Pot L A) (h : Pw L te σ (del A L) P) (k : ∀ v J, Gr (del A L) (del J L) → Pot L J → P v (del J L) → D.nx (σ.set i (some v)) J) : tAsg te (gName i) D σ A := h A .refl hp _ fun v J g p x => k v J g p x
theorem pq_ret {D : Ends} {A : Hp} (hp : Pot L A) (h : Pw L te σ (del A L) P) (k : ∀ v J, Gr (del A L) (del J L) → Pot L J → P v (del J L) → D.rt v J) : tRet te D σ A := h A .refl hp _ fun v J g p x => k v J g p x
end
section
variable {P : Program} {w : World} {K : PySem.W.Frag} {mg : Str → Option Value} {base : Heap} {T1 T2 c1 c2 CP CR fR cda cc : Addr}
/-- a number below total; the pot changes -/
def spDip : Sp := fun vs H Q _ => ∃ (L : Addr) (total : Int), vs = [.ref L, .int total] ∧ Pot L H ∧ 0 < total ∧ total < 1000000 ∧ ∀ i J, Gr (del H L) (del J L) → Pot L J → 0 ≤ i → i < total → Q (.int i) J
abbrev s_dip : Stmt := top 50
theorem sc_dip : FnScope ["_law_pot_here", "_law_total", "_law_one", "_law_two", "_law_found"] ["_law_pot_here", "_law_total"] (defScope s_dip) := ⟨rfl, rfl, rfl, by decide +kernel, rfl, by decide +kernel, by decide +kernel⟩
theorem ok_dip (B : Bl mg) (D : Df K mg "_law_dip" s_dip ["_law_pot_here", "_law_total"]) : Ok P w K mg base CX0 1 "_law_dip" ["_law_pot_here", "_law_total"] spDip := D.ok fun f fd F => by
  refine F.ok sc_dip (fun vs H Q E h => by obtain ⟨_, _, rfl, _⟩ := h; rfl) ?_
  rintro cdv A outer s H vs Q E hr ⟨L, total, rfl, ⟨a, b, c, hL⟩, ht, ht2, k⟩
  refine ⟨_, (pss_cons (ps_if (pt_cmpR op_gt (pe_ix (r := rIxL K) ix_list (pv 0) pe_int (fun _ _ => rfl)) pe_int (nomark _)) (pss_cons (ps_set (i := 4) sc_dip.nd rfl (Or.inl rfl) (pe_op op_mod (pe_callTy call_int1 (by rfl) B.int boot_int (pa_cons (pe_ix (r := rIxL K) ix_list (pv 0) pe_int (fun _ _ => rfl)) pa_nil)) (pv 1))) (pss_cons (ps_asg (pe_op op_fdiv (pe_ix (r := rIxL K) ix_list (pv 0) pe_int (fun _ _ => rfl)) (pv 1)) (pg_sub (pv 0) pe_int set_list)) (pss_one (ps_ret (pv 4))))) pss_nil) (pss_cons (ps_asg (pe_op op_add (pe_ix (r := rIxL K) ix_list (pv 0) pe_int (fun _ _ => rfl)) pe_int) (pg_sub (pv 0) pe_int set_list)) (pss_cons (ps_set (i := 2) sc_dip.nd rfl (Or.inl rfl) (pe_op op_mod (pe_callTy call_int1 (by rfl) B.int boot_int (pa_cons (pe_op op_add (pe_ix (r := rIxL K) ix_list (pv 0) pe_int (fun _ _ => rfl)) (pe_op op_mul pe_int (pe_ix (r := rIxL K) ix_list (pv 0) pe_int (fun _ _ => rfl)))) pa_nil)) pe_int)) (pss_cons (ps_set (i := 3) sc_dip.nd rfl (Or.inl rfl) (pe_op op_add (pe_op op_mul (pe_op op_mod (pe_callTy call_int1 (by rfl) B.int boot_int (pa_cons (pe_op op_mul (pv 2) (pv 2)) pa_nil)) pe_int) (pv 2)) (pe_op op_mul pe_int (pe_ix (r := rIxL K) ix_list (pv 0) pe_int (fun _ _ => rfl))))) (pss_one (ps_ret (pe_op op_mod (pe_callTy call_int1 (by rfl) B.int boot_int (pa_cons (pe_op op_fdiv (pe_op op_mod (pe_callTy call_int1 (by rfl) B.int boot_int (pa_cons (pv 3) pa_nil)) pe_int) pe_int) pa_nil)) (pv 1)))))))), ?_⟩
  have hpot : ∀ (σ : L2.St) (J : Hp) (a b c : Int) (n : Nat) (d : PyData), J L = some (.lst [.int a, .int b, .int c]) → σ[0]? = some (some (.ref L)) → ([.int a, .int b, .int c] : List PyData)[n]? = some d → PuD K (tOp (rIxL K) (tVar 0) (tC (.int (n : Int)))) σ J d := fun σ J a b c n d h e hd =>
    pud_ixL (l := [.int a, .int b, .int c]) (pud_var e (.lst (SqL.of h) (dps_ints [a, b, c]))) pud_int n rfl hd
  refine sq_if (b := decide (0 < a)) (pb_is (pb_test (pud_opI (g := fun i j => .bl (decide (j < i))) (dv := .bool (decide (0 < a))) (hpot _ H a b c 0 _ hL rfl rfl) pud_int fun _ => .bl _)) rfl) (fun _ J1 g1 => ?_) fun _ J1 g1 => ?_
  · have hL1 := g1.lst hL
    refine sq_set (P := fun v J => Dp K J v (.int (a % total))) (pud_mod (pud_int1 (hpot _ J1 a b c 0 _ hL1 rfl rfl)) (pud_var rfl (.int _)) ht) fun v4 J2 g2 hv4 => ?_
    have e4 := dp_int hv4
    subst e4
    dsimp only [tSeq, tNext]
    have hL2 := g2.lst hL1
    refine (pud_opC (K := K) (C := CDiv) (g := fun i j => .int (i / j)) (dv := .int (a / total)) (hpot _ J2 a b c 0 _ hL2 rfl rfl) (pud_var rfl (.int total)) ⟨ht, by omega⟩ fun _ => .int _) J2 .refl _ fun v J3 g3 hv => ?_
    have ev := dp_int hv
    subst ev
    have hL3 := g3.lst hL2
    refine ⟨.ref L, rfl, L, _, 0, 0, rfl, rfl, hL3, rfl, ?_⟩
    refine ⟨_, rfl, k _ _ ?_ ⟨_, _, _, upd_same⟩ (Int.emod_nonneg _ (by omega)) (Int.emod_lt_of_pos _ ht)⟩
    rw [del_upd]
    exact gr_del (g1.trans (g2.trans g3))
  · dsimp only [tSeq, tNext]
    have hL1 := g1.lst hL
    refine (pud_add (K := K) (i := c) (j := 1) (hpot _ J1 a b c 2 _ hL1 rfl rfl) pud_int) J1 .refl _ fun v J2 g2 hv => ?_
    have ev := dp_int hv
    subst ev
    have hL2 := g2.lst hL1
    refine ⟨.ref L, rfl, L, _, 2, 2, rfl, rfl, hL2, rfl, ?_⟩
    have e0 : Gr (del H L) (del (upd J2 L (.lst ([.int a, .int b, .int c].set 2 (.int (c + 1))))) L) := by
      rw [del_upd]
      exact gr_del (g1.trans g2)
    have hL3 : (upd J2 L (.lst ([.int a, .int b, .int c].set 2 (.int (c + 1))))) L = some (.lst [.int a, .int b, .int (c + 1)]) := upd_same
    generalize (upd J2 L (.lst ([.int a, .int b, .int c].set 2 (.int (c + 1))))) = J3 at e0 hL3
    generalize c + 1 = c' at hL3
    refine sq_set (P := fun v J => ∃ i : Int, v = .int i ∧ 0 ≤ i ∧ i < 2305843009213693951) (Pu.imp (pud_mod (K := K) (pud_int1 (pud_add (hpot _ J3 a b c' 1 _ hL3 rfl rfl) (pud_mul (pud_int (i := 1000099)) (hpot _ J3 a b c' 2 _ hL3 rfl rfl) (.inl ⟨by decide, by decide⟩)))) (pud_int (i := 2305843009213693951)) (by decide)) fun v J _ p => ⟨_, dp_int p, Int.emod_nonneg _ (by decide), Int.emod_lt_of_pos _ (by decide)⟩) fun v4 J4 g4 hv4 => ?_
    obtain ⟨i1, rfl, b1, b2⟩ := hv4
    dsimp only [tSeq, tNext]
    have hL4 := g4.lst hL3
    refine sq_set (P := fun v J => ∃ i : Int, v = .int i) (Pu.imp (pud_add (K := K) (pud_mul (pud_mod (pud_int1 (pud_mul (pud_var rfl (.int i1)) (pud_var rfl (.int i1)) (.inl ⟨by omega, by omega⟩))) (pud_int (i := 2305843009213693907)) (by decide)) (pud_var rfl (.int i1)) (.inr ⟨by omega, by omega⟩)) (pud_mul (pud_int (i := 9041)) (hpot _ J4 a b c' 2 _ hL4 rfl rfl) (.inl ⟨by decide, by decide⟩))) fun v J _ p => ⟨_, dp_int p⟩) fun v5 J5 g5 hv5 => ?_
    obtain ⟨i2, rfl⟩ := hv5
    dsimp only [tSeq, tNext]
    have hL5 := g5.lst hL4
    refine sq_ret (P := fun v J => ∃ i : Int, v = .int i ∧ 0 ≤ i ∧ i < total) (Pu.imp (pud_mod (K := K) (pud_int1 (pud_opC (C := CDiv) (g := fun i j => .int (i / j)) (dv := .int (i2 % 2305843009213693921 / 16384)) (pud_mod (pud_int1 (pud_var rfl (.int i2))) (pud_int (i := 2305843009213693921)) (by decide)) (pud_int (i := 16384)) ⟨by decide, by decide⟩ fun _ => .int _)) (pud_var rfl (.int total)) ht) fun v J _ p => ⟨_, dp_int p, Int.emod_nonneg _ (by omega), Int.emod_lt_of_pos _ ht⟩) fun v J6 g6 hv => ?_
    obtain ⟨i, rfl, h1, h2⟩ := hv
    exact k i J6 (e0.trans (gr_del (g4.trans (g5.trans g6)))) ⟨_, _, _, g6.lst hL5⟩ h1 h2
end
end Km
set_option Elab.async false
set_option linter.all false
set_option maxRecDepth 100000
set_option maxHeartbeats 4000000
set_option autoImplicit false
namespace Km
open PySem PySem.Spec PyProof.Rows L2 StX SlX
def CPowB (i j : Int) : Prop := 0 ≤ j ∧ (Builtin.Int.intBits i : Int) * j ≤ 2 ^ 27
theorem op_powB {X : Cx} : OpR X (binaryOp .Pow) (rI CPowB fun i j => .int (i ^ j.toNat)) := opI fun _ _ _ _ _ _ _ hc q => pow_int hc.1 hc.2 q
section
variable {P : Program} {w : World} {K : PySem.W.Frag} {mg : Str → Option Value} {base : Heap} {T1 T2 c1 c2 CP CR fR cda cc : Addr}
theorem pud_int1b {σ : L2.St} {H : Hp} {te : TE} {b : Bool} (h : PuD K te σ H (.bool b)) : PuD K (tCB (fun xs H Q => (∃ i, xs = [.int i] ∧ Q (.int i) H) ∨ ∃ k, xs = [.bl k] ∧ Q (.int (if k then 1 else 0)) H) (tCons te tNil)) σ H (.int (if b then 1 else 0)) :=
  fun H1 e Q q => h H1 e _ fun v J g p => .inr ⟨b, by rw [dp_bl p], q _ J g (.int _)⟩
theorem pud_abs {σ : L2.St} {H : Hp} {te : TE} {i : Int} (h : PuD K te σ H (.int i)) : PuD K (tCB (fun xs H Q => ∃ i, xs = [.int i] ∧ Q (.int (if i < 0 then -i else i)) H) (tCons te tNil)) σ H (.int (if i < 0 then -i else i)) :=
  fun H1 e Q q => h H1 e _ fun v J g p => ⟨i, by rw [dp_int p], q _ J g (.int _)⟩
theorem pud_max2 {σ : L2.St} {H : Hp} {ta tb : TE} {i j : Int} (h1 : PuD K ta σ H (.int i)) (h2 : PuD K tb σ H (.int j)) : PuD K (tCB (fun xs H Q => ∃ i j, xs = [.int i, .int j] ∧ Q (.int (if j > i then j else i)) H) (tCons ta (tCons tb tNil))) σ H (.int (if j > i then j else i)) :=
  fun H1 e Q q => h1 H1 e _ fun v J g p => h2 J (e.trans g) _ fun w J2 g2 p2 => ⟨i, j, by rw [dp_int p, dp_int p2], q _ J2 (g.trans g2) (.int _)⟩
theorem ret_lst {D : Ends} {σ : L2.St} {H : Hp} {t : TA} {ds : List PyData} (h : PuDs K t σ H ds) (hl : ds.length ≤ 1000000) (k : ∀ vs J q, Gr H J → J q = none → DpAll K J vs ds → D.rt (.ref q) (upd J q (.lst vs))) : tRet (tLst t) D σ H :=
  h H .refl _ fun vs J g p => ⟨by rw [dps_len p]; exact Nat.le_trans hl (by decide), fun q hq => k vs J q g hq p⟩
def spPot (K : PySem.W.Frag) : Sp := fun vs H Q _ => ∃ (ns : List Int) (i : Nat), DpAll K H vs [.list (ns.map .int), .int (i : Int)] ∧ i ≤ 10 ∧ ∀ q J, Gr H (del J q) → Pot q J → Q (.ref q) J
abbrev s_pot : Stmt := top 49
theorem sc_pot : FnScope ["_law_script", "_law_at", "_law_cell", "_law_great", "_law_mixed"] ["_law_script", "_law_at"] (defScope s_pot) := ⟨rfl, rfl, rfl, by decide +kernel, rfl, by decide +kernel, by decide +kernel⟩
theorem ok_pot (B : Bl mg) (D : Df K mg "_law_pot" s_pot ["_law_script", "_law_at"]) : Ok P w K mg base CX0 1 "_law_pot" ["_law_script", "_law_at"] (spPot K) := D.ok fun f fd F => by
  refine F.ok sc_pot (fun vs H Q E h => by obtain ⟨_, _, hd, _⟩ := h; rw [dps_len hd]; rfl) ?_
  rintro cdv A outer s H vs Q E hr ⟨ns, i, hd, hi, k⟩
  obtain ⟨v0, v1, rfl, h0, h1⟩ := dps2 hd
  have e1 := dp_int h1
  subst e1
  refine ⟨_, (pss_cons (ps_set (i := 2) sc_pot.nd rfl (Or.inl rfl) (pe_ifExp (pt_cmpR op_lt (pv 1) (pe_callB call_len_seq (by rfl) B.len boot_len (pa_cons (pv 0) pa_nil)) (nomark _)) (pe_ix (r := rIxL K) ix_list (pv 0) (pv 1) (fun _ _ => rfl)) (pe_op op_add (pe_op op_mul pe_int (pv 1)) pe_int))) (pss_cons (ps_set (i := 3) sc_pot.nd rfl (Or.inl rfl) (pe_op op_mod (pe_callTy call_int1 (by rfl) B.int boot_int (pa_cons (pe_callB call_abs (by rfl) B.abs boot_abs (pa_cons (pv 2) pa_nil)) pa_nil)) (pe_op op_powB (pe_op op_pow pe_int pe_int) pe_int))) (pss_cons (ps_set (i := 4) sc_pot.nd rfl (Or.inl rfl) (pe_op op_add (pe_op op_add (pe_op op_add (pe_op op_mul (pe_op op_mod (pe_callTy call_int1 (by rfl) B.int boot_int (pa_cons (pv 3) pa_nil)) pe_int) pe_int) (pe_op op_mul pe_int (pv 1))) (pe_op op_mul pe_int (pe_callTy call_int1 (by rfl) B.int boot_int (pa_cons (pe_cmpR op_lt (pv 2) pe_int (nomark _)) pa_nil)))) pe_int)) (pss_one (ps_ret (pe_lst (pa_cons (pe_callB (call_max2 rfl) (by rfl) B.max boot_max (pa_cons pe_int (pa_cons (pe_op op_add (pe_op op_sub (pv 3) (pe_op op_pow pe_int pe_int)) pe_int) pa_nil))) (pa_cons (pe_op op_mod (pe_callTy call_int1 (by rfl) B.int boot_int (pa_cons (pv 4) pa_nil)) pe_int) (pa_cons pe_int pa_nil))))))))), ?_⟩
  refine sq_set (P := fun v J => ∃ i : Int, v = .int i) (Pu.imp (pud_if (K := K) (c := decide ((i : Int) < ((ns.map PyData.int).length : Int))) (d := .int (if h : i < ns.length then ns[i] else 59 * (i : Int) + 41)) (pb_test (pud_opI (g := fun i j => .bl (decide (i < j))) (dv := .bool (decide ((i : Int) < ((ns.map PyData.int).length : Int)))) (pud_var rfl (.int (i : Int))) (pud_lenL (pds_one (pud_var rfl h0))) fun _ => .bl _)) (fun hc => ?ha) fun hc => ?hb) fun v J _ p => ⟨_, dp_int p⟩) fun v2 J1 g1 hv2 => ?_
  case ha =>
    have hc := of_decide_eq_true hc
    rw [List.length_map] at hc
    have hlt : i < ns.length := by omega
    rw [dif_pos hlt]
    exact pud_ixL (pud_var rfl h0) (pud_var rfl (.int (i : Int))) i rfl (by rw [List.getElem?_map, List.getElem?_eq_getElem hlt]; rfl)
  case hb =>
    have hc := of_decide_eq_false hc
    rw [List.length_map] at hc
    rw [dif_neg (by omega)]
    exact pud_add (pud_mul pud_int (pud_var rfl (.int (i : Int))) (.inl ⟨by decide, by decide⟩)) pud_int
  obtain ⟨c, rfl⟩ := hv2
  dsimp only [tSeq, tNext]
  refine sq_set (P := fun v J => ∃ i : Int, v = .int i) ?h3 fun v3 J2 g2 hv3 => ?_
  case h3 =>
    exact Pu.imp (pud_mod (K := K) (pud_int1 (pud_abs (pud_var rfl (.int c)))) (pud_opC (C := CPowB) (g := fun i j => .int (i ^ j.toNat)) (dv := .int (((10 : Int) ^ (58 : Int).toNat) ^ (9 : Int).toNat)) (pud_opC (C := CPow) (g := fun i j => .int (i ^ j.toNat)) (dv := .int ((10 : Int) ^ (58 : Int).toNat)) (pud_int (i := 10)) (pud_int (i := 58)) ⟨by decide, by decide, by decide⟩ fun _ => .int _) (pud_int (i := 9)) ⟨by decide, by decide +kernel⟩ fun _ => .int _) (by decide +kernel)) fun v J _ p => ⟨_, dp_int p⟩
  obtain ⟨gr, rfl⟩ := hv3
  dsimp only [tSeq, tNext]
  refine sq_set (P := fun v J => ∃ i : Int, v = .int i) ?h4 fun v4 J3 g3 hv4 => ?_
  case h4 =>
    exact Pu.imp (pud_add (K := K) (pud_add (pud_add (pud_mul (pud_mod (pud_int1 (pud_var rfl (.int gr))) (pud_int (i := 2305843009213693669)) (by decide)) (pud_int (i := 80051)) (.inr ⟨by decide, by decide⟩)) (pud_mul (pud_int (i := 7027)) (pud_var rfl (.int (i : Int))) (.inl ⟨by decide, by decide⟩))) (pud_mul (pud_int (i := 13)) (pud_int1b (pud_opI (g := fun i j => .bl (decide (i < j))) (dv := .bool (decide (c < 0))) (pud_var rfl (.int c)) pud_int fun _ => .bl _)) (.inl ⟨by decide, by decide⟩))) (pud_int (i := 31))) fun v J _ p => ⟨_, dp_int p⟩
  obtain ⟨mi, rfl⟩ := hv4
  dsimp only [tSeq, tNext]
  have hl : PuDs K (tCons (tCB (fun xs H Q => ∃ i j, xs = [.int i, .int j] ∧ Q (.int (if j > i then j else i)) H) (tCons (tC (.int 0)) (tCons (tOp (rI0 fun i j => .int (i + j)) (tOp (rI0 fun i j => .int (i - j)) (tVar 3) (tOp (rI CPow fun i j => .int (i ^ j.toNat)) (tC (.int 10)) (tC (.int 18)))) (tC (.int 1))) tNil))) (tCons (tOp (rI (fun _ j => 0 < j) fun i j => .int (i % j)) (tCB (fun xs H Q => (∃ i, xs = [.int i] ∧ Q (.int i) H) ∨ ∃ k, xs = [.bl k] ∧ Q (.int (if k then 1 else 0)) H) (tCons (tVar 4) tNil)) (tC (.int 2305843009213693951))) (tCons (tC (.int 0)) tNil)))
      [some v0, some (.int (i : Int)), some (.int c), some (.int gr), some (.int mi)] J3 [.int (if gr - (10 : Int) ^ (18 : Int).toNat + 1 > 0 then gr - (10 : Int) ^ (18 : Int).toNat + 1 else 0), .int (mi % 2305843009213693951), .int 0] := by
    refine pds_cons (pud_max2 pud_int (pud_add (pud_sub (pud_var rfl (.int gr)) (pud_opC (C := CPow) (g := fun i j => .int (i ^ j.toNat)) (dv := .int ((10 : Int) ^ (18 : Int).toNat)) (pud_int (i := 10)) (pud_int (i := 18)) ⟨by decide, by decide, by decide⟩ fun _ => .int _)) pud_int)) (pds_cons (pud_mod (pud_int1 (pud_var rfl (.int mi))) (pud_int (i := 2305843009213693951)) (by decide)) (pds_one pud_int))
  refine ret_lst hl (by simp) fun vs J4 q g4 hq hv => ?_
  obtain _ | ⟨p0, _ | ⟨p1, _ | ⟨p2, _ | _⟩⟩⟩ := hv
  have e0 := dp_int p0
  have e1 := dp_int p1
  have e2 := dp_int p2
  subst e0 e1 e2
  refine k q _ ?_ ⟨_, _, _, upd_same⟩
  · refine (g1.trans (g2.trans (g3.trans g4))).trans ?_
    refine Gr.of_same fun a o e => ?_
    have : a ≠ q := ne_of_none e hq
    rw [del_ne this, upd_ne this]; exact e
end
end Km
set_option Elab.async false
set_option linter.all false
set_option maxRecDepth 100000
set_option maxHeartbeats 4000000
set_option autoImplicit false
namespace Km
open PySem PySem.Spec PyProof.Rows L2 StX SlX
section
variable {P : Program} {w : World} {K : PySem.W.Frag} {mg : Str → Option Value} {base : Heap} {T1 T2 c1 c2 CP CR fR cda cc : Addr}
theorem dpl_del {H : Hp} {L : Addr} {v : V} {ds : List PyData} (h : Pot L H) (f : lfs ds = true) (n : n3 ds) (x : Dp K H v (.list ds)) : Dp K (del H L) v (.list ds) := by
  obtain ⟨a, xs, rfl, s, t⟩ := dp_lst x
  refine .lst ?_ (dps_gq (del_q h) f t)
  rcases s with (s | ⟨o, s⟩) | s
  · exact SqL.of (by rw [del_ne (ne_pot h n s t)]; exact s)
  · exact .inl (.inr ⟨o, del_q h _ _ s True.intro True.intro⟩)
  · exact .inr s
theorem pw_dip {σ : L2.St} {H : Hp} {te : TE} {L : Addr} {total : Int} {i : Nat} (hv : σ[i]? = some (some (.ref L))) (h : PuD K te σ H (.int total)) (h0 : 0 < total) (h1 : total < 1000000) : Pw L (tCall spDip [] E0 (tCons (tVar i) (tCons te tNil))) σ H fun v _ => ∃ i : Int, v = .int i ∧ 0 ≤ i ∧ i < total :=
  fun H1 e hp Q q => ⟨_, hv, h H1 (e.trans gr_und) _ fun v J g p => by
    have := dp_int p
    subst this
    exact ⟨L, total, rfl, hp.gr g, h0, h1, fun i J2 g2 hp2 b1 b2 => q _ J2 ((gr_del g).trans g2) hp2 ⟨i, rfl, b1, b2⟩⟩⟩
def spShape (K : PySem.W.Frag) : Sp := fun vs H Q _ => ∃ L, vs = [.ref L] ∧ Pot L H ∧ ∀ v J, Gr (del H L) (del J L) → Pot L J → (∃ (p : Int) (n : Nat), Shp p n ∧ Dp K (del J L) v (.tuple [.int p, .int (n : Int)])) → Q v J
def shapes : List (Int × Nat) := [(2, 1), (2, 2), (2, 3), (2, 3), (2, 4), (2, 4), (2, 5), (3, 1), (3, 2), (3, 2), (3, 3), (3, 3), (5, 1), (5, 2), (7, 2)]
theorem shapes_ok : ∀ s ∈ shapes, Shp s.1 s.2 := by
  intro s hs
  have : ∀ s ∈ shapes, (s.1 = 2 ∨ s.1 = 3 ∨ s.1 = 5 ∨ s.1 = 7) ∧ 1 ≤ s.2 ∧ s.2 ≤ 5 ∧ s.1.toNat ^ s.2 ≤ 49 := by decide
  obtain ⟨h1, h2, h3, h4⟩ := this s hs
  exact ⟨h1, h2, h3, h4⟩
abbrev dS (s : Int × Nat) : PyData := .tuple [.int s.1, .int (s.2 : Int)]
abbrev s_shape : Stmt := top 57
theorem sc_shape : FnScope ["_law_pot_here", "_law_rows"] ["_law_pot_here"] (defScope s_shape) := ⟨rfl, rfl, rfl, by decide +kernel, rfl, by decide +kernel, by decide +kernel⟩
theorem ok_shape (B : Bl mg) (o__law_dip : Ok P w K mg base CX0 1 "_law_dip" ["_law_pot_here", "_law_total"] spDip) (D : Df K mg "_law_shape" s_shape ["_law_pot_here"]) : Ok P w K mg base CX0 2 "_law_shape" ["_law_pot_here"] (spShape K) := D.ok fun f fd F => by
  refine F.ok sc_shape (fun vs H Q E h => by obtain ⟨_, rfl, _⟩ := h; rfl) ?_
  rintro cdv A outer s H vs Q E hr ⟨L, rfl, hp, k⟩
  refine ⟨_, (pss_cons (ps_set (i := 1) sc_shape.nd rfl (Or.inl rfl) (pe_lst (pa_cons (pe_tup (pa_cons pe_int (pa_cons pe_int pa_nil))) (pa_cons (pe_tup (pa_cons pe_int (pa_cons pe_int pa_nil))) (pa_cons (pe_tup (pa_cons pe_int (pa_cons pe_int pa_nil))) (pa_cons (pe_tup (pa_cons pe_int (pa_cons pe_int pa_nil))) (pa_cons (pe_tup (pa_cons pe_int (pa_cons pe_int pa_nil))) (pa_cons (pe_tup (pa_cons pe_int (pa_cons pe_int pa_nil))) (pa_cons (pe_tup (pa_cons pe_int (pa_cons pe_int pa_nil))) (pa_cons (pe_tup (pa_cons pe_int (pa_cons pe_int pa_nil))) (pa_cons (pe_tup (pa_cons pe_int (pa_cons pe_int pa_nil))) (pa_cons (pe_tup (pa_cons pe_int (pa_cons pe_int pa_nil))) (pa_cons (pe_tup (pa_cons pe_int (pa_cons pe_int pa_nil))) (pa_cons (pe_tup (pa_cons pe_int (pa_cons pe_int pa_nil))) (pa_cons (pe_tup (pa_cons pe_int (pa_cons pe_int pa_nil))) (pa_cons (pe_tup (pa_cons pe_int (pa_cons pe_int pa_nil))) (pa_cons (pe_tup (pa_cons pe_int (pa_cons pe_int pa_nil))) pa_nil))))))))))))))))) (pss_one (ps_ret (pe_ix (r := rIxL K) ix_list (pv 1) (pe_ok o__law_dip (hr.mono (by decide)) (by rfl) pass0 (pa_cons (pv 0) (pa_cons (pe_callB call_len_seq (by rfl) B.len boot_len (pa_cons (pv 1) pa_nil)) pa_nil))) (fun _ _ => rfl))))), ?_⟩
  have two : ∀ (σ : L2.St) (a b : Int), PuR (tTup (tCons (tC (.int a)) (tCons (tC (.int b)) tNil))) σ (del H L) (.tuple [.int a, .int b]) := fun σ a b => pur_tup (prs_cons pur_int (prs_one pur_int)) (by simp)
  generalize hσ : start ["_law_pot_here", "_law_rows"] [V.ref L] = σ0
  have hl := prs_cons (two σ0 2 1) (prs_cons (two σ0 2 2) (prs_cons (two σ0 2 3) (prs_cons (two σ0 2 3) (prs_cons (two σ0 2 4) (prs_cons (two σ0 2 4) (prs_cons (two σ0 2 5) (prs_cons (two σ0 3 1) (prs_cons (two σ0 3 2) (prs_cons (two σ0 3 2) (prs_cons (two σ0 3 3) (prs_cons (two σ0 3 3) (prs_cons (two σ0 5 1) (prs_cons (two σ0 5 2) (prs_one (two σ0 7 2)))))))))))))))
  refine pq_set hp (P := fun v J => Dr J v (.list (shapes.map dS))) (pwr_l (lfs_map (f := dS) (fun _ => rfl) _) (fun a b c e => by cases e) (pu_isR (pur_lst hl (by simp)) rfl)) fun v1 J1 g1 hp1 hv1 => ?_
  subst hσ
  dsimp only [tSeq, tNext]
  have hlen : (shapes.map dS).length = 15 := by decide
  refine ⟨v1, rfl, pw_dip (K := K) (σ := [some (.ref L), some v1]) (H := del J1 L) (total := 15) rfl (pud_is (pud_lenL (pds_one (pud_var rfl (dr_dp hv1)))) (by rw [hlen]; rfl)) (by decide) (by decide) J1 .refl hp1 _ fun v J g hp2 hv => ?_⟩
  obtain ⟨i, rfl, b1, b2⟩ := hv
  have hv2 := dr_gr g hv1
  obtain ⟨a, xs, rfl, hs, hd⟩ := dr_lst hv2
  have hi : i.toNat < shapes.length := by
    have : shapes.length = 15 := rfl
    omega
  obtain ⟨x, hx, hdx⟩ := dps_at2 (K := K) (drs_dps hd) (show (shapes.map dS)[i.toNat]? = some (dS shapes[i.toNat]) by rw [List.getElem?_map, List.getElem?_eq_getElem hi]; rfl)
  refine ⟨a, xs, i, x, rfl, rfl, gr_und.sqL (SqL.of hs), ?_, k x J (g1.trans g) hp2 ⟨_, _, shapes_ok _ (List.getElem_mem hi), hdx⟩⟩
  have : i = ((i.toNat : Nat) : Int) := by omega
  rw [this]
  exact atI_nat hx
end
end Km
set_option Elab.async false
set_option linter.all false
set_option maxRecDepth 100000
set_option maxHeartbeats 4000000
set_option autoImplicit false
namespace Km
open PySem PySem.Spec PyProof.Rows L2 StX SlX
section
variable {P : Program} {w : World} {K : PySem.W.Frag} {mg : Str → Option Value} {base : Heap} {T1 T2 c1 c2 CP CR fR cda cc : Addr}
theorem call_lenK {X : Cx} (hK : X.K = K) : CallR X (.builtin "len") (fun xs H Q => ∃ p ys, xs = [.ref p] ∧ (SqL K H p ys ∨ SqT K H p ys) ∧ Q (.int ys.length) H) := by
  subst hK
  exact call_len_seq
def spShaken (K : PySem.W.Frag) : Sp := fun vs H Q _ => ∃ (L : Addr) (v : V) (l : List (List Int)), vs = [.ref L, v] ∧ Pot L H ∧ Dp K H v (.list (l.map dW)) ∧ l.length ≤ 1000 ∧
  ∀ v J (l' : List (List Int)), Gr (del H L) (del J L) → Pot L J → l'.Perm l → Dp K (del J L) v (.list (l'.map dW)) → Q v J
abbrev s_shaken : Stmt := top 51
theorem sc_shaken : FnScope ["_law_pot_here", "_law_items", "_law_left", "_law_turn"] ["_law_pot_here", "_law_items"] (defScope s_shaken) := ⟨rfl, rfl, rfl, by decide +kernel, rfl, by decide +kernel, by decide +kernel⟩
theorem dps_map_eraseIdx {H : Hp} {α : Type} {enc : α → PyData} : ∀ {vs : List V} {l : List α} {k : Nat}, DpAll K H vs (l.map enc) → DpAll K H (vs.eraseIdx k) ((l.eraseIdx k).map enc)
  | _, [], _, .nil => .nil
  | _, a :: r, 0, .cons h t => t
  | _, a :: r, k + 1, .cons h t => .cons h (dps_map_eraseIdx t)
theorem perm_erase {α : Type} {l : List α} {k : Nat} (h : k < l.length) : (l[k] :: l.eraseIdx k).Perm l := by
  induction l generalizing k with
  | nil => cases h
  | cons a r ih =>
    cases k with
    | zero => exact .refl _
    | succ k =>
      have h : k < r.length := by simpa using h
      exact (List.Perm.swap a r[k] (r.eraseIdx k)).trans ((ih h).cons a)
theorem del_updne {H : Hp} {L D : Addr} {o : HO} (h : D ≠ L) : del (upd H D o) L = upd (del H L) D o := by
  funext b
  by_cases h1 : b = L
  · subst h1; rw [del_same, upd_ne h.symm, del_same]
  · rw [del_ne h1]
    by_cases h2 : b = D
    · subst h2; rw [upd_same, upd_same]
    · rw [upd_ne h2, upd_ne h2, del_ne h1]
theorem Pot.ne {H : Hp} {L D : Addr} (hp : Pot L H) (h : H D = none) : D ≠ L := fun e => by
  obtain ⟨a, b, c, z⟩ := hp
  rw [e, z] at h; cases h
theorem hpJ_upd {H : Hp} {L D E : Addr} {o o' : HO} (h : D ≠ L) (h2 : E ≠ L) (hp : Pot L H) : Pot L (upd (upd H D o) E o') := by
  obtain ⟨a, b, c, e⟩ := hp
  exact ⟨a, b, c, by rw [upd_ne h2.symm, upd_ne h.symm]; exact e⟩
theorem ok_shaken (B : Bl mg) (o__law_dip : Ok P w K mg base CX0 1 "_law_dip" ["_law_pot_here", "_law_total"] spDip) (D : Df K mg "_law_shaken" s_shaken ["_law_pot_here", "_law_items"]) : Ok P w K mg base CX0 2 "_law_shaken" ["_law_pot_here", "_law_items"] (spShaken K) := D.ok fun f fd F => by
  refine F.ok sc_shaken (fun vs H Q E h => by obtain ⟨_, _, _, rfl, _⟩ := h; rfl) ?_
  rintro cdv A outer s H vs Q E hr ⟨L, v1, l, rfl, hp, hv, hl, k⟩
  refine ⟨_, (pss_cons (ps_set (i := 2) sc_shaken.nd rfl (Or.inr rfl) (pe_callTy call_list_of (by rfl) B.list boot_list (pa_cons (pv 1) pa_nil))) (pss_one (ps_ret (pe_lc (own := [("_law_turn", 3)]) (g := (gName 3)) (tt := tYes) rfl sc_shaken.nd (pi_range1 (by rfl) B.range (pa_cons (pe_callB (call_lenK (K := K) rfl) (by rfl) B.len boot_len (pa_cons (pv 1) pa_nil)) pa_nil)) (blkOk_by (N := ["_law_pot_here", "_law_items", "_law_left", "_law_turn"]) (sc := defScope s_shaken) (by decide +kernel)) (fun _ _ _ _ _ => pg_name (i := 3) sc_shaken.nd rfl (Or.inl rfl)) (fun _ _ _ _ _ => pts_nil) (fun _ _ _ _ _ => (pe_bmK (r := rPopAt) rfl PySem.F.plainAttrs_list PySem.F.slot_list_pop PySem.F.type_list_pop mt_popAt (pv 2) (pa_cons (pe_ok o__law_dip (hr.mono (by decide)) (by rfl) pass0 (pa_cons (pv 0) (pa_cons (pe_callB (call_lenK (K := K) rfl) (by rfl) B.len boot_len (pa_cons (pv 2) pa_nil)) pa_nil))) pa_nil))))))), ?_⟩
  have hv0 := dpl_del hp (lfs_map (f := dW) lf_word _) (n3_words l) hv
  obtain ⟨a, ys, rfl, hs, hys⟩ := dp_lst hv0
  have hsH : SqL K H a ys := gr_und.sqL hs
  refine ⟨.ref a, rfl, a, ys, rfl, .inl hsH, fun Lf hLf => ?_⟩
  have hLfL : Lf ≠ L := hp.ne hLf
  have hLf0 : del H L Lf = none := by rw [del_ne hLfL]; exact hLf
  have g0 : Gr (del H L) (del (upd H Lf (.lst ys)) L) := gr_del (.new hLf)
  have hp1 : Pot L (upd H Lf (.lst ys)) := hp.gr (.new hLf)
  have hLf1 : (upd H Lf (.lst ys)) Lf = some (.lst ys) := upd_same
  generalize (upd H Lf (.lst ys)) = H1 at g0 hp1 hLf1
  dsimp only [tSeq, tNext]
  have hlen : ys.length = l.length := by rw [dps_len hys, List.length_map]
  -- the comprehension
  refine ⟨.ref a, rfl, a, ys, rfl, .inl (gr_und.sqL (g0.sqL hs)), (ys.length : Int), rfl, by omega, by omega, fun D hD => ?_⟩
  rw [Int.toNat_natCast]
  have hDL : D ≠ L := hp1.ne hD
  have hDf : D ≠ Lf := (ne_of_none hLf1 hD).symm
  have hD1 : del H1 L D = none := by rw [del_ne hDL]; exact hD
  refine lc_it walk_range (fun i A => Gr (del H L) (del A L) ∧ Pot L A ∧ ∃ (rest acc : List V) (restW accW : List (List Int)), A Lf = some (.lst rest) ∧ A D = some (.lst acc) ∧ DpAll K (del H L) rest (restW.map dW) ∧ DpAll K (del H L) acc (accW.map dW) ∧ (accW ++ restW).Perm l ∧ accW.length = i) ?_ (fun _ _ _ _ => True.intro) ?_ ?_
  · refine ⟨?_, hp1.gr (.new hD), ys, [], l, [], by rw [upd_ne hDf.symm]; exact hLf1, upd_same, hys, .nil, .refl _, rfl⟩
    exact g0.trans (gr_del (.new hD))
  · rintro i x A B hi ⟨gA, hpA, rest, acc, restW, accW, e1, e2, d1, d2, hperm, hacc⟩ y
    obtain ⟨rfl, rfl⟩ := y
    have hll := hperm.length_eq
    rw [List.length_append] at hll
    have hrl : rest.length = restW.length := by rw [dps_len d1, List.length_map]
    have hal : acc.length = accW.length := by rw [dps_len d2, List.length_map]
    refine ⟨rfl, ?_⟩
    unfold tYes
    dsimp only
    rw [if_pos rfl]
    have hLfA : del B L Lf = some (.lst rest) := by rw [del_ne hLfL]; exact e1
    have hDA : del B L D = some (.lst acc) := by rw [del_ne hDL]; exact e2
    refine ⟨.ref Lf, rfl, .inl ⟨rfl, rest, SqL.of e1⟩, ?_⟩
    refine pw_dip (K := K) (L := L) (total := (restW.length : Int)) (σ := [some (.ref L), some (.ref a), some (.ref Lf), some (.int (0 + (i : Int)))]) (H := del B L) rfl (pud_is (pud_lenL (pds_one (pud_var rfl (.lst (SqL.of hLfA) (dps_gr gA d1))))) (by rw [List.length_map])) (by omega) (by omega) B .refl hpA _ fun v J gJ hpJ hv => ?_
    obtain ⟨n, rfl, b1, b2⟩ := hv
    have hJf : J Lf = some (.lst rest) := gr_und.lst (gJ.lst hLfA)
    have hJD : J D = some (.lst acc) := gr_und.lst (gJ.lst hDA)
    have hnk : n.toNat < restW.length := by omega
    have hnr : n.toNat < rest.length := by omega
    obtain ⟨y, hy, dy⟩ := dps_at2 d1 (show (restW.map dW)[n.toNat]? = some (dW restW[n.toNat]) by rw [List.getElem?_map, List.getElem?_eq_getElem hnk]; rfl)
    refine ⟨Lf, rest, n, n.toNat, y, rfl, rfl, hJf, by omega, by omega, ?_, hy, ?_⟩
    · unfold seqIndex?
      rw [if_neg (show ¬ n < 0 by omega)]
      dsimp only
      rw [show (decide (0 ≤ n) && decide (n < (rest.length : Int))) = true by rw [decide_eq_true b1, decide_eq_true (show n < (rest.length : Int) by omega)]; rfl, if_pos rfl]
    · refine ⟨acc, by rw [upd_ne hDf]; exact hJD, Nat.lt_of_le_of_lt (show acc.length ≤ 1000 by omega) (by decide), ?_, hpJ_upd hLfL hDL hpJ, rest.eraseIdx n.toNat, acc ++ [y], restW.eraseIdx n.toNat, accW ++ [restW[n.toNat]], by rw [upd_ne hDf.symm]; exact upd_same, upd_same, dps_map_eraseIdx d1, ?_, ?_, ?_⟩
      · rw [del_updne hDL, del_updne hLfL]
        exact Gr.mutN g0 hD1 (Gr.mut (gA.trans gJ) hLf0)
      · rw [List.map_append]
        exact dps_app d2 (dps_one dy)
      · refine List.Perm.trans ?_ hperm
        rw [List.append_assoc]
        exact (perm_erase hnk).append_left accW
      · rw [List.length_append, hacc]; rfl
  · rintro A ⟨gA, hpA, rest, acc, restW, accW, e1, e2, d1, d2, hperm, hi⟩
    have hll := hperm.length_eq
    rw [List.length_append] at hll
    have hr0 : restW = [] := List.length_eq_zero_iff.mp (by omega)
    subst hr0
    rw [List.append_nil] at hperm
    exact k (.ref D) A accW gA hpA hperm (.lst (SqL.of (by rw [del_ne hDL]; exact e2)) (dps_gr gA d2))
end
end Km
set_option Elab.async false
set_option linter.all false
set_option maxRecDepth 100000
set_option maxHeartbeats 4000000
set_option autoImplicit false
namespace Km
open PySem PySem.Spec PyProof.Rows L2 StX SlX
/-! ### Plan(..) -/
def Wno : WX := fun _ _ _ _ => False
theorem takesNo {X : Cx} : Takes X Wno := fun _ _ ⟨_, _, _, _, _, _, _, _, _, _, _, _, _, _, _, _, z⟩ => z.elim
structure PMkOk (P : Program) (w : World) (K : PySem.W.Frag) (mg : Str → Option Value) (base : Heap) (T1 T2 CP CR : Addr) : Prop where
  ex : ∃ fI fd, Mk K CP fI ∧ FnOk P w K mg base (L2.CX P w) 6 fI fd ["self", "p", "names", "rows"] (spPlanInit K T1 T2 CP CR) ∧ Binds K fd ["self", "p", "names", "rows"] [] ∧ mg "Plan" = some (.ref CP)
def tMakeS (C : Addr) (sp : Sp) (E : L2.St → XK) (t : TA) : TE := fun σ H Q => t σ H fun vs H1 => ∀ x dx, H1 x = none → H1 dx = none → dx ≠ x → sp (.ref x :: vs) (upd (upd H1 dx (.own x)) x (.ins C dx [])) (fun v H2 => v = .non ∧ Q (.ref x) H2) (E σ)
section
variable {X : Cx} {T1 T2 CP CR : Addr} {p pos : Pos} {e : Expr} {es : List Expr} {t : TA} {W : WX}
theorem run_makeS {CX : CXT} {k : Nat} {f C : Addr} {fd : FuncData} {ps : List Str} {sp : Sp} {E : L2.St → XK} {pins : List (Addr × Obj)} {σ : L2.St} {H : Hp} {s : Shared} {Q : VK} {us : List Value} {vs : List V} (M : Mk X.K C f) (F : FnOk X.prog X.w X.K X.mg X.base CX k f fd ps sp) (hr : Room (k + 1) X.A) (hb : Binds X.K fd ps [])
    (hx : PassesAt CX X σ (E σ)) (I : Inv X pins σ H s) (r : Vals vs us)
    (h : ∀ x dx, H x = none → H dx = none → dx ≠ x → sp (.ref x :: vs) (upd (upd H dx (.own x)) x (.ins C dx [])) (fun v H2 => v = .non ∧ Q (.ref x) H2) (E σ)) :
    wpAny (model X.prog X.w) X.A (call (.ref C) us) (EP X pins σ Q) X.xe s := by
  have hq := h (s.heap.objs.size + 1) s.heap.objs.size (I.hok.fresh (Nat.le_succ _)) (I.hok.fresh (Nat.le_refl _)) (Nat.ne_of_lt (Nat.lt_succ_self _))
  have I2 := Inv.made (C := C) I
  have r2 : Vals (V.ref (s.heap.objs.size + 1) :: vs) (Value.ref (s.heap.objs.size + 1) :: us) := .cons rfl r
  have hl : (Value.ref (s.heap.objs.size + 1) :: us ++ []).length = ps.length := by
    have e := r2.length
    rw [F.len _ _ _ _ hq] at e
    rw [List.append_nil]
    exact e.symm
  have b := hb _ (Value.ref (s.heap.objs.size + 1) :: us) I2.kIn hl
  rw [List.append_nil] at b
  refine wpAny_call (make_map (f := f) I.kIn M.makes M.init (beq_iff_eq.mp M.fn) (codeAny_mono (F.run _ X.stack _ _ ⟨Value.ref (s.heap.objs.size + 1) :: us, []⟩ (Value.ref (s.heap.objs.size + 1) :: us) _ _ (E σ) (hr.make C us [])
    (I2.env0.make C us []) b r2 hq) fun r s' hq' => ?_))
  cases r with
  | error e => exact hx pins _ _ e s' I2 hq'
  | ok fl =>
    cases fl with
    | ret u =>
      obtain ⟨v, H', I3, rv, ev, q3⟩ := I2.after hq'
      subst ev
      exact ⟨rv, ⟨V.ref (s.heap.objs.size + 1), H', I3, rfl, q3⟩⟩
    | next => exact False.elim hq'
    | brk => exact False.elim hq'
    | cont => exact False.elim hq'
theorem pe_planS {K : PySem.W.Frag} (hK : X.K = K) (O : PMkOk X.prog X.w K X.mg X.base T1 T2 CP CR) (hr : Room 7 X.A) (hg : Gl X "Plan") (tk : Takes X W)
    (ha : PA X (e :: es) t) (he : starEach (e :: es) X.env = (false, eval e X.env) :: starEach es X.env := by rfl) (hpl : (backTo pos (starEach es X.env)).any (·.1) = false := by rfl) :
    PE X (.Call (.Name "Plan" p) (e :: es) [] pos) (tMakeS CP (spPlanInit K T1 T2 CP CR) (WE W) t) := by
  subst hK
  obtain ⟨fI, fd, M, F, hb, hm⟩ := O.ex
  refine ⟨fun pins s σ H Q I h => ?_⟩
  refine wpAny_Call_Name_kw (ld_glob I hg hm ?_)
  refine PySem.W.callWith_K (h₀ := X.base) I.ok.mod.kin M.kp (thn (ha.run pos pins s σ H _ I h) fun us s1 ⟨vs, H1, I1, r, q⟩ => ⟨I1.kIn, ?_⟩) he hpl
  exact run_makeS M F hr hb (passAt tk σ) I1 r q
end
end Km
set_option Elab.async false
set_option linter.all false
set_option maxRecDepth 100000
set_option maxHeartbeats 4000000
set_option autoImplicit false
/-! comprehensions beside the pot -/
namespace Km
open PySem PySem.Spec PyProof.Rows L2 StX SlX
section
variable {K : PySem.W.Frag} {L : Addr} {σ : L2.St} {H : Hp} {wi : TI} {te tl : TE} {ta : TA} {vs : List Nat}
def SrcX {α : Type} (L : Addr) (wi : TI) (σ : L2.St) (H : Hp) (l : List α) (R : α → V → Hp → Prop) : Prop :=
  ∀ H0, Gr H (del H0 L) → Pot L H0 → ∀ C : It → Hp → Prop, (∀ J H1, Gr (del H0 L) (del H1 L) → Pot L H1 → Walk J l.length (fun A => Gr (del H1 L) (del A L)) (fun i A x B => B = A ∧ ∃ a, l[i]? = some a ∧ R a x (del A L)) → C J H1) → wi σ H0 C
theorem srcx_list {α : Type} {l : List α} {enc : α → PyData} (h : Pw L tl σ H fun v J => Dp K J v (.list (l.map enc))) : SrcX L (iList K tl) σ H l fun a x B => Dp K B x (enc a) :=
  fun H0 e0 hp C c => h H0 e0 hp _ fun v J g hpJ p => by
    obtain ⟨a, xs, rfl, s, t⟩ := dp_lst p
    have hl : xs.length = l.length := by rw [dps_len t, List.length_map]
    refine ⟨a, rfl, ⟨xs, gr_und.sqL s⟩, c _ J g hpJ ?_⟩
    rw [← hl]
    refine walk_list.mono (fun B gb => gr_und.sqL (gb.sqL s)) fun i A x B hi ga y => ?_
    obtain ⟨rfl, hx⟩ := y
    obtain ⟨d, hd, hp⟩ := dps_at t hx
    rw [List.getElem?_map] at hd
    obtain ⟨b, hb, e⟩ := Option.map_eq_some_iff.mp hd
    subst e; exact ⟨rfl, b, hb, dp_gr ga hp⟩
theorem srcx_tup {α : Type} {l : List α} {enc : α → PyData} (h : Pw L tl σ H fun v J => Dp K J v (.tuple (l.map enc))) : SrcX L (iTup K tl) σ H l fun a x B => Dp K B x (enc a) :=
  fun H0 e0 hp C c => h H0 e0 hp _ fun v J g hpJ p => by
    obtain ⟨a, xs, rfl, s, t⟩ := dp_tup p
    have hl : xs.length = l.length := by rw [dps_len t, List.length_map]
    refine ⟨a, rfl, ⟨xs, gr_und.sqT s⟩, c _ J g hpJ ?_⟩
    rw [← hl]
    refine walk_tup.mono (fun B gb => gr_und.sqT (gb.sqT s)) fun i A x B hi ga y => ?_
    obtain ⟨rfl, hx⟩ := y
    obtain ⟨d, hd, hp⟩ := dps_at t hx
    rw [List.getElem?_map] at hd
    obtain ⟨b, hb, e⟩ := Option.map_eq_some_iff.mp hd
    subst e; exact ⟨rfl, b, hb, dp_gr ga hp⟩
theorem srcx_rng1 {n : Nat} (h : PuD K te σ H (.int (n : Int))) (hn : n ≤ 1000000) : SrcX L (iRng1 (tCons te tNil)) σ H (List.range n) fun i x _ => x = .int (i : Int) :=
  fun H0 e0 hp C c => h H0 (e0.trans gr_und) _ fun v J g p => by
    have := dp_int p
    subst this
    refine ⟨n, rfl, by omega, by omega, c _ J (gr_del g) (hp.gr g) ?_⟩
    rw [List.length_range]
    refine (walk_range (lo := 0) (n := n)).mono (fun _ _ => True.intro) fun i A x B hi _ y => ?_
    obtain ⟨rfl, e⟩ := y
    exact ⟨rfl, i, by simp [hi], by show x = V.int (i : Int); rw [e]; simp⟩
theorem pw_lc {α β : Type} {l : List α} {R : α → V → Hp → Prop} {g : TG} {enc : β → PyData} {rel : α → β → Prop} (hs : SrcX L wi σ H l R) (hl : l.length ≤ 1000000) (hf : ∀ b, lf (enc b) = true)
    (ht : ∀ a ∈ l, ∀ x J, Gr H J → R a x J → ∃ σ2, wipe σ2 vs = wipe σ vs ∧ (∀ A, Gr J A → ∀ C : L2.St → Hp → Prop, C σ2 A → g x (wipe σ vs) A C) ∧ Pw L te σ2 J fun v C => ∃ b, rel a b ∧ Dr C v (enc b)) :
    Pw L (tLc wi g tYes te vs) σ H fun v C => ∃ bs : List β, bs.length = l.length ∧ (∀ (i : Nat) (a : α) (b : β), l[i]? = some a → bs[i]? = some b → rel a b) ∧ Dr C v (.list (bs.map enc)) := fun H0 e0 hp0 Q q => hs H0 e0 hp0 _ fun I H1 g1 hp1 w D hD => by
  have hDL : D ≠ L := hp1.ne hD
  have hD1 : del H1 L D = none := by rw [del_ne hDL]; exact hD
  refine lc_it w (fun i A => Gr (del H1 L) (del A L) ∧ Pot L A ∧ ∃ (acc : List V) (bs : List β), A D = some (.lst acc) ∧ DrAll (del A L) acc (bs.map enc) ∧ bs.length = i ∧ ∀ (j : Nat) (a : α) (b : β), l[j]? = some a → bs[j]? = some b → rel a b) ⟨gr_del (.new hD), hp1.gr (.new hD), [], [], upd_same, .nil, rfl, fun j a b _ h => by simp at h⟩ (fun _ _ _ p => p.1) ?_ ?_
  · rintro i x A B hi ⟨ga, hpA, acc, bs, ea, da, hbl, hrel⟩ ⟨rfl, a, ha, hR⟩
    have hm : a ∈ l := List.mem_of_getElem? ha
    obtain ⟨σ2, hw, hg, he⟩ := ht a hm x (del B L) (e0.trans (g1.trans ga)) hR
    refine hg B gr_und _ ⟨hw, ?_⟩
    unfold tYes
    dsimp only
    rw [if_pos rfl]
    refine he B .refl hpA _ fun y J2 g2 hp2 dy => ?_
    obtain ⟨b, hab, dy⟩ := dy
    have eD : J2 D = some (.lst acc) := gr_und.lst (g2.lst (by rw [del_ne hDL]; exact ea))
    have eDd : del J2 L D = some (.lst acc) := by rw [del_ne hDL]; exact eD
    have hlen : acc.length = bs.length := by rw [drs_len da, List.length_map]
    refine ⟨acc, eD, Nat.lt_of_le_of_lt (show acc.length ≤ 1000000 by omega) (by decide), ?_, ?_, acc ++ [y], bs ++ [b], upd_same, ?_, by rw [List.length_append, hbl]; rfl, fun j a' b' hja hjb => ?_⟩
    · rw [del_updne hDL]
      exact (ga.trans g2).mut hD1
    · obtain ⟨u, v, z, h⟩ := hp2
      exact ⟨u, v, z, by rw [upd_ne hDL.symm]; exact h⟩
    · rw [del_updne hDL, List.map_append]
      have gq : Gtu (del J2 L) (upd (del J2 L) D (.lst (acc ++ [y]))) := gtu_upd eDd (fun xs z => nomatch z)
      exact drs_app (drs_tu gq (lfs_map hf _) (drs_gr g2 da)) (.cons (dr_tu gq (hf b) dy) .nil)
    · rcases Nat.lt_or_ge j bs.length with h | h
      · rw [List.getElem?_append_left h] at hjb
        exact hrel j a' b' hja hjb
      · rw [List.getElem?_append_right h] at hjb
        have h0 : j - bs.length = 0 := by
          rcases Nat.eq_zero_or_pos (j - bs.length) with z | z
          · exact z
          · rw [List.getElem?_eq_none (by rw [List.length_singleton]; omega)] at hjb; cases hjb
        rw [h0] at hjb
        have hj : j = i := by omega
        subst hj
        rw [ha] at hja
        cases hja
        cases hjb
        exact hab
  · rintro A ⟨ga, hpA, acc, bs, ea, da, hbl, hrel⟩
    exact q _ A (g1.trans ga) hpA ⟨bs, hbl, hrel, .lst (by rw [del_ne hDL]; exact ea) da⟩
/-- arguments beside the pot -/
def PwA (L : Addr) (ta : TA) (σ : L2.St) (H : Hp) (A : List V → Hp → Prop) : Prop := ∀ H1, Gr H (del H1 L) → Pot L H1 → ∀ Q : List V → Hp → Prop, (∀ vs J, Gr (del H1 L) (del J L) → Pot L J → A vs (del J L) → Q vs J) → ta σ H1 Q
theorem pwa_nil : PwA L tNil σ H fun vs _ => vs = [] := fun H1 _ hp Q q => q [] H1 .refl hp rfl
theorem pwa_cons {t : TA} {A : List V → Hp → Prop} {P : V → Hp → Prop} (h : Pw L te σ H P) (hm : ∀ v J J', Gr J J' → P v J → P v J') (ht : PwA L t σ H A) : PwA L (tCons te t) σ H fun vs C => ∃ v r, vs = v :: r ∧ P v C ∧ A r C :=
  fun H1 e hp Q q => h H1 e hp _ fun v J g hpJ p => ht J (e.trans g) hpJ _ fun r J2 g2 hp2 a => q (v :: r) J2 (g.trans g2) hp2 ⟨v, r, rfl, hm _ _ _ g2 p, a⟩
theorem pw_tupE {t : TA} {A : List V → Hp → Prop} {P : V → Hp → Prop} (h : PwA L t σ H A) (hl : ∀ vs C, A vs C → vs.length ≤ 1000000) (k : ∀ vs C D x, A vs C → Gr C D → D x = some (.tup vs) → P (.ref x) D) : Pw L (tTup t) σ H P :=
  fun H1 e hp Q q => h H1 e hp _ fun vs J g hpJ a => ⟨Nat.le_trans (hl _ _ a) (by decide), fun x hx => by
    have hxL := hpJ.ne hx
    have g2 : Gr (del J L) (del (upd J x (.tup vs)) L) := gr_del (.new hx)
    exact q _ _ (g.trans g2) (hpJ.gr (.new hx)) (k vs _ _ x a g2 (by rw [del_ne hxL]; exact upd_same))⟩
theorem pw_catTD {ta tb : TE} {l : List PyData} {β : Type} {Φ : β → Prop} {enc : β → List PyData} (h1 : Pw L ta σ H fun v C => Dp K C v (.tuple l)) (h2 : Pw L tb σ H fun v C => ∃ b, Φ b ∧ Dp K C v (.tuple (enc b))) (hl : ∀ b, Φ b → l.length + (enc b).length ≤ 1000000) :
    Pw L (tOp (rCatA K) ta tb) σ H fun v C => ∃ b, Φ b ∧ Dp K C v (.tuple (l ++ enc b)) :=
  fun H1 e hp Q q => h1 H1 e hp _ fun v J g1 hp1 p => h2 J (e.trans g1) hp1 _ fun w J2 g2 hp2 p2 => by
    obtain ⟨b, hb, p2⟩ := p2
    obtain ⟨a, xs, rfl, s, t⟩ := dp_tup (dp_gr g2 p)
    obtain ⟨c, ys, rfl, s2, t2⟩ := dp_tup p2
    refine ⟨a, c, xs, ys, rfl, rfl, gr_und.sqT s, gr_und.sqT s2, by rw [dps_len t, dps_len t2]; exact Nat.le_trans (hl b hb) (by decide), fun e1 => ?_, fun _ e2 => ?_, fun _ _ x hx => ?_⟩
    · subst e1
      generalize hll : l = l' at t
      cases t
      subst hll
      exact q _ _ (g1.trans g2) hp2 ⟨b, hb, .tup s2 t2⟩
    · subst e2
      generalize hll : enc b = l' at t2
      cases t2
      refine q _ _ (g1.trans g2) hp2 ⟨b, hb, ?_⟩
      rw [hll, List.append_nil]
      exact .tup s t
    · have g3 : Gr (del J2 L) (del (upd J2 x (.tup (xs ++ ys))) L) := gr_del (.new hx)
      exact q _ _ (g1.trans (g2.trans g3)) (hp2.gr (.new hx)) ⟨b, hb, .tup (SqT.of (by rw [del_ne (hp2.ne hx)]; exact upd_same)) (dps_app (dps_gr g3 t) (dps_gr g3 t2))⟩
theorem pw_tupleL {β : Type} {Φ : List β → Prop} {enc : β → PyData} (h : Pw L te σ H fun v C => ∃ bs : List β, Φ bs ∧ Dr C v (.list (bs.map enc))) :
    Pw L (tCB (fun xs H Q => ∃ p ys, xs = [.ref p] ∧ ((SqL K H p ys ∧ ∀ l, H l = none → Q (.ref l) (upd H l (.tup ys))) ∨ (SqT K H p ys ∧ Q (.ref p) H))) (tCons te tNil)) σ H fun v C => ∃ bs : List β, Φ bs ∧ Dr C v (.tuple (bs.map enc)) :=
  fun H1 e hp Q q => h H1 e hp _ fun v J g hpJ p => by
    obtain ⟨bs, hb, p⟩ := p
    obtain ⟨a, xs, rfl, s, t⟩ := dr_lst p
    refine ⟨a, xs, rfl, .inl ⟨gr_und.sqL (SqL.of s), fun x hx => ?_⟩⟩
    have g3 : Gr (del J L) (del (upd J x (.tup xs)) L) := gr_del (.new hx)
    exact q _ _ (g.trans g3) (hpJ.gr (.new hx)) ⟨bs, hb, .tup (by rw [del_ne (hpJ.ne hx)]; exact upd_same) (drs_gr g3 t)⟩
end
end Km
set_option Elab.async false
set_option linter.all false
set_option maxRecDepth 100000
set_option maxHeartbeats 4000000
set_option autoImplicit false
namespace Km
open PySem PySem.Spec PyProof.Rows L2 StX SlX
section
variable {K : PySem.W.Frag} {L : Addr}
theorem pq_forR {te : TE} {g : TG} {tb : TS} {D : Ends} {σ : L2.St} {A0 : Hp} {m : Int} (hp : Pot L A0) (h : Pw L te σ (del A0 L) fun v _ => ∃ i : Int, v = .int i ∧ 0 ≤ i ∧ i < m) (hm : m ≤ 1000000) (Iv : Nat → L2.St → Hp → Prop)
    (h0 : ∀ H1, Gr (del A0 L) (del H1 L) → Pot L H1 → Iv 0 σ (del H1 L))
    (step : ∀ i : Nat, (i : Int) + 1 < m → ∀ σ' A, Gr (del A0 L) (del A L) → Pot L A → Iv i σ' (del A L) → g (.int (0 + (i : Int))) σ' A fun σ2 H2 => tb { D with nx := fun σ3 H3 => Gr (del A0 L) (del H3 L) ∧ Pot L H3 ∧ Iv (i + 1) σ3 (del H3 L), ct := fun σ3 H3 => Gr (del A0 L) (del H3 L) ∧ Pot L H3 ∧ Iv (i + 1) σ3 (del H3 L), bk := D.nx } σ2 H2)
    (done : ∀ n : Nat, (n : Int) < m → ∀ σ' A, Gr (del A0 L) (del A L) → Pot L A → Iv n σ' (del A L) → D.nx σ' A) : tFor (iRng1 (tCons te tNil)) g tb D σ A0 :=
  h A0 .refl hp _ fun v J gJ hpJ hv => by
    obtain ⟨n, rfl, b1, b2⟩ := hv
    refine ⟨n, rfl, by omega, by omega, for_range (lo := 0) (n := n.toNat) (fun i σ A => Gr (del A0 L) (del A L) ∧ Pot L A ∧ Iv i σ (del A L)) ⟨gJ, hpJ, h0 J gJ hpJ⟩ (fun i σ' A hi p => step i (by omega) σ' A p.1 p.2.1 p.2.2) fun σ' A p => done n.toNat (by omega) σ' A p.1 p.2.1 p.2.2⟩
end
section
variable {P : Program} {w : World} {K : PySem.W.Frag} {T1 T2 CP CR L : Addr} {σ : L2.St} {H : Hp} {t : TA} {W : WX} {p : Int} {ns : List Str}
/-- a plan, or the exception is taken -/
theorem pw_plan {Φ : List Row → Prop} (h : PwA L t σ H fun vs C => ∃ rows, Φ rows ∧ DpAll K C vs [.int p, .tuple (ns.map .str), .tuple (rows.map dR)]) (hT : TT T1 T2 H) (hN : NamesOk ns) (hR : ∀ rows, Φ rows → RowsIn p ns.length rows) {H1 : Hp} (g : Gr H (del H1 L)) (hp : Pot L H1) {Q : VK}
    (k1 : ∀ rows, Φ rows → (redGo p [] 0 rows).2 = none → ∀ v J, Gr (del H1 L) (del J L) → Pot L J → PlanIs K CP (del J L) v p ns (redGo p [] 0 rows).1 → Q v J)
    (k2 : ∀ rows, Φ rows → (redGo p [] 0 rows).2 ≠ none → ∀ J d, Gr (del H1 L) (del J L) → Pot L J → W (.ref CR) (some d) σ J) : tMakeS CP (spPlanInit K T1 T2 CP CR) (WE W) t σ H1 Q :=
  h H1 g hp _ fun vs J g1 hpJ hv x dx hx hdx hne => by
    obtain ⟨rows, hΦ, hv⟩ := hv
    have hvJ := dps_gr gr_und hv
    obtain ⟨v1, v2, v3, rfl, d1, d2, d3⟩ := dps3 hvJ
    have gx : ∀ {B : Hp}, Gr J B → Gr (del H1 L) (del B L) ∧ Pot L B := fun {B} gb => ⟨g1.trans (gr_del gb), hpJ.gr gb⟩
    refine ⟨J, x, dx, v1, v2, v3, p, ns, rows, rfl, (Gr.new hdx).trans (.new (by rw [upd_ne hne.symm]; exact hx)), hx, hdx, hne, upd_same, by rw [upd_ne hne]; exact upd_same, hT.gr (g.trans (g1.trans gr_und)), hvJ, hN, hR rows hΦ, fun e B gb hP => ?_, fun e B d gb => ?_⟩
    · exact ⟨rfl, k1 rows hΦ e _ B (gx gb).1 (gx gb).2 (hP.del (gx gb).2)⟩
    · exact k2 rows hΦ e B d (gx gb).1 (gx gb).2
end
theorem pwa_of {K : PySem.W.Frag} {L : Addr} {σ : L2.St} {H : Hp} {t : TA} {ds : List PyData} (h : PuDs K t σ H ds) (f : lfs ds = true) : PwA L t σ H fun vs C => DpAll K C vs ds := fun H1 e hp Q q =>
  h H1 (e.trans gr_und) _ fun vs J g p => q vs J (gr_del g) (hp.gr g) (dps_gq (del_q (hp.gr g)) f p)
theorem pwa_imp {L : Addr} {σ : L2.St} {H : Hp} {t : TA} {A B : List V → Hp → Prop} (h : PwA L t σ H A) (f : ∀ vs C, A vs C → B vs C) : PwA L t σ H B := fun H1 e hp Q q => h H1 e hp Q fun vs J g p a => q vs J g p (f _ _ a)
theorem lfs3 {p : Int} (ns : List Str) (rows : List Row) : lfs [.int p, .tuple (ns.map .str), .tuple (rows.map dR)] = true := by
  have h1 : lf (.tuple (ns.map .str)) = true := lfs_map (f := PyData.str) (fun _ => rfl) ns
  have h2 : lf (.tuple (rows.map dR)) = true := lfs_map lf_row rows
  show (true && (lf (.tuple (ns.map .str)) && (lf (.tuple (rows.map dR)) && true))) = true
  rw [h1, h2]; rfl
section
variable {P : Program} {w : World} {K : PySem.W.Frag} {mg : Str → Option Value} {base : Heap} {T1 T2 c1 c2 CP CR fR cda cc : Addr}
def spLPlan (K : PySem.W.Frag) (T1 T2 CP : Addr) : Sp := fun vs H Q _ => ∃ (L : Addr) (p : Int) (ns : List Str) (v3 : V), vs = [.ref L, .int p, .int (ns.length : Int), v3] ∧ Pot L H ∧ Shp p ns.length ∧ NamesOk ns ∧ Dp K (del H L) v3 (.tuple (ns.map .str)) ∧ TT T1 T2 (del H L) ∧
  ∀ v J rows, Gr (del H L) (del J L) → Pot L J → PlanIs K CP (del J L) v p ns rows → Red p ns.length rows → Q v J
abbrev s_lplan : Stmt := top 58
theorem sc_lplan : FnScope ["_law_pot_here", "_law_p", "_law_many", "_law_names", "_law_rows", "_law_turn", "_law_word", "_law_at"] ["_law_pot_here", "_law_p", "_law_many", "_law_names"] (defScope s_lplan) := ⟨rfl, rfl, rfl, by decide +kernel, rfl, by decide +kernel, by decide +kernel⟩
theorem ok_lplan (B : Bl mg) (SC : SCls K CP) (o__law_dip : Ok P w K mg base CX0 1 "_law_dip" ["_law_pot_here", "_law_total"] spDip) (o_p_rows : POk P w K mg base 1 CP "rows" (spSlot CP 2)) (MKP : PMkOk P w K mg base T1 T2 CP CR) (hCR : mg "Refused" = some (.ref CR))
    (hex : PySem.W.exmOne K (.ref CR) (.ref CR) = some true) (D : Df K mg "_law_plan" s_lplan ["_law_pot_here", "_law_p", "_law_many", "_law_names"]) : Ok P w K mg base CX0 8 "_law_plan" ["_law_pot_here", "_law_p", "_law_many", "_law_names"] (spLPlan K T1 T2 CP) := D.ok fun f fd F => by
  refine F.ok sc_lplan (fun vs H Q E h => by obtain ⟨_, _, _, _, rfl, _⟩ := h; rfl) ?_
  rintro cdv A outer s H vs Q E hr ⟨L, p, ns, v3, rfl, hp, hsh, hN, h3, hT, k⟩
  refine ⟨_, (pss_cons (ps_set (i := 4) sc_lplan.nd rfl (Or.inl rfl) (pe_tup pa_nil)) (pss_cons (ps_for PassesOwn.never rfl (pi_range1 (by rfl) B.range (pa_cons (pe_ok o__law_dip (hr.mono (by decide)) (by rfl) pass0 (pa_cons (pv 0) (pa_cons (pe_op op_add (pv 2) pe_int) pa_nil))) pa_nil)) (pg_name (i := 5) sc_lplan.nd rfl (Or.inl rfl)) (pss_cons (ps_set (i := 6) sc_lplan.nd rfl (Or.inl rfl) (pe_callTy call_tuple_of (by rfl) B.tuple boot_tuple (pa_cons (pe_lc (own := [("_law_at", 7)]) (g := (gName 7)) (tt := tYes) rfl sc_lplan.nd (pi_range1 (by rfl) B.range (pa_cons (pv 2) pa_nil)) (blkOk_by (N := ["_law_pot_here", "_law_p", "_law_many", "_law_names", "_law_rows", "_law_turn", "_law_word", "_law_at"]) (sc := defScope s_lplan) (by decide +kernel)) (fun _ _ _ _ _ => pg_name (i := 7) sc_lplan.nd rfl (Or.inl rfl)) (fun _ _ _ _ _ => pts_nil) (fun _ _ _ _ _ => (pe_ok o__law_dip (hr.mono (by decide)) (by rfl) pass0 (pa_cons (pv 0) (pa_cons (pv 1) pa_nil))))) pa_nil))) (pss_one (ps_try_only rfl rfl ⟨by rfl, by rfl, .inl hCR⟩ takesNo (fun W pn xe tk _ => (pss_one (ps_set (i := 4) sc_lplan.nd rfl (Or.inl rfl) (pe_pr o_p_rows SC (hr.mono (by decide)) (pe_planS rfl MKP (hr.mono (by decide)) (by rfl) tk (pa_cons (pv 1) (pa_cons (pv 3) (pa_cons (pe_op (r := rCatA K) op_catA (pv 4) (pe_tup (pa_cons (pe_tup (pa_cons (pv 6) (pa_cons (pe_ok o__law_dip (hr.mono (by decide)) (by rfl) pass0 (pa_cons (pv 0) (pa_cons (pv 1) pa_nil))) pa_nil))) pa_nil))) pa_nil)))))))) (fun _ _ _ _ _ _ _ => (pss_one (ps_set (i := 4) sc_lplan.nd rfl (Or.inl rfl) (pe_op (r := rCatA K) op_catA (pv 4) (pe_tup pa_nil))))))))) (pss_one (ps_ret (pe_planS rfl MKP (hr.mono (by decide)) (by rfl) takesNo (pa_cons (pv 1) (pa_cons (pv 3) (pa_cons (pv 4) pa_nil)))))))), ?_⟩
  have hpp := hsh.hp.b
  have hl5 := hsh.l5
  refine pq_set hp (P := fun v J => Dp K J v (.tuple (([] : List Row).map dR))) (pw_lf rfl (pud_tup pds_nil (by simp))) fun v4 J1 g1 hp1 hv4 => ?_
  dsimp only [tSeq, tNext]
  refine pq_forR (m := (ns.length : Int) + 1) hp1 (pw_dip (K := K) rfl (pud_add (pud_var rfl (.int (ns.length : Int))) pud_int) (by omega) (by omega)) (by omega) (fun i σ C => ∃ v4 x5 x6 rows, σ = [some (.ref L), some (.int p), some (.int (ns.length : Int)), some v3, some v4, x5, x6, none] ∧ Dp K C v4 (.tuple (rows.map dR)) ∧ Red p ns.length rows ∧ rows.length ≤ i) (fun H1 g hp => ⟨v4, none, none, [], rfl, dp_gr g hv4, red_nil, Nat.le_refl _⟩) ?_ ?_
  · rintro i hi σ A gA hpA ⟨v4, x5, x6, rows, rfl, d4, hred, hlen⟩
    refine pq_set (σ := [some (.ref L), some (.int p), some (.int (ns.length : Int)), some v3, some v4, some (.int (0 + (i : Int))), x6, none]) hpA (pw_tupleL (Φ := fun bs : List Int => bs.length = (List.range ns.length).length ∧ ∀ (i : Nat) (a : Nat) (b : Int), (List.range ns.length)[i]? = some a → bs[i]? = some b → 0 ≤ b ∧ b < p) (enc := PyData.int) ((pw_lc (rel := fun _ b => 0 ≤ b ∧ b < p) (enc := PyData.int) (srcx_rng1 (K := K) (pud_var rfl (.int (ns.length : Int))) (by omega)) (by rw [List.length_range]; omega) (fun _ => rfl) fun a ha x J gJ hx => ⟨_, ?ww, fun A g C c => c, (pw_dip (K := K) rfl (pud_var rfl (.int p)) (by omega) (by omega)).imp fun v J _ h => ?_⟩).imp fun v J _ h => ?_)) fun v6 J2 g2 hp2 hv6 => ?_
    case ww => rfl
    · obtain ⟨n, rfl, h1, h2⟩ := h
      exact ⟨n, ⟨h1, h2⟩, .int n⟩
    · obtain ⟨bs, h1, h2, h3⟩ := h
      exact ⟨bs, ⟨h1, h2⟩, h3⟩
    obtain ⟨bs, ⟨hb1, hb2⟩, hb3⟩ := hv6
    rw [List.length_range] at hb1
    have hbw : WR p bs := fun e he => by
      obtain ⟨j, hj, e1⟩ := List.getElem_of_mem he
      exact hb2 j j e (by rw [List.getElem?_eq_getElem (by rw [List.length_range]; omega), List.getElem_range]) (by rw [List.getElem?_eq_getElem hj, e1])
    have g02 := g1.trans (gA.trans g2)
    have d42 := dp_gr g2 d4
    have hargs : PwA L (tCons (tVar 1) (tCons (tVar 3) (tCons (tOp (rCatA K) (tVar 4) (tTup (tCons (tTup (tCons (tVar 6) (tCons (tCall spDip [] E0 (tCons (tVar 0) (tCons (tVar 1) tNil))) tNil))) tNil))) tNil)))
        [some (.ref L), some (.int p), some (.int (ns.length : Int)), some v3, some v4, some (.int (0 + (i : Int))), some v6, none] (del J2 L) fun vs C => ∃ r, (∃ b, (0 ≤ b ∧ b < p) ∧ r = rows ++ [(bs, b)]) ∧ DpAll K C vs [.int p, .tuple (ns.map .str), .tuple (r.map dR)] := by
      refine pwa_imp (pwa_cons (pw_lf (K := K) (d := .int p) rfl (pud_var rfl (.int p))) (fun _ _ _ g h => dp_gr g h) (pwa_cons (pw_lf (K := K) (d := .tuple (ns.map .str)) (lfs_map (f := PyData.str) (fun _ => rfl) ns) (pud_var rfl (dp_gr g02 h3))) (fun _ _ _ g h => dp_gr g h) (pwa_cons (pw_catTD (K := K) (l := rows.map dR) (Φ := fun b : Int => 0 ≤ b ∧ b < p) (enc := fun b => [dR (bs, b)]) (pw_lf (d := .tuple (rows.map dR)) (lfs_map lf_row rows) (pud_var rfl d42))
        (pw_tupE (A := fun vs C => ∃ b : Int, (0 ≤ b ∧ b < p) ∧ ∃ v, vs = [v] ∧ Dp K C v (dR (bs, b))) (pwa_imp (pwa_cons (pw_tupE (A := fun vs C => ∃ b : Int, (0 ≤ b ∧ b < p) ∧ DpAll K C vs [dW bs, .int b]) (P := fun v C => ∃ b : Int, (0 ≤ b ∧ b < p) ∧ Dp K C v (dR (bs, b))) (pwa_imp (pwa_cons (pw_lf (K := K) (lf_word bs) (pud_var rfl (dr_dp hb3))) (fun _ _ _ g h => dp_gr g h) (pwa_cons (pw_dip (K := K) rfl (pud_var rfl (.int p)) (by omega) (by omega)) (fun _ _ _ g h => h) pwa_nil)) fun vs C h => ?a1) ?a2 ?a3) (fun _ _ _ g h => ?a4) pwa_nil) fun vs C h => ?a5) ?a6 ?a7) ?a8) (fun _ _ _ g h => ?a9) pwa_nil))) fun vs C h => ?a10
      case a1 =>
        obtain ⟨v, r, rfl, h1, v', r', rfl, ⟨b, rfl, h2, h3⟩, rfl⟩ := h
        exact ⟨b, ⟨h2, h3⟩, .cons h1 (dps_one (.int b))⟩
      case a2 => rintro vs C ⟨b, _, h⟩; rw [dps_len h]; simp
      case a3 => rintro vs C D x ⟨b, hb, h⟩ g hx; exact ⟨b, hb, .tup (SqT.of hx) (dps_gr g h)⟩
      case a4 => obtain ⟨b, hb, h⟩ := h; exact ⟨b, hb, dp_gr g h⟩
      case a5 =>
        obtain ⟨v, r, rfl, ⟨b, hb, h⟩, rfl⟩ := h
        exact ⟨b, hb, v, rfl, h⟩
      case a6 => rintro vs C ⟨b, _, v, rfl, _⟩; simp
      case a7 => rintro vs C D x ⟨b, hb, v, rfl, h⟩ g hx; exact ⟨b, hb, .tup (SqT.of hx) (dps_one (dp_gr g h))⟩
      case a8 => intro b _; rw [List.length_map]; simp; omega
      case a9 => obtain ⟨b, hb, h⟩ := h; exact ⟨b, hb, dp_gr g h⟩
      case a10 =>
        obtain ⟨v, r, rfl, h1, v', r', rfl, h2, v'', r'', rfl, ⟨b, hb, h3⟩, rfl⟩ := h
        refine ⟨rows ++ [(bs, b)], ⟨b, hb, rfl⟩, .cons h1 (.cons h2 (dps_one ?_))⟩
        rw [List.map_append]; exact h3
    dsimp only
    unfold tAsg tPropSl
    refine pw_plan (L := L) (T1 := T1) (T2 := T2) (CP := CP) (CR := CR) (H := del J2 L) (ns := ns) (p := p) hargs (hT.gr g02) hN (fun r hr => ?_) .refl hp2 (fun r hr he v J g hp hP => ?_) fun r hr he J d g hp => ?_
    · obtain ⟨b, hb, rfl⟩ := hr
      refine ⟨hsh.hp, by rw [List.length_append]; simp; omega, fun q hq => ?_, hsh.few⟩
      rcases List.mem_append.mp hq with hq | hq
      · exact hred.ok q hq
      · rw [List.mem_singleton.mp hq]
        exact ⟨hb1, hbw, hb⟩
    · obtain ⟨b, hb, rfl⟩ := hr
      obtain ⟨x, dx, vn, vr, vu, rfl, hs, q1, q2, q3⟩ := hP.ex
      have hs' := slt_gr gr_und hs
      have hl : (redGo p [] 0 (rows ++ [(bs, b)])).1.length ≤ (rows ++ [(bs, b)]).length := by have := redGo_len (p := p) (rows ++ [(bs, b)]) [] 0; simpa using this
      refine ⟨x, dx, _, rfl, hs', x, dx, _, vr, rfl, hs', rfl, gA.trans (g2.trans g), hp, vr, _, _, _, rfl, q2, redGo_red hsh.hp _ [] 0 (fun q hq => ?_) red_nil, ?_⟩
      · rcases List.mem_append.mp hq with hq | hq
        · exact hred.ok q hq
        · rw [List.mem_singleton.mp hq]
          exact ⟨hb1, hbw, hb⟩
      · rw [List.length_append, List.length_singleton] at hl
        omega
    · refine ⟨true, hex, fun _ a ha => ?_, nofun⟩
      refine pq_set hp (P := fun v C => Dp K C v (.tuple (rows.map dR ++ []))) (pw_lf (by rw [List.append_nil]; exact lfs_map lf_row rows) (pud_catT (pud_var rfl (dp_gr g d42)) (pud_tup pds_nil (by simp)) (by rw [List.length_map]; simp; omega))) fun v J3 g3 hp3 hv => ?_
      rw [List.append_nil] at hv
      exact ⟨gA.trans (g2.trans (g.trans g3)), hp3, v, _, _, rows, rfl, hv, hred, by omega⟩
  · rintro n hn σ A gA hpA ⟨v4, x5, x6, rows, rfl, d4, hred, hlen⟩
    have gAll := g1.trans gA
    refine pw_plan (L := L) (H := del A L) (ns := ns) (p := p) (Φ := fun r => r = rows) (σ := [some (.ref L), some (.int p), some (.int (ns.length : Int)), some v3, some v4, x5, x6, none]) (pwa_imp (pwa_of (ds := [.int p, .tuple (ns.map .str), .tuple (rows.map dR)]) (pds_cons (pud_var rfl (.int p)) (pds_cons (pud_var rfl (dp_gr gAll h3)) (pds_one (pud_var rfl d4)))) (lfs3 ns rows)) fun vs C h => ⟨rows, rfl, h⟩) (hT.gr gAll) hN (fun r e => by subst e; exact ⟨hsh.hp, by omega, hred.ok, hsh.few⟩) .refl hpA (fun r e he v J g hp hP => ?_) fun r e he => ?_
    · subst e
      rw [redGo_of_red hsh.hp hred] at hP
      exact k v J r (gAll.trans g) hp hP hred
    · subst e
      rw [redGo_of_red hsh.hp hred] at he
      exact absurd rfl he
end
end Km
set_option Elab.async false
set_option linter.all false
set_option maxRecDepth 100000
set_option maxHeartbeats 4000000
set_option autoImplicit false
/-! what _law_right does, piece by piece -/
namespace Km
open PySem PySem.Spec PyProof.Rows L2 StX SlX
section
variable {K : PySem.W.Frag} {T1 T2 CP CR L : Addr} {σ : L2.St} {H A : Hp} {ta tb te : TE} {t : TA} {D : Ends} {tt : L2.TT} {tu tw : TS} {i j : Nat} {wi : TI} {vs : List Nat}
theorem pq_if {b : Bool} (hp : Pot L A) (h : Pb tt σ (del A L) b) (h1 : b = true → ∀ J, Gr (del A L) (del J L) → Pot L J → tu D σ J) (h2 : b = false → ∀ J, Gr (del A L) (del J L) → Pot L J → tw D σ J) : tIfS tt tu tw D σ A := h A gr_und _ fun J g => by
  cases b with
  | true => rw [if_pos rfl]; exact h1 rfl J (gr_del g) (hp.gr g)
  | false => rw [if_neg Bool.false_ne_true]; exact h2 rfl J (gr_del g) (hp.gr g)
theorem pq_two {Φ : Int → Nat → Prop} (hp : Pot L A) (h : Pw L te σ (del A L) fun v C => ∃ (p : Int) (n : Nat), Φ p n ∧ Dp K C v (.tuple [.int p, .int (n : Int)])) (k : ∀ (p : Int) (n : Nat) J, Gr (del A L) (del J L) → Pot L J → Φ p n → D.nx ((σ.set i (some (.int p))).set j (some (.int (n : Int)))) J) : tAsg te (gTup K 2 (gCons (gName i) (gCons (gName j) gNil))) D σ A :=
  h A .refl hp _ fun v J g hpJ hv => by
    obtain ⟨p, n, hΦ, hd⟩ := hv
    obtain ⟨a, xs, rfl, s, t⟩ := dp_tup hd
    obtain ⟨x, y, rfl, hx, hy⟩ := dps2 t
    have ex := dp_int hx
    have ey := dp_int hy
    subst ex ey
    exact ⟨a, _, rfl, gr_und.sqT s, rfl, _, _, rfl, _, _, rfl, rfl, k p n J g hpJ hΦ⟩
theorem pw_shape (hv : σ[i]? = some (some (.ref L))) : Pw L (tCall (spShape K) [] E0 (tCons (tVar i) tNil)) σ H fun v C => ∃ (p : Int) (n : Nat), Shp p n ∧ Dp K C v (.tuple [.int p, .int (n : Int)]) :=
  fun H1 e hp Q q => ⟨_, hv, L, rfl, hp, fun v J g hpJ h => q v J g hpJ h⟩
theorem pw_shaken {l : List (List Int)} (hv : σ[i]? = some (some (.ref L))) (h : PuD K te σ H (.list (l.map dW))) (hl : l.length ≤ 1000) : Pw L (tCall (spShaken K) [] E0 (tCons (tVar i) (tCons te tNil))) σ H fun v C => ∃ l' : List (List Int), l'.Perm l ∧ Dp K C v (.list (l'.map dW)) :=
  fun H1 e hp Q q => ⟨_, hv, h H1 (e.trans gr_und) _ fun v J g p => ⟨L, v, l, rfl, hp.gr g, p, hl, fun v J2 l' g2 hp2 hperm hd => q v J2 ((gr_del g).trans g2) hp2 ⟨l', hperm, hd⟩⟩⟩
theorem pw_lw {l : List (List Int)} (h : PuD K te σ H (.list (l.map dW))) : Pw L te σ H fun v C => Dp K C v (.list (l.map dW)) :=
  pw_of h fun v J hp p => dpl_del hp (lfs_map (f := dW) lf_word l) (n3_words l) p
theorem pw_lsum {p m : Int} {u : List Int} (hp : Prm p) (hu : WR p u) (hl : u.length ≤ 1000) (h : PwA L t σ H fun vs C => ∃ b : Int, (0 ≤ b ∧ b < m) ∧ DpAll K C vs [.int p, dW u, dW u, .int b]) : Pw L (tCall (spLSum K) [] E0 t) σ H fun v C => ∃ w : List Int, (∃ b : Int, 0 ≤ b ∧ b < m ∧ w = sumW p u u b) ∧ Dr C v (dW w) :=
  fun H1 e hpt Q q => h H1 e hpt _ fun vs J g hpJ hv => by
    obtain ⟨b, hb, hv⟩ := hv
    show spLSum K (vs ++ []) J Q E0
    rw [List.append_nil]
    exact ⟨_, _, dps_gr gr_und hv, ⟨p, u, u, b, rfl, hp, hu, hl, rfl⟩, trivial, fun v J2 g2 h => q v J2 (g.trans (gr_del g2)) (hpJ.gr g2) ⟨_, ⟨b, hb.1, hb.2, rfl⟩, dr_del (hpJ.gr g2) (lf_word _) h⟩⟩
/-- the source is one of many -/
def SrcXE {ι α : Type} (L : Addr) (wi : TI) (σ : L2.St) (H : Hp) (l : ι → List α) (R : α → V → Hp → Prop) : Prop :=
  ∀ H0, Gr H (del H0 L) → Pot L H0 → ∀ C : It → Hp → Prop, (∀ m J H1, Gr (del H0 L) (del H1 L) → Pot L H1 → Walk J (l m).length (fun A => Gr (del H1 L) (del A L)) (fun i A x B => B = A ∧ ∃ a, (l m)[i]? = some a ∧ R a x (del A L)) → C J H1) → wi σ H0 C
theorem srcxe_list {ι α : Type} {l : ι → List α} {enc : α → PyData} (h : Pw L ta σ H fun v J => ∃ m, Dp K J v (.list ((l m).map enc))) : SrcXE L (iList K ta) σ H l fun a x B => Dp K B x (enc a) :=
  fun H0 e0 hp C c => h H0 e0 hp _ fun v J g hpJ p => by
    obtain ⟨m, p⟩ := p
    obtain ⟨a, xs, rfl, s, t⟩ := dp_lst p
    have hl : xs.length = (l m).length := by rw [dps_len t, List.length_map]
    refine ⟨a, rfl, ⟨xs, gr_und.sqL s⟩, c m _ J g hpJ ?_⟩
    rw [← hl]
    refine walk_list.mono (fun B gb => gr_und.sqL (gb.sqL s)) fun i A x B hi ga y => ?_
    obtain ⟨rfl, hx⟩ := y
    obtain ⟨d, hd, hp⟩ := dps_at t hx
    rw [List.getElem?_map] at hd
    obtain ⟨b, hb, e⟩ := Option.map_eq_some_iff.mp hd
    subst e; exact ⟨rfl, b, hb, dp_gr ga hp⟩
theorem pw_lcE {ι α β : Type} {l : ι → List α} {R : α → V → Hp → Prop} {g : TG} {enc : β → PyData} {rel : α → β → Prop} (hs : SrcXE L wi σ H l R) (hl : ∀ m, (l m).length ≤ 1000000) (hf : ∀ b, lf (enc b) = true)
    (ht : ∀ m, ∀ a ∈ l m, ∀ x J, Gr H J → R a x J → ∃ σ2, wipe σ2 vs = wipe σ vs ∧ (∀ A, Gr J A → ∀ C : L2.St → Hp → Prop, C σ2 A → g x (wipe σ vs) A C) ∧ Pw L te σ2 J fun v C => ∃ b, rel a b ∧ Dr C v (enc b)) :
    Pw L (tLc wi g tYes te vs) σ H fun v C => ∃ bs : List β, (∃ m, bs.length = (l m).length ∧ (∀ (i : Nat) (a : α) (b : β), (l m)[i]? = some a → bs[i]? = some b → rel a b)) ∧ Dr C v (.list (bs.map enc)) := fun H0 e0 hp0 Q q => hs H0 e0 hp0 _ fun m I H1 g1 hp1 w D hD => by
  have hDL : D ≠ L := hp1.ne hD
  have hD1 : del H1 L D = none := by rw [del_ne hDL]; exact hD
  refine lc_it w (fun i A => Gr (del H1 L) (del A L) ∧ Pot L A ∧ ∃ (acc : List V) (bs : List β), A D = some (.lst acc) ∧ DrAll (del A L) acc (bs.map enc) ∧ bs.length = i ∧ ∀ (j : Nat) (a : α) (b : β), (l m)[j]? = some a → bs[j]? = some b → rel a b) ⟨gr_del (.new hD), hp1.gr (.new hD), [], [], upd_same, .nil, rfl, fun j a b _ h => by simp at h⟩ (fun _ _ _ p => p.1) ?_ ?_
  · rintro i x A B hi ⟨ga, hpA, acc, bs, ea, da, hbl, hrel⟩ ⟨rfl, a, ha, hR⟩
    have hm : a ∈ l m := List.mem_of_getElem? ha
    obtain ⟨σ2, hw, hg, he⟩ := ht m a hm x (del B L) (e0.trans (g1.trans ga)) hR
    refine hg B gr_und _ ⟨hw, ?_⟩
    unfold tYes
    dsimp only
    rw [if_pos rfl]
    refine he B .refl hpA _ fun y J2 g2 hp2 dy => ?_
    obtain ⟨b, hab, dy⟩ := dy
    have eD : J2 D = some (.lst acc) := gr_und.lst (g2.lst (by rw [del_ne hDL]; exact ea))
    have eDd : del J2 L D = some (.lst acc) := by rw [del_ne hDL]; exact eD
    have hlen : acc.length = bs.length := by rw [drs_len da, List.length_map]
    have hlm := hl m
    refine ⟨acc, eD, Nat.lt_of_le_of_lt (show acc.length ≤ 1000000 by omega) (by decide), ?_, ?_, acc ++ [y], bs ++ [b], upd_same, ?_, by rw [List.length_append, hbl]; rfl, fun j a' b' hja hjb => ?_⟩
    · rw [del_updne hDL]
      exact (ga.trans g2).mut hD1
    · obtain ⟨u, v, z, h⟩ := hp2
      exact ⟨u, v, z, by rw [upd_ne hDL.symm]; exact h⟩
    · rw [del_updne hDL, List.map_append]
      have gq : Gtu (del J2 L) (upd (del J2 L) D (.lst (acc ++ [y]))) := gtu_upd eDd (fun xs z => nomatch z)
      exact drs_app (drs_tu gq (lfs_map hf _) (drs_gr g2 da)) (.cons (dr_tu gq (hf b) dy) .nil)
    · rcases Nat.lt_or_ge j bs.length with h | h
      · rw [List.getElem?_append_left h] at hjb
        exact hrel j a' b' hja hjb
      · rw [List.getElem?_append_right h] at hjb
        have h0 : j - bs.length = 0 := by
          rcases Nat.eq_zero_or_pos (j - bs.length) with z | z
          · exact z
          · rw [List.getElem?_eq_none (by rw [List.length_singleton]; omega)] at hjb; cases hjb
        rw [h0] at hjb
        have hj : j = i := by omega
        subst hj
        rw [ha] at hja
        cases hja
        cases hjb
        exact hab
  · rintro A ⟨ga, hpA, acc, bs, ea, da, hbl, hrel⟩
    exact q _ A (g1.trans ga) hpA ⟨bs, ⟨m, hbl, hrel⟩, .lst (by rw [del_ne hDL]; exact ea) da⟩
/-- xs[cut : cut + a drawn number] -/
theorem pw_mid {l : List (List Int)} {cut : Nat} {m : Int} {tc td : TE} (h : Pw L te σ H fun v C => Dp K C v (.list (l.map dW))) (h1 : PuD K tc σ H (.int (cut : Int))) (h2 : Pw L td σ H fun v _ => ∃ i : Int, v = .int i ∧ 0 ≤ i ∧ i < m) :
    Pw L (L2.tSl (rSlL K) te (tPart tc) (tPart (tOp (rI0 fun i j => .int (i + j)) tc td))) σ H fun v C => ∃ k : Nat, Dp K C v (.list (((l.take (cut + k)).drop cut).map dW)) :=
  fun H1 e hp Q q => h H1 e hp _ fun v J g hpJ p => h1 J (e.trans (g.trans gr_und)) _ fun v2 J2 g2 p2 => ⟨_, dp_int p2, h1 J2 (e.trans (g.trans (gr_und.trans g2))) _ fun v3 J3 g3 p3 => h2 J3 (e.trans (g.trans (gr_del (g2.trans g3)))) (hpJ.gr (g2.trans g3)) _ fun v4 J4 g4 hp4 p4 => by
    obtain ⟨i, rfl, b1, b2⟩ := p4
    have e3 := dp_int p3
    subst e3
    refine ⟨(cut : Int), i, rfl, rfl, (cut : Int) + i, rfl, ?_⟩
    have p' := dp_gr ((gr_del (g2.trans g3)).trans g4) p
    obtain ⟨a, xs, rfl, s, t⟩ := dp_lst p'
    refine ⟨a, xs, rfl, gr_und.sqL s, fun x hx => ?_⟩
    have g5 : Gr (del J4 L) (del (upd J4 x (.lst (cutV xs (some (cut : Int)) (some ((cut : Int) + i))))) L) := gr_del (.new hx)
    refine q _ _ (g.trans ((gr_del (g2.trans g3)).trans (g4.trans g5))) (hp4.gr (.new hx)) ⟨i.toNat, .lst (SqL.of (by rw [del_ne (hp4.ne hx)]; exact upd_same)) (dps_gr g5 ?_)⟩
    have hc := dps_cut (lo := some (cut : Int)) (hi := some ((cut : Int) + i)) t
    have ei : (cut : Int) + i = ((cut + i.toNat : Nat) : Int) := by omega
    rw [ei] at hc ⊢
    rw [cutL_map, cutL_mid _ _ _ (by omega), show cut + i.toNat - cut = i.toNat by omega] at hc
    rw [List.drop_take, show cut + i.toNat - cut = i.toNat by omega]
    exact hc⟩
theorem pud_neB {a b : Bool} (h1 : PuD K ta σ H (.bool a)) (h2 : PuD K tb σ H (.bool b)) : PuD K (tOp rNe ta tb) σ H (.bool (!decide (a = b))) :=
  fun H1 e Q q => h1 H1 e _ fun v J g1 p => h2 J (e.trans g1) _ fun w J2 g2 p2 => by
    cases p; cases p2
    refine ⟨rfl, q _ J2 (g1.trans g2) ?_⟩
    have e : decide (V.bl a = V.bl b) = decide (a = b) := by
      by_cases h : a = b
      · subst h; simp
      · rw [decide_eq_false h, decide_eq_false fun z => h (V.bl.inj z)]
    rw [e]; exact .bl _
theorem pud_lenOwn {v : V} {p : Int} {ns : List Str} {rows : List Row} (hv : σ[i]? = some (some v)) (hP : PlanIs K CP H v p ns rows) (hN : NamesOk ns) (hp : Prm p) (hR : Red p ns.length rows) (hl : (runsOf p ns.length rows).length ≤ 1000000) : PuD K (tCB (rLenOwn CP (spLen K CP)) (tCons (tVar i) tNil)) σ H (.int ((runsOf p ns.length rows).length : Int)) :=
  fun H1 e Q q => by
    obtain ⟨x, dx, vn, vr, vu, rfl, hs, _⟩ := id (hP.gr e).ex
    refine ⟨_, hv, x, dx, _, rfl, hs, _, [], p, ns, rows, [], _, rfl, hP.gr e, hN, hp, hR, .nil, ⟨rfl, rfl⟩, trivial, fun z J g hz => ⟨_, dp_int hz, by omega, q z J g hz⟩⟩
/-! ### is_right -/
theorem tupw_var {v : V} {ws : List (List Int)} (hv : σ[i]? = some (some v)) (h : Dr H v (.tuple (ws.map dW))) : Pu (tVar i) σ H fun v J => TupW K J v ws := Pu.imp (pur_var hv h) fun _ _ _ h => .inl h
theorem tupw_nil : Pu (tTup tNil) σ H fun v J => TupW K J v [] := Pu.imp (pur_tup prs_nil (by simp)) fun _ _ _ h => .inl h
structure RightIn (K : PySem.W.Frag) (T1 T2 CP : Addr) (H : Hp) (v : V) (p : Int) (ns : List Str) (rows : List Row) (ws bs : List (List Int)) : Prop where
  plan : PlanIs K CP H v p ns rows
  names : NamesOk ns
  prm : Prm p
  red : Red p ns.length rows
  w1 : Wds p ns.length ws
  w2 : Wds p ns.length bs
  no : ∀ u ∈ bs, norm p u ∉ ws.map (norm p)
  tt : TT T1 T2 H
theorem pud_right3 {v : V} {p : Int} {ns : List Str} {rows : List Row} {ws bs : List (List Int)} (hv : σ[i]? = some (some v)) (R : RightIn K T1 T2 CP H v p ns rows ws bs) (ha : Pu ta σ H fun v J => TupW K J v ws) (hb : Pu tb σ H fun v J => TupW K J v bs) {n m : Nat} (hn : n = 2) (hm : m = 1) :
    PuD K (tCallN n m (spIsRight K T1 T2 CP) (fun vs zs => vs ++ zs) E0 (tCons (tVar i) (tCons ta tNil)) (tCons tb tNil)) σ H (.bool (isRight p rows ws bs)) := fun H1 e Q q =>
  ⟨v, hv, ha H1 e _ fun x J g hx => hb J (e.trans g) _ fun y J2 g2 hy => ⟨hn.symm, hm.symm, v, x, y, p, ns, rows, ws, bs, rfl, R.plan.gr (e.trans (g.trans g2)), R.names, R.prm, R.red, hx.gr g2, hy, R.w1, R.w2, R.no, R.tt.gr (e.trans (g.trans g2)), fun J3 g3 => q _ J3 (g.trans (g2.trans g3)) (.bl _)⟩⟩
theorem pud_right2 {v : V} {p : Int} {ns : List Str} {rows : List Row} {ws : List (List Int)} {Tb : Addr} (hTb : ∀ H, Dp K H (.ref Tb) (.tuple [])) (hv : σ[i]? = some (some v)) (R : RightIn K T1 T2 CP H v p ns rows ws []) (ha : Pu ta σ H fun v J => TupW K J v ws) :
    PuD K (tCall (spIsRight K T1 T2 CP) [.ref Tb] E0 (tCons (tVar i) (tCons ta tNil))) σ H (.bool (isRight p rows ws [])) := fun H1 e Q q =>
  ⟨v, hv, ha H1 e _ fun x J g hx => ⟨v, x, .ref Tb, p, ns, rows, ws, [], rfl, R.plan.gr (e.trans g), R.names, R.prm, R.red, hx, .inr ⟨rfl, hTb J⟩, R.w1, R.w2, R.no, R.tt.gr (e.trans g), fun J3 g3 => q _ J3 (g.trans g3) (.bl _)⟩⟩
theorem wds_nil {p : Int} {n : Nat} : Wds p n [] := ⟨nofun, nofun, nofun, .nil, by decide⟩
theorem RightIn.gr {J : Hp} {v : V} {p : Int} {ns : List Str} {rows : List Row} {ws bs : List (List Int)} (R : RightIn K T1 T2 CP H v p ns rows ws bs) (g : Gr H J) : RightIn K T1 T2 CP J v p ns rows ws bs := ⟨R.plan.gr g, R.names, R.prm, R.red, R.w1, R.w2, R.no, R.tt.gr g⟩
theorem RightIn.only {v : V} {p : Int} {ns : List Str} {rows : List Row} {ws bs : List (List Int)} (R : RightIn K T1 T2 CP H v p ns rows ws bs) : RightIn K T1 T2 CP H v p ns rows ws [] := ⟨R.plan, R.names, R.prm, R.red, R.w1, wds_nil, nofun, R.tt⟩
theorem RightIn.none {v : V} {p : Int} {ns : List Str} {rows : List Row} {ws bs : List (List Int)} (R : RightIn K T1 T2 CP H v p ns rows ws bs) : RightIn K T1 T2 CP H v p ns rows [] [] := ⟨R.plan, R.names, R.prm, R.red, wds_nil, wds_nil, nofun, R.tt⟩
theorem RightIn.turn {v : V} {p : Int} {ns : List Str} {rows : List Row} {ws bs : List (List Int)} (R : RightIn K T1 T2 CP H v p ns rows ws bs) : RightIn K T1 T2 CP H v p ns rows [] ws := ⟨R.plan, R.names, R.prm, R.red, wds_nil, R.w1, (fun _ _ h => nomatch h), R.tt⟩
theorem pud_ldue {p : Int} {runs ws bs : List (List Int)} (h : PuDs K t σ H [.int p, .list (runs.map dW), .tuple (ws.map dW), .tuple (bs.map dW)]) (hp : Prm p) (h1 : ∀ u ∈ ws, u.length ≤ 1000) (h2 : ∀ u ∈ bs, u.length ≤ 1000) (h3 : ∀ r ∈ runs, WR p r) (h4 : runs.length ≤ 1000) (h5 : ws.length ≤ 1000) (h6 : bs.length ≤ 1000) :
    PuD K (tCall (spLDue K) [] E0 t) σ H (.bool (dueOf p runs ws bs)) := fun H1 e Q q => h H1 e _ fun vs J g hv => by
  show spLDue K (vs ++ []) J Q E0
  rw [List.append_nil]
  exact ⟨p, runs, ws, bs, hv, hp, h1, h2, h3, h4, h5, h6, fun J2 g2 => q _ J2 (g.trans g2) (.bl _)⟩
/-- the law's names -/
theorem names_cut {n : Nat} (h1 : 1 ≤ n) (h5 : n ≤ 5) : NamesOk (okNames.take n) ∧ (okNames.take n).length = n := by
  have hl : (okNames.take n).length = n := by
    rw [List.length_take, show okNames.length = 5 from rfl]; omega
  have nd : okNames.Nodup := by decide +kernel
  exact ⟨⟨fun x hx => List.mem_of_mem_take hx, nd.sublist (List.take_sublist _ _), by omega, by omega⟩, hl⟩
end
end Km
set_option Elab.async false
set_option linter.all false
set_option maxRecDepth 100000
set_option maxHeartbeats 4000000
set_option autoImplicit false
namespace Km
open PySem PySem.Spec PyProof.Rows L2 StX SlX
section
variable {P : Program} {w : World} {K : PySem.W.Frag} {mg : Str → Option Value} {base : Heap} {T1 T2 c1 c2 CP CR fR cda cc : Addr}
theorem pw_lplan {K : PySem.W.Frag} {σ : L2.St} {H : Hp} {i0 i1 i2 i3 : Nat} {L : Addr} {p : Int} {ns : List Str} {v3 : V} (h0 : σ[i0]? = some (some (.ref L))) (h1 : σ[i1]? = some (some (.int p))) (h2 : σ[i2]? = some (some (.int (ns.length : Int)))) (h3 : σ[i3]? = some (some v3)) (hs : Shp p ns.length) (hN : NamesOk ns) (hv : Dp K H v3 (.tuple (ns.map .str))) (hT : TT T1 T2 H) :
    Pw L (tCall (spLPlan K T1 T2 CP) [] E0 (tCons (tVar i0) (tCons (tVar i1) (tCons (tVar i2) (tCons (tVar i3) tNil))))) σ H fun v C => ∃ rows, PlanIs K CP C v p ns rows ∧ Red p ns.length rows :=
  fun H1 e hp Q q => ⟨_, h0, _, h1, _, h2, _, h3, L, p, ns, v3, rfl, hp, hs, hN, dp_gr e hv, hT.gr e, fun v J rows g hpJ hP hR => q v J g hpJ ⟨rows, hP, hR⟩⟩
theorem pwa_sum {K : PySem.W.Frag} {σ : L2.St} {H : Hp} {i0 i j : Nat} {L : Addr} {p : Int} {u : List Int} {x : V} (hpp : 2 ≤ p ∧ p ≤ 7) (h0 : σ[i0]? = some (some (.ref L))) (h1 : σ[i]? = some (some (.int p))) (h2 : σ[j]? = some (some x)) (hx : Dp K H x (dW u)) :
    PwA L (tCons (tVar i) (tCons (tVar j) (tCons (tVar j) (tCons (tCall spDip [] E0 (tCons (tVar i0) (tCons (tOp (rI0 fun i j => .int (i - j)) (tVar i) (tC (.int 1))) tNil))) tNil)))) σ H fun vs C => ∃ b : Int, (0 ≤ b ∧ b < p - 1) ∧ DpAll K C vs [.int p, dW u, dW u, .int b] := by
  refine pwa_imp (pwa_cons (pw_lf (K := K) (d := .int p) rfl (pud_var h1 (.int p))) (fun _ _ _ g h => dp_gr g h) (pwa_cons (pw_lf (K := K) (lf_word u) (pud_var h2 hx)) (fun _ _ _ g h => dp_gr g h) (pwa_cons (pw_lf (K := K) (lf_word u) (pud_var h2 hx)) (fun _ _ _ g h => dp_gr g h)
    (pwa_cons (pw_dip (K := K) (total := p - 1) h0 (pud_sub (pud_var h1 (.int p)) pud_int) (by omega) (by omega)) (fun _ _ _ g h => h) pwa_nil)))) fun vs C h => ?_
  obtain ⟨a, r, rfl, ha, b, r', rfl, hb, c, r'', rfl, hc, d, r3, rfl, ⟨i, rfl, b1, b2⟩, rfl⟩ := h
  exact ⟨i, ⟨b1, b2⟩, .cons ha (.cons hb (.cons hc (dps_one (.int i))))⟩
theorem srcx_e {α : Type} {L : Addr} {wi : TI} {σ : L2.St} {H : Hp} {l : List α} {R : α → V → Hp → Prop} (h : SrcX L wi σ H l R) : SrcXE (ι := Unit) L wi σ H (fun _ => l) R := fun H0 e hp C c => h H0 e hp C fun J H1 g hp w => c () J H1 g hp w
theorem red_len {p : Int} {n : Nat} {rows : List Row} (h : Red p n rows) : rows.length ≤ n := by
  have h1 : (rows.map fun r => lead r.1).Nodup := by
    unfold List.Nodup
    rw [List.pairwise_map]
    exact h.asc.imp fun {a b} hab => by omega
  have h2 := nodup_len (b := List.range n) h1 fun x hx => by
    obtain ⟨r, hr, rfl⟩ := List.mem_map.mp hx
    exact List.mem_range.mpr (h.lt r hr)
  rwa [List.length_map, List.length_range] at h2
theorem runs_few {p : Int} {n : Nat} {rows : List Row} (h : Shp p n) : (runsOf p n rows).length ≤ 49 := by
  have h1 := List.length_filter_le (fulfils p rows) (wordsOf p.toNat n)
  rw [words_count] at h1
  exact Nat.le_trans h1 h.few
theorem eqv_words : ∀ l : List (List Int), PyData.eqv (.list (l.map dW)) (.list (l.map dW)) = true := by
  have : ∀ l : List (List Int), PyData.eqvAll (l.map dW) (l.map dW) = true := by
    intro l
    induction l with
    | nil => simp [PyData.eqvAll]
    | cons a r ih =>
      rw [List.map_cons, PyData.eqvAll, ih, eqv_word]
      simp
  intro l
  rw [PyData.eqv]; exact this l
section
variable {K : PySem.W.Frag} {L : Addr} {σ : L2.St} {H : Hp} {wi : TI} {te : TE} {vs : List Nat} {t : TA} {T1 T2 CP CR : Addr}
/-- the items are data, not new ones -/
theorem pw_lcD {ι α β : Type} {l : ι → List α} {R : α → V → Hp → Prop} {g : TG} {enc : β → PyData} {rel : α → β → Prop} (hs : SrcXE L wi σ H l R) (hl : ∀ m, (l m).length ≤ 1000000) (hf : ∀ b, lf (enc b) = true)
    (ht : ∀ m, ∀ a ∈ l m, ∀ x J, Gr H J → R a x J → ∃ σ2, wipe σ2 vs = wipe σ vs ∧ (∀ A, Gr J A → ∀ C : L2.St → Hp → Prop, C σ2 A → g x (wipe σ vs) A C) ∧ Pw L te σ2 J fun v C => ∃ b, rel a b ∧ Dp K C v (enc b)) :
    Pw L (tLc wi g tYes te vs) σ H fun v C => ∃ bs : List β, (∃ m, bs.length = (l m).length ∧ (∀ (i : Nat) (a : α) (b : β), (l m)[i]? = some a → bs[i]? = some b → rel a b)) ∧ ∃ D xs, v = .ref D ∧ C D = some (.lst xs) ∧ DpAll K C xs (bs.map enc) := fun H0 e0 hp0 Q q => hs H0 e0 hp0 _ fun m I H1 g1 hp1 w D hD => by
  have hDL : D ≠ L := hp1.ne hD
  have hD1 : del H1 L D = none := by rw [del_ne hDL]; exact hD
  refine lc_it w (fun i A => Gr (del H1 L) (del A L) ∧ Pot L A ∧ ∃ (acc : List V) (bs : List β), A D = some (.lst acc) ∧ DpAll K (del A L) acc (bs.map enc) ∧ bs.length = i ∧ ∀ (j : Nat) (a : α) (b : β), (l m)[j]? = some a → bs[j]? = some b → rel a b) ⟨gr_del (.new hD), hp1.gr (.new hD), [], [], upd_same, .nil, rfl, fun j a b _ h => by simp at h⟩ (fun _ _ _ p => p.1) ?_ ?_
  · rintro i x A B hi ⟨ga, hpA, acc, bs, ea, da, hbl, hrel⟩ ⟨rfl, a, ha, hR⟩
    have hm : a ∈ l m := List.mem_of_getElem? ha
    obtain ⟨σ2, hw, hg, he⟩ := ht m a hm x (del B L) (e0.trans (g1.trans ga)) hR
    refine hg B gr_und _ ⟨hw, ?_⟩
    unfold tYes
    dsimp only
    rw [if_pos rfl]
    refine he B .refl hpA _ fun y J2 g2 hp2 dy => ?_
    obtain ⟨b, hab, dy⟩ := dy
    have eD : J2 D = some (.lst acc) := gr_und.lst (g2.lst (by rw [del_ne hDL]; exact ea))
    have eDd : del J2 L D = some (.lst acc) := by rw [del_ne hDL]; exact eD
    have hlen : acc.length = bs.length := by rw [dps_len da, List.length_map]
    have hlm := hl m
    refine ⟨acc, eD, Nat.lt_of_le_of_lt (show acc.length ≤ 1000000 by omega) (by decide), ?_, ?_, acc ++ [y], bs ++ [b], upd_same, ?_, by rw [List.length_append, hbl]; rfl, fun j a' b' hja hjb => ?_⟩
    · rw [del_updne hDL]
      exact (ga.trans g2).mut hD1
    · obtain ⟨u, v, z, h⟩ := hp2
      exact ⟨u, v, z, by rw [upd_ne hDL.symm]; exact h⟩
    · rw [del_updne hDL, List.map_append]
      have gq : Gq (del J2 L) (upd (del J2 L) D (.lst (acc ++ [y]))) := gq_upd eDd
      exact dps_app (dps_gq gq (lfs_map hf _) (dps_gr g2 da)) (dps_one (dp_gq gq (hf b) dy))
    · rcases Nat.lt_or_ge j bs.length with h | h
      · rw [List.getElem?_append_left h] at hjb
        exact hrel j a' b' hja hjb
      · rw [List.getElem?_append_right h] at hjb
        have h0 : j - bs.length = 0 := by
          rcases Nat.eq_zero_or_pos (j - bs.length) with z | z
          · exact z
          · rw [List.getElem?_eq_none (by rw [List.length_singleton]; omega)] at hjb; cases hjb
        rw [h0] at hjb
        have hj : j = i := by omega
        subst hj
        rw [ha] at hja
        cases hja
        cases hjb
        exact hab
  · rintro A ⟨ga, hpA, acc, bs, ea, da, hbl, hrel⟩
    exact q _ A (g1.trans ga) hpA ⟨bs, ⟨m, hbl, hrel⟩, D, acc, rfl, by rw [del_ne hDL]; exact ea, da⟩
theorem pw_tupleD {β : Type} {Φ : List β → Prop} {enc : β → PyData} (h : Pw L te σ H fun v C => ∃ bs : List β, Φ bs ∧ ∃ D xs, v = .ref D ∧ C D = some (.lst xs) ∧ DpAll K C xs (bs.map enc)) :
    Pw L (tCB (fun xs H Q => ∃ p ys, xs = [.ref p] ∧ ((SqL K H p ys ∧ ∀ l, H l = none → Q (.ref l) (upd H l (.tup ys))) ∨ (SqT K H p ys ∧ Q (.ref p) H))) (tCons te tNil)) σ H fun v C => ∃ bs : List β, Φ bs ∧ Dp K C v (.tuple (bs.map enc)) :=
  fun H1 e hp Q q => h H1 e hp _ fun v J g hpJ p => by
    obtain ⟨bs, hb, a, xs, rfl, s, t⟩ := p
    refine ⟨a, xs, rfl, .inl ⟨gr_und.sqL (SqL.of s), fun x hx => ?_⟩⟩
    have g3 : Gr (del J L) (del (upd J x (.tup xs)) L) := gr_del (.new hx)
    exact q _ _ (g.trans g3) (hpJ.gr (.new hx)) ⟨bs, hb, .tup (SqT.of (by rw [del_ne (hpJ.ne hx)]; exact upd_same)) (dps_gr g3 t)⟩
/-- a plan of reduced rows -/
theorem pw_planR {p : Int} {ns : List Str} {Φ : List Row → Prop} (hs : Shp p ns.length) (h : PwA L t σ H fun vs C => ∃ rows, Φ rows ∧ DpAll K C vs [.int p, .tuple (ns.map .str), .tuple (rows.map dR)]) (hT : TT T1 T2 H) (hN : NamesOk ns) (hR : ∀ rows, Φ rows → Red p ns.length rows) :
    Pw L (tMakeS CP (spPlanInit K T1 T2 CP CR) (WE Wno) t) σ H fun v C => ∃ rows, Φ rows ∧ PlanIs K CP C v p ns rows := fun H1 e hp Q q =>
  pw_plan h hT hN (fun rows hΦ => ⟨hs.hp, red_len (hR rows hΦ), (hR rows hΦ).ok, hs.few⟩) e hp (fun rows hΦ hn v J g hpJ hP => by
    rw [redGo_of_red hs.hp (hR rows hΦ)] at hP
    exact q v J g hpJ ⟨rows, hΦ, hP⟩) fun rows hΦ hne => by
    rw [redGo_of_red hs.hp (hR rows hΦ)] at hne
    exact absurd rfl hne
end
/-- all that the law's right asks -/
structure RightOk (P : Program) (w : World) (K : PySem.W.Frag) (mg : Str → Option Value) (base : Heap) (T1 T2 CP CR : Addr) : Prop where
  shape : Ok P w K mg base CX0 2 "_law_shape" ["_law_pot_here"] (spShape K)
  plan : Ok P w K mg base CX0 8 "_law_plan" ["_law_pot_here", "_law_p", "_law_many", "_law_names"] (spLPlan K T1 T2 CP)
  shaken : Ok P w K mg base CX0 2 "_law_shaken" ["_law_pot_here", "_law_items"] (spShaken K)
  normals : Ok P w K mg base CX0 2 "_law_normals" ["_law_p", "_law_many"] (spLNormals K)
  dip : Ok P w K mg base CX0 1 "_law_dip" ["_law_pot_here", "_law_total"] spDip
  sum : Ok P w K mg base CX0 1 "_law_sum" ["_law_p", "_law_word", "_law_other", "_law_by"] (spLSum K)
  runs : Ok P w K mg base CX0 2 "_law_runs" ["_law_p", "_law_many", "_law_rows"] (spLRuns K)
  due : Ok P w K mg base CX0 3 "_law_due" ["_law_p", "_law_runs_here", "_law_wanted", "_law_beside"] (spLDue K)
  right : OkB P w K mg base 6 (spIsRight K T1 T2 CP)
  p_rows : POk P w K mg base 1 CP "rows" (spSlot CP 2)
  p_runs : POk P w K mg base 1 CP "runs" (spSlot CP 3)
  m_len : MOk P w K mg base 1 CP "__len__" (spLen K CP)
  pmk : PMkOk P w K mg base T1 T2 CP CR
def spLRight (T1 T2 : Addr) : Sp := fun vs H Q _ => ∃ L, vs = [.ref L] ∧ Pot L H ∧ TT T1 T2 (del H L) ∧ ∀ J, Gr (del H L) (del J L) → Q (.bl true) J
abbrev s_lright : Stmt := top 62
theorem sc_lright : FnScope ["_law_pot_here", "_law_names", "_law_plan_here", "_law_words_here", "_law_cut", "_law_wanted", "_law_beside", "_law_runs_here", "_law_due_here", "_law_turned", "_law_at", "_law_p", "_law_many", "_law_fewer", "_law_word", "_law_side"] ["_law_pot_here"] (defScope s_lright) := ⟨rfl, rfl, rfl, by decide +kernel, rfl, by decide +kernel, by decide +kernel⟩
theorem ok_lright (B : Bl mg) (SC : SCls K CP) (R : RightOk P w K mg base T1 T2 CP CR) (D : Df K mg "_law_right" s_lright ["_law_pot_here"]) : Ok P w K mg base CX0 9 "_law_right" ["_law_pot_here"] (spLRight T1 T2) := D.ok fun f fd F => by
  refine F.ok sc_lright (fun vs H Q E h => by obtain ⟨_, rfl, _⟩ := h; rfl) ?_
  rintro cdv A outer s H vs Q E hr ⟨L, rfl, hp, hT, k⟩
  obtain ⟨o__law_shape, o__law_plan, o__law_shaken, o__law_normals, o__law_dip, o__law_sum, o__law_runs, o__law_due, OR, o_p_rows, o_p_runs, o_m_len, MKP⟩ := R
  obtain ⟨fR, fdR, Tb, mR, kR, ⟨dsR, dR, bR⟩, nR, FR, hTb⟩ := OR.ex
  refine ⟨_, (pss_cons (ps_asg (pe_ok o__law_shape (hr.mono (by decide)) (by rfl) pass0 (pa_cons (pv 0) pa_nil)) (pg_tup rfl (pgs_cons (pg_name (i := 11) sc_lright.nd rfl (Or.inr rfl)) (pgs_cons (pg_name (i := 12) sc_lright.nd rfl (Or.inl rfl)) pgs_nil)))) (pss_cons (ps_set (i := 1) sc_lright.nd rfl (Or.inl rfl) (pe_callTy call_tuple_of (by rfl) B.tuple boot_tuple (pa_cons (pe_slice (r := rSlL K) sl_list (pe_lst (pa_cons pe_str (pa_cons pe_str (pa_cons pe_str (pa_cons pe_str (pa_cons pe_str pa_nil)))))) po_none (po_some (pv 12))) pa_nil))) (pss_cons (ps_set (i := 2) sc_lright.nd rfl (Or.inl rfl) (pe_ok o__law_plan (hr.mono (by decide)) (by rfl) pass0 (pa_cons (pv 0) (pa_cons (pv 11) (pa_cons (pv 12) (pa_cons (pv 1) pa_nil)))))) (pss_cons (ps_set (i := 3) sc_lright.nd rfl (Or.inl rfl) (pe_ok o__law_shaken (hr.mono (by decide)) (by rfl) pass0 (pa_cons (pv 0) (pa_cons (pe_ok o__law_normals (hr.mono (by decide)) (by rfl) pass0 (pa_cons (pv 11) (pa_cons (pv 12) pa_nil))) pa_nil)))) (pss_cons (ps_set (i := 4) sc_lright.nd rfl (Or.inl rfl) (pe_ok o__law_dip (hr.mono (by decide)) (by rfl) pass0 (pa_cons (pv 0) (pa_cons pe_int pa_nil)))) (pss_cons (ps_set (i := 5) sc_lright.nd rfl (Or.inl rfl) (pe_callTy call_tuple_of (by rfl) B.tuple boot_tuple (pa_cons (pe_lc (own := [("_law_word", 14)]) (g := (gName 14)) (tt := tYes) rfl sc_lright.nd (pi_list (pe_slice (r := rSlL K) sl_list (pv 3) po_none (po_some (pv 4)))) (blkOk_by (N := ["_law_pot_here", "_law_names", "_law_plan_here", "_law_words_here", "_law_cut", "_law_wanted", "_law_beside", "_law_runs_here", "_law_due_here", "_law_turned", "_law_at", "_law_p", "_law_many", "_law_fewer", "_law_word", "_law_side"]) (sc := defScope s_lright) (by decide +kernel)) (fun _ _ _ _ _ => pg_name (i := 14) sc_lright.nd rfl (Or.inl rfl)) (fun _ _ _ _ _ => pts_nil) (fun _ _ _ _ _ => (pe_ok o__law_sum (hr.mono (by decide)) (by rfl) pass0 (pa_cons (pv 11) (pa_cons (pv 14) (pa_cons (pv 14) (pa_cons (pe_ok o__law_dip (hr.mono (by decide)) (by rfl) pass0 (pa_cons (pv 0) (pa_cons (pe_op op_sub (pv 11) pe_int) pa_nil))) pa_nil))))))) pa_nil))) (pss_cons (ps_set (i := 6) sc_lright.nd rfl (Or.inl rfl) (pe_callTy call_tuple_of (by rfl) B.tuple boot_tuple (pa_cons (pe_lc (own := [("_law_word", 14)]) (g := (gName 14)) (tt := tYes) rfl sc_lright.nd (pi_list (pe_slice (r := rSlL K) sl_list (pv 3) (po_some (pv 4)) (po_some (pe_op op_add (pv 4) (pe_ok o__law_dip (hr.mono (by decide)) (by rfl) pass0 (pa_cons (pv 0) (pa_cons pe_int pa_nil))))))) (blkOk_by (N := ["_law_pot_here", "_law_names", "_law_plan_here", "_law_words_here", "_law_cut", "_law_wanted", "_law_beside", "_law_runs_here", "_law_due_here", "_law_turned", "_law_at", "_law_p", "_law_many", "_law_fewer", "_law_word", "_law_side"]) (sc := defScope s_lright) (by decide +kernel)) (fun _ _ _ _ _ => pg_name (i := 14) sc_lright.nd rfl (Or.inl rfl)) (fun _ _ _ _ _ => pts_nil) (fun _ _ _ _ _ => (pe_ok o__law_sum (hr.mono (by decide)) (by rfl) pass0 (pa_cons (pv 11) (pa_cons (pv 14) (pa_cons (pv 14) (pa_cons (pe_ok o__law_dip (hr.mono (by decide)) (by rfl) pass0 (pa_cons (pv 0) (pa_cons (pe_op op_sub (pv 11) pe_int) pa_nil))) pa_nil))))))) pa_nil))) (pss_cons (ps_set (i := 7) sc_lright.nd rfl (Or.inl rfl) (pe_ok o__law_runs (hr.mono (by decide)) (by rfl) pass0 (pa_cons (pv 11) (pa_cons (pv 12) (pa_cons (pe_pr o_p_rows SC (hr.mono (by decide)) (pv 2)) pa_nil))))) (pss_cons (ps_if (PW.pt (pw_or (pt_cmpR (r := rNeD K) (op_neD hr.units) (pe_callTy call_list_of (by rfl) B.list boot_list (pa_cons (pe_pr o_p_runs SC (hr.mono (by decide)) (pv 2)) pa_nil)) (pv 7) (nomark _)) (pw_or1 (pt_cmpR op_ne (pe_callB (call_lenOwn o_m_len (hr.mono (by decide))) (by rfl) B.len boot_len (pa_cons (pv 2) pa_nil)) (pe_callB call_len_seq (by rfl) B.len boot_len (pa_cons (pv 7) pa_nil)) (nomark _))))) (pss_one (ps_ret pe_bl)) pss_nil) (pss_cons (ps_set (i := 8) sc_lright.nd rfl (Or.inl rfl) (pe_ok o__law_due (hr.mono (by decide)) (by rfl) pass0 (pa_cons (pv 11) (pa_cons (pv 7) (pa_cons (pv 5) (pa_cons (pv 6) pa_nil)))))) (pss_cons (ps_if (PW.pt (pw_or (pt_cmpR op_ne (pe_callN FR (hr.mono (by decide)) (by rfl) mR kR nR pass0 (pa_cons (pv 2) (pa_cons (pv 5) pa_nil)) (pk_cons (pv 6) pk_nil)) (pv 8) (nomark _)) (pw_or1 (pt_cmpR op_ne (pe_call FR (hr.mono (by decide)) (by rfl) mR kR bR dR pass0 (pa_cons (pv 2) (pa_cons (pv 5) pa_nil))) (pe_ok o__law_due (hr.mono (by decide)) (by rfl) pass0 (pa_cons (pv 11) (pa_cons (pv 7) (pa_cons (pv 5) (pa_cons (pe_tup pa_nil) pa_nil))))) (nomark _))))) (pss_one (ps_ret pe_bl)) pss_nil) (pss_cons (ps_if (PW.pt (pw_and (pt_val (pv 8)) (pw_and1 (pt_cmpR op_lt (pe_callB call_len_seq (by rfl) B.len boot_len (pa_cons (pv 7) pa_nil)) (pe_op op_add pe_int (pe_op op_mul (pe_op op_sub (pv 11) pe_int) (pe_callB call_len_seq (by rfl) B.len boot_len (pa_cons (pv 5) pa_nil)))) (nomark _))))) (pss_one (ps_ret pe_bl)) pss_nil) (pss_cons (ps_set (i := 9) sc_lright.nd rfl (Or.inl rfl) (pe_planS rfl MKP (hr.mono (by decide)) (by rfl) takesNo (pa_cons (pv 11) (pa_cons (pv 1) (pa_cons (pe_callTy call_tuple_of (by rfl) B.tuple boot_tuple (pa_cons (pe_lc (own := [("_law_word", 14), ("_law_side", 15)]) (g := (gTup K 2 (gCons (gName 14) (gCons (gName 15) gNil)))) (tt := tYes) rfl sc_lright.nd (pi_tup (pe_pr o_p_rows SC (hr.mono (by decide)) (pv 2))) (blkOk_by (N := ["_law_pot_here", "_law_names", "_law_plan_here", "_law_words_here", "_law_cut", "_law_wanted", "_law_beside", "_law_runs_here", "_law_due_here", "_law_turned", "_law_at", "_law_p", "_law_many", "_law_fewer", "_law_word", "_law_side"]) (sc := defScope s_lright) (by decide +kernel)) (fun _ _ _ _ _ => pg_tup rfl (pgs_cons (pg_name (i := 14) sc_lright.nd rfl (Or.inl rfl)) (pgs_cons (pg_name (i := 15) sc_lright.nd rfl (Or.inl rfl)) pgs_nil))) (fun _ _ _ _ _ => pts_nil) (fun _ _ _ _ _ => (pe_tup (pa_cons (pv 14) (pa_cons (pe_ok o__law_dip (hr.mono (by decide)) (by rfl) pass0 (pa_cons (pv 0) (pa_cons (pv 11) pa_nil))) pa_nil))))) pa_nil)) pa_nil))))) (pss_cons (ps_if (pt_cmpR op_ne (pe_callN FR (hr.mono (by decide)) (by rfl) mR kR nR pass0 (pa_cons (pv 9) (pa_cons (pv 5) pa_nil)) (pk_cons (pv 6) pk_nil)) (pv 8) (nomark _)) (pss_one (ps_ret pe_bl)) pss_nil) (pss_cons (ps_for PassesOwn.never rfl (pi_range1 (by rfl) B.range (pa_cons (pe_callB call_len_seq (by rfl) B.len boot_len (pa_cons (pe_pr o_p_rows SC (hr.mono (by decide)) (pv 2)) pa_nil)) pa_nil)) (pg_name (i := 10) sc_lright.nd rfl (Or.inl rfl)) (pss_cons (ps_set (i := 13) sc_lright.nd rfl (Or.inl rfl) (pe_planS rfl MKP (hr.mono (by decide)) (by rfl) takesNo (pa_cons (pv 11) (pa_cons (pv 1) (pa_cons (pe_op (r := rCatA K) op_catA (pe_slice (r := rSlA K) sl_tupA (pe_pr o_p_rows SC (hr.mono (by decide)) (pv 2)) po_none (po_some (pv 10))) (pe_slice (r := rSlA K) sl_tupA (pe_pr o_p_rows SC (hr.mono (by decide)) (pv 2)) (po_some (pe_op op_add (pv 10) pe_int)) po_none)) pa_nil))))) (pss_one (ps_if (PW.pt (pw_and (pt_val (pv 8)) (pw_and1 (pt_not (pt_val (pe_callN FR (hr.mono (by decide)) (by rfl) mR kR nR pass0 (pa_cons (pv 13) (pa_cons (pv 5) pa_nil)) (pk_cons (pv 6) pk_nil))))))) (pss_one (ps_ret pe_bl)) pss_nil)))) (pss_one (ps_ret (pe_and (pe_call FR (hr.mono (by decide)) (by rfl) mR kR bR dR pass0 (pa_cons (pv 2) (pa_cons (pe_tup pa_nil) pa_nil))) (pe_one (pe_callN FR (hr.mono (by decide)) (by rfl) mR kR nR pass0 (pa_cons (pv 2) (pa_cons (pe_tup pa_nil) pa_nil)) (pk_cons (pv 5) pk_nil))))))))))))))))))))), ?_⟩
  refine pq_two (Φ := fun p n => Shp p n) hp (pw_shape rfl) fun p n J1 g1 hp1 hs => ?_
  dsimp only [tSeq, tNext]
  have hpp := hs.hp.b
  obtain ⟨hN, hNl⟩ := names_cut hs.l1 hs.l5
  refine pq_set hp1 (P := fun v C => Dp K C v (.tuple ((okNames.take n).map .str))) (pw_lf (lfs_map (f := PyData.str) (fun _ => rfl) _) (pud_is (pud_tupleL (pds_one (pud_slL (pud_lst (pds_cons pud_str (pds_cons pud_str (pds_cons pud_str (pds_cons pud_str (pds_one pud_str))))) (by simp)) puo_none (puo_some (K := K) (pud_var rfl (.int (n : Int))))))) ?hcut)) fun v1 J2 g2 hp2 hv1 => ?_
  case hcut => rw [cutL_to, List.map_take]; rfl
  generalize okNames.take n = ns at hN hNl hv1
  subst hNl
  dsimp only [tSeq, tNext]
  have hl5 := hs.l5
  have hfew := hs.few
  refine pq_set hp2 (pw_lplan (T1 := T1) (T2 := T2) (CP := CP) rfl rfl rfl rfl hs hN hv1 (hT.gr (g1.trans g2))) fun v2 J3 g3 hp3 hv2 => ?_
  obtain ⟨rows, hP, hR⟩ := hv2
  dsimp only [tSeq, tNext]
  have hrl := red_len hR
  have hrf : (runsOf p ns.length rows).length ≤ 49 := runs_few hs
  have hnl : ((wordsOf p.toNat ns.length).filter normB).length ≤ 49 := by
    have h1 := List.length_filter_le normB (wordsOf p.toNat ns.length)
    rw [words_count] at h1
    omega
  refine pq_set hp3 (pw_shaken (l := (wordsOf p.toNat ns.length).filter normB) rfl (pud_call (K := K) (G := gT) (gives ⟨p, ns.length, rfl, hs, rfl⟩) (pds_cons (pud_var rfl (.int p)) (pds_one (pud_var rfl (.int (ns.length : Int))))) fun _ _ => trivial) (by omega)) fun v3 J4 g4 hp4 hv3 => ?_
  obtain ⟨lw, hperm, hv3⟩ := hv3
  dsimp only [tSeq, tNext]
  have hlw : lw.length ≤ 49 := by rw [hperm.length_eq]; exact hnl
  have hwd : ∀ u ∈ lw, WR p u ∧ u.length = ns.length := fun u hu => words_ok hs.hp (List.mem_filter.mp (hperm.mem_iff.mp hu)).1
  refine pq_set hp4 (pw_dip (K := K) rfl pud_int (by decide) (by decide)) fun v4 J5 g5 hp5 hv4 => ?_
  obtain ⟨cut0, rfl, c1, c2⟩ := hv4
  obtain ⟨cut, rfl⟩ : ∃ c : Nat, cut0 = (c : Int) := ⟨cut0.toNat, by omega⟩
  dsimp only [tSeq, tNext]
  -- wanted
  refine pq_set hp5 (P := fun v C => ∃ ws : List (List Int), (ws.length = (lw.take cut).length ∧ ∀ (i : Nat) (u w : List Int), (lw.take cut)[i]? = some u → ws[i]? = some w → Mlt p u w) ∧ Dr C v (.tuple (ws.map dW))) (pw_tupleL (Φ := fun ws : List (List Int) => ws.length = (lw.take cut).length ∧ ∀ (i : Nat) (u w : List Int), (lw.take cut)[i]? = some u → ws[i]? = some w → Mlt p u w) (enc := dW)
    ((pw_lc (rel := Mlt p) (enc := dW) (l := lw.take cut) (srcx_list (enc := dW) (pw_lw (pud_is (pud_slL (pud_var rfl (dp_gr g5 hv3)) puo_none (puo_some (K := K) (pud_var rfl (.int (cut : Int))))) ?hsl))) (by rw [List.length_take]; omega) lf_word fun u hu x J gJ hx => ⟨_, ?hw1, fun A g C c => c, ?hw3⟩).imp fun v J _ h => ?hw2)) fun v5 J6 g6 hp6 hv5 => ?_
  case hsl => rw [cutL_to, List.map_take]
  case hw1 => rfl
  case hw3 => exact pw_lsum (m := p - 1) hs.hp (hwd u (List.mem_of_mem_take hu)).1 (by have := (hwd u (List.mem_of_mem_take hu)).2; omega) (pwa_sum hpp rfl rfl rfl hx)
  case hw2 =>
    obtain ⟨bs, h1, h2, h3⟩ := h
    exact ⟨bs, ⟨h1, h2⟩, h3⟩
  obtain ⟨ws, ⟨hw1, hw2⟩, hv5⟩ := hv5
  dsimp only [tSeq, tNext]
  -- beside
  refine pq_set hp6 (P := fun v C => ∃ bs : List (List Int), (∃ m : Nat, bs.length = ((lw.take (cut + m)).drop cut).length ∧ ∀ (i : Nat) (u w : List Int), ((lw.take (cut + m)).drop cut)[i]? = some u → bs[i]? = some w → Mlt p u w) ∧ Dr C v (.tuple (bs.map dW))) (pw_tupleL (Φ := fun bs : List (List Int) => ∃ m : Nat, bs.length = ((lw.take (cut + m)).drop cut).length ∧ ∀ (i : Nat) (u w : List Int), ((lw.take (cut + m)).drop cut)[i]? = some u → bs[i]? = some w → Mlt p u w) (enc := dW)
    (pw_lcE (rel := Mlt p) (enc := dW) (l := fun m : Nat => (lw.take (cut + m)).drop cut) (srcxe_list (enc := dW) (pw_mid (K := K) (m := 4) (pw_lw (pud_var rfl (dp_gr (g5.trans g6) hv3))) (pud_var rfl (.int (cut : Int))) (pw_dip (K := K) rfl pud_int (by decide) (by decide)))) (fun m => by rw [List.length_drop, List.length_take]; omega) lf_word fun m u hu x J gJ hx => ⟨_, ?hb1, fun A g C c => c, ?hb3⟩)) fun v6 J7 g7 hp7 hv6 => ?_
  case hb1 => rfl
  case hb3 => exact pw_lsum (m := p - 1) hs.hp (hwd u (List.mem_of_mem_take (List.mem_of_mem_drop hu))).1 (by have := (hwd u (List.mem_of_mem_take (List.mem_of_mem_drop hu))).2; omega) (pwa_sum hpp rfl rfl rfl hx)
  obtain ⟨bs, ⟨more, hb1, hb2⟩, hv6⟩ := hv6
  dsimp only [tSeq, tNext]
  obtain ⟨hW, hB, hno⟩ := drawn_ok hs hperm hw1 hw2 hb1 hb2
  have gP := fun {J : Hp} (g : Gr (del J3 L) J) => hP.gr g
  have hTb : ∀ H, Dp K H (.ref Tb) (.tuple []) := hTb
  have hwl : ws.length ≤ 49 := by rw [hw1, List.length_take]; omega
  have hbl : bs.length ≤ 49 := by rw [hb1, List.length_drop, List.length_take]; omega
  -- runs
  refine pq_set hp7 (P := fun v C => Dp K C v (.list ((runsOf p ns.length rows).map dW))) (pw_lw (pud_call (K := K) (G := gT) (gives ⟨p, ns.length, rows, rfl, hs, hR.ok, by omega, rfl⟩) (pds_cons (pud_var rfl (.int p)) (pds_cons (pud_var rfl (.int (ns.length : Int))) (pds_one (pud_prR rfl (hP.gr (g4.trans (g5.trans (g6.trans g7)))))))) fun _ _ => trivial)) fun v7 J8 g8 hp8 hv7 => ?_
  dsimp only [tSeq, tNext]
  have g38 := g4.trans (g5.trans (g6.trans (g7.trans g8)))
  refine pq_if (b := false) hp8 (pb_is (pb_or (pb_test (pud_neD (K := K) (pud_listT (pds_one (pud_prU rfl (hP.gr g38)))) (pud_var rfl hv7) shaped_words shaped_words)) fun _ => pb_test (pud_neI (K := K) (pud_lenOwn rfl (hP.gr g38) hN hs.hp hR (by omega)) (pud_lenL (pds_one (pud_var rfl hv7))))) ?hb0) nofun fun _ J9 g9 hp9 => ?_
  case hb0 => rw [eqv_words, List.length_map]; simp
  dsimp only [tSeq, tNext]
  have hrw : ∀ r ∈ runsOf p ns.length rows, WR p r := fun r hr => ((mem_runs hs.hp).mp hr).wr
  have hw5 : ∀ u ∈ ws, u.length ≤ 1000 := fun u hu => by have := hW.len u hu; omega
  have hb5 : ∀ u ∈ bs, u.length ≤ 1000 := fun u hu => by have := hB.len u hu; omega
  -- due
  refine pq_set hp9 (P := fun v C => Dp K C v (.bool (dueOf p (runsOf p ns.length rows) ws bs))) (pw_lf rfl (pud_ldue (pds_cons (pud_var rfl (.int p)) (pds_cons (pud_var rfl (dp_gr g9 hv7)) (pds_cons (pud_var rfl (dr_dp (dr_gr (g7.trans (g8.trans g9)) hv5))) (pds_one (pud_var rfl (dr_dp (dr_gr (g8.trans g9) hv6))))))) hs.hp hw5 hb5 hrw (by omega) (by omega) (by omega))) fun v8 J10 g10 hp10 hv8 => ?_
  have e8 := dp_bl hv8
  subst e8
  dsimp only [tSeq, tNext]
  have g10' := g9.trans g10
  have w10 := dr_gr (g7.trans (g8.trans g10')) hv5
  have b10 := dr_gr (g8.trans g10') hv6
  have r10 := dp_gr g10' hv7
  have hRI : RightIn K T1 T2 CP (del J10 L) v2 p ns rows ws bs := ⟨hP.gr (g38.trans g10'), hN, hs.hp, hR, hW, hB, hno, hT.gr (g1.trans (g2.trans (g3.trans (g38.trans g10'))))⟩
  have hdue := right_due hs.hp hR hW hB hno
  have hdue0 := right_due hs.hp hR hW wds_nil (bs := []) nofun
  generalize hd : dueOf p (runsOf p ns.length rows) ws bs = due at *
  refine pq_if (b := false) hp10 (pb_is (pb_or (pb_test (pud_neB (K := K) (pud_right3 rfl hRI (tupw_var rfl w10) (tupw_var rfl b10) rfl rfl) (pud_var rfl (.bl due)))) fun _ => pb_test (pud_neB (K := K) (pud_right2 hTb rfl hRI.only (tupw_var rfl w10)) (pud_ldue (bs := []) (pds_cons (pud_var rfl (.int p)) (pds_cons (pud_var rfl r10) (pds_cons (pud_var rfl (dr_dp w10)) (pds_one (pud_tup pds_nil (by simp)))))) hs.hp hw5 nofun hrw (by omega) (by omega) (by simp)))) ?hb1) nofun fun _ J11 g11 hp11 => ?_
  case hb1 => rw [hdue, hdue0]; simp
  dsimp only [tSeq, tNext]
  have hmany : due = true → 1 + (p - 1) * (ws.length : Int) ≤ ((runsOf p ns.length rows).length : Int) := fun e => by
    have h1 := due_runs hs.hp hR (fun u hu => hW.wd hu) (hd.trans e)
    have h2 : (((p - 1).toNat : Nat) : Int) = p - 1 := by omega
    have h3 : ((1 + (p - 1).toNat * ws.length : Nat) : Int) ≤ ((runsOf p ns.length rows).length : Int) := by exact_mod_cast h1
    rw [Int.natCast_add, Int.natCast_mul, h2] at h3
    exact h3
  refine pq_if (b := false) hp11 (pb_is (pb_and (pb_test (K := K) (pud_var rfl (.bl due))) fun e => pb_test (K := K) (pud_opI (g := fun i j => .bl (decide (i < j))) (dv := .bool (decide (((runsOf p ns.length rows).length : Int) < 1 + (p - 1) * (ws.length : Int)))) (pud_is (pud_lenL (pds_one (pud_var rfl (dp_gr g11 r10)))) (by rw [List.length_map])) (pud_add pud_int (pud_mul (pud_sub (pud_var rfl (.int p)) pud_int) (pud_is (pud_lenT (pds_one (pud_var rfl (dr_dp (dr_gr g11 w10))))) (by rw [List.length_map])) (mulR (by omega)))) fun _ => .bl _)) ?hb2) nofun fun _ J12 g12 hp12 => ?_
  case hb2 =>
    cases e : due with
    | false => rfl
    | true => rw [decide_eq_false (by have := hmany e; omega)]; rfl
  dsimp only [tSeq, tNext]
  have g12' := g11.trans g12
  have R12 := hRI.gr g12'
  -- turned
  refine pq_set hp12 (pw_planR (Φ := fun r => rows.map (·.1) = r.map (·.1) ∧ ∀ q ∈ r, 0 ≤ q.2 ∧ q.2 < p) hs ?hargs R12.tt hN fun r hr => red_side hR hr.1 hr.2) fun v9 J13 g13 hp13 hv9 => ?_
  case hargs =>
    refine pwa_imp (pwa_cons (pw_lf (K := K) (d := .int p) rfl (pud_var rfl (.int p))) (fun _ _ _ g h => dp_gr g h) (pwa_cons (pw_lf (K := K) (d := .tuple (ns.map .str)) (lfs_map (f := PyData.str) (fun _ => rfl) ns) (pud_var rfl (dp_gr (g3.trans (g38.trans (g10'.trans g12'))) hv1))) (fun _ _ _ g h => dp_gr g h) (pwa_cons (P := fun v C => ∃ r : List Row, (rows.map (·.1) = r.map (·.1) ∧ ∀ q ∈ r, 0 ≤ q.2 ∧ q.2 < p) ∧ Dp K C v (.tuple (r.map Km.dR)))
      (pw_tupleD (K := K) (enc := Km.dR) (Φ := fun r : List Row => rows.map (·.1) = r.map (·.1) ∧ ∀ q ∈ r, 0 ≤ q.2 ∧ q.2 < p) ((pw_lcD (K := K) (rel := fun a b : Row => a.1 = b.1 ∧ 0 ≤ b.2 ∧ b.2 < p) (enc := Km.dR) (srcx_e (srcx_tup (K := K) (l := rows) (enc := Km.dR) (pw_lf (lfs_map lf_row rows) (pud_prR rfl R12.plan)))) (fun _ => by omega) lf_row ?ht).imp ?hi)) (fun _ _ _ g h => ?hm) pwa_nil))) ?hv
    case ht =>
      intro m a ha x J gJ hx
      obtain ⟨T, y, rfl, hT3, hy⟩ := dp_row hx
      refine ⟨_, ?_, fun A g C c => ⟨T, [y, .int a.2], rfl, g.sqT hT3, rfl, y, [.int a.2], rfl, .int a.2, [], rfl, rfl, c⟩, ?_⟩
      · rfl
      · refine pw_tupE (A := fun vs C => ∃ b : Int, (0 ≤ b ∧ b < p) ∧ DpAll K C vs [dW a.1, .int b]) (pwa_imp (pwa_cons (pw_lf (K := K) (lf_word a.1) (pud_var rfl hy)) (fun _ _ _ g h => dp_gr g h) (pwa_cons (pw_dip (K := K) rfl (pud_var rfl (.int p)) (by omega) (by omega)) (fun _ _ _ g h => h) pwa_nil)) ?_) ?_ ?_
        · rintro vs C ⟨v, r, rfl, h1, v', r', rfl, ⟨b, rfl, h2, h3⟩, rfl⟩
          exact ⟨b, ⟨h2, h3⟩, .cons h1 (dps_one (.int b))⟩
        · rintro vs C ⟨b, _, h⟩; rw [dps_len h]; simp
        · rintro vs C D x ⟨b, hb, h⟩ g hx
          exact ⟨(a.1, b), ⟨rfl, hb⟩, .tup (SqT.of hx) (dps_gr g h)⟩
    case hi =>
      rintro v J _ ⟨r, ⟨_, h1, h2⟩, h3⟩
      have hl : r.length = rows.length := h1
      refine ⟨r, ⟨?_, fun q hq => ?_⟩, h3⟩
      · refine List.ext_getElem (by simp [hl]) fun i h4 h5 => ?_
        simp only [List.length_map] at h4 h5
        rw [List.getElem_map, List.getElem_map]
        exact (h2 i _ _ (List.getElem?_eq_getElem h4) (List.getElem?_eq_getElem h5)).1
      · obtain ⟨i, hi, rfl⟩ := List.getElem_of_mem hq
        exact (h2 i _ _ (List.getElem?_eq_getElem (by omega)) (List.getElem?_eq_getElem hi)).2
    case hm =>
      obtain ⟨r, h1, h2⟩ := h
      exact ⟨r, h1, dp_gr g h2⟩
    case hv =>
      rintro vs C ⟨v, r, rfl, h1, v', r', rfl, h2, v'', r'', rfl, ⟨q, hq, h3⟩, rfl⟩
      exact ⟨q, hq, .cons h1 (.cons h2 (dps_one h3))⟩
  obtain ⟨tr, ⟨ht1, ht2⟩, hPt⟩ := hv9
  dsimp only [tSeq, tNext]
  have R13 := R12.gr g13
  have w13 := dr_gr (g12'.trans g13) w10
  have b13 := dr_gr (g12'.trans g13) b10
  have hRt := red_side hR ht1 ht2
  have RT : RightIn K T1 T2 CP (del J13 L) v9 p ns tr ws bs := ⟨hPt, hN, hs.hp, hRt, hW, hB, hno, R13.tt⟩
  refine pq_if (b := false) hp13 (pb_is (pb_test (pud_neB (K := K) (pud_right3 rfl RT (tupw_var rfl w13) (tupw_var rfl b13) rfl rfl) (pud_var rfl (.bl due)))) ?hb3) nofun fun _ J14 g14 hp14 => ?_
  case hb3 => rw [← right_side ht1, hdue]; simp
  dsimp only [tSeq, tNext]
  have R14 := R13.gr g14
  have w14 := dr_gr g14 w13
  have b14 := dr_gr g14 b13
  -- without one row
  refine pq_forR (m := (rows.length : Int) + 1) hp14 ((pw_int (K := K) (i := (rows.length : Int)) (pud_is (pud_lenT (pds_one (pud_prR rfl R14.plan))) (by rw [List.length_map]))).imp fun v J _ h => ⟨_, h, by omega, by omega⟩) (by omega)
    (fun i σ C => ∃ x10 x13, σ = [some (.ref L), some v1, some v2, some v3, some (.int (cut : Int)), some v5, some v6, some v7, some (.bl due), some v9, x10, some (.int p), some (.int (ns.length : Int)), x13, none, none]) (fun H1 g hp => ⟨none, none, rfl⟩) ?step ?done
  case step =>
    rintro i hi σ A gA hpA ⟨x10, x13, rfl⟩
    have RA := R14.gr gA
    have hsub : (rows.take i ++ rows.drop (i + 1)).Sublist rows := by
      rw [← List.eraseIdx_eq_take_drop_succ]; exact List.eraseIdx_sublist _ _
    refine pq_set (σ := [some (.ref L), some v1, some v2, some v3, some (.int (cut : Int)), some v5, some v6, some v7, some (.bl due), some v9, some (.int (0 + (i : Int))), some (.int p), some (.int (ns.length : Int)), x13, none, none]) hpA (pw_planR (Φ := fun r => r = rows.take i ++ rows.drop (i + 1)) hs (pwa_imp (pwa_of (ds := [.int p, .tuple (ns.map .str), .tuple ((rows.take i ++ rows.drop (i + 1)).map Km.dR)]) (pds_cons (pud_var rfl (.int p)) (pds_cons (pud_var rfl (dp_gr (g3.trans (g38.trans (g10'.trans (g12'.trans (g13.trans (g14.trans gA)))))) hv1)) (pds_one (pud_is (pud_catT (pud_slT (pud_prR rfl RA.plan) puo_none (puo_some (K := K) (pud_var rfl (.int (0 + (i : Int)))))) (pud_slT (pud_prR rfl RA.plan) (puo_some (K := K) (pud_add (pud_var rfl (.int (0 + (i : Int)))) pud_int)) puo_none) ?hlen) ?hcat)))) (lfs3 ns _)) fun vs C h => ⟨_, rfl, h⟩) RA.tt hN fun r hr => by subst hr; exact hR.sub hsub) fun v13 J15 g15 hp15 hv13 => ?_
    case hlen =>
      rw [Int.zero_add, cutL_to, show (i : Int) + 1 = ((i + 1 : Nat) : Int) by omega, cutL_from, List.length_take, List.length_drop, List.length_map]; omega
    case hcat =>
      rw [Int.zero_add, cutL_to, show (i : Int) + 1 = ((i + 1 : Nat) : Int) by omega, cutL_from, List.map_append, List.map_take, List.map_drop]
    obtain ⟨r, rfl, hPf⟩ := hv13
    dsimp only [tSeq, tNext]
    have hRf := hR.sub hsub
    have RF : RightIn K T1 T2 CP (del J15 L) v13 p ns (rows.take i ++ rows.drop (i + 1)) ws bs := ⟨hPf, hN, hs.hp, hRf, hW, hB, hno, (RA.gr g15).tt⟩
    refine pq_if (b := false) hp15 (pb_is (pb_and (pb_test (K := K) (pud_var rfl (.bl due))) fun e => pb_not (pb_test (pud_right3 rfl RF (tupw_var rfl (dr_gr (gA.trans g15) w14)) (tupw_var rfl (dr_gr (gA.trans g15) b14)) rfl rfl))) ?hb4) nofun fun _ J16 g16 hp16 => ?_
    case hb4 =>
      cases e : due with
      | false => rfl
      | true => rw [right_mono hs.hp hRf hR (fun r hr => hsub.subset hr) hW hB (hdue.trans e)]; rfl
    exact ⟨gA.trans (g15.trans g16), hp16, _, _, rfl⟩
  case done =>
    rintro n hn σ A gA hpA ⟨x10, x13, rfl⟩
    have RA := R14.gr gA
    refine pq_ret hpA (pw_lf (K := K) (d := .bool true) rfl (pud_is (pud_and (pud_right2 hTb rfl RA.none tupw_nil) fun _ => pud_right3 rfl RA.turn tupw_nil (tupw_var rfl (dr_gr gA w14)) rfl rfl) ?hb5)) fun v J g hpJ hv => ?_
    case hb5 => rw [right_none, right_none]; rfl
    have ev := dp_bl hv
    subst ev
    exact k J (g1.trans (g2.trans (g3.trans (g38.trans (g10'.trans (g12'.trans (g13.trans (g14.trans (gA.trans g)))))))))
end
end Km
set_option Elab.async false
set_option linter.all false
set_option maxRecDepth 100000
set_option maxHeartbeats 4000000
set_option autoImplicit false
namespace Km
open PySem PySem.Spec PyProof.Rows L2 StX SlX
section
variable {K : PySem.W.Frag} {σ : L2.St} {H : Hp} {te ta tb : TE} {t : TA} {T1 T2 CP CR : Addr}
theorem pu_plan0 {p : Int} {ns : List Str} {rows : List Row} (h : PuDs K t σ H [.int p, .tuple (ns.map .str), .tuple (rows.map dR)]) (hT : TT T1 T2 H) (hN : NamesOk ns) (hI : RowsIn p ns.length rows) (hR : Red p ns.length rows) :
    Pu (tMakeS CP (spPlanInit K T1 T2 CP CR) (WE Wno) t) σ H fun v J => PlanIs K CP J v p ns rows := fun H1 e Q q => h H1 e _ fun vs J g1 hv x dx hx hdx hne => by
  obtain ⟨v1, v2, v3, rfl, d1, d2, d3⟩ := dps3 hv
  refine ⟨J, x, dx, v1, v2, v3, p, ns, rows, rfl, (Gr.new hdx).trans (.new (by rw [upd_ne hne.symm]; exact hx)), hx, hdx, hne, upd_same, by rw [upd_ne hne]; exact upd_same, hT.gr (e.trans g1), hv, hN, hI, fun e B gb hP => ?_, fun e B d gb => ?_⟩
  · rw [redGo_of_red hI.prm hR] at hP
    exact ⟨rfl, q _ B (g1.trans gb) hP⟩
  · rw [redGo_of_red hI.prm hR] at e
    exact absurd rfl e
theorem pur_slT {ds : List PyData} {tl tu : TO} {lo hi : Option Int} (h : PuR te σ H (.tuple ds)) (h1 : PuO tl σ H lo) (h2 : PuO tu σ H hi) : PuR (L2.tSl (rSlA K) te tl tu) σ H (.tuple (cutL ds lo hi)) :=
  fun H1 e Q q => h H1 e _ fun v J g1 p => h1 J (e.trans g1) _ fun J2 g2 => h2 J2 (e.trans (g1.trans g2)) _ fun J3 g3 => by
    obtain ⟨a, xs, rfl, s, t⟩ := dr_tup (dr_gr (g2.trans g3) p)
    refine ⟨a, xs, rfl, SqT.of s, fun hw => q _ _ (g1.trans (g2.trans g3)) ?_, fun _ x hx => q _ _ (g1.trans (g2.trans (g3.trans (.new hx)))) (.tup upd_same (drs_cut (drs_gr (.new hx) t)))⟩
    rw [drs_len t] at hw
    rw [cut_whole hw]
    exact .tup s t
theorem pud_min2 {i j : Int} (h1 : PuD K ta σ H (.int i)) (h2 : PuD K tb σ H (.int j)) : PuD K (tCB (fun xs H Q => ∃ i j, xs = [.int i, .int j] ∧ Q (.int (if j < i then j else i)) H) (tCons ta (tCons tb tNil))) σ H (.int (if j < i then j else i)) :=
  fun H1 e Q q => h1 H1 e _ fun v J g p => h2 J (e.trans g) _ fun w J2 g2 p2 => ⟨i, j, by rw [dp_int p, dp_int p2], q _ J2 (g.trans g2) (.int _)⟩
theorem pua_int {i : Int} (h : PuD K te σ H (.int i)) : PuA (tCons te tNil) σ H fun vs _ => vs = [.int i] := fun H1 e Q q => h H1 e _ fun v J g p => q [v] J g (by rw [dp_int p])
theorem pu_lright {ns : List Int} {k : Nat} {v0 : V} {i j : Nat} (h0 : σ[i]? = some (some v0)) (h1 : σ[j]? = some (some (.int (k : Int)))) (hd : Dp K H v0 (.list (ns.map .int))) (hk : k ≤ 10) (hT : TT T1 T2 H) :
    PuD K (tCall (spLRight T1 T2) [] E0 (tCons (tCall (spPot K) [] E0 (tCons (tVar i) (tCons (tVar j) tNil))) tNil)) σ H (.bool true) := fun H1 e Q q =>
  ⟨v0, h0, _, h1, ns, k, .cons (dp_gr e hd) (dps_one (.int _)), hk, fun L J g hp => ⟨L, rfl, hp, hT.gr (e.trans g), fun J2 g2 => q _ J2 ((g.trans g2).trans gr_und) (.bl true)⟩⟩
end
section
variable {P : Program} {w : World} {K : PySem.W.Frag} {mg : Str → Option Value} {base : Heap} {T1 T2 c1 c2 CP CR fR cda cc : Addr}
def spLaw (K : PySem.W.Frag) (T1 T2 : Addr) : Sp := fun vs H Q _ => ∃ (v : V) (ns : List Int), vs = [v] ∧ Dp K H v (.list (ns.map .int)) ∧ TT T1 T2 H ∧ ∀ J, Q (.bl true) J
abbrev s_law : Stmt := top 63
theorem sc_law : FnScope ["_law_script", "_law_at", "_law_half", "_law_mains", "_law_told"] ["_law_script"] (defScope s_law) := ⟨rfl, rfl, rfl, by decide +kernel, rfl, by decide +kernel, by decide +kernel⟩
theorem ok_law (B : Bl mg) (SC : SCls K CP) (o__law_right : Ok P w K mg base CX0 9 "_law_right" ["_law_pot_here"] (spLRight T1 T2)) (o__law_pot : Ok P w K mg base CX0 1 "_law_pot" ["_law_script", "_law_at"] (spPot K)) (OR : OkB P w K mg base 6 (spIsRight K T1 T2 CP)) (MKP : PMkOk P w K mg base T1 T2 CP CR)
    {f : Addr} {fd : FuncData} (F : Fun K "law" "law" s_law f fd) : FnOk P w K mg base CX0 10 f fd ["_law_script"] (spLaw K T1 T2) := by
  refine F.ok sc_law (fun vs H Q E h => by obtain ⟨_, _, rfl, _⟩ := h; rfl) ?_
  rintro cdv A outer s H vs Q E hr ⟨v0, nums, rfl, h0, hT, k⟩
  obtain ⟨fR, fdR, Tb, mR, kR, ⟨dsR, dR, bR⟩, nR, FR, hTb⟩ := OR.ex
  refine ⟨_, (pss_cons (ps_for PassesOwn.never rfl (pi_range1 (by rfl) B.range (pa_cons (pe_callB (call_max2 rfl) (by rfl) B.max boot_max (pa_cons pe_int (pa_cons (pe_callB (call_min2 rfl) (by rfl) B.min boot_min (pa_cons pe_int (pa_cons (pe_callB call_len_seq (by rfl) B.len boot_len (pa_cons (pv 0) pa_nil)) pa_nil))) pa_nil))) pa_nil)) (pg_name (i := 1) sc_law.nd rfl (Or.inl rfl)) (pss_one (ps_if (pt_not (pt_val (pe_ok o__law_right (hr.mono (by decide)) (by rfl) pass0 (pa_cons (pe_ok o__law_pot (hr.mono (by decide)) (by rfl) pass0 (pa_cons (pv 0) (pa_cons (pv 1) pa_nil))) pa_nil)))) (pss_one (ps_ret pe_bl)) pss_nil))) (pss_cons (ps_set (i := 2) sc_law.nd rfl (Or.inl rfl) (pe_planS rfl MKP (hr.mono (by decide)) (by rfl) takesNo (pa_cons pe_int (pa_cons (pe_tup (pa_cons pe_str (pa_cons pe_str (pa_cons pe_str pa_nil)))) (pa_cons (pe_tup (pa_cons (pe_tup (pa_cons (pe_tup (pa_cons pe_int (pa_cons pe_int (pa_cons pe_int pa_nil)))) (pa_cons pe_int pa_nil))) pa_nil)) pa_nil))))) (pss_cons (ps_set (i := 3) sc_law.nd rfl (Or.inl rfl) (pe_tup (pa_cons (pe_tup (pa_cons pe_int (pa_cons pe_int (pa_cons pe_int pa_nil)))) (pa_cons (pe_tup (pa_cons pe_int (pa_cons pe_int (pa_cons pe_int pa_nil)))) (pa_cons (pe_tup (pa_cons pe_int (pa_cons pe_int (pa_cons pe_int pa_nil)))) pa_nil))))) (pss_cons (ps_set (i := 4) sc_law.nd rfl (Or.inl rfl) (pe_lst (pa_cons (pe_call FR (hr.mono (by decide)) (by rfl) mR kR bR dR pass0 (pa_cons (pv 2) (pa_cons (pv 3) pa_nil))) (pa_cons (pe_callN FR (hr.mono (by decide)) (by rfl) mR kR nR pass0 (pa_cons (pv 2) (pa_cons (pv 3) pa_nil)) (pk_cons (pe_tup (pa_cons (pe_tup (pa_cons pe_int (pa_cons pe_int (pa_cons pe_int pa_nil)))) pa_nil)) pk_nil)) (pa_cons (pe_call FR (hr.mono (by decide)) (by rfl) mR kR bR dR pass0 (pa_cons (pv 2) (pa_cons (pe_tup (pa_cons (pe_tup (pa_cons pe_int (pa_cons pe_int (pa_cons pe_int pa_nil)))) pa_nil)) pa_nil))) (pa_cons (pe_call FR (hr.mono (by decide)) (by rfl) mR kR bR dR pass0 (pa_cons (pv 2) (pa_cons (pe_slice (r := rSlA K) sl_tupA (pv 3) po_none (po_some pe_int)) pa_nil))) pa_nil)))))) (pss_one (ps_ret (pe_cmpR (r := rEqD K) (op_eqD hr.units) (pv 4) (pe_lst (pa_cons pe_bl (pa_cons pe_bl (pa_cons pe_bl (pa_cons pe_bl pa_nil))))) (nomark _)))))))), ?_⟩
  have hr3 : ∃ n : Nat, (if (if (nums.length : Int) < 3 then (nums.length : Int) else 3) > 1 then (if (nums.length : Int) < 3 then (nums.length : Int) else 3) else 1) = (n : Int) ∧ n ≤ 3 := by
    refine ⟨(if (if (nums.length : Int) < 3 then (nums.length : Int) else 3) > 1 then (if (nums.length : Int) < 3 then (nums.length : Int) else 3) else 1 : Int).toNat, ?_, ?_⟩ <;> split <;> split <;> omega
  obtain ⟨n, en, hn3⟩ := hr3
  refine sq_for (l := List.range n) (R := fun i x _ => x = .int (i : Int)) (fun i σ A => ∃ x1, σ = [some v0, x1, none, none, none]) (src_rng1 (n := n) (pua_int (K := K) (pud_is (pud_max2 pud_int (pud_min2 pud_int (pud_is (pud_lenL (pds_one (pud_var rfl h0))) (d2 := .int (nums.length : Int)) (by rw [List.length_map])))) (by rw [en]))) (by omega)) (fun H1 g => ⟨none, rfl⟩) ?_ ?_
  · rintro H1 g1 i a hia σ A gA ⟨x1, rfl⟩ x J gJ rfl
    have hi : a < n := List.mem_range.mp (List.mem_of_getElem? hia)
    have gAll := g1.trans (gA.trans gJ)
    refine sq_if (σ := [some v0, some (.int (a : Int)), none, none, none]) (b := false) (pb_is (pb_not (pb_test (pu_lright rfl rfl (dp_gr gAll h0) (by omega) (hT.gr gAll)))) rfl) nofun fun _ J2 g2 => ?_
    exact ⟨gA.trans (gJ.trans g2), _, rfl⟩
  · rintro H1 g1 σ A gA ⟨x1, rfl⟩
    dsimp only [tSeq, tNext]
    have gAll := g1.trans gA
    have hN : NamesOk ["a", "b", "c"] := ⟨by decide +kernel, by decide +kernel, by decide, by decide⟩
    have hprm : Prm 2 := .inl rfl
    have hI : RowsIn 2 (["a", "b", "c"] : List Str).length [([1, 1, 1], 1)] := ⟨hprm, by decide, half_red.ok, by decide⟩
    have hw3 : ∀ (a b c : Int) (σ : L2.St) (H : Hp), PuR (tTup (tCons (tC (.int a)) (tCons (tC (.int b)) (tCons (tC (.int c)) tNil)))) σ H (dW [a, b, c]) := fun a b c σ H => pur_tup (prs_cons pur_int (prs_cons pur_int (prs_one pur_int))) (by simp)
    refine sq_set (pu_plan0 (T1 := T1) (T2 := T2) (CP := CP) (CR := CR) (p := 2) (ns := ["a", "b", "c"]) (rows := [([1, 1, 1], 1)]) (pds_cons pud_int (pds_cons (pud_tup (pds_cons pud_str (pds_cons pud_str (pds_one pud_str))) (by simp)) (pds_one (pud_tup (pds_one (pud_tup (pds_cons (pur_d (hw3 1 1 1 _ _)) (pds_one pud_int)) (by simp))) (by simp))))) (hT.gr gAll) hN hI half_red) fun v2 J2 g2 hP => ?_
    dsimp only [tSeq, tNext]
    refine sq_set (P := fun v J => Dr J v (.tuple (([[1, 0, 0], [0, 1, 0], [0, 0, 1]] : List (List Int)).map dW))) (pur_tup (prs_cons (hw3 1 0 0 _ _) (prs_cons (hw3 0 1 0 _ _) (prs_one (hw3 0 0 1 _ _)))) (by simp)) fun v3 J3 g3 hv3 => ?_
    dsimp only [tSeq, tNext]
    obtain ⟨w1, w2, w3, w4, w5⟩ := half_wds
    have hT3 := hT.gr (gAll.trans (g2.trans g3))
    have hP3 := hP.gr g3
    have hln : (["a", "b", "c"] : List Str).length = 3 := rfl
    have R1 : RightIn K T1 T2 CP J3 v2 2 ["a", "b", "c"] [([1, 1, 1], 1)] [[1, 0, 0], [0, 1, 0], [0, 0, 1]] [[0, 1, 1]] := ⟨hP3, hN, hprm, half_red, w1, w2, by decide +kernel, hT3⟩
    have R3 : RightIn K T1 T2 CP J3 v2 2 ["a", "b", "c"] [([1, 1, 1], 1)] [[1, 1, 1]] [] := ⟨hP3, hN, hprm, half_red, w3, wds_nil, nofun, hT3⟩
    have R4 : RightIn K T1 T2 CP J3 v2 2 ["a", "b", "c"] [([1, 1, 1], 1)] [[1, 0, 0], [0, 1, 0]] [] := ⟨hP3, hN, hprm, half_red, w4, wds_nil, nofun, hT3⟩
    refine sq_set (P := fun v J => Dp K J v (.list (([true, false, false, true] : List Bool).map .bool))) (pud_lst (pds_cons (pud_is (pud_right2 hTb rfl R1.only (tupw_var rfl hv3)) (by rw [half_1])) (pds_cons (pud_is (pud_right3 rfl R1 (tupw_var rfl hv3) (Pu.imp (pur_tup (ds := ([[0, 1, 1]] : List (List Int)).map dW) (prs_one (hw3 0 1 1 _ _)) (by simp)) fun _ _ _ h => .inl h) rfl rfl) (by rw [half_2])) (pds_cons (pud_is (pud_right2 hTb rfl R3 (Pu.imp (pur_tup (ds := ([[1, 1, 1]] : List (List Int)).map dW) (prs_one (hw3 1 1 1 _ _)) (by simp)) fun _ _ _ h => .inl h)) (by rw [half_3])) (pds_one (pud_is (pud_right2 hTb rfl R4 (Pu.imp (pur_slT (hi := some 2) (pur_var rfl hv3) puo_none (puo_some (K := K) pud_int)) fun v J _ h => .inl ?hcut)) (by rw [half_4])))))) (by simp)) fun v4 J4 g4 hv4 => ?_
    case hcut =>
      rw [show (some 2 : Option Int) = some ((2 : Nat) : Int) from rfl, cutL_to] at h
      exact h
    dsimp only [tSeq, tNext]
    refine sq_ret (pud_is (pud_eqD (K := K) (d1 := .list (([true, false, false, true] : List Bool).map .bool)) (d2 := .list (([true, false, false, true] : List Bool).map .bool)) (pud_var rfl hv4) (pud_lst (pds_cons pud_bl (pds_cons pud_bl (pds_cons pud_bl (pds_one pud_bl)))) (by simp)) (by decide +kernel) (by decide +kernel)) (d2 := .bool true) (by simp [PyData.eqv, PyData.eqvAll])) fun v J5 g5 hv => ?_
    have ev := dp_bl hv
    subst ev
    exact k J5
end
end Km
set_option Elab.async false
set_option linter.all false
set_option maxRecDepth 100000
set_option maxHeartbeats 4000000
set_option autoImplicit false
namespace Km
open PySem PySem.Spec PyProof.Rows L2 StX SlX
/-! what the top has left -/
section
variable {K : PySem.W.Frag} {mg : Str → Option Value} {h : Heap}
theorem df_mk {x : Str} {st : Stmt} {ps : List Str} {f : Addr} {oc : Value} {od an : Option Addr} {kV dc pm cd ct : Value} {sl : Array (Option Value)} (X : K.In h) (G : h.Ns mainGlobals mg) (a : PySem.W.nsIn K mainGlobals x = some (some (.ref f)))
    (l : K.lookup f = some ⟨oc, od, .func (PySem.W.fnOf x x (defArgs st) (defBody st) (defScope st) .none kV dc pm an cd ct), sl⟩) (c : PySem.W.codeIn K cd x = true) (k : PySem.W.keepIn K (.ref f) = true)
    (b : ∀ (kV doc pm : Value) (an : Option Addr) (cdv ct : Value) (us : List Value), us.length = ps.length → bindArgs (PySem.W.fnOf x x (defArgs st) (defBody st) (defScope st) .none kV doc pm an cdv ct) ⟨us, []⟩ = pure (ps.zip us)) : Df K mg x st ps :=
  ⟨f, _, PySem.W.mg_of X G a, fun_mk l c k, (fun_mk l c k).binds b⟩
theorem dg_mk {x : Str} {st : Stmt} {ps : List Str} {f c : Addr} {oc : Value} {od an : Option Addr} {kV dc pm ct : Value} {sl : Array (Option Value)} (X : K.In h) (G : h.Ns mainGlobals mg) (a : PySem.W.nsIn K mainGlobals x = some (some (.ref f)))
    (l : K.lookup f = some ⟨oc, od, .func (PySem.W.fnOf x x (defArgs st) (defBody st) (defScope st) .none kV dc pm an (.ref c) ct), sl⟩) (c' : PySem.W.codeIn K (.ref c) x = true) (k : PySem.W.keepIn K (.ref f) = true)
    (b : ∀ (kV doc pm : Value) (an : Option Addr) (cdv ct : Value) (us : List Value), us.length = ps.length → bindArgs (PySem.W.fnOf x x (defArgs st) (defBody st) (defScope st) .none kV doc pm an cdv ct) ⟨us, []⟩ = pure (ps.zip us)) : DfG K mg x st ps c := by
  obtain ⟨q, hq⟩ : ∃ fd, fd = PySem.W.fnOf x x (defArgs st) (defBody st) (defScope st) .none kV dc pm an (.ref c) ct := ⟨_, rfl⟩
  exact ⟨f, oc, od, kV, dc, pm, an, ct, sl, PySem.W.mg_of X G a, l, c', k, (fun_mk l c' k).binds b⟩
theorem md_mk {C : Addr} {m qual : Str} {st : Stmt} {ps : List Str} {f : Addr} {oc : Value} {od an : Option Addr} {kV dc pm cd ct : Value} {sl : Array (Option Value)} (a : PySem.W.findIn K (.ref C) m = some (some (.ref f))) (i : PySem.W.isFn K (.ref f) = true)
    (l : K.lookup f = some ⟨oc, od, .func (PySem.W.fnOf m qual (defArgs st) (defBody st) (defScope st) .none kV dc pm an cd ct), sl⟩) (c : PySem.W.codeIn K cd qual = true) (k : PySem.W.keepIn K (.ref f) = true)
    (b : ∀ (kV doc pm : Value) (an : Option Addr) (cdv ct : Value) (us : List Value), us.length = ps.length → bindArgs (PySem.W.fnOf m qual (defArgs st) (defBody st) (defScope st) .none kV doc pm an cdv ct) ⟨us, []⟩ = pure (ps.zip us)) : MD K C m qual st ps :=
  ⟨f, _, ⟨a, i, k⟩, fun_mk l c k, (fun_mk l c k).binds b⟩
theorem pd_mk {C : Addr} {m qual : Str} {st : Stmt} {ps : List Str} {p g : Addr} {rest : List Value} {oc : Value} {od an : Option Addr} {kV dc pm cd ct : Value} {sl : Array (Option Value)} (a : PySem.W.findIn K (.ref C) m = some (some (.ref p))) (s : PySem.W.specialIn K (.ref p) "__get__" = some (some (.builtin "property.__get__"))) (t : PySem.W.takesIn K (.ref p) = some true) (r : PySem.W.recIn K p "property" = some (.ref g :: rest))
    (l : K.lookup g = some ⟨oc, od, .func (PySem.W.fnOf m qual (defArgs st) (defBody st) (defScope st) .none kV dc pm an cd ct), sl⟩) (c : PySem.W.codeIn K cd qual = true) (k : PySem.W.keepIn K (.ref g) = true)
    (b : ∀ (kV doc pm : Value) (an : Option Addr) (cdv ct : Value) (us : List Value), us.length = ps.length → bindArgs (PySem.W.fnOf m qual (defArgs st) (defBody st) (defScope st) .none kV doc pm an cdv ct) ⟨us, []⟩ = pure (ps.zip us)) : PD K C m qual st ps :=
  ⟨p, g, _, a, s, t, ⟨rest, r⟩, fun_mk l c k, (fun_mk l c k).binds b⟩
end
theorem b_lead_of : ∀ (kV doc pm : Value) (an : Option Addr) (cdv ct : Value) (us : List Value), us.length = (["word"] : List Str).length → bindArgs (PySem.W.fnOf "lead_of" "lead_of" (defArgs s_lead_of) (defBody s_lead_of) (defScope s_lead_of) .none kV doc pm an cdv ct) ⟨us, []⟩ = pure ((["word"] : List Str).zip us) := fun _ _ _ _ _ _ us hl => match us, hl with | [_], _ => rfl
theorem b_inverse_of : ∀ (kV doc pm : Value) (an : Option Addr) (cdv ct : Value) (us : List Value), us.length = (["p", "entry"] : List Str).length → bindArgs (PySem.W.fnOf "inverse_of" "inverse_of" (defArgs s_inverse_of) (defBody s_inverse_of) (defScope s_inverse_of) .none kV doc pm an cdv ct) ⟨us, []⟩ = pure ((["p", "entry"] : List Str).zip us) := fun _ _ _ _ _ _ us hl => match us, hl with | [_, _], _ => rfl
theorem b_is_integer : ∀ (kV doc pm : Value) (an : Option Addr) (cdv ct : Value) (us : List Value), us.length = (["value"] : List Str).length → bindArgs (PySem.W.fnOf "is_integer" "is_integer" (defArgs s_is_integer) (defBody s_is_integer) (defScope s_is_integer) .none kV doc pm an cdv ct) ⟨us, []⟩ = pure ((["value"] : List Str).zip us) := fun _ _ _ _ _ _ us hl => match us, hl with | [_], _ => rfl
theorem b_is_within : ∀ (kV doc pm : Value) (an : Option Addr) (cdv ct : Value) (us : List Value), us.length = (["value", "low", "high"] : List Str).length → bindArgs (PySem.W.fnOf "is_within" "is_within" (defArgs s_is_within) (defBody s_is_within) (defScope s_is_within) .none kV doc pm an cdv ct) ⟨us, []⟩ = pure ((["value", "low", "high"] : List Str).zip us) := fun _ _ _ _ _ _ us hl => match us, hl with | [_, _, _], _ => rfl
theorem b_is_run : ∀ (kV doc pm : Value) (an : Option Addr) (cdv ct : Value) (us : List Value), us.length = (["value"] : List Str).length → bindArgs (PySem.W.fnOf "is_run" "is_run" (defArgs s_is_run) (defBody s_is_run) (defScope s_is_run) .none kV doc pm an cdv ct) ⟨us, []⟩ = pure ((["value"] : List Str).zip us) := fun _ _ _ _ _ _ us hl => match us, hl with | [_], _ => rfl
theorem b_is_name : ∀ (kV doc pm : Value) (an : Option Addr) (cdv ct : Value) (us : List Value), us.length = (["value"] : List Str).length → bindArgs (PySem.W.fnOf "is_name" "is_name" (defArgs s_is_name) (defBody s_is_name) (defScope s_is_name) .none kV doc pm an cdv ct) ⟨us, []⟩ = pure ((["value"] : List Str).zip us) := fun _ _ _ _ _ _ us hl => match us, hl with | [_], _ => rfl
theorem b_are_names : ∀ (kV doc pm : Value) (an : Option Addr) (cdv ct : Value) (us : List Value), us.length = (["value"] : List Str).length → bindArgs (PySem.W.fnOf "are_names" "are_names" (defArgs s_are_names) (defBody s_are_names) (defScope s_are_names) .none kV doc pm an cdv ct) ⟨us, []⟩ = pure ((["value"] : List Str).zip us) := fun _ _ _ _ _ _ us hl => match us, hl with | [_], _ => rfl
theorem b_require_prime : ∀ (kV doc pm : Value) (an : Option Addr) (cdv ct : Value) (us : List Value), us.length = (["p"] : List Str).length → bindArgs (PySem.W.fnOf "require_prime" "require_prime" (defArgs s_require_prime) (defBody s_require_prime) (defScope s_require_prime) .none kV doc pm an cdv ct) ⟨us, []⟩ = pure ((["p"] : List Str).zip us) := fun _ _ _ _ _ _ us hl => match us, hl with | [_], _ => rfl
theorem b_is_word_in : ∀ (kV doc pm : Value) (an : Option Addr) (cdv ct : Value) (us : List Value), us.length = (["p", "many", "value"] : List Str).length → bindArgs (PySem.W.fnOf "is_word_in" "is_word_in" (defArgs s_is_word_in) (defBody s_is_word_in) (defScope s_is_word_in) .none kV doc pm an cdv ct) ⟨us, []⟩ = pure ((["p", "many", "value"] : List Str).zip us) := fun _ _ _ _ _ _ us hl => match us, hl with | [_, _, _], _ => rfl
theorem b_is_row_in : ∀ (kV doc pm : Value) (an : Option Addr) (cdv ct : Value) (us : List Value), us.length = (["p", "many", "value"] : List Str).length → bindArgs (PySem.W.fnOf "is_row_in" "is_row_in" (defArgs s_is_row_in) (defBody s_is_row_in) (defScope s_is_row_in) .none kV doc pm an cdv ct) ⟨us, []⟩ = pure ((["p", "many", "value"] : List Str).zip us) := fun _ _ _ _ _ _ us hl => match us, hl with | [_, _, _], _ => rfl
theorem b_power : ∀ (kV doc pm : Value) (an : Option Addr) (cdv ct : Value) (us : List Value), us.length = (["p", "many"] : List Str).length → bindArgs (PySem.W.fnOf "power" "power" (defArgs s_power) (defBody s_power) (defScope s_power) .none kV doc pm an cdv ct) ⟨us, []⟩ = pure ((["p", "many"] : List Str).zip us) := fun _ _ _ _ _ _ us hl => match us, hl with | [_, _], _ => rfl
theorem b_is_zero : ∀ (kV doc pm : Value) (an : Option Addr) (cdv ct : Value) (us : List Value), us.length = (["word"] : List Str).length → bindArgs (PySem.W.fnOf "is_zero" "is_zero" (defArgs s_is_zero) (defBody s_is_zero) (defScope s_is_zero) .none kV doc pm an cdv ct) ⟨us, []⟩ = pure ((["word"] : List Str).zip us) := fun _ _ _ _ _ _ us hl => match us, hl with | [_], _ => rfl
theorem b_multiple_of : ∀ (kV doc pm : Value) (an : Option Addr) (cdv ct : Value) (us : List Value), us.length = (["p", "word", "by"] : List Str).length → bindArgs (PySem.W.fnOf "multiple_of" "multiple_of" (defArgs s_multiple_of) (defBody s_multiple_of) (defScope s_multiple_of) .none kV doc pm an cdv ct) ⟨us, []⟩ = pure ((["p", "word", "by"] : List Str).zip us) := fun _ _ _ _ _ _ us hl => match us, hl with | [_, _, _], _ => rfl
theorem b_sum_with : ∀ (kV doc pm : Value) (an : Option Addr) (cdv ct : Value) (us : List Value), us.length = (["p", "word", "other", "by"] : List Str).length → bindArgs (PySem.W.fnOf "sum_with" "sum_with" (defArgs s_sum_with) (defBody s_sum_with) (defScope s_sum_with) .none kV doc pm an cdv ct) ⟨us, []⟩ = pure ((["p", "word", "other", "by"] : List Str).zip us) := fun _ _ _ _ _ _ us hl => match us, hl with | [_, _, _, _], _ => rfl
theorem b_normal_of : ∀ (kV doc pm : Value) (an : Option Addr) (cdv ct : Value) (us : List Value), us.length = (["p", "word"] : List Str).length → bindArgs (PySem.W.fnOf "normal_of" "normal_of" (defArgs s_normal_of) (defBody s_normal_of) (defScope s_normal_of) .none kV doc pm an cdv ct) ⟨us, []⟩ = pure ((["p", "word"] : List Str).zip us) := fun _ _ _ _ _ _ us hl => match us, hl with | [_, _], _ => rfl
theorem b_dot : ∀ (kV doc pm : Value) (an : Option Addr) (cdv ct : Value) (us : List Value), us.length = (["p", "word", "levels"] : List Str).length → bindArgs (PySem.W.fnOf "dot" "dot" (defArgs s_dot) (defBody s_dot) (defScope s_dot) .none kV doc pm an cdv ct) ⟨us, []⟩ = pure ((["p", "word", "levels"] : List Str).zip us) := fun _ _ _ _ _ _ us hl => match us, hl with | [_, _, _], _ => rfl
theorem b_rest_of : ∀ (kV doc pm : Value) (an : Option Addr) (cdv ct : Value) (us : List Value), us.length = (["p", "rows", "row"] : List Str).length → bindArgs (PySem.W.fnOf "rest_of" "rest_of" (defArgs s_rest_of) (defBody s_rest_of) (defScope s_rest_of) .none kV doc pm an cdv ct) ⟨us, []⟩ = pure ((["p", "rows", "row"] : List Str).zip us) := fun _ _ _ _ _ _ us hl => match us, hl with | [_, _, _], _ => rfl
theorem b_with_row : ∀ (kV doc pm : Value) (an : Option Addr) (cdv ct : Value) (us : List Value), us.length = (["p", "rows", "row"] : List Str).length → bindArgs (PySem.W.fnOf "with_row" "with_row" (defArgs s_with_row) (defBody s_with_row) (defScope s_with_row) .none kV doc pm an cdv ct) ⟨us, []⟩ = pure ((["p", "rows", "row"] : List Str).zip us) := fun _ _ _ _ _ _ us hl => match us, hl with | [_, _, _], _ => rfl
theorem b_reduced_of : ∀ (kV doc pm : Value) (an : Option Addr) (cdv ct : Value) (us : List Value), us.length = (["p", "rows"] : List Str).length → bindArgs (PySem.W.fnOf "reduced_of" "reduced_of" (defArgs s_reduced_of) (defBody s_reduced_of) (defScope s_reduced_of) .none kV doc pm an cdv ct) ⟨us, []⟩ = pure ((["p", "rows"] : List Str).zip us) := fun _ _ _ _ _ _ us hl => match us, hl with | [_, _], _ => rfl
theorem b_require_rows : ∀ (kV doc pm : Value) (an : Option Addr) (cdv ct : Value) (us : List Value), us.length = (["p", "names", "rows"] : List Str).length → bindArgs (PySem.W.fnOf "require_rows" "require_rows" (defArgs s_require_rows) (defBody s_require_rows) (defScope s_require_rows) .none kV doc pm an cdv ct) ⟨us, []⟩ = pure ((["p", "names", "rows"] : List Str).zip us) := fun _ _ _ _ _ _ us hl => match us, hl with | [_, _, _], _ => rfl
theorem b_runs_of : ∀ (kV doc pm : Value) (an : Option Addr) (cdv ct : Value) (us : List Value), us.length = (["p", "many", "rows"] : List Str).length → bindArgs (PySem.W.fnOf "runs_of" "runs_of" (defArgs s_runs_of) (defBody s_runs_of) (defScope s_runs_of) .none kV doc pm an cdv ct) ⟨us, []⟩ = pure ((["p", "many", "rows"] : List Str).zip us) := fun _ _ _ _ _ _ us hl => match us, hl with | [_, _, _], _ => rfl
theorem b_classes_in : ∀ (kV doc pm : Value) (an : Option Addr) (cdv ct : Value) (us : List Value), us.length = (["p", "many", "value"] : List Str).length → bindArgs (PySem.W.fnOf "classes_in" "classes_in" (defArgs s_classes_in) (defBody s_classes_in) (defScope s_classes_in) .none kV doc pm an cdv ct) ⟨us, []⟩ = pure ((["p", "many", "value"] : List Str).zip us) := fun _ _ _ _ _ _ us hl => match us, hl with | [_, _, _], _ => rfl
theorem b_others_in : ∀ (kV doc pm : Value) (an : Option Addr) (cdv ct : Value) (us : List Value), us.length = (["p", "many", "wanted", "value"] : List Str).length → bindArgs (PySem.W.fnOf "others_in" "others_in" (defArgs s_others_in) (defBody s_others_in) (defScope s_others_in) .none kV doc pm an cdv ct) ⟨us, []⟩ = pure ((["p", "many", "wanted", "value"] : List Str).zip us) := fun _ _ _ _ _ _ us hl => match us, hl with | [_, _, _, _], _ => rfl
theorem b_struck : ∀ (kV doc pm : Value) (an : Option Addr) (cdv ct : Value) (us : List Value), us.length = (["p", "wanted", "others"] : List Str).length → bindArgs (PySem.W.fnOf "struck_by" "struck_by" (defArgs s_struck) (defBody s_struck) (defScope s_struck) .none kV doc pm an cdv ct) ⟨us, []⟩ = pure ((["p", "wanted", "others"] : List Str).zip us) := fun _ _ _ _ _ _ us hl => match us, hl with | [_, _, _], _ => rfl
theorem b_pot : ∀ (kV doc pm : Value) (an : Option Addr) (cdv ct : Value) (us : List Value), us.length = (["_law_script", "_law_at"] : List Str).length → bindArgs (PySem.W.fnOf "_law_pot" "_law_pot" (defArgs s_pot) (defBody s_pot) (defScope s_pot) .none kV doc pm an cdv ct) ⟨us, []⟩ = pure ((["_law_script", "_law_at"] : List Str).zip us) := fun _ _ _ _ _ _ us hl => match us, hl with | [_, _], _ => rfl
theorem b_dip : ∀ (kV doc pm : Value) (an : Option Addr) (cdv ct : Value) (us : List Value), us.length = (["_law_pot_here", "_law_total"] : List Str).length → bindArgs (PySem.W.fnOf "_law_dip" "_law_dip" (defArgs s_dip) (defBody s_dip) (defScope s_dip) .none kV doc pm an cdv ct) ⟨us, []⟩ = pure ((["_law_pot_here", "_law_total"] : List Str).zip us) := fun _ _ _ _ _ _ us hl => match us, hl with | [_, _], _ => rfl
theorem b_shaken : ∀ (kV doc pm : Value) (an : Option Addr) (cdv ct : Value) (us : List Value), us.length = (["_law_pot_here", "_law_items"] : List Str).length → bindArgs (PySem.W.fnOf "_law_shaken" "_law_shaken" (defArgs s_shaken) (defBody s_shaken) (defScope s_shaken) .none kV doc pm an cdv ct) ⟨us, []⟩ = pure ((["_law_pot_here", "_law_items"] : List Str).zip us) := fun _ _ _ _ _ _ us hl => match us, hl with | [_, _], _ => rfl
theorem b_lwords : ∀ (kV doc pm : Value) (an : Option Addr) (cdv ct : Value) (us : List Value), us.length = (["_law_p", "_law_many"] : List Str).length → bindArgs (PySem.W.fnOf "_law_words" "_law_words" (defArgs s_lwords) (defBody s_lwords) (defScope s_lwords) .none kV doc pm an cdv ct) ⟨us, []⟩ = pure ((["_law_p", "_law_many"] : List Str).zip us) := fun _ _ _ _ _ _ us hl => match us, hl with | [_, _], _ => rfl
theorem b_lsum : ∀ (kV doc pm : Value) (an : Option Addr) (cdv ct : Value) (us : List Value), us.length = (["_law_p", "_law_word", "_law_other", "_law_by"] : List Str).length → bindArgs (PySem.W.fnOf "_law_sum" "_law_sum" (defArgs s_lsum) (defBody s_lsum) (defScope s_lsum) .none kV doc pm an cdv ct) ⟨us, []⟩ = pure ((["_law_p", "_law_word", "_law_other", "_law_by"] : List Str).zip us) := fun _ _ _ _ _ _ us hl => match us, hl with | [_, _, _, _], _ => rfl
theorem b_lnormals : ∀ (kV doc pm : Value) (an : Option Addr) (cdv ct : Value) (us : List Value), us.length = (["_law_p", "_law_many"] : List Str).length → bindArgs (PySem.W.fnOf "_law_normals" "_law_normals" (defArgs s_lnormals) (defBody s_lnormals) (defScope s_lnormals) .none kV doc pm an cdv ct) ⟨us, []⟩ = pure ((["_law_p", "_law_many"] : List Str).zip us) := fun _ _ _ _ _ _ us hl => match us, hl with | [_, _], _ => rfl
theorem b_ldot : ∀ (kV doc pm : Value) (an : Option Addr) (cdv ct : Value) (us : List Value), us.length = (["_law_p", "_law_word", "_law_run"] : List Str).length → bindArgs (PySem.W.fnOf "_law_dot" "_law_dot" (defArgs s_ldot) (defBody s_ldot) (defScope s_ldot) .none kV doc pm an cdv ct) ⟨us, []⟩ = pure ((["_law_p", "_law_word", "_law_run"] : List Str).zip us) := fun _ _ _ _ _ _ us hl => match us, hl with | [_, _, _], _ => rfl
theorem b_shape : ∀ (kV doc pm : Value) (an : Option Addr) (cdv ct : Value) (us : List Value), us.length = (["_law_pot_here"] : List Str).length → bindArgs (PySem.W.fnOf "_law_shape" "_law_shape" (defArgs s_shape) (defBody s_shape) (defScope s_shape) .none kV doc pm an cdv ct) ⟨us, []⟩ = pure ((["_law_pot_here"] : List Str).zip us) := fun _ _ _ _ _ _ us hl => match us, hl with | [_], _ => rfl
theorem b_lplan : ∀ (kV doc pm : Value) (an : Option Addr) (cdv ct : Value) (us : List Value), us.length = (["_law_pot_here", "_law_p", "_law_many", "_law_names"] : List Str).length → bindArgs (PySem.W.fnOf "_law_plan" "_law_plan" (defArgs s_lplan) (defBody s_lplan) (defScope s_lplan) .none kV doc pm an cdv ct) ⟨us, []⟩ = pure ((["_law_pot_here", "_law_p", "_law_many", "_law_names"] : List Str).zip us) := fun _ _ _ _ _ _ us hl => match us, hl with | [_, _, _, _], _ => rfl
theorem b_lruns : ∀ (kV doc pm : Value) (an : Option Addr) (cdv ct : Value) (us : List Value), us.length = (["_law_p", "_law_many", "_law_rows"] : List Str).length → bindArgs (PySem.W.fnOf "_law_runs" "_law_runs" (defArgs s_lruns) (defBody s_lruns) (defScope s_lruns) .none kV doc pm an cdv ct) ⟨us, []⟩ = pure ((["_law_p", "_law_many", "_law_rows"] : List Str).zip us) := fun _ _ _ _ _ _ us hl => match us, hl with | [_, _, _], _ => rfl
theorem b_lparts : ∀ (kV doc pm : Value) (an : Option Addr) (cdv ct : Value) (us : List Value), us.length = (["_law_p", "_law_word", "_law_runs_here"] : List Str).length → bindArgs (PySem.W.fnOf "_law_parts" "_law_parts" (defArgs s_lparts) (defBody s_lparts) (defScope s_lparts) .none kV doc pm an cdv ct) ⟨us, []⟩ = pure ((["_law_p", "_law_word", "_law_runs_here"] : List Str).zip us) := fun _ _ _ _ _ _ us hl => match us, hl with | [_, _, _], _ => rfl
theorem b_ldue : ∀ (kV doc pm : Value) (an : Option Addr) (cdv ct : Value) (us : List Value), us.length = (["_law_p", "_law_runs_here", "_law_wanted", "_law_beside"] : List Str).length → bindArgs (PySem.W.fnOf "_law_due" "_law_due" (defArgs s_ldue) (defBody s_ldue) (defScope s_ldue) .none kV doc pm an cdv ct) ⟨us, []⟩ = pure ((["_law_p", "_law_runs_here", "_law_wanted", "_law_beside"] : List Str).zip us) := fun _ _ _ _ _ _ us hl => match us, hl with | [_, _, _, _], _ => rfl
theorem b_lright : ∀ (kV doc pm : Value) (an : Option Addr) (cdv ct : Value) (us : List Value), us.length = (["_law_pot_here"] : List Str).length → bindArgs (PySem.W.fnOf "_law_right" "_law_right" (defArgs s_lright) (defBody s_lright) (defScope s_lright) .none kV doc pm an cdv ct) ⟨us, []⟩ = pure ((["_law_pot_here"] : List Str).zip us) := fun _ _ _ _ _ _ us hl => match us, hl with | [_], _ => rfl
theorem b_require_word : ∀ (kV doc pm : Value) (an : Option Addr) (cdv ct : Value) (us : List Value), us.length = (["self", "word", "is_zero_let"] : List Str).length → bindArgs (PySem.W.fnOf "require_word" "Plan.require_word" (defArgs s_require_word) (defBody s_require_word) (defScope s_require_word) .none kV doc pm an cdv ct) ⟨us, []⟩ = pure ((["self", "word", "is_zero_let"] : List Str).zip us) := fun _ _ _ _ _ _ us hl => match us, hl with | [_, _, _], _ => rfl
theorem b_rest : ∀ (kV doc pm : Value) (an : Option Addr) (cdv ct : Value) (us : List Value), us.length = (["self", "word"] : List Str).length → bindArgs (PySem.W.fnOf "rest" "Plan.rest" (defArgs s_rest) (defBody s_rest) (defScope s_rest) .none kV doc pm an cdv ct) ⟨us, []⟩ = pure ((["self", "word"] : List Str).zip us) := fun _ _ _ _ _ _ us hl => match us, hl with | [_, _], _ => rfl
theorem b_is_constant : ∀ (kV doc pm : Value) (an : Option Addr) (cdv ct : Value) (us : List Value), us.length = (["self", "word"] : List Str).length → bindArgs (PySem.W.fnOf "is_constant" "Plan.is_constant" (defArgs s_is_constant) (defBody s_is_constant) (defScope s_is_constant) .none kV doc pm an cdv ct) ⟨us, []⟩ = pure ((["self", "word"] : List Str).zip us) := fun _ _ _ _ _ _ us hl => match us, hl with | [_, _], _ => rfl
theorem b_m_len : ∀ (kV doc pm : Value) (an : Option Addr) (cdv ct : Value) (us : List Value), us.length = (["self"] : List Str).length → bindArgs (PySem.W.fnOf "__len__" "Plan.__len__" (defArgs s_m_len) (defBody s_m_len) (defScope s_m_len) .none kV doc pm an cdv ct) ⟨us, []⟩ = pure ((["self"] : List Str).zip us) := fun _ _ _ _ _ _ us hl => match us, hl with | [_], _ => rfl
theorem b_get_p : ∀ (kV doc pm : Value) (an : Option Addr) (cdv ct : Value) (us : List Value), us.length = (["self"] : List Str).length → bindArgs (PySem.W.fnOf "p" "Plan.p" (defArgs s_get_p) (defBody s_get_p) (defScope s_get_p) .none kV doc pm an cdv ct) ⟨us, []⟩ = pure ((["self"] : List Str).zip us) := fun _ _ _ _ _ _ us hl => match us, hl with | [_], _ => rfl
theorem b_get_names : ∀ (kV doc pm : Value) (an : Option Addr) (cdv ct : Value) (us : List Value), us.length = (["self"] : List Str).length → bindArgs (PySem.W.fnOf "names" "Plan.names" (defArgs s_get_names) (defBody s_get_names) (defScope s_get_names) .none kV doc pm an cdv ct) ⟨us, []⟩ = pure ((["self"] : List Str).zip us) := fun _ _ _ _ _ _ us hl => match us, hl with | [_], _ => rfl
theorem b_get_rows : ∀ (kV doc pm : Value) (an : Option Addr) (cdv ct : Value) (us : List Value), us.length = (["self"] : List Str).length → bindArgs (PySem.W.fnOf "rows" "Plan.rows" (defArgs s_get_rows) (defBody s_get_rows) (defScope s_get_rows) .none kV doc pm an cdv ct) ⟨us, []⟩ = pure ((["self"] : List Str).zip us) := fun _ _ _ _ _ _ us hl => match us, hl with | [_], _ => rfl
theorem b_get_runs : ∀ (kV doc pm : Value) (an : Option Addr) (cdv ct : Value) (us : List Value), us.length = (["self"] : List Str).length → bindArgs (PySem.W.fnOf "runs" "Plan.runs" (defArgs s_get_runs) (defBody s_get_runs) (defScope s_get_runs) .none kV doc pm an cdv ct) ⟨us, []⟩ = pure ((["self"] : List Str).zip us) := fun _ _ _ _ _ _ us hl => match us, hl with | [_], _ => rfl
/-- all that the law leans on -/
structure Fx (P : Program) (K : PySem.W.Frag) (mg : Str → Option Value) (c1 c2 CP CR fR cda cc : Addr) : Prop where
  B : Bl mg
  Z : Cs mg
  C : Cn K mg
  SC : SCls K CP
  SL : PSl K CP
  SI : SIsi K CP
  kOne : PySem.W.kitOne K (.ref CP) (.ref CP) = some true
  hCP : mg "Plan" = some (.ref CP)
  TR : RefTxt P K mg CR fR cda cc
  init : ∃ fI fd, Mk K CP fI ∧ Fun K "__init__" "Plan.__init__" s_plan_init fI fd ∧ Binds K fd ["self", "p", "names", "rows"] []
  right : DfR K mg
  d_lead_of : DfG K mg "lead_of" s_lead_of ["word"] c1
  d_inverse_of : DfG K mg "inverse_of" s_inverse_of ["p", "entry"] c2
  d_is_integer : Df K mg "is_integer" s_is_integer ["value"]
  d_is_within : Df K mg "is_within" s_is_within ["value", "low", "high"]
  d_is_run : Df K mg "is_run" s_is_run ["value"]
  d_is_name : Df K mg "is_name" s_is_name ["value"]
  d_are_names : Df K mg "are_names" s_are_names ["value"]
  d_require_prime : Df K mg "require_prime" s_require_prime ["p"]
  d_is_word_in : Df K mg "is_word_in" s_is_word_in ["p", "many", "value"]
  d_is_row_in : Df K mg "is_row_in" s_is_row_in ["p", "many", "value"]
  d_power : Df K mg "power" s_power ["p", "many"]
  d_is_zero : Df K mg "is_zero" s_is_zero ["word"]
  d_multiple_of : Df K mg "multiple_of" s_multiple_of ["p", "word", "by"]
  d_sum_with : Df K mg "sum_with" s_sum_with ["p", "word", "other", "by"]
  d_normal_of : Df K mg "normal_of" s_normal_of ["p", "word"]
  d_dot : Df K mg "dot" s_dot ["p", "word", "levels"]
  d_rest_of : Df K mg "rest_of" s_rest_of ["p", "rows", "row"]
  d_with_row : Df K mg "with_row" s_with_row ["p", "rows", "row"]
  d_reduced_of : Df K mg "reduced_of" s_reduced_of ["p", "rows"]
  d_require_rows : Df K mg "require_rows" s_require_rows ["p", "names", "rows"]
  d_runs_of : Df K mg "runs_of" s_runs_of ["p", "many", "rows"]
  d_classes_in : Df K mg "classes_in" s_classes_in ["p", "many", "value"]
  d_others_in : Df K mg "others_in" s_others_in ["p", "many", "wanted", "value"]
  d_struck : Df K mg "struck_by" s_struck ["p", "wanted", "others"]
  d_pot : Df K mg "_law_pot" s_pot ["_law_script", "_law_at"]
  d_dip : Df K mg "_law_dip" s_dip ["_law_pot_here", "_law_total"]
  d_shaken : Df K mg "_law_shaken" s_shaken ["_law_pot_here", "_law_items"]
  d_lwords : Df K mg "_law_words" s_lwords ["_law_p", "_law_many"]
  d_lsum : Df K mg "_law_sum" s_lsum ["_law_p", "_law_word", "_law_other", "_law_by"]
  d_lnormals : Df K mg "_law_normals" s_lnormals ["_law_p", "_law_many"]
  d_ldot : Df K mg "_law_dot" s_ldot ["_law_p", "_law_word", "_law_run"]
  d_shape : Df K mg "_law_shape" s_shape ["_law_pot_here"]
  d_lplan : Df K mg "_law_plan" s_lplan ["_law_pot_here", "_law_p", "_law_many", "_law_names"]
  d_lruns : Df K mg "_law_runs" s_lruns ["_law_p", "_law_many", "_law_rows"]
  d_lparts : Df K mg "_law_parts" s_lparts ["_law_p", "_law_word", "_law_runs_here"]
  d_ldue : Df K mg "_law_due" s_ldue ["_law_p", "_law_runs_here", "_law_wanted", "_law_beside"]
  d_lright : Df K mg "_law_right" s_lright ["_law_pot_here"]
  d_require_word : MD K CP "require_word" "Plan.require_word" s_require_word ["self", "word", "is_zero_let"]
  d_rest : MD K CP "rest" "Plan.rest" s_rest ["self", "word"]
  d_is_constant : MD K CP "is_constant" "Plan.is_constant" s_is_constant ["self", "word"]
  d_m_len : MD K CP "__len__" "Plan.__len__" s_m_len ["self"]
  d_get_p : PD K CP "p" "Plan.p" s_get_p ["self"]
  d_get_names : PD K CP "names" "Plan.names" s_get_names ["self"]
  d_get_rows : PD K CP "rows" "Plan.rows" s_get_rows ["self"]
  d_get_runs : PD K CP "runs" "Plan.runs" s_get_runs ["self"]
section
variable {P : Program} {w : World} {K : PySem.W.Frag} {mg : Str → Option Value} {base : Heap} {T1 T2 c1 c2 CP CR fR cda cc : Addr}
theorem law_fn (X : Fx P K mg c1 c2 CP CR fR cda cc) (TB1 : GxR.TabB base mg c1 T1) (TB2 : GxR.TabB base mg c2 T2) {f : Addr} {fd : FuncData} (F : Fun K "law" "law" s_law f fd) : FnOk P w K mg base CX0 10 f fd ["_law_script"] (spLaw K T1 T2) := by
  have B := X.B
  have C := X.C
  have SC := X.SC
  have SL := X.SL
  have k_is_integer := ok_is_integer (P := P) (w := w) (base := base) B X.Z X.d_is_integer
  have k_is_within := ok_is_within k_is_integer X.d_is_within
  have k_is_zero := ok_is_zero (P := P) (w := w) (base := base) B X.d_is_zero
  have k_multiple_of := ok_multiple_of (P := P) (w := w) (base := base) B X.d_multiple_of
  have k_sum_with := ok_sum_with (P := P) (w := w) (base := base) B X.d_sum_with
  have k_power := ok_power (P := P) (w := w) (base := base) B X.d_power
  have k_lead_of := ok_lead_of (P := P) (w := w) (T1 := T1) (T2 := T2) B TB1 X.d_lead_of
  have k_inverse_of := ok_inverse_of (P := P) (w := w) (T1 := T1) (T2 := T2) B TB2 X.d_inverse_of
  have k_normal_of := ok_normal_of B k_lead_of k_inverse_of k_multiple_of X.d_normal_of
  have k_rest_of := ok_rest_of k_lead_of k_sum_with X.d_rest_of
  have k_with_row := ok_with_row B k_lead_of k_inverse_of k_multiple_of k_rest_of X.d_with_row
  have k_reduced_of := ok_reduced_of B k_is_zero k_rest_of k_with_row X.d_reduced_of
  have k_is_run := ok_is_run (P := P) (w := w) (base := base) B C X.d_is_run
  have k_is_name := ok_is_name B C k_is_run X.d_is_name
  have k_are_names := ok_are_names B k_is_name X.d_are_names
  have k_require_prime := ok_require_prime C k_is_integer X.d_require_prime
  have k_is_word_in := ok_is_word_in B k_is_within X.d_is_word_in
  have k_is_row_in := ok_is_row_in B k_is_within k_is_word_in X.d_is_row_in
  have k_require_rows := ok_require_rows B C k_are_names k_is_row_in X.d_require_rows
  have k_dotL := ok_dotL (P := P) (w := w) (base := base) B X.d_dot
  have k_runs_of := ok_runs_of B k_lead_of k_dotL X.d_runs_of
  have MKP : PMkOk P w K mg base T1 T2 CP CR := by
    obtain ⟨fI, fd, M, F, hb⟩ := X.init
    exact ⟨fI, fd, M, ok_plan_init B C SC SL X.TR F k_require_prime k_require_rows k_reduced_of k_power k_runs_of, hb, X.hCP⟩
  have k_get_p := ok_get_p (mg := mg) (P := P) (w := w) (base := base) SC SL X.d_get_p
  have k_get_names := ok_get_names (mg := mg) (P := P) (w := w) (base := base) SC SL X.d_get_names
  have k_get_rows := ok_get_rows (mg := mg) (P := P) (w := w) (base := base) SC SL X.d_get_rows
  have k_get_runs := ok_get_runs (mg := mg) (P := P) (w := w) (base := base) SC SL X.d_get_runs
  have k_require_word := ok_require_word B SC SL k_is_word_in k_is_zero X.d_require_word
  have k_rest := ok_rest B SC SL k_rest_of X.d_rest
  have k_is_constant := ok_is_constant B SC k_require_word k_rest k_is_zero X.d_is_constant
  have k_m_len := ok_m_len (P := P) (w := w) (base := base) B SC SL X.d_m_len
  have k_classes_in := ok_classes_in B C k_is_word_in k_is_zero k_normal_of X.d_classes_in
  have k_others_in := ok_others_in B k_classes_in X.d_others_in
  have k_struck := ok_struck B k_sum_with k_normal_of X.d_struck
  have OR := ok_right B SC X.SI X.kOne X.hCP k_classes_in k_others_in k_struck k_get_p k_get_names k_is_constant X.right
  have k_lwords := ok_lwords (P := P) (w := w) (base := base) B X.d_lwords
  have k_lsum := ok_lsum (P := P) (w := w) (base := base) B X.d_lsum
  have k_ldot := ok_ldot (P := P) (w := w) (base := base) B X.d_ldot
  have k_lnormals := ok_lnormals B k_lwords X.d_lnormals
  have k_lruns := ok_lruns B k_lwords k_ldot X.d_lruns
  have k_lparts := ok_lparts B k_ldot X.d_lparts
  have k_ldue := ok_ldue B k_lparts X.d_ldue
  have k_dip := ok_dip (P := P) (w := w) (base := base) B X.d_dip
  have k_pot := ok_pot (P := P) (w := w) (base := base) B X.d_pot
  have k_shape := ok_shape B k_dip X.d_shape
  have k_shaken := ok_shaken B k_dip X.d_shaken
  have k_lplan := ok_lplan B SC k_dip k_get_rows MKP X.TR.gC X.TR.te X.d_lplan
  have k_lright := ok_lright B SC ⟨k_shape, k_lplan, k_shaken, k_lnormals, k_dip, k_lsum, k_lruns, k_ldue, OR, k_get_rows, k_get_runs, k_m_len, MKP⟩ X.d_lright
  exact ok_law B SC k_lright k_pot OR MKP F
end
/-! ### the tables of code objects -/
def Tabs (q : Program) (mg : Str → Option Value) (K : PySem.W.Frag) (h : Heap) : Prop := ∀ (x : Str) (f : Addr), ((recsOf q).any fun e => e.name == x) = true → mg x = some (.ref f) → LamX.OwnTab K f h
theorem walk_tabs {l : PySem.W.OpenLaw} {n k : Nat} {q : Program} {loose : List Str} {XP : (Str → Option Value) → Heap → Prop} {YP : World → Heap → Prop} {d : DefRec} {K : Params → PySem.W.Frag} {CX : World → CXT} {x : Str}
    (hn : l.most = some n) (hn2 : n ≤ sizeLine) (hdf : d.params.defaults = []) (hr : Room k callerA) (hY : ∀ (w : World) (h : Heap), YP w h → (K w.params).In h)
    (F : ∀ (w : World) (mg : Str → Option Value) (fa : Addr) (h : Heap), (K w.params).In h → h.Ns mainGlobals mg → mg d.name = some (.ref fa) → XP mg h → Tabs q mg (K w.params) h → LamX.LawAtS l w (K w.params) (CX w) k n x mg fa h)
    (hCX : ∀ (w : World) (H : Hp) (s : Shared) (e : Value) (s' : Shared), CX w [] H s (fun _ _ _ => False) e s' → False) :
    PySem.W.WalkO q loose XP YP l.row.toRowW d [] (fun f vs => PySem.call f vs) := by
  refine Att.attach_callB hn hdf fun w s₀ s₁ mg mb fa o pm cd doc a vs ns G Y ho hd hcd hmg hobj hints hlen hbits hg => ?_
  have KX := hY w _ Y
  have own : Tabs q mg (K w.params) s₁.heap := fun x f hrec hx c P o1 fd1 e dd vs1 sl k1 k2 k3 k4 k5 => by
    obtain ⟨dL, hm, hn1⟩ := List.any_eq_true.mp hrec
    have hn2 : dL.name = x := beq_iff_eq.mp hn1
    obtain ⟨a', o', fd', c', P', h1, h2, h3, h4, h5, h6⟩ := G.T.tab dL hm
    rw [hn2, hx] at h1
    cases h1
    have g1 := KX _ _ k1
    rw [g1] at h2
    cases h2
    rw [k2] at h3
    cases h3
    rw [k3] at h4
    cases h4
    obtain ⟨⟨oc, vc, e1, _, e3, e4⟩, hP⟩ := h6
    have g2 := KX _ _ k4
    rw [g2] at e1
    cases e1
    cases e3
    rw [k5] at e4
    cases e4
    exact hP
  obtain ⟨fd, cs, sp, hT, nT, C, hb, hsp, hF⟩ := F w mg fa _ KX G.T.g hmg G.X own
  exact LamX.law_callTs KX G.T.g G.T.b G.T.builtins G.T.nolimit hg hT nT C G.T.bmain hobj hints (Nat.le_trans hlen hn2) hr hF hb (fun H hH hS => hsp H a ns hlen hbits hH hS) fun H e s' => hCX w H s₁ e s'
/-! ### facts of a written part -/
section
variable {K : PySem.W.Frag} {mg : Str → Option Value} {h : Heap}
theorem cn_int {x : Str} {i : Int} {t : Tok} (X : K.In h) (G : h.Ns mainGlobals mg) (a : PySem.W.nsIn K mainGlobals x = some (some (.int i t))) : ∃ t, mg x = some (.int i t) := ⟨t, PySem.W.mg_of X G a⟩
theorem cn_str {x i : Str} {t : Tok} (X : K.In h) (G : h.Ns mainGlobals mg) (a : PySem.W.nsIn K mainGlobals x = some (some (.str i t))) : ∃ t, mg x = some (.str i t) := ⟨t, PySem.W.mg_of X G a⟩
theorem cn_tup {x : Str} {xs : List V} {a : Addr} {dd : Option Addr} {its : Array Value} {n : Nat} {sl : Array (Option Value)} (X : K.In h) (G : h.Ns mainGlobals mg) (e : PySem.W.nsIn K mainGlobals x = some (some (.ref a))) (l : K.lookup a = some ⟨.type "tuple", dd, .seq its n, sl⟩) (hs : its.size ≤ sizeLine) (hv : Vals xs its.toList) :
    ∃ a, mg x = some (.ref a) ∧ ∀ H, SqT K H a xs := ⟨a, PySem.W.mg_of X G e, fun H => .inr ⟨_, its, n, l, rfl, rfl, hs, hv⟩⟩
/-- an error of the class at S is what «except S» names -/
theorem exm_self {S : Addr} (h1 : PySem.W.subIn K (.ref S) (.type "BaseException") = some true) (h2 : PySem.W.isClsIn K S = true) (h3 : PySem.W.typeIn K (.ref S) = some (.type "type")) (h4 : PySem.W.subIn K (.ref S) (.ref S) = some true) : PySem.W.exmOne K (.ref S) (.ref S) = some true := by
  have e1 : (PySem.W.subIn K (.ref S) (.type "BaseException") == some true) = true := by rw [h1] <;> rfl
  have e2 : ((PySem.W.clsIn K S).isSome && PySem.W.typeIn K (.ref S) == some (.type "type")) = true := by
    have h2' : (PySem.W.clsIn K S).isSome = true := h2
    rw [h2', h3] <;> rfl
  show (if (PySem.W.subIn K (.ref S) (.type "BaseException") == some true) = true then (if ((PySem.W.clsIn K S).isSome && PySem.W.typeIn K (.ref S) == some (.type "type")) = true then PySem.W.subIn K (.ref S) (.ref S) else none) else none) = some true
  rw [if_pos e1, if_pos e2]
  exact h4
theorem kit_self {S : Addr} : PySem.W.kitOne K (.ref S) (.ref S) = some true := by
  unfold PySem.W.kitOne
  rw [if_pos (beq_self_eq_true _)]
theorem ref_mk {P : Program} {C fI cda cc : Addr} {oc kV doc pm ct ccl cl : Value} {od an cdd cld : Option Addr} {osl ccs csl : Array (Option Value)} {vs : Array Value} {file : Str} {tf : Tok} (X : K.In h) (G : h.Ns mainGlobals mg) (a : PySem.W.nsIn K mainGlobals "Refused" = some (some (.ref C)))
    (iC : PySem.W.findIn K (.ref C) "__init__" = some (some (.ref fI))) (l : K.lookup fI = some ⟨oc, od, .func (PySem.W.ksFn "__init__" "Refused.__init__" (defArgs s_refused) (defBody s_refused) (defScope s_refused) .none kV doc pm an (.ref cda) ct cc), osl⟩) (cd : PySem.W.codeIn K (.ref cda) "Refused.__init__" = true)
    (lc : K.lookup cda = some ⟨ccl, cdd, .fields vs, ccs⟩) (v2 : vs[2]? = some (.str file tf)) (pf : ((P.main.file : Str) == file) = true) (cell : K.lookup cc = some ⟨cl, cld, .cell (some (.ref C)), csl⟩) (cls : PySem.W.isClsIn K C = true) (mro : PySem.W.mroIn K C (.ref C) = some true)
    (sup : PySem.W.nsIn K mainGlobals "super" = some none) (str : PySem.W.nsIn K mainGlobals "str" = some none) (any : PySem.W.nsIn K cStatics "thirdparty.any" = some none) (si : PySem.W.ks_superIn K C C "__init__" = some (some (.builtin "ArithmeticError.__init__"))) (sb : PySem.W.subIn K (.ref C) (.type "ArithmeticError") = some true)
    (ei : PySem.W.excInitIn K C bmA "ArithmeticError.__new__" = true) (sa : PySem.W.findIn K (.ref C) "__setattr__" = some (some (.builtin "object.__setattr__"))) (eo : PySem.W.excOver K C bmA = true) (tk : PySem.W.takerIn K C "reason" = some none) (hd : PySem.W.hasDictIn K C = true) (iF : PySem.W.isFn K (.ref fI) = true) (kC : PySem.W.keepIn K (.ref C) = true)
    (exC : PySem.W.subIn K (.ref C) (.type "BaseException") = some true) (tyC : PySem.W.typeIn K (.ref C) = some (.type "type")) (te : PySem.W.subIn K (.ref C) (.ref C) = some true) (top : (P.main.scope.names.lookup ("super" : Str)).isSome = false) : ∃ CR fR cda cc, RefTxt P K mg CR fR cda cc :=
  ⟨C, fI, cda, cc, PySem.W.mg_of X G a, ⟨_, _, _, _, _, _, _, _, l, cd⟩, ⟨_, _, _, _, _, _, lc, v2, pf⟩, ⟨_, _, _, cell⟩, cls, mro, sup, str, any, si, sb, ei, sa, eo, tk, hd, iC, iF, kC, exC, tyC, exm_self exC cls tyC te, top⟩
/-- Plan, at C -/
structure PlanFx (K : PySem.W.Frag) (mg : Str → Option Value) (CP : Addr) : Prop where
  SC : SCls K CP
  SL : PSl K CP
  SI : SIsi K CP
  hCP : mg "Plan" = some (.ref CP)
  init : ∃ fI fd, Mk K CP fI ∧ Fun K "__init__" "Plan.__init__" s_plan_init fI fd ∧ Binds K fd ["self", "p", "names", "rows"] []
  d_require_word : MD K CP "require_word" "Plan.require_word" s_require_word ["self", "word", "is_zero_let"]
  d_rest : MD K CP "rest" "Plan.rest" s_rest ["self", "word"]
  d_is_constant : MD K CP "is_constant" "Plan.is_constant" s_is_constant ["self", "word"]
  d_m_len : MD K CP "__len__" "Plan.__len__" s_m_len ["self"]
  d_get_p : PD K CP "p" "Plan.p" s_get_p ["self"]
  d_get_names : PD K CP "names" "Plan.names" s_get_names ["self"]
  d_get_rows : PD K CP "rows" "Plan.rows" s_get_rows ["self"]
  d_get_runs : PD K CP "runs" "Plan.runs" s_get_runs ["self"]
theorem init_mk {C f : Addr} {oc : Value} {od an : Option Addr} {kV dc pm cd ct : Value} {sl : Array (Option Value)} (m : PySem.W.makesIn K C = true) (a : PySem.W.findIn K (.ref C) "__init__" = some (some (.ref f))) (i : PySem.W.isFn K (.ref f) = true) (kC : PySem.W.keepIn K (.ref C) = true)
    (l : K.lookup f = some ⟨oc, od, .func (PySem.W.fnOf "__init__" "Plan.__init__" (defArgs s_plan_init) (defBody s_plan_init) (defScope s_plan_init) .none kV dc pm an cd ct), sl⟩) (c : PySem.W.codeIn K cd "Plan.__init__" = true) (k : PySem.W.keepIn K (.ref f) = true) :
    ∃ fI fd, Mk K C fI ∧ Fun K "__init__" "Plan.__init__" s_plan_init fI fd ∧ Binds K fd ["self", "p", "names", "rows"] [] :=
  ⟨f, _, ⟨m, a, i, kC⟩, fun_mk l c k, (fun_mk l c k).binds fun _ _ _ _ _ _ us hl => match us, hl with | [_, _, _, _], _ => rfl⟩
theorem dr_mk {f D T : Addr} {oc : Value} {od an dd : Option Addr} {dc pm cd ct : Value} {sl sl2 : Array (Option Value)} {n : Nat} (X : K.In h) (G : h.Ns mainGlobals mg) (a : PySem.W.nsIn K mainGlobals "is_right" = some (some (.ref f)))
    (l : K.lookup f = some ⟨oc, od, .func (PySem.W.fnOf "is_right" "is_right" (defArgs s_right) (defBody s_right) (defScope s_right) .none (.ref D) dc pm an cd ct), sl⟩) (c : PySem.W.codeIn K cd "is_right" = true) (k : PySem.W.keepIn K (.ref f) = true) (kd : PySem.W.nsIn K D "beside" = some (some (.ref T))) (lt : K.lookup T = some ⟨.type "tuple", dd, .seq #[] n, sl2⟩) : DfR K mg :=
  ⟨f, _, T, _, n, PySem.W.mg_of X G a, ⟨⟨oc, od, .none, .ref D, dc, pm, an, cd, ct, sl, rfl, l, c, .inl ⟨rfl, rfl⟩, .inr ⟨D, rfl, fun q hq => ⟨.ref T, by rw [List.mem_singleton.mp hq]; exact kd, by rw [List.mem_singleton.mp hq]; rfl⟩⟩⟩, k⟩, lt, rfl, rfl⟩
/-- a def with a table of code objects -/
def GFx (K : PySem.W.Frag) (mg : Str → Option Value) (h : Heap) (x : Str) (st : Stmt) (ps : List Str) : Prop := ∃ c T, DfG K mg x st ps c ∧ h.get? T = some { cls := .none, data := .fields #[] } ∧ K.lookup T = none ∧ PySem.W.CodeHd h c T
theorem gfx_mk {q : Program} {x : Str} {st : Stmt} {ps : List Str} {f c T : Addr} {oc : Value} {od an dd : Option Addr} {kV dc pm ct : Value} {sl sl2 : Array (Option Value)} {vs : Array Value} {file : Str} {tf tg tt : Tok} {flags text : Int} {inF : Bool} (X : K.In h) (G : h.Ns mainGlobals mg) (hT : Tabs q mg K h) (hrec : ((recsOf q).any fun e => e.name == x) = true) (a : PySem.W.nsIn K mainGlobals x = some (some (.ref f)))
    (l : K.lookup f = some ⟨oc, od, .func (PySem.W.fnOf x x (defArgs st) (defBody st) (defScope st) .none kV dc pm an (.ref c) ct), sl⟩) (c' : PySem.W.codeIn K (.ref c) x = true) (k : PySem.W.keepIn K (.ref f) = true)
    (lc : K.lookup c = some ⟨.type "code", dd, .fields vs, sl2⟩) (e11 : vs[11]? = some (.ref T)) (e18 : vs[18]? = some (.str file tf)) (e7 : vs[7]? = some (.int flags tg)) (e9 : vs[9]? = some (.bool inF)) (e10 : vs[10]? = some (.int text tt)) (hne : c ≠ T) (nT : K.lookup T = none)
    (b : ∀ (kV doc pm : Value) (an : Option Addr) (cdv ct : Value) (us : List Value), us.length = ps.length → bindArgs (PySem.W.fnOf x x (defArgs st) (defBody st) (defScope st) .none kV doc pm an cdv ct) ⟨us, []⟩ = pure (ps.zip us)) : GFx K mg h x st ps := by
  have gd : ∀ {i : Nat} {v : Value}, vs[i]? = some v → vs.getD i .none = v := fun e => by rw [Array.getD_eq_getD_getElem?, e]; rfl
  exact ⟨c, T, dg_mk X G a l c' k b, hT x f hrec (PySem.W.mg_of X G a) c T _ _ _ _ _ _ l rfl rfl lc e11, nT, ⟨_, vs, file, tf, flags, tg, inF, text, tt, X _ _ lc, rfl, rfl, e11, gd e11, gd e18, gd e7, gd e9, gd e10, hne⟩⟩
end
/-- the end: the law at the head's heap -/
theorem law_at {l : PySem.W.OpenLaw} {w : World} {K : PySem.W.Frag} {mg : Str → Option Value} {fa : Addr} {h : Heap} (KX : K.In h) (hfa : mg "law" = some (.ref fa)) {oc kV dc pm cd ct : Value} {od an : Option Addr} {sl : Array (Option Value)} {f : Addr} (G : h.Ns mainGlobals mg)
    (a : PySem.W.nsIn K mainGlobals "law" = some (some (.ref f))) (lk : K.lookup f = some ⟨oc, od, .func (PySem.W.fnOf "law" "law" (defArgs s_law) (defBody s_law) (defScope s_law) .none kV dc pm an cd ct), sl⟩) (c : PySem.W.codeIn K cd "law" = true) (k : PySem.W.keepIn K (.ref f) = true)
    (B : Bl mg) (Z : Cs mg) (C : Cn K mg) (PF : ∃ CP, PlanFx K mg CP) (RF : ∃ CR fR cda cc, RefTxt l.prog K mg CR fR cda cc) (right : DfR K mg) (g1 : GFx K mg h "lead_of" s_lead_of ["word"]) (g2 : GFx K mg h "inverse_of" s_inverse_of ["p", "entry"])
    (d_is_integer : Df K mg "is_integer" s_is_integer ["value"])
    (d_is_within : Df K mg "is_within" s_is_within ["value", "low", "high"])
    (d_is_run : Df K mg "is_run" s_is_run ["value"])
    (d_is_name : Df K mg "is_name" s_is_name ["value"])
    (d_are_names : Df K mg "are_names" s_are_names ["value"])
    (d_require_prime : Df K mg "require_prime" s_require_prime ["p"])
    (d_is_word_in : Df K mg "is_word_in" s_is_word_in ["p", "many", "value"])
    (d_is_row_in : Df K mg "is_row_in" s_is_row_in ["p", "many", "value"])
    (d_power : Df K mg "power" s_power ["p", "many"])
    (d_is_zero : Df K mg "is_zero" s_is_zero ["word"])
    (d_multiple_of : Df K mg "multiple_of" s_multiple_of ["p", "word", "by"])
    (d_sum_with : Df K mg "sum_with" s_sum_with ["p", "word", "other", "by"])
    (d_normal_of : Df K mg "normal_of" s_normal_of ["p", "word"])
    (d_dot : Df K mg "dot" s_dot ["p", "word", "levels"])
    (d_rest_of : Df K mg "rest_of" s_rest_of ["p", "rows", "row"])
    (d_with_row : Df K mg "with_row" s_with_row ["p", "rows", "row"])
    (d_reduced_of : Df K mg "reduced_of" s_reduced_of ["p", "rows"])
    (d_require_rows : Df K mg "require_rows" s_require_rows ["p", "names", "rows"])
    (d_runs_of : Df K mg "runs_of" s_runs_of ["p", "many", "rows"])
    (d_classes_in : Df K mg "classes_in" s_classes_in ["p", "many", "value"])
    (d_others_in : Df K mg "others_in" s_others_in ["p", "many", "wanted", "value"])
    (d_struck : Df K mg "struck_by" s_struck ["p", "wanted", "others"])
    (d_pot : Df K mg "_law_pot" s_pot ["_law_script", "_law_at"])
    (d_dip : Df K mg "_law_dip" s_dip ["_law_pot_here", "_law_total"])
    (d_shaken : Df K mg "_law_shaken" s_shaken ["_law_pot_here", "_law_items"])
    (d_lwords : Df K mg "_law_words" s_lwords ["_law_p", "_law_many"])
    (d_lsum : Df K mg "_law_sum" s_lsum ["_law_p", "_law_word", "_law_other", "_law_by"])
    (d_lnormals : Df K mg "_law_normals" s_lnormals ["_law_p", "_law_many"])
    (d_ldot : Df K mg "_law_dot" s_ldot ["_law_p", "_law_word", "_law_run"])
    (d_shape : Df K mg "_law_shape" s_shape ["_law_pot_here"])
    (d_lplan : Df K mg "_law_plan" s_lplan ["_law_pot_here", "_law_p", "_law_many", "_law_names"])
    (d_lruns : Df K mg "_law_runs" s_lruns ["_law_p", "_law_many", "_law_rows"])
    (d_lparts : Df K mg "_law_parts" s_lparts ["_law_p", "_law_word", "_law_runs_here"])
    (d_ldue : Df K mg "_law_due" s_ldue ["_law_p", "_law_runs_here", "_law_wanted", "_law_beside"])
    (d_lright : Df K mg "_law_right" s_lright ["_law_pot_here"]) :
    LamX.LawAtS l w K CX0 10 63 "_law_script" mg fa h := by
  have e := hfa.symm.trans (PySem.W.mg_of KX G a)
  cases e
  obtain ⟨CP, PF⟩ := PF
  obtain ⟨CR, fR, cda, cc, RF⟩ := RF
  obtain ⟨c1, T1, d1, h1, n1, C1⟩ := g1
  obtain ⟨c2, T2, d2, h2, n2, C2⟩ := g2
  have X : Fx l.prog K mg c1 c2 CP CR fR cda cc := { B := B, Z := Z, C := C, SC := PF.SC, SL := PF.SL, SI := PF.SI, kOne := kit_self, hCP := PF.hCP, TR := RF, init := PF.init, right := right, d_lead_of := d1, d_inverse_of := d2, d_is_integer := d_is_integer, d_is_within := d_is_within, d_is_run := d_is_run, d_is_name := d_is_name, d_are_names := d_are_names, d_require_prime := d_require_prime, d_is_word_in := d_is_word_in, d_is_row_in := d_is_row_in, d_power := d_power, d_is_zero := d_is_zero, d_multiple_of := d_multiple_of, d_sum_with := d_sum_with, d_normal_of := d_normal_of, d_dot := d_dot, d_rest_of := d_rest_of, d_with_row := d_with_row, d_reduced_of := d_reduced_of, d_require_rows := d_require_rows, d_runs_of := d_runs_of, d_classes_in := d_classes_in, d_others_in := d_others_in, d_struck := d_struck, d_pot := d_pot, d_dip := d_dip, d_shaken := d_shaken, d_lwords := d_lwords, d_lsum := d_lsum, d_lnormals := d_lnormals, d_ldot := d_ldot, d_shape := d_shape, d_lplan := d_lplan, d_lruns := d_lruns, d_lparts := d_lparts, d_ldue := d_ldue, d_lright := d_lright, d_require_word := PF.d_require_word, d_rest := PF.d_rest, d_is_constant := PF.d_is_constant, d_m_len := PF.d_m_len, d_get_p := PF.d_get_p, d_get_names := PF.d_get_names, d_get_rows := PF.d_get_rows, d_get_runs := PF.d_get_runs }
  refine ⟨_, [(c1, T1), (c2, T2)], spLaw K T1 T2, ?_, ?_, ?_, fun s u => .of_eq rfl, fun H a ns hl _ hH hS => ?_, fun base hKb hns hTB => law_fn X ?_ ?_ (fun_mk lk c k)⟩
  · intro p hp
    rcases List.mem_cons.mp hp with e | hp
    · rw [e]; exact h1
    · rw [List.mem_singleton.mp hp]; exact h2
  · intro p hp
    rcases List.mem_cons.mp hp with e | hp
    · rw [e]; exact n1
    · rw [List.mem_singleton.mp hp]; exact n2
  · intro p hp
    rcases List.mem_cons.mp hp with e | hp
    · rw [e]; exact C1
    · rw [List.mem_singleton.mp hp]; exact C2
  · exact ⟨.ref a, ns, rfl, .lst hS (dps_ints ns), ⟨⟨#[], hH (c1, T1) (by simp), trivial⟩, ⟨#[], hH (c2, T2) (by simp), trivial⟩⟩, fun _ => rfl⟩
  · have t := hTB (c1, T1) (by simp)
    exact ⟨t.code, t.bm, t.gP⟩
  · have t := hTB (c2, T2) (by simp)
    exact ⟨t.code, t.bm, t.gP⟩
end Km
set_option Elab.async false
set_option linter.all false
set_option autoImplicit false
open PySem PySem.W PyProof.Rows in
set_option maxRecDepth 100000 in
set_option maxHeartbeats 0 in
theorem PySem.Challenge.cw_worthstead_k68_whole_right_plans_holds : PySem.Challenge.rw_worthstead_k68_whole_right_plans.Holds := by
  w_on; o_law; k_head; (case hw => w_witness2)
  k_fill
  refine Km.walk_tabs (l := PySem.Challenge.rw_worthstead_k68_whole_right_plans) (n := 63) (k := 10) (x := "_law_script") (CX := fun _ => L2.CX0) rfl (by decide) rfl ⟨rfl, by decide, by decide⟩ (fun w h Y => PySem.W.kIn_of Y) ?F (fun _ _ _ _ _ z => z)
  case F =>
    intro w mg fa h KX G hmg hX hTabs
    refine' Km.law_at KX hmg G ?a ?lk ?c ?k ?B ?Z ?C ?PF ?RF ?right ?g1 ?g2 ?d_is_integer ?d_is_within ?d_is_run ?d_is_name ?d_are_names ?d_require_prime ?d_is_word_in ?d_is_row_in ?d_power ?d_is_zero ?d_multiple_of ?d_sum_with ?d_normal_of ?d_dot ?d_rest_of ?d_with_row ?d_reduced_of ?d_require_rows ?d_runs_of ?d_classes_in ?d_others_in ?d_struck ?d_pot ?d_dip ?d_shaken ?d_lwords ?d_lsum ?d_lnormals ?d_ldot ?d_shape ?d_lplan ?d_lruns ?d_lparts ?d_ldue ?d_lright
    (case a => k_is); (case lk => k_is); (case c => k_is); (case k => k_is)
    case B =>
      refine' Km.Bl.mk (PySem.W.mg_none_of KX G ?b0) (PySem.W.mg_none_of KX G ?b1) (PySem.W.mg_none_of KX G ?b2) (PySem.W.mg_none_of KX G ?b3) (PySem.W.mg_none_of KX G ?b4) (PySem.W.mg_none_of KX G ?b5) (PySem.W.mg_none_of KX G ?b6) (PySem.W.mg_none_of KX G ?b7) (PySem.W.mg_none_of KX G ?b8) (PySem.W.mg_none_of KX G ?b9) (PySem.W.mg_none_of KX G ?b10) (PySem.W.mg_none_of KX G ?b11) (PySem.W.mg_none_of KX G ?b12) (PySem.W.mg_none_of KX G ?b13) (PySem.W.mg_none_of KX G ?b14) (PySem.W.mg_none_of KX G ?b15) (PySem.W.mg_none_of KX G ?b16) (PySem.W.mg_none_of KX G ?b17)
      (case b0 => k_is); (case b1 => k_is); (case b2 => k_is); (case b3 => k_is); (case b4 => k_is); (case b5 => k_is); (case b6 => k_is); (case b7 => k_is); (case b8 => k_is); (case b9 => k_is); (case b10 => k_is); (case b11 => k_is); (case b12 => k_is); (case b13 => k_is); (case b14 => k_is); (case b15 => k_is); (case b16 => k_is); (case b17 => k_is)
    case Z => refine' Km.Cs.mk (Km.cn_int KX G ?z); (case z => k_is)
    case C =>
      refine' Km.Cn.mk (Km.cn_int KX G ?c1) (Km.cn_str KX G ?c2) (Km.cn_str KX G ?c3) ?c4 ?c5 (Km.cn_int KX G ?c6) (Km.cn_int KX G ?c7) (Km.cn_int KX G ?c8)
      (case c1 => k_is); (case c2 => k_is); (case c3 => k_is); (case c6 => k_is); (case c7 => k_is); (case c8 => k_is)
      case c4 =>
        refine' Km.cn_tup KX G ?e ?l ?hs ?hv
        (case e => k_is); (case l => k_is)
        (case hs => decide)
        (case hv => exact .cons ⟨_, rfl⟩ (.cons ⟨_, rfl⟩ (.cons ⟨_, rfl⟩ (.cons ⟨_, rfl⟩ (.cons ⟨_, rfl⟩ (.cons ⟨_, rfl⟩ (.cons ⟨_, rfl⟩ (.cons ⟨_, rfl⟩ (.nil)))))))))
      case c5 =>
        refine' Km.cn_tup KX G ?e ?l ?hs ?hv
        (case e => k_is); (case l => k_is)
        (case hs => decide)
        (case hv => exact .cons ⟨_, rfl⟩ (.cons ⟨_, rfl⟩ (.cons ⟨_, rfl⟩ (.cons ⟨_, rfl⟩ (.nil)))))
    case PF =>
      refine' Exists.intro _ (Km.PlanFx.mk ?SC ?SL ?SI (PySem.W.mg_of KX G ?hCP) ?init ?d_require_word ?d_rest ?d_is_constant ?d_m_len ?d_get_p ?d_get_names ?d_get_rows ?d_get_runs)
      (case hCP => k_is)
      case SC => (refine' SlX.SCls.mk ?a ?b ?c ?d); (case a => k_is); (case b => k_is); (case c => k_is); (case d => k_is)
      case SL =>
        refine' Km.PSl.mk ?s1 ?s2 ?s3 ?s4
        case s1 => (refine' Exists.intro _ (SlX.Slot1.mk ?a ?b ?c ?d ?e (by decide))); (case a => k_is); (case b => k_is); (case c => k_is); (case d => k_is); (case e => k_is)
        case s2 => (refine' Exists.intro _ (SlX.Slot1.mk ?a ?b ?c ?d ?e (by decide))); (case a => k_is); (case b => k_is); (case c => k_is); (case d => k_is); (case e => k_is)
        case s3 => (refine' Exists.intro _ (SlX.Slot1.mk ?a ?b ?c ?d ?e (by decide))); (case a => k_is); (case b => k_is); (case c => k_is); (case d => k_is); (case e => k_is)
        case s4 => (refine' Exists.intro _ (SlX.Slot1.mk ?a ?b ?c ?d ?e (by decide))); (case a => k_is); (case b => k_is); (case c => k_is); (case d => k_is); (case e => k_is)
      case SI => (refine' SlX.SIsi.mk ?a ?b ?c ?d); (case a => k_is); (case b => k_is); (case c => k_is); (case d => k_is)
      case init => (refine' Km.init_mk ?m ?a ?i ?kC ?l ?c ?k); (case m => k_is); (case a => k_is); (case i => k_is); (case kC => k_is); (case l => k_is); (case c => k_is); (case k => k_is)
      case d_require_word => (refine' Km.md_mk ?a ?i ?l ?c ?k Km.b_require_word); (case a => k_is); (case i => k_is); (case l => k_is); (case c => k_is); (case k => k_is)
      case d_rest => (refine' Km.md_mk ?a ?i ?l ?c ?k Km.b_rest); (case a => k_is); (case i => k_is); (case l => k_is); (case c => k_is); (case k => k_is)
      case d_is_constant => (refine' Km.md_mk ?a ?i ?l ?c ?k Km.b_is_constant); (case a => k_is); (case i => k_is); (case l => k_is); (case c => k_is); (case k => k_is)
      case d_m_len => (refine' Km.md_mk ?a ?i ?l ?c ?k Km.b_m_len); (case a => k_is); (case i => k_is); (case l => k_is); (case c => k_is); (case k => k_is)
      case d_get_p => (refine' Km.pd_mk ?a ?s ?t ?r ?l ?c ?k Km.b_get_p); (case a => k_is); (case s => k_is); (case t => k_is); (case r => k_is); (case l => k_is); (case c => k_is); (case k => k_is)
      case d_get_names => (refine' Km.pd_mk ?a ?s ?t ?r ?l ?c ?k Km.b_get_names); (case a => k_is); (case s => k_is); (case t => k_is); (case r => k_is); (case l => k_is); (case c => k_is); (case k => k_is)
      case d_get_rows => (refine' Km.pd_mk ?a ?s ?t ?r ?l ?c ?k Km.b_get_rows); (case a => k_is); (case s => k_is); (case t => k_is); (case r => k_is); (case l => k_is); (case c => k_is); (case k => k_is)
      case d_get_runs => (refine' Km.pd_mk ?a ?s ?t ?r ?l ?c ?k Km.b_get_runs); (case a => k_is); (case s => k_is); (case t => k_is); (case r => k_is); (case l => k_is); (case c => k_is); (case k => k_is)
    case RF =>
      refine' Km.ref_mk KX G ?a ?iC ?l ?cd ?lc ?v2 ?pf ?cell ?cls ?mro ?sup ?str ?any ?si ?sb ?ei ?sa ?eo ?tk ?hd ?iF ?kC ?exC ?tyC ?te ?top
      (case a => k_is); (case iC => k_is); (case l => k_is); (case cd => k_is); (case lc => k_is)
      (case v2 => rfl); (case pf => first | rfl | decide +kernel)
      (case cell => k_is); (case cls => k_is); (case mro => k_is); (case sup => k_is); (case str => k_is); (case any => k_is)
      (case si => kernel_rfl); (case sb => k_is); (case ei => kernel_rfl); (case sa => k_is); (case eo => kernel_rfl)
      (case tk => k_is); (case hd => k_is); (case iF => k_is); (case kC => k_is); (case exC => k_is); (case tyC => k_is); (case te => k_is); (case top => first | rfl | decide +kernel)
    case right => (refine' Km.dr_mk KX G ?a ?l ?c ?k ?kd ?lt); (case a => k_is); (case l => k_is); (case c => k_is); (case k => k_is); (case kd => k_is); (case lt => k_is)
    case g1 =>
      refine' Km.gfx_mk KX G hTabs ?hrec ?a ?l ?c ?k ?lc ?e11 ?e18 ?e7 ?e9 ?e10 ?hne ?nT Km.b_lead_of
      (case hrec => kernel_rfl)
      (case a => k_is); (case l => k_is); (case c => k_is); (case k => k_is); (case lc => k_is)
      (case e11 => rfl); (case e18 => rfl); (case e7 => rfl); (case e9 => rfl); (case e10 => rfl); (case hne => decide); (case nT => kernel_rfl)
    case g2 =>
      refine' Km.gfx_mk KX G hTabs ?hrec ?a ?l ?c ?k ?lc ?e11 ?e18 ?e7 ?e9 ?e10 ?hne ?nT Km.b_inverse_of
      (case hrec => kernel_rfl)
      (case a => k_is); (case l => k_is); (case c => k_is); (case k => k_is); (case lc => k_is)
      (case e11 => rfl); (case e18 => rfl); (case e7 => rfl); (case e9 => rfl); (case e10 => rfl); (case hne => decide); (case nT => kernel_rfl)
    case d_is_integer => (refine' Km.df_mk KX G ?a ?l ?c ?k Km.b_is_integer); (case a => k_is); (case l => k_is); (case c => k_is); (case k => k_is)
    case d_is_within => (refine' Km.df_mk KX G ?a ?l ?c ?k Km.b_is_within); (case a => k_is); (case l => k_is); (case c => k_is); (case k => k_is)
    case d_is_run => (refine' Km.df_mk KX G ?a ?l ?c ?k Km.b_is_run); (case a => k_is); (case l => k_is); (case c => k_is); (case k => k_is)
    case d_is_name => (refine' Km.df_mk KX G ?a ?l ?c ?k Km.b_is_name); (case a => k_is); (case l => k_is); (case c => k_is); (case k => k_is)
    case d_are_names => (refine' Km.df_mk KX G ?a ?l ?c ?k Km.b_are_names); (case a => k_is); (case l => k_is); (case c => k_is); (case k => k_is)
    case d_require_prime => (refine' Km.df_mk KX G ?a ?l ?c ?k Km.b_require_prime); (case a => k_is); (case l => k_is); (case c => k_is); (case k => k_is)
    case d_is_word_in => (refine' Km.df_mk KX G ?a ?l ?c ?k Km.b_is_word_in); (case a => k_is); (case l => k_is); (case c => k_is); (case k => k_is)
    case d_is_row_in => (refine' Km.df_mk KX G ?a ?l ?c ?k Km.b_is_row_in); (case a => k_is); (case l => k_is); (case c => k_is); (case k => k_is)
    case d_power => (refine' Km.df_mk KX G ?a ?l ?c ?k Km.b_power); (case a => k_is); (case l => k_is); (case c => k_is); (case k => k_is)
    case d_is_zero => (refine' Km.df_mk KX G ?a ?l ?c ?k Km.b_is_zero); (case a => k_is); (case l => k_is); (case c => k_is); (case k => k_is)
    case d_multiple_of => (refine' Km.df_mk KX G ?a ?l ?c ?k Km.b_multiple_of); (case a => k_is); (case l => k_is); (case c => k_is); (case k => k_is)
    case d_sum_with => (refine' Km.df_mk KX G ?a ?l ?c ?k Km.b_sum_with); (case a => k_is); (case l => k_is); (case c => k_is); (case k => k_is)
    case d_normal_of => (refine' Km.df_mk KX G ?a ?l ?c ?k Km.b_normal_of); (case a => k_is); (case l => k_is); (case c => k_is); (case k => k_is)
    case d_dot => (refine' Km.df_mk KX G ?a ?l ?c ?k Km.b_dot); (case a => k_is); (case l => k_is); (case c => k_is); (case k => k_is)
    case d_rest_of => (refine' Km.df_mk KX G ?a ?l ?c ?k Km.b_rest_of); (case a => k_is); (case l => k_is); (case c => k_is); (case k => k_is)
    case d_with_row => (refine' Km.df_mk KX G ?a ?l ?c ?k Km.b_with_row); (case a => k_is); (case l => k_is); (case c => k_is); (case k => k_is)
    case d_reduced_of => (refine' Km.df_mk KX G ?a ?l ?c ?k Km.b_reduced_of); (case a => k_is); (case l => k_is); (case c => k_is); (case k => k_is)
    case d_require_rows => (refine' Km.df_mk KX G ?a ?l ?c ?k Km.b_require_rows); (case a => k_is); (case l => k_is); (case c => k_is); (case k => k_is)
    case d_runs_of => (refine' Km.df_mk KX G ?a ?l ?c ?k Km.b_runs_of); (case a => k_is); (case l => k_is); (case c => k_is); (case k => k_is)
    case d_classes_in => (refine' Km.df_mk KX G ?a ?l ?c ?k Km.b_classes_in); (case a => k_is); (case l => k_is); (case c => k_is); (case k => k_is)
    case d_others_in => (refine' Km.df_mk KX G ?a ?l ?c ?k Km.b_others_in); (case a => k_is); (case l => k_is); (case c => k_is); (case k => k_is)
    case d_struck => (refine' Km.df_mk KX G ?a ?l ?c ?k Km.b_struck); (case a => k_is); (case l => k_is); (case c => k_is); (case k => k_is)
    case d_pot => (refine' Km.df_mk KX G ?a ?l ?c ?k Km.b_pot); (case a => k_is); (case l => k_is); (case c => k_is); (case k => k_is)
    case d_dip => (refine' Km.df_mk KX G ?a ?l ?c ?k Km.b_dip); (case a => k_is); (case l => k_is); (case c => k_is); (case k => k_is)
    case d_shaken => (refine' Km.df_mk KX G ?a ?l ?c ?k Km.b_shaken); (case a => k_is); (case l => k_is); (case c => k_is); (case k => k_is)
    case d_lwords => (refine' Km.df_mk KX G ?a ?l ?c ?k Km.b_lwords); (case a => k_is); (case l => k_is); (case c => k_is); (case k => k_is)
    case d_lsum => (refine' Km.df_mk KX G ?a ?l ?c ?k Km.b_lsum); (case a => k_is); (case l => k_is); (case c => k_is); (case k => k_is)
    case d_lnormals => (refine' Km.df_mk KX G ?a ?l ?c ?k Km.b_lnormals); (case a => k_is); (case l => k_is); (case c => k_is); (case k => k_is)
    case d_ldot => (refine' Km.df_mk KX G ?a ?l ?c ?k Km.b_ldot); (case a => k_is); (case l => k_is); (case c => k_is); (case k => k_is)
    case d_shape => (refine' Km.df_mk KX G ?a ?l ?c ?k Km.b_shape); (case a => k_is); (case l => k_is); (case c => k_is); (case k => k_is)
    case d_lplan => (refine' Km.df_mk KX G ?a ?l ?c ?k Km.b_lplan); (case a => k_is); (case l => k_is); (case c => k_is); (case k => k_is)
    case d_lruns => (refine' Km.df_mk KX G ?a ?l ?c ?k Km.b_lruns); (case a => k_is); (case l => k_is); (case c => k_is); (case k => k_is)
    case d_lparts => (refine' Km.df_mk KX G ?a ?l ?c ?k Km.b_lparts); (case a => k_is); (case l => k_is); (case c => k_is); (case k => k_is)
    case d_ldue => (refine' Km.df_mk KX G ?a ?l ?c ?k Km.b_ldue); (case a => k_is); (case l => k_is); (case c => k_is); (case k => k_is)
    case d_lright => (refine' Km.df_mk KX G ?a ?l ?c ?k Km.b_lright); (case a => k_is); (case l => k_is); (case c => k_is); (case k => k_is)
