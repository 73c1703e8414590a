import PyProof.Rows.All
import Wide.All
import OpenK.AllK
import Wide.FinOn
import HandS.ForMost
import HandS.Wide
import HandS.WideMore
import HandS.IsInst
import HandS.Style
import HandS.Codes
import HandS.Walk
import HandS.Zip
import HandS.SortRule
import HandS.Conv
import HandS.FStr
import HandS.More
import HandS.TupAny
import HandS.Exc
import HandS.ExcField
import HandS.ExcIs
import HandS.TryMany
import HandS.ExcInit
import HandS.Lambda
import HandS.HotCalls
import HandS.ExcOwn
import HandS.WordsExc
import HandS.EndTab
import HandS.Defaults
import KE.KExcIs
import KE.RegKTryMore
import KE.RegKIsAll
import PySem.Challenge.RW_outgrow_k06_plans_that_do_not_fit
set_option linter.unusedVariables false
set_option Elab.async false
set_option maxRecDepth 100000
set_option maxHeartbeats 4000000
namespace My
open PySem L2
/-! ### heaps: a frozen part G, a working part H; M: what may change of what stood -/
def NoM : Addr → Prop := fun _ => False
def Only1 (d : Addr) : Addr → Prop := fun b => b = d
def But (M : Addr → Prop) (H H' : Hp) : Prop := ∀ b o, H b = some o → ¬ M b → H' b = some o
/-- something that stands there and is no tuple -/
structure Cell (o : Option HO) : Prop where
  some : o ≠ none
  tup : ∀ xs, o ≠ Option.some (.tup xs)
structure Grow (M : Addr → Prop) (G H G' H' : Hp) : Prop where
  g : Same G G'
  gh : Same G' H'
  h : But M H H'
  old : ∀ b, Cell (H b) → G' b = G b
theorem cell_lst {H : Hp} {a : Addr} {xs : List V} (h : H a = some (.lst xs)) : Cell (H a) := ⟨fun e => (by rw [h] at e; cases e), fun ys e => (by rw [h] at e; cases e)⟩
theorem cell_dK {H : Hp} {a : Addr} {xs : List (L2.Key × V)} (h : H a = some (.dK xs)) : Cell (H a) := ⟨fun e => (by rw [h] at e; cases e), fun ys e => (by rw [h] at e; cases e)⟩
theorem cell_dT {H : Hp} {a : Addr} {xs : List (List L2.Key × V)} (h : H a = some (.dT xs)) : Cell (H a) := ⟨fun e => (by rw [h] at e; cases e), fun ys e => (by rw [h] at e; cases e)⟩
theorem cell_ins {H : Hp} {a C dx : Addr} {fs : List (Str × V)} (h : H a = some (.ins C dx fs)) : Cell (H a) := ⟨fun e => (by rw [h] at e; cases e), fun ys e => (by rw [h] at e; cases e)⟩
theorem But.refl (M : Addr → Prop) (H : Hp) : But M H H := fun _ _ e _ => e
theorem But.trans {M : Addr → Prop} {H H1 H2 : Hp} (a : But M H H1) (b : But M H1 H2) : But M H H2 := fun c o e n => b c o (a c o e n) n
theorem But.mono {M M' : Addr → Prop} {H H1 : Hp} (h : ∀ b, M b → M' b) (a : But M H H1) : But M' H H1 := fun c o e n => a c o e fun z => n (h c z)
theorem But.same {H H1 : Hp} (a : But NoM H H1) : Same H H1 := fun c o e => a c o e fun z => z
theorem same_but {M : Addr → Prop} {H H1 : Hp} (a : Same H H1) : But M H H1 := fun c o e _ => a c o e
theorem same_upd {H : Hp} {p : Addr} {o : HO} (h : H p = none) : Same H (upd H p o) := fun b x e => by
  rw [upd_ne (ne_of_none e h)]
  exact e
theorem But.new {M : Addr → Prop} {H : Hp} {p : Addr} {o : HO} (h : H p = none) : But M H (upd H p o) := same_but (same_upd h)
theorem But.put {M : Addr → Prop} {H H1 : Hp} {p : Addr} {o : HO} (a : But M H H1) (h : M p) : But M H (upd H1 p o) := fun b x e n => by
  rw [upd_ne (fun z => n (by rw [z]; exact h))]
  exact a b x e n
theorem But.put0 {M : Addr → Prop} {H H1 : Hp} {p : Addr} {o : HO} (a : But M H H1) (h : H p = none) : But M H (upd H1 p o) := fun b x e n => by
  rw [upd_ne (ne_of_none e h)]
  exact a b x e n
theorem But.cell {M : Addr → Prop} {H H1 : Hp} (a : But M H H1) (hm : ∀ b, M b → Cell (H1 b)) {b : Addr} (h : Cell (H b)) : Cell (H1 b) := by
  by_cases n : M b
  · exact hm b n
  · cases e : H b with
    | none => exact absurd e h.some
    | some o =>
      rw [a b o e n]
      rw [e] at h
      exact h
theorem But.none {M : Addr → Prop} {H H1 : Hp} (a : But M H H1) (hm : ∀ b, M b → Cell (H1 b)) {b : Addr} (h : H1 b = none) : H b = none := by
  cases e : H b with
  | none => rfl
  | some o =>
    by_cases n : M b
    · exact absurd h (hm b n).some
    · rw [a b o e n] at h
      cases h
theorem Grow.refl {M : Addr → Prop} {G H : Hp} (h : Same G H) : Grow M G H G H := ⟨Same.refl _, h, But.refl _ _, fun _ _ => rfl⟩
theorem Grow.trans {M : Addr → Prop} {G H G1 H1 G2 H2 : Hp} (a : Grow M G H G1 H1) (b : Grow M G1 H1 G2 H2) (hm : ∀ c, M c → Cell (H1 c)) : Grow M G H G2 H2 :=
  ⟨a.g.trans b.g, b.gh, a.h.trans b.h, fun c hc => (b.old c (a.h.cell hm hc)).trans (a.old c hc)⟩
theorem Grow.mono {M M' : Addr → Prop} {G H G1 H1 : Hp} (h : ∀ b, M b → M' b) (a : Grow M G H G1 H1) : Grow M' G H G1 H1 := ⟨a.g, a.gh, a.h.mono h, a.old⟩
/-- a new cell -/
theorem Grow.cell {M : Addr → Prop} {G H G1 H1 : Hp} {p : Addr} {o : HO} (a : Grow M G H G1 H1) (h : H1 p = none) : Grow M G H G1 (upd H1 p o) :=
  ⟨a.g, a.gh.trans (same_upd h), a.h.trans (But.new h), a.old⟩
/-- a cell of one's own, or one of M, is written -/
theorem Grow.put {M : Addr → Prop} {G H G1 H1 : Hp} {p : Addr} {o : HO} (a : Grow M G H G1 H1) (hg : G1 p = none) (h : H p = none ∨ M p) : Grow M G H G1 (upd H1 p o) :=
  ⟨a.g, fun b x e => by rw [upd_ne (ne_of_none e hg)]; exact a.gh b x e, by rcases h with h | h; exact a.h.put0 h; exact a.h.put h, a.old⟩
/-- a cell of one's own is frozen -/
theorem Grow.pub {M : Addr → Prop} {G H G1 H1 : Hp} {p : Addr} {o : HO} (a : Grow M G H G1 H1) (h1 : H1 p = some o) (hg : G1 p = none) (h : H p = none) : Grow M G H (upd G1 p o) H1 :=
  ⟨a.g.trans (same_upd hg), fun b x e => by
    by_cases q : b = p
    · subst q
      rw [upd_same] at e
      rw [← e]
      exact h1
    · rw [upd_ne q] at e
      exact a.gh b x e, a.h, fun b hb => by
    have q : b ≠ p := fun z => hb.some (by rw [z]; exact h)
    rw [upd_ne q]
    exact a.old b hb⟩
/-- a tuple is frozen at any time -/
theorem Grow.pubT {M : Addr → Prop} {G H G1 H1 : Hp} {p : Addr} {xs : List V} (a : Grow M G H G1 H1) (h1 : H1 p = some (.tup xs)) (hm : ∀ c, M c → Cell (H1 c)) : Grow M G H (upd G1 p (.tup xs)) H1 :=
  ⟨a.g.trans (fun b x e => by
    by_cases q : b = p
    · subst q
      rw [a.gh b x e] at h1
      rw [upd_same, h1]
    · rw [upd_ne q]
      exact e), fun b x e => by
    by_cases q : b = p
    · subst q
      rw [upd_same] at e
      rw [← e]
      exact h1
    · rw [upd_ne q] at e
      exact a.gh b x e, a.h, fun b hb => by
    have q : b ≠ p := fun z => (a.h.cell hm hb).tup xs (by rw [z]; exact h1)
    rw [upd_ne q]
    exact a.old b hb⟩
theorem pub_same {G H : Hp} {p : Addr} {o : HO} (g : Same G H) (h : H p = some o) : Same G (upd G p o) := fun b x e => by
  by_cases q : b = p
  · subst q
    rw [g b x e] at h
    rw [upd_same, h]
  · rw [upd_ne q]
    exact e
/-- a new thing, frozen at once -/
theorem Grow.new {M : Addr → Prop} {G H G1 H1 : Hp} {p : Addr} {o : HO} (a : Grow M G H G1 H1) (h : H1 p = none) (hm : ∀ c, M c → Cell (H1 c)) : Grow M G H (upd G1 p o) (upd H1 p o) :=
  (a.cell h).pub upd_same (a.gh.free h) (a.h.none hm h)
theorem Grow.none {M : Addr → Prop} {G H G1 H1 : Hp} {p : Addr} (a : Grow M G H G1 H1) (hg : G p = .none) (h : Cell (H p)) : G1 p = .none := by
  rw [a.old p h]
  exact hg
/-- a cell of one's own at the heap behind -/
theorem Grow.at_ {M : Addr → Prop} {G H G1 H1 : Hp} {p : Addr} {o : HO} (a : Grow M G H G1 H1) (h : H p = some o) (n : ¬ M p) : H1 p = some o := a.h p o h n
theorem noM {P : Addr → Prop} : ∀ c, NoM c → P c := fun _ h => h.elim
theorem noMC {H : Hp} : ∀ c, NoM c → Cell (H c) := fun _ h => h.elim
theorem only1 {d : Addr} : Only1 d d := rfl

end My
namespace L2
open PySem
/-! ### data -/
theorem same_rd {H H' : Hp} {a : Addr} {u : HO} (e : Same H H') (h : Rd H a u) : Rd H' a u := by
  rcases h with h | ⟨o, h⟩
  · exact Or.inl (e a _ h)
  · exact Or.inr ⟨o, e a _ h⟩
theorem same_l {K : PySem.W.Frag} {H H' : Hp} {a : Addr} {xs : List V} (e : Same H H') (h : SqL K H a xs) : SqL K H' a xs := by
  rcases h with h | h
  · exact Or.inl (same_rd e h)
  · exact Or.inr h
theorem same_t {K : PySem.W.Frag} {H H' : Hp} {a : Addr} {xs : List V} (e : Same H H') (h : SqT K H a xs) : SqT K H' a xs := by
  rcases h with h | h
  · exact Or.inl (same_rd e h)
  · exact Or.inr h
mutual
theorem Dp.mono {K : PySem.W.Frag} {H H' : Hp} (e : Same H H') : ∀ {d : PyData} {v : V}, Dp K H v d → Dp K H' v d
  | _, _, .non => .non
  | _, _, .bl b => .bl b
  | _, _, .int i => .int i
  | _, _, .str x => .str x
  | _, _, .lst h a => .lst (same_l e h) (DpAll.mono e a)
  | _, _, .tup h a => .tup (same_t e h) (DpAll.mono e a)
theorem DpAll.mono {K : PySem.W.Frag} {H H' : Hp} (e : Same H H') : ∀ {ds : List PyData} {vs : List V}, DpAll K H vs ds → DpAll K H' vs ds
  | _, _, .nil => .nil
  | _, _, .cons a b => .cons (Dp.mono e a) (DpAll.mono e b)
end
theorem DpAll.length {K : PySem.W.Frag} {H : Hp} : ∀ {ds : List PyData} {vs : List V}, DpAll K H vs ds → vs.length = ds.length
  | _, _, .nil => rfl
  | _, _, .cons _ b => by
    rw [List.length_cons, List.length_cons, DpAll.length b]
theorem DpAll.snoc {K : PySem.W.Frag} {H : Hp} {d : PyData} {v : V} : ∀ {ds : List PyData} {vs : List V}, DpAll K H vs ds → Dp K H v d → DpAll K H (vs ++ [v]) (ds ++ [d])
  | _, _, .nil, h => .cons h .nil
  | _, _, .cons a b, h => .cons a (DpAll.snoc b h)
theorem DpAll.get {K : PySem.W.Frag} {H : Hp} : ∀ {ds : List PyData} {vs : List V} {i : Nat} {v : V}, DpAll K H vs ds → vs[i]? = some v → ∃ d, ds[i]? = some d ∧ Dp K H v d
  | _, _, _, _, .nil, h => by simp at h
  | _, _, 0, _, .cons a _, h => by
    simp at h
    subst h
    exact ⟨_, rfl, a⟩
  | _, _, i + 1, _, .cons _ b, h => by
    obtain ⟨d, e, q⟩ := DpAll.get (i := i) b (by simpa using h)
    exact ⟨d, by simpa using e, q⟩
theorem DpAll.get' {K : PySem.W.Frag} {H : Hp} : ∀ {ds : List PyData} {vs : List V} {i : Nat} {d : PyData}, DpAll K H vs ds → ds[i]? = some d → ∃ v, vs[i]? = some v ∧ Dp K H v d
  | _, _, _, _, .nil, h => by simp at h
  | _, _, 0, _, .cons a _, h => by
    simp at h
    subst h
    exact ⟨_, rfl, a⟩
  | _, _, i + 1, _, .cons _ b, h => by
    obtain ⟨d, e, q⟩ := DpAll.get' (i := i) b (by simpa using h)
    exact ⟨d, by simpa using e, q⟩

end L2
namespace My
open PySem L2
/-! ### the draw -/
structure DrawAt (H : Hp) (d l : Addr) : Prop where
  ex : ∃ (ns : List Int) (p g s : Int), H d = some (.lst [.ref l, .int p, .int g, .int s]) ∧ H l = some (.lst (ns.map V.int)) ∧ 0 ≤ p ∧ 0 ≤ g ∧ 0 ≤ s ∧ s < 2147483647 ∧ ns.length ≤ 63
theorem DrawAt.some {H : Hp} {d l : Addr} (h : DrawAt H d l) : H d ≠ none := by
  obtain ⟨ns, p, g, s, e, _⟩ := h.ex
  rw [e]
  simp
theorem DrawAt.cell {H : Hp} {d l : Addr} (h : DrawAt H d l) : Cell (H d) := by
  obtain ⟨ns, p, g, s, e, _⟩ := h.ex
  exact cell_lst e
theorem DrawAt.some' {H : Hp} {d l : Addr} (h : DrawAt H d l) : ∀ c, Only1 d c → Cell (H c) := fun c e => by
  rw [show c = d from e]
  exact h.cell
theorem DrawAt.ned {H : Hp} {d l p : Addr} (h : DrawAt H d l) (e : H p = none) : p ≠ d := fun q => h.some (by rw [← q]; exact e)
theorem DrawAt.nel {H : Hp} {d l p : Addr} (h : DrawAt H d l) (e : H p = none) : p ≠ l := fun q => by
  obtain ⟨ns, p, g, s, _, e2, _⟩ := h.ex
  rw [← q, e] at e2
  cases e2
theorem DrawAt.mono {H H' : Hp} {d l : Addr} (h : DrawAt H d l) (e : Same H H') : DrawAt H' d l := by
  obtain ⟨ns, p, g, s, e1, e2, r⟩ := h.ex
  exact ⟨⟨ns, p, g, s, e _ _ e1, e _ _ e2, r⟩⟩
theorem DrawAt.upd {H : Hp} {d l p : Addr} {o : HO} (h : DrawAt H d l) (e : H p = none) : DrawAt (upd H p o) d l := h.mono (same_upd e)
theorem DrawAt.put {H : Hp} {d l p : Addr} {o : HO} (h : DrawAt H d l) (hd : p ≠ d) (hl : p ≠ l) : DrawAt (L2.upd H p o) d l := by
  obtain ⟨ns, p', g, s, e1, e2, r⟩ := h.ex
  exact ⟨⟨ns, p', g, s, by rw [upd_ne hd.symm]; exact e1, by rw [upd_ne hl.symm]; exact e2, r⟩⟩
theorem log_small {n : Int} {k : Nat} (h0 : 0 < n) (h : n < 2 ^ k) (hk : k ≤ 9000) (k0 : 0 < k) : CDivW 0 n := by
  refine wide_div (i := 0) h0 (b := k) ?_ k0 hk
  have : ((n.natAbs : Nat) : Int) < ((2 ^ k : Nat) : Int) := by
    rw [Int.natAbs_of_nonneg (by omega)]
    simpa using h
  exact_mod_cast this
end My
namespace My
open PySem L2
/-! ### types and depth of data -/
def tyN : PyData → String
  | .none => "NoneType"
  | .bool _ => "bool"
  | .int _ => "int"
  | .str _ => "str"
  | .list _ => "list"
  | .tuple _ => "tuple"
  | .dict _ => "dict"
abbrev tyD (d : PyData) : Value := .type (tyN d)
theorem sql_ty {K : PySem.W.Frag} {H : Hp} {a : Addr} {xs : List V} (h : SqL K H a xs) : TyX K H (.ref a) (.type "list") := by
  rcases h with (h | ⟨o, h⟩) | ⟨o, its, n, h, c, _⟩
  · exact .base (.lst h)
  · exact .base (.frz h)
  · exact .kList h c
theorem sqt_ty {K : PySem.W.Frag} {H : Hp} {a : Addr} {xs : List V} (h : SqT K H a xs) : TyX K H (.ref a) (.type "tuple") := by
  rcases h with (h | ⟨o, h⟩) | ⟨o, its, n, h, c, _⟩
  · exact .base (.tup h)
  · exact .fTuple h
  · exact .kTuple h c
theorem dp_ty {K : PySem.W.Frag} {H : Hp} {v : V} {d : PyData} (h : Dp K H v d) : TyX K H v (tyD d) := by
  cases h with
  | non => exact .base .non
  | bl b => exact .base (.bl b)
  | int i => exact .base (.int i)
  | str x => exact .base (.str x)
  | lst h _ => exact sql_ty h
  | tup h _ => exact sqt_ty h
mutual
def dep : PyData → Nat
  | .list ds => depAll ds + 1
  | .tuple ds => depAll ds + 1
  | _ => 0
def depAll : List PyData → Nat
  | [] => 0
  | d :: ds => max (dep d) (depAll ds)
end
theorem dep_get : ∀ {ds : List PyData} {i : Nat} {d : PyData}, ds[i]? = some d → dep d ≤ depAll ds
  | [], _, _, h => by simp at h
  | x :: r, 0, d, h => by
    have e : x = d := by simpa using h
    rw [e, depAll]
    omega
  | x :: r, i + 1, d, h => by
    have q := dep_get (ds := r) (i := i) (d := d) (by simpa using h)
    rw [depAll]
    omega
mutual
def wid : PyData → Nat
  | .list ds => max ds.length (widAll ds)
  | .tuple ds => max ds.length (widAll ds)
  | _ => 0
def widAll : List PyData → Nat
  | [] => 0
  | d :: ds => max (wid d) (widAll ds)
end
theorem wid_get : ∀ {ds : List PyData} {i : Nat} {d : PyData}, ds[i]? = some d → wid d ≤ widAll ds
  | [], _, _, h => by simp at h
  | x :: r, 0, d, h => by
    have e : x = d := by simpa using h
    rw [e, widAll]
    omega
  | x :: r, i + 1, d, h => by
    have q := wid_get (ds := r) (i := i) (d := d) (by simpa using h)
    rw [widAll]
    omega
theorem kit2 {K : PySem.W.Frag} {t : Value} {a b : String} {r s : Bool} (h1 : PySem.W.kitOne K t (.type a) = some r) (h2 : PySem.W.kitOne K t (.type b) = some s) : PySem.W.kitAny K t [.type a, .type b] = some (r || s) := by
  refine kitAny_cons h1 (fun e => ?_) (fun e => by rw [e]; rfl)
  rw [e]
  refine kitAny_cons h2 (fun e => ?_) (fun e => by rw [e]; rfl)
  rw [e]
  exact kitAny_nil
/-- is a list, is a tuple, .. -/
def isTn (s t : String) : Bool := t == s || (t == "bool" && s == "int")
abbrev isTy (s : String) (d : PyData) : Bool := isTn s (tyN d)
theorem kit_n {K : PySem.W.Frag} (a b : String) (h : kitB a b = some (isTn b a)) : PySem.W.kitOne K (.type a) (.type b) = some (isTn b a) := kit_ty h
theorem kit_d {K : PySem.W.Frag} (d : PyData) : PySem.W.kitOne K (tyD d) (.type "list") = some (isTy "list" d) ∧ PySem.W.kitOne K (tyD d) (.type "tuple") = some (isTy "tuple" d) ∧
    PySem.W.kitOne K (tyD d) (.type "bool") = some (isTy "bool" d) ∧ PySem.W.kitOne K (tyD d) (.type "int") = some (isTy "int" d) ∧ PySem.W.kitOne K (tyD d) (.type "str") = some (isTy "str" d) := by
  cases d with
  | none => exact ⟨kit_n "NoneType" "list" (by decide +kernel), kit_n "NoneType" "tuple" (by decide +kernel), kit_n "NoneType" "bool" (by decide +kernel), kit_n "NoneType" "int" (by decide +kernel), kit_n "NoneType" "str" (by decide +kernel)⟩
  | bool _ => exact ⟨kit_n "bool" "list" (by decide +kernel), kit_n "bool" "tuple" (by decide +kernel), kit_n "bool" "bool" (by decide +kernel), kit_n "bool" "int" (by decide +kernel), kit_n "bool" "str" (by decide +kernel)⟩
  | int _ => exact ⟨kit_n "int" "list" (by decide +kernel), kit_n "int" "tuple" (by decide +kernel), kit_n "int" "bool" (by decide +kernel), kit_n "int" "int" (by decide +kernel), kit_n "int" "str" (by decide +kernel)⟩
  | str _ => exact ⟨kit_n "str" "list" (by decide +kernel), kit_n "str" "tuple" (by decide +kernel), kit_n "str" "bool" (by decide +kernel), kit_n "str" "int" (by decide +kernel), kit_n "str" "str" (by decide +kernel)⟩
  | list _ => exact ⟨kit_n "list" "list" (by decide +kernel), kit_n "list" "tuple" (by decide +kernel), kit_n "list" "bool" (by decide +kernel), kit_n "list" "int" (by decide +kernel), kit_n "list" "str" (by decide +kernel)⟩
  | tuple _ => exact ⟨kit_n "tuple" "list" (by decide +kernel), kit_n "tuple" "tuple" (by decide +kernel), kit_n "tuple" "bool" (by decide +kernel), kit_n "tuple" "int" (by decide +kernel), kit_n "tuple" "str" (by decide +kernel)⟩
  | dict _ => exact ⟨kit_n "dict" "list" (by decide +kernel), kit_n "dict" "tuple" (by decide +kernel), kit_n "dict" "bool" (by decide +kernel), kit_n "dict" "int" (by decide +kernel), kit_n "dict" "str" (by decide +kernel)⟩
abbrev clsLT : List V := [.ty "list", .ty "tuple"]
theorem pairLT : Paired ClsV clsLT [.type "list", .type "tuple"] := .cons (.ty _) (.cons (.ty _) .nil)
theorem walk_zipT {K : PySem.W.Frag} {a b : Addr} {xs ys : List V} {n : Nat} (hn : n = min xs.length ys.length) : Walk (RZ.ItzT K a b) n (fun H => SqT K H a xs ∧ SqT K H b ys) (YPair (fun i => xs[i]?) (fun i => ys[i]?)) := by
  subst hn
  refine ⟨fun i _ hi q => ?_, fun _ q => ⟨xs, ys, q.1, q.2, by omega⟩, fun i H v H' _ q y => ?_⟩
  · have h1 : i < xs.length := by omega
    have h2 : i < ys.length := by omega
    exact ⟨xs, ys, xs[i], ys[i], q.1, q.2, by simp [h1], by simp [h2]⟩
  · obtain ⟨T, x, z, h1, h2, h3, h4, h5⟩ := y
    exact ⟨T, x, z, h1, h2, h3, h4 xs q.1, h5 ys q.2⟩
theorem but_l {K : PySem.W.Frag} {M : Addr → Prop} {H H' : Hp} {a : Addr} {xs : List V} (e : But M H H') (n : ¬ M a) (h : SqL K H a xs) : SqL K H' a xs := by
  rcases h with (h | ⟨o, h⟩) | h
  · exact Or.inl (Or.inl (e a _ h n))
  · exact Or.inl (Or.inr ⟨o, e a _ h n⟩)
  · exact Or.inr h
theorem but_t {K : PySem.W.Frag} {M : Addr → Prop} {H H' : Hp} {a : Addr} {xs : List V} (e : But M H H') (n : ¬ M a) (h : SqT K H a xs) : SqT K H' a xs := by
  rcases h with (h | ⟨o, h⟩) | h
  · exact Or.inl (Or.inl (e a _ h n))
  · exact Or.inl (Or.inr ⟨o, e a _ h n⟩)
  · exact Or.inr h
end My
namespace My
open PySem L2
/-- [f sign for sign in text] -/
theorem lc_sign {te tz : TE} {σ : L2.St} {H : Hp} {Q : VK} {j : Nat} (z : Str) (f : Nat → Bool) (hz : z.length ≤ 100000) (hv : ∀ Q' : VK, Q' (.str z) H → tz σ H Q')
    (hw : ∀ x : V, wipe ((wipe σ [j]).set j (some x)) [j] = wipe σ [j]) (hs : ∀ (c : Nat) (H' : Hp) (Q' : VK), Q' (.bl (f c)) H' → te ((wipe σ [j]).set j (some (.str ⟨#[c]⟩))) H' Q')
    (k : ∀ (D : Addr) (H' : Hp), Same H H' → H D = none → H' D = some (.lst ((z.cps.toList.map f).map V.bl)) → Q (.ref D) H') : tLc (iStr tz) (gName j) tYes te [j] σ H Q := by
  refine hv _ ⟨z, rfl, fun D hD => ?_⟩
  refine lc_it walk_str (fun i H' => Same H H' ∧ H' D = some (.lst (((z.cps.toList.take i).map f).map V.bl))) ⟨same_upd hD, upd_same⟩ (fun _ _ _ _ => trivial) ?_ ?_
  · rintro i x H1 H2 hi ⟨sm, eD⟩ ⟨rfl, c, hc, rfl⟩
    refine ⟨hw _, ?_⟩
    refine hs c H2 _ ⟨_, eD, ?_, ?_, ?_⟩
    · rw [List.length_map, List.length_map, List.length_take]
      have : i < 100000 := Nat.lt_of_lt_of_le hi hz
      exact Nat.lt_of_le_of_lt (Nat.min_le_left _ _) (Nat.lt_of_lt_of_le this (by decide))
    · intro b o e
      rw [upd_ne (ne_of_none e hD)]
      exact sm b o e
    · rw [upd_same, List.take_add_one]
      have e : z.cps.toList[i]? = some c := by
        rw [Array.getElem?_toList]
        exact hc
      rw [e]
      simp
  · rintro H' ⟨sm, eD⟩
    refine k D H' sm hD ?_
    rw [eD, List.take_of_length_le (by rw [Array.length_toList]; exact Nat.le_refl _)]
theorem list_all_map {α : Type} (f : α → Bool) (l : List α) : (l.map f).all id = l.all f := by
  rw [List.all_map]
  rfl
end My
namespace My
open PySem L2
section
variable {X : Cx}
theorem iop_mulW : OpR X (inplaceOp .Mult) (rI CMulW fun i j => .int (i * j)) := opI fun _ _ _ _ _ _ _ hc q => PyProof.Rows.imul_int q hc.ok
theorem ip_mulW : PIp X .Mult (rI CMulW fun i j => .int (i * j)) := fun pins s σ H x y v u Q I rx ry h => iop_mulW pins s σ H x y v u Q I rx ry h
theorem ip_fdivW : PIp X .FloorDiv (rI CDivW fun i j => .int (i / j)) := fun pins s σ H x y v u Q I rx ry h => iop_fdivW pins s σ H x y v u Q I rx ry h
end
theorem pow_lt {b : Int} {m : Nat} (h : b.natAbs < 2 ^ m) : ∀ i : Nat, (b ^ i).natAbs < 2 ^ (m * i + 1)
  | 0 => by
    rw [Int.pow_zero, Nat.mul_zero]
    decide
  | i + 1 => by
    have q := pow_lt h i
    rw [Int.pow_succ]
    have e : m * (i + 1) + 1 = (m * i + 1) + m := by rw [Nat.mul_succ]; omega
    rw [e]
    exact wide_lt q h
/-- base, power: the power, by a product for each turn -/
def spRaised : Sp := fun vs H Q _ => ∃ (b : Int) (p m : Nat), vs = [.int b, .int p] ∧ b.natAbs < 2 ^ m ∧ 0 < m ∧ m * (p + 1) ≤ 900000 ∧ Q (.int (b ^ p)) H
theorem raised_ok {b : Int} {m p i : Nat} (h : b.natAbs < 2 ^ m) (h0 : 0 < m) (h1 : m * (p + 1) ≤ 900000) (hi : i < p) : CMulW (b ^ i) b := by
  have e1 : m * i + m ≤ m * (p + 1) := by
    rw [← Nat.mul_succ]
    exact Nat.mul_le_mul_left _ (by omega)
  exact wide_mul (pow_lt h i) h (by omega) h0 (by omega)
theorem raised_small {m p : Nat} (h0 : 0 < m) (h1 : m * (p + 1) ≤ 900000) : p < 900000 := by
  have : 1 * (p + 1) ≤ m * (p + 1) := Nat.mul_le_mul_right _ h0
  omega
end My
namespace My
open PySem L2
/-- a comprehension whose turns leave all that stood as it was: the values f i -/
theorem lc_pure {J : It} {n : Nat} {G : Hp → Prop} {Y : Nat → Hp → V → Hp → Prop} (w : Walk J n G Y) {g : TG} {te : TE} {vs : List Nat} {σ : L2.St} {H : Hp} {D : Addr} {Qd : Hp → Prop} (f : Nat → V) (hn : n ≤ 100000) (hD : H D = none) (hG : ∀ H', Same H H' → G H')
    (hs : ∀ (i : Nat) (x : V) (H1 H2 : Hp) (Q' : VK), i < n → Same H H1 → Y i H1 x H2 → (∀ H4, Same H1 H4 → Q' (f i) H4) → g x (wipe σ vs) H2 fun σ2 H3 => wipe σ2 vs = wipe σ vs ∧ te σ2 H3 Q')
    (k : ∀ H', Same H H' → H' D = some (.lst ((List.range n).map f)) → Qd H') :
    ∃ W : Nat → Nat → Hp → Prop, (∃ m, W 0 m (upd H D (.lst []))) ∧ ∀ i m H, W i m H →
      (J.stop i H ∧ Qd H) ∨ (J.go i H ∧ ∃ Nx : Hp → Prop, (∀ H', Nx H' → ∃ m', m' < m ∧ W (i + 1) m' H') ∧ ∀ x H', J.yld i H x H' → g x (wipe σ vs) H' fun σ2 H2 => wipe σ2 vs = wipe σ vs ∧ tYes σ2 H2 fun b H3 =>
        if b = true then te σ2 H3 fun y H4 => ∃ acc, H4 D = some (.lst acc) ∧ acc.length < sizeLine ∧ Nx (upd H4 D (.lst (acc ++ [y]))) else Nx H3) := by
  refine lc_it w (fun i H' => Same H H' ∧ H' D = some (.lst ((List.range i).map f))) ⟨same_upd hD, upd_same⟩ (fun i H' _ p => hG H' p.1) ?_ (fun H' p => k H' p.1 p.2)
  rintro i x H1 H2 hi ⟨sm, eD⟩ y
  refine hs i x H1 H2 _ hi sm y fun H4 s4 => ?_
  refine ⟨_, s4 _ _ eD, ?_, ?_, ?_⟩
  · rw [List.length_map, List.length_range]
    exact Nat.lt_of_lt_of_le hi (Nat.le_trans hn (by decide))
  · intro b o e
    rw [upd_ne (ne_of_none e hD)]
    exact s4 _ _ (sm b o e)
  · rw [upd_same, List.range_succ, List.map_append]
    rfl
/-- the draw's list and what was frozen -/
theorem Grow.draw {G H H' : Hp} {d : Addr} (sg : Same G H) (gd : G d = .none) (b : But (Only1 d) H H') : Grow (Only1 d) G H G H' :=
  ⟨Same.refl _, fun c o e => b c o (sg c o e) (fun q => by
    rw [show c = d from q, gd] at e
    cases e), b, fun _ _ => rfl⟩
end My
namespace My
open PySem L2
abbrev keptL : List Str := ["step", "for", "from", "to", "if", "else", "double", "call", "with", "again", "on", "halves", "thirds", "less", "n"]
end My
namespace My
open PySem L2
/-! ### texts -/
def num (i : Int) : Str := Str.ofString (toString i)
theorem str_assoc (a b c : Str) : a ++ b ++ c = a ++ (b ++ c) := congrArg Str.mk (Array.append_assoc (xs := a.cps) (ys := b.cps) (zs := c.cps))
theorem str_nil (a : Str) : Str.empty ++ a = a := congrArg Str.mk (Array.empty_append (xs := a.cps))
theorem str_nil_r (a : Str) : a ++ Str.empty = a := congrArg Str.mk (Array.append_empty (xs := a.cps))
theorem str_len (a b : Str) : (a ++ b).length = a.length + b.length := Array.size_append
theorem join_one (s x : Str) : Txt.join s [x] = x := by rw [TL.join_eq]; rfl
theorem join_nil (s : Str) : Txt.join s [] = Str.empty := by rw [TL.join_eq]; rfl
theorem join_cons {s x : Str} {l : List Str} (h : l ≠ []) : Txt.join s (x :: l) = x ++ s ++ Txt.join s l := by
  cases l with
  | nil => exact absurd rfl h
  | cons y r => rw [TL.join_eq, TL.join_eq]; rfl
theorem join_snoc {s x : Str} : ∀ {l : List Str}, l ≠ [] → Txt.join s (l ++ [x]) = Txt.join s l ++ s ++ x
  | [], h => absurd rfl h
  | [y], _ => by rw [List.singleton_append, join_cons (by simp), join_one, join_one]
  | y :: z :: r, _ => by
    have ih := join_snoc (s := s) (x := x) (l := z :: r) (by simp)
    rw [List.cons_append, join_cons (by simp), ih, join_cons (l := z :: r) (by simp)]
    simp only [str_assoc]
theorem join_len (s : Str) : ∀ l : List Str, (Txt.join s l).length ≤ (l.map (·.length)).sum + l.length * s.length
  | [] => by rw [join_nil]; exact Nat.zero_le _
  | [x] => by rw [join_one]; simp
  | x :: y :: r => by
    have ih := join_len s (y :: r)
    rw [join_cons (by simp), str_len, str_len]
    simp only [List.map_cons, List.sum_cons, List.length_cons, Nat.add_mul, Nat.one_mul] at ih ⊢
    omega
theorem sum_le {B : Nat} : ∀ {l : List Str}, (∀ x ∈ l, x.length ≤ B) → (l.map (·.length)).sum ≤ l.length * B
  | [], _ => by simp
  | x :: r, h => by
    have ih := sum_le (l := r) fun y hy => h y (List.mem_cons_of_mem _ hy)
    have h1 := h x (List.mem_cons_self ..)
    simp only [List.map_cons, List.sum_cons, List.length_cons, Nat.add_mul, Nat.one_mul]
    omega
theorem num_len {i : Int} {k : Nat} (hk : 0 < k) (h : i.natAbs.log2 < k) : (num i).length ≤ k + 1 := by
  have e := int_text_length_le hk h
  have e2 : (num i).length = (toString i).length := by
    unfold num
    rw [Str.ofString_eq_toList]
    show ((toString i).toList.map Char.toNat).toArray.size = _
    rw [List.size_toArray, List.length_map]
    rfl
  omega
theorem log_lt {i : Int} {k : Nat} (h0 : i.natAbs < 2 ^ k) (hk : 0 < k) : i.natAbs.log2 < k := by
  by_cases h : i.natAbs = 0
  · rw [h]; exact hk
  · exact (Nat.log2_lt h).mpr h0
end My
namespace L2
open PySem
theorem Dp.tup2 {K : PySem.W.Frag} {H : Hp} {v : V} {d e : PyData} (h : Dp K H v (.tuple [d, e])) : ∃ a x y, v = .ref a ∧ SqT K H a [x, y] ∧ Dp K H x d ∧ Dp K H y e := by
  cases h with
  | tup hs hr =>
    cases hr with
    | cons h1 hr =>
      cases hr with
      | cons h2 hr =>
        cases hr
        exact ⟨_, _, _, rfl, hs, h1, h2⟩
theorem Dp.lst' {K : PySem.W.Frag} {H : Hp} {v : V} {ds : List PyData} (h : Dp K H v (.list ds)) : ∃ a xs, v = .ref a ∧ SqL K H a xs ∧ DpAll K H xs ds := by
  cases h with
  | lst hs hr => exact ⟨_, _, rfl, hs, hr⟩
theorem Dp.int' {K : PySem.W.Frag} {H : Hp} {v : V} {i : Int} (h : Dp K H v (.int i)) : v = .int i := by
  cases h
  rfl
theorem Dp.str' {K : PySem.W.Frag} {H : Hp} {v : V} {x : Str} (h : Dp K H v (.str x)) : v = .str x := by
  cases h
  rfl
end L2
namespace My
open PySem L2
theorem canLay_map {α : Type} {f : α → PyData} : ∀ {l : List α}, (∀ x ∈ l, (f x).canLay0 = true) → PyData.canLayAll0 (l.map f) = true
  | [], _ => rfl
  | x :: r, h => by
    have h1 := h x (List.mem_cons_self ..)
    have h2 := canLay_map (f := f) (l := r) fun y hy => h y (List.mem_cons_of_mem _ hy)
    simp only [List.map_cons, PyData.canLayAll0, h1, h2, Bool.and_self]
theorem depth_map {α : Type} {f : α → PyData} {n : Nat} : ∀ {l : List α}, (∀ x ∈ l, (f x).depth ≤ n) → PyData.depthAll (l.map f) ≤ n
  | [], _ => Nat.zero_le _
  | x :: r, h => by
    have h1 := h x (List.mem_cons_self ..)
    have h2 := depth_map (f := f) (l := r) fun y hy => h y (List.mem_cons_of_mem _ hy)
    simp only [List.map_cons, PyData.depthAll]
    omega
theorem shaped_list {α : Type} {f : α → PyData} {l : List α} (h : ∀ x ∈ l, (f x).canLay0 = true ∧ (f x).depth ≤ 63) : SeqAt.shaped (.list (l.map f)) = true := by
  unfold SeqAt.shaped
  rw [Bool.and_eq_true, decide_eq_true_eq]
  refine ⟨?_, ?_⟩
  · unfold PyData.canLay0
    exact canLay_map fun x hx => (h x hx).1
  · unfold PyData.depth
    have := depth_map (f := f) (n := 63) (l := l) fun x hx => (h x hx).2
    omega
theorem shaped_nil : SeqAt.shaped (.list []) = true := shaped_list (α := Int) (f := PyData.int) (l := []) (by simp)
theorem eqv_nil {α : Type} (f : α → PyData) (l : List α) : PyData.eqv (.list (l.map f)) (.list []) = l.isEmpty := by
  cases l with
  | nil => rfl
  | cons x r => rfl
theorem strOk_of (s : String) : PyData.strOk (Str.ofString s) = true := by
  unfold PyData.strOk
  rw [Str.ofString_eq_toList]
  show ((s.toList.map Char.toNat).toArray).all (fun x => decide (x < 1114112)) = true
  rw [List.all_toArray]
  rw [List.all_eq_true]
  intro c hc
  obtain ⟨ch, _, rfl⟩ := List.mem_map.mp hc
  have h := ch.valid
  have : ch.toNat < 1114112 := by
    rcases h with h | h
    · exact Nat.lt_trans h (by decide)
    · exact h.2
  exact decide_eq_true this
theorem strOk_app {a b : Str} (h1 : PyData.strOk a = true) (h2 : PyData.strOk b = true) : PyData.strOk (a ++ b) = true := by
  unfold PyData.strOk at *
  show (a.cps ++ b.cps).all _ = true
  rw [Array.all_append, h1, h2]
  rfl
theorem same_put {H H1 : Hp} {p : Addr} {o : HO} (a : Same H H1) (h : H p = none) : Same H (upd H1 p o) := fun b x e => by
  rw [upd_ne (ne_of_none e h)]
  exact a b x e
theorem DpAll.at_ {K : PySem.W.Frag} {H : Hp} {α : Type} {f : α → PyData} {us : List V} {l : List α} {i : Nat} {x : V} (h : DpAll K H us (l.map f)) (hx : us[i]? = some x) : ∃ r, l[i]? = some r ∧ Dp K H x (f r) := by
  obtain ⟨d, e, q⟩ := DpAll.get h hx
  rw [List.getElem?_map] at e
  cases hr : l[i]? with
  | none => rw [hr] at e; cases e
  | some r =>
    rw [hr] at e
    exact ⟨r, rfl, by rw [Option.some.inj e]; exact q⟩
theorem take_snoc {α : Type} {l : List α} {i : Nat} {r : α} (h : l[i]? = some r) : l.take (i + 1) = l.take i ++ [r] := by
  rw [List.take_add_one, h]
  rfl
theorem range_getD {α : Type} (l : List α) (d : α) : (List.range l.length).map (fun i => l.getD i d) = l := by
  apply List.ext_getElem?
  intro i
  rw [List.getElem?_map]
  by_cases h : i < l.length
  · rw [List.getElem?_range h, List.getElem?_eq_getElem h]
    show some (l.getD i d) = some l[i]
    rw [List.getD_eq_getElem?_getD, List.getElem?_eq_getElem h]
    rfl
  · rw [List.getElem?_eq_none (by simpa using h), List.getElem?_eq_none (by omega)]
    rfl
theorem getD_of' {α : Type} {l : List α} {d r : α} {i : Nat} (h : l[i]? = some r) : l.getD i d = r := by
  rw [List.getD_eq_getElem?_getD, h]
  rfl
end My
namespace L2
open PySem
theorem Dp.tup' {K : PySem.W.Frag} {H : Hp} {v : V} {ds : List PyData} (h : Dp K H v (.tuple ds)) : ∃ a xs, v = .ref a ∧ SqT K H a xs ∧ DpAll K H xs ds := by
  cases h with
  | tup hs hr => exact ⟨_, _, rfl, hs, hr⟩
theorem DpAll.c {K : PySem.W.Frag} {H : Hp} {vs : List V} {d : PyData} {ds : List PyData} (h : DpAll K H vs (d :: ds)) : ∃ x r, vs = x :: r ∧ Dp K H x d ∧ DpAll K H r ds := by
  cases h with
  | cons a b => exact ⟨_, _, rfl, a, b⟩
theorem DpAll.n {K : PySem.W.Frag} {H : Hp} {vs : List V} (h : DpAll K H vs []) : vs = [] := by
  cases h
  rfl
end L2
namespace My
open PySem L2
theorem inV_strs (x : Str) (l : List Str) : inV (.str x) (l.map V.str) = decide (x ∈ l) := by
  induction l with
  | nil => rfl
  | cons y r ih =>
    rw [List.map_cons]
    show (eqV (.str y) (.str x) || inV (.str x) (r.map V.str)) = _
    rw [ih]
    have e : eqV (.str y) (.str x) = decide (y = x) := by
      unfold eqV
      by_cases h : y = x
      · simp [h]
      · simp [h]
    rw [e]
    by_cases h : x = y
    · subst h
      simp
    · have h2 : ¬ y = x := fun q => h q.symm
      simp [h, h2]
theorem flat_strs (l : List Str) : (l.map V.str).all flatV = true := by
  rw [List.all_map, List.all_eq_true]
  intro x _
  rfl
end My
namespace My
open PySem PySem.Spec PyProof.Rows L2
section
variable {prog : Program} {w : World} {A : Around} {E : Value → Shared → Prop} {s : Shared}
theorem walks_tupleFrom {A : Around} (hh : A.handled = none) (I ax : Addr) (hne : ax ≠ I) (items : Array Value) (k : Nat) (hk : k ≤ items.size) :
    Walks prog w A I [I, ax] [I] (items.size - k) (fun i v => items[k + i]? = some v) (fun i h => h.IsTupleIter I ax (k + i) ∧ h.IsTuple ax items) where
  sub := fun b hb => by simp at hb; simp [hb]
  frame := fun _ _ _ st hk => ⟨st.1.at fun o e => hk I (by simp) o e, st.2.at fun o e => hk ax (by simp) o e⟩
  item := fun i s Q E hi st hQ => by
    have hi' : k + i < items.size := by omega
    refine wpAny_pyNext_tuple_item st.1 st.2 (x := items[k + i]) (by simp [hi']) fun h' hit' hs' => ?_
    exact hQ _ h' s.toks (by simp [hi']) ⟨hit', st.2.extBut hs'.extBut hne⟩ fun b o hb e => hs'.extBut b o (fun h => hb (by simp [h])) e
  done := fun s Q E st hQ => wpAny_pyNext_tuple_end hh st.1 st.2 (by simp; omega) fun h' he' => hQ h' s.toks fun b o hb e => he' b o (fun h => hb (by simp [h])) e
  self := fun _ _ _ _ st hQ => wpAny_pyIter_tupleiter st.1 hQ
theorem itemsOf_eq {items acc : Array Value} {x : Value} {r : List Value} (e : items = (x :: r).toArray) (h : ItemsOf (fun i v => items[1 + i]? = some v) acc (items.size - 1)) : acc.toList = r := by
  subst e
  obtain ⟨h1, h2⟩ := h
  have hs : acc.size = r.length := by rw [h1]; simp
  apply List.ext_getElem?
  intro i
  by_cases hi : i < r.length
  · have e1 : acc[i]? = some acc[i] := Array.getElem?_eq_getElem (by omega)
    have e2 := h2 i _ e1
    rw [Array.getElem?_toList, e1]
    have e2 : (x :: r).toArray[1 + i]? = some acc[i] := e2
    rw [Nat.add_comm] at e2
    simpa using e2.symm
  · rw [Array.getElem?_toList, Array.getElem?_eq_none (by omega), List.getElem?_eq_none (by omega)]
theorem unpackItems_star1 {t : Addr} {x : Value} {r : List Value} {Q : List Value → Shared → Prop} (hh : A.handled = none) (ht : s.heap.IsTuple t (x :: r).toArray) (hz : r.length ≤ sizeLine)
    (hQ : ∀ (h' : Heap) (tk : Nat), (∀ b o, s.heap.get? b = some o → h'.get? b = some o) → Q [x, .ref h'.objs.size] { s with heap := h'.push { cls := .type "list", data := .seq r.toArray }, toks := tk }) :
    wpAny (model prog w) A (unpackItems (.ref t) 2 (some 1)) Q E s := by
  have hlt : t ≠ s.heap.objs.size := by obtain ⟨o, ho, _⟩ := ht; exact Nat.ne_of_lt (Heap.lt_size ho)
  unfold unpackItems
  refine wpAny_bind ?_
  · unfold notIterableAtAll
    refine wpAny_bind (wpAny_specialOf ht.typeIs F.slot_tuple_iter.lookup ?_)
    refine wpAny_pure ?_
    simp only [Bool.false_eq_true, if_false]
    refine wpAny_bind (wpAny_holding (wpAny_pyIter_tuple ht ?_))
    refine wpAny_bind (wpAny_holding (wpAny_draw_tuple hlt 1 0 _ _ ⟨_, Heap.get?_push_size _ rfl, rfl, rfl⟩ (ht.push _) (by simp) fun h₁ hit₁ hs₁ => ?_))
    rw [if_neg (by simp)]
    have ht₁ : h₁.IsTuple t (x :: r).toArray := (ht.push _).extBut hs₁.extBut hlt
    have W := (walks_tupleFrom (prog := prog) (w := w) (A := A.in1) hh s.heap.objs.size t hlt (x :: r).toArray 1 (by simp)).toS
    refine wpAny_bind (wpAny_holding (wpAny_collect_iter (T := "tuple_iterator") (.inr (.inr (.inr rfl))) W (fun i s st => st.1.typeIs) ⟨by simpa using hit₁, ht₁⟩ ?_ (by simp) (fun s' acc hm hi => ?_) (by simpa using hz)))
    · intro b hb
      have h1 := hit₁
      obtain ⟨o, ho, _⟩ := hit₁
      obtain ⟨o2, ho2, _⟩ := ht₁
      simp only [List.mem_cons, List.not_mem_nil, or_false] at hb
      rcases hb with rfl | rfl
      · exact Heap.lt_size ho
      · exact Heap.lt_size ho2
    · have ea := itemsOf_eq rfl hi
      rw [ea]
      rw [Moved.eq_with hm]
      rw [if_neg (by simp)]
      have e1 : List.take (r.length - (2 - 1 - 1)) r = r := List.take_of_length_le (by omega)
      have e2 : List.drop (r.length - (2 - 1 - 1)) r = [] := List.drop_of_length_le (by omega)
      rw [e1, e2]
      refine wpAny_bind (wpAny_newObj_type ?_)
      refine wpAny_pure ?_
      have kk : ∀ b o, s.heap.get? b = some o → s'.heap.get? b = some o := fun b o e => by
        have nb : b ≠ s.heap.objs.size := Nat.ne_of_lt (Heap.lt_size e)
        exact hm.heap b o (by simpa using nb) (hs₁.extBut b o nb (Heap.get?_push_of_some _ e))
      exact hQ _ _ kk
theorem assign_star1 {env : Env} {elts : List Expr} {x1} {pos : Pos} {t : Addr} {x : Value} {r : List Value} {Q : Unit → Shared → Prop} (hh : A.handled = none) (ht : s.heap.IsTuple t (x :: r).toArray) (hz : r.length ≤ sizeLine)
    (hn : (assignEach elts env).length = 2) (hstar : (assignEach elts env).findIdx? (·.1) = some 1)
    (h : ∀ (h' : Heap) (tk : Nat), (∀ b o, s.heap.get? b = some o → h'.get? b = some o) →
      wpAny (model prog w) A (assignInOrder ((assignEach elts env).map (·.2)) [x, .ref h'.objs.size]) Q E { s with heap := h'.push { cls := .type "list", data := .seq r.toArray }, toks := tk }) :
    wpAny (model prog w) A (assign (.Tuple elts x1 pos) env (.ref t)) Q E s := by
  rw [assign_Tuple]
  refine wpAny_bind (wpAny_standAt ?_)
  unfold unpack
  rw [hn, hstar]
  exact wpAny_bind (wpAny_holding (unpackItems_star1 hh ht hz h))
end
section
variable {X : Cx} {pos : Pos}
/-- x, *r = a tuple -/
def gStar (K : PySem.W.Frag) (g0 g1 : TG) : TG := fun v σ H Q => ∃ a x xs, v = .ref a ∧ SqT K H a (x :: xs) ∧ ∀ p, H p = none → g0 x σ (upd H p (.lst xs)) fun σ1 H1 => g1 (.ref p) σ1 H1 Q
theorem pg_star {e0 e1 : Expr} {p1 : Pos} {k : Nat} {g0 g1 : TG} (hc : X.calm = true) (h0 : PG X e0 g0) (h1 : PG X e1 g1)
    (hn : (assignEach [e0, .Starred e1 p1] X.env).length = 2 := by rfl) (hst : (assignEach [e0, .Starred e1 p1] X.env).findIdx? (·.1) = some 1 := by rfl)
    (hm : (assignEach [e0, .Starred e1 p1] X.env).map (·.2) = [assign e0 X.env, assign e1 X.env] := by rfl) : PG X (.Tuple [e0, .Starred e1 p1] k pos) (gStar X.K g0 g1) := by
  refine ⟨fun pins s σ H v u Q I r hw => ?_⟩
  obtain ⟨a, x, xs, e1', hq, hw⟩ := hw
  subst e1'
  cases r
  obtain ⟨its, rv, ht, hz⟩ := I.tuple hq
  cases rv with
  | @cons _ y _ ys rx rr =>
    have hl := rr.length
    refine assign_star1 (I.ok.hd hc) ht (by simp at hz; omega) hn hst fun h' tk kk => ?_
    have I1 : Inv X pins σ H { s with heap := h', toks := tk } := I.kept kk
    have I2 := I1.lnew (t' := tk) rr (by simp at hz; omega)
    rw [hm]
    refine assignInOrder_cons (thn (h0.run pins _ σ _ x _ _ I2 rx (hw h'.objs.size I1.fresh)) fun _ s1 ⟨σ1, H1, I3, q1⟩ => ?_)
    refine assignInOrder_cons (thn (h1.run pins s1 σ1 H1 (.ref h'.objs.size) _ _ I3 rfl q1) fun _ s2 ⟨σ2, H2, I4, q2⟩ => ?_)
    exact assignInOrder_nil ⟨σ2, H2, I4, q2⟩
/-- a text, many times -/
def repS (x : Str) (k : Nat) : Str := ⟨(List.replicate k x.cps).foldl (· ++ ·) #[]⟩
theorem op_repS : OpR X (binaryOp .Mult) (fun x y H Q => ∃ (i : Str) (k : Int), x = .str i ∧ y = .int k ∧ 2 ≤ k ∧ k < 2 ^ 20 ∧ 0 < i.length ∧ i.length * k.toNat ≤ 2 ^ 20 ∧ (repS i k.toNat).length ≤ sizeLine ∧ Q (.str (repS i k.toNat)) H) := by
  intro pins s σ H x y v u Q I rx ry h
  obtain ⟨i, k, rfl, rfl, h1, h2, h3, h4, h5, q⟩ := h
  obtain ⟨t, rfl⟩ := rx
  obtain ⟨t', rfl⟩ := ry
  have n1 : ¬ k < 1 := by omega
  have n2 : (k == 1 || i.length == 0) = false := by
    rw [Bool.or_eq_false_iff]
    exact ⟨beq_false_of_ne (by omega), beq_false_of_ne (by omega)⟩
  refine PySem.P.mul_str ?_ (fun _ _ => ?_) (fun _ _ => ?_) ?_
  · rw [decide_eq_false (by omega), decide_eq_false (by omega)]
    rfl
  · have e : (i.length : Int) ≤ 2 ^ 20 := by
      have := Nat.le_mul_of_pos_right i.length (show 0 < k.toNat by omega)
      omega
    have : (2 ^ 63 - 1 : Int) / 2 ^ 20 ≤ (2 ^ 63 - 1) / k := by
      rw [Int.le_ediv_iff_mul_le (by omega)]
      have e3 : (2 ^ 63 - 1 : Int) / 2 ^ 20 * k ≤ (2 ^ 63 - 1) / 2 ^ 20 * 2 ^ 20 := Int.mul_le_mul_of_nonneg_left (by omega) (by decide)
      exact Int.le_trans e3 (by decide)
    have e2 : (2 ^ 20 : Int) ≤ (2 ^ 63 - 1) / 2 ^ 20 := by decide
    omega
  · unfold Builtin.Str.tooLong
    rw [decide_eq_false]
    exact Nat.not_lt.mpr (Nat.le_trans h4 (by decide))
  · rw [if_neg n1, if_neg (by rw [n2]; decide)]
    exact ⟨h5, ⟨.str (repS i k.toNat), H, I.tok _, ⟨_, rfl⟩, q⟩⟩
end
end My
namespace My
open PySem L2
/-! ### plans as data -/
abbrev En := Str × Int
inductive Thing where
  | step (n : Int)
  | call (nm : Str) (e : En)
  | double (b : List Thing)
  | loop (nm : Str) (e1 e2 : En) (b : List Thing)
  | test (e1 e2 : En) (b1 b2 : List Thing)
  | again (n : Int) (w : Str)
def endD (e : En) : PyData := .tuple [.str e.1, .int e.2]
mutual
def thingD : Thing → PyData
  | .step n => .tuple [.str "step", .int n]
  | .call nm e => .tuple [.str "call", .str nm, endD e]
  | .double b => .tuple [.str "double", .tuple (thingsD b)]
  | .loop nm e1 e2 b => .tuple [.str "for", .str nm, endD e1, endD e2, .tuple (thingsD b)]
  | .test e1 e2 b1 b2 => .tuple [.str "if", endD e1, endD e2, .tuple (thingsD b1), .tuple (thingsD b2)]
  | .again n w => .tuple [.str "again", .int n, .str w]
def thingsD : List Thing → List PyData
  | [] => []
  | t :: r => thingD t :: thingsD r
end
def planD (b : List Thing) : PyData := .tuple (thingsD b)
theorem thingsD_eq : ∀ b : List Thing, thingsD b = b.map thingD
  | [] => by simp [thingsD]
  | t :: r => by simp [thingsD, thingsD_eq r]
mutual
/-- how many things -/
def thingC : Thing → Nat
  | .double b => thingsC b + 1
  | .loop _ _ _ b => thingsC b + 1
  | .test _ _ b1 b2 => thingsC b1 + thingsC b2 + 1
  | _ => 1
def thingsC : List Thing → Nat
  | [] => 0
  | t :: r => thingC t + thingsC r
end
structure Kit where
  kn : List (Str × (Bool × Int × Int))
  fig : Bool
  wide : Bool
def NameOk (nm : Str) : Prop := 1 ≤ nm.length ∧ nm.length ≤ 8 ∧ (∀ c ∈ nm.cps.toList, 97 ≤ c ∧ c ≤ 122) ∧ nm ∉ keptL
def EndOk (wide : Bool) (sc : List Str) (e : En) : Prop := e.2.natAbs < (if wide then 100 else 5) ∧ ((e.1 = "" ∧ 0 ≤ e.2) ∨ e.1 ∈ sc)
mutual
def ThOk (k : Kit) : Thing → List Str → Nat → Prop
  | .step n => fun _ _ => 0 ≤ n ∧ n < 100
  | .call nm e => fun sc deep => ∃ en : Bool × Int × Int, (nm, en) ∈ k.kn ∧ en.2.1 + deep < 9 ∧ en.2.2 < 4 ∧ EndOk k.wide sc e ∧ (en.1 = true → e.1 = "" ∨ e = ((Str.ofString "n", 0) : En))
  | .double b => fun sc deep => deep ≤ 3 ∧ k.fig = true ∧ 1 ≤ b.length ∧ b.length ≤ 3 ∧ BdOk k b sc (deep + 1)
  | .loop nm e1 e2 b => fun sc deep => deep ≤ 3 ∧ NameOk nm ∧ nm ∉ sc ∧ EndOk k.wide sc e1 ∧ EndOk k.wide sc e2 ∧ 1 ≤ b.length ∧ b.length ≤ 3 ∧ BdOk k b (sc ++ [nm]) (deep + 1)
  | .test e1 e2 b1 b2 => fun sc deep => deep ≤ 3 ∧ EndOk k.wide sc e1 ∧ EndOk k.wide sc e2 ∧ 1 ≤ b1.length ∧ b1.length ≤ 3 ∧ b2.length ≤ 3 ∧ BdOk k b1 sc (deep + 1) ∧ BdOk k b2 sc (deep + 1)
  | .again _ _ => fun _ _ => False
def BdOk (k : Kit) : List Thing → List Str → Nat → Prop
  | [] => fun _ _ => True
  | t :: r => fun sc deep => ThOk k t sc deep ∧ BdOk k r sc deep
end
theorem BdOk.nil {k : Kit} {sc : List Str} {deep : Nat} : BdOk k [] sc deep := by simp [BdOk]
theorem BdOk.snoc {k : Kit} {sc : List Str} {deep : Nat} {t : Thing} (h : ThOk k t sc deep) : ∀ {b : List Thing}, BdOk k b sc deep → BdOk k (b ++ [t]) sc deep
  | [], _ => by
    rw [List.nil_append, BdOk]
    exact ⟨h, .nil⟩
  | x :: r, q => by
    rw [BdOk] at q
    rw [List.cons_append, BdOk]
    exact ⟨q.1, BdOk.snoc h q.2⟩
theorem BdOk.mem {k : Kit} {sc : List Str} {deep : Nat} {t : Thing} : ∀ {b : List Thing}, BdOk k b sc deep → t ∈ b → ThOk k t sc deep
  | [], _, h => nomatch h
  | x :: r, q, h => by
    rw [BdOk] at q
    rcases List.mem_cons.mp h with rfl | h
    · exact q.1
    · exact BdOk.mem q.2 h
theorem thingsC_snoc (t : Thing) : ∀ b : List Thing, thingsC (b ++ [t]) = thingsC b + thingC t
  | [] => by simp [thingsC]
  | x :: r => by
    rw [List.cons_append, thingsC, thingsC_snoc t r, thingsC]
    omega
theorem thingC_pos (t : Thing) : 1 ≤ thingC t := by
  cases t <;> simp [thingC]
theorem thingsC_len : ∀ b : List Thing, b.length ≤ thingsC b
  | [] => Nat.zero_le _
  | t :: r => by
    have := thingsC_len r
    have := thingC_pos t
    rw [thingsC, List.length_cons]
    omega
def letters : Str := "abcdefghijklmnopqrstuvwxyz"
theorem letters_ok : ∀ c ∈ letters.cps.toList, 97 ≤ c ∧ c ≤ 122 := by decide +kernel
theorem join_signs (cs : List Nat) : Txt.join "" (cs.map fun c => (⟨#[c]⟩ : Str)) = ⟨cs.toArray⟩ := by
  induction cs with
  | nil => rw [List.map_nil, join_nil]; rfl
  | cons c r ih =>
    cases r with
    | nil => rw [List.map_singleton, join_one]
    | cons x l =>
      rw [List.map_cons, join_cons (by simp), ih]
      show (⟨#[c]⟩ : Str) ++ Str.empty ++ ⟨(x :: l).toArray⟩ = _
      rw [str_nil_r]
      show (⟨#[c] ++ (x :: l).toArray⟩ : Str) = _
      simp
def spares : List Str := letters.cps.toList.map fun c => repS ⟨#[c]⟩ 2
theorem spares_ok : ∀ x ∈ spares, x.length = 2 ∧ (∀ c ∈ x.cps.toList, 97 ≤ c ∧ c ≤ 122) ∧ x ∉ keptL := by decide +kernel
theorem spares_nd : spares.Nodup := by decide +kernel
theorem spares_len : spares.length = 26 := by decide +kernel
theorem nodup_len {α : Type} [DecidableEq α] : ∀ {l m : List α}, l.Nodup → (∀ x ∈ l, x ∈ m) → l.length ≤ m.length
  | [], _, _, _ => Nat.zero_le _
  | x :: r, m, nd, h => by
    rw [List.nodup_cons] at nd
    have hx := h x (List.mem_cons_self ..)
    have ih := nodup_len (l := r) (m := m.erase x) nd.2 fun y hy => (List.mem_erase_of_ne (fun e => nd.1 (by rw [← e]; exact hy))).mpr (h y (List.mem_cons_of_mem _ hy))
    rw [List.length_erase_of_mem hx] at ih
    have := List.length_pos_of_mem hx
    rw [List.length_cons]
    omega
theorem spare_free {taken : List Str} (h : taken.length ≤ 25) : ∃ x, x ∈ spares ∧ x ∉ taken := by
  by_cases c : ∃ x, x ∈ spares ∧ x ∉ taken
  · exact c
  · exfalso
    have sub : ∀ x ∈ spares, x ∈ taken := fun x hx => by
      by_cases q : x ∈ taken
      · exact q
      · exact absurd ⟨x, hx, q⟩ c
    have := nodup_len spares_nd sub
    rw [spares_len] at this
    omega
end My
namespace My
open PySem L2
/-- the kit of a drawing: what is left, the plans that may be called, figures, wide -/
def KitAt (H : Hp) (kc dk : Addr) (r : Int) (k : Kit) : Prop := H kc = some (.lst [.int r, .ref dk, .bl k.fig, .bl k.wide])
structure KnAt (G : Hp) (dk : Addr) (kn : List (Str × (Bool × Int × Int))) : Prop where
  len : kn.length < 60
  ok : ∀ e ∈ kn, NameOk e.1
  ex : ∃ kvs : List (L2.Key × V), G dk = some (.dK kvs) ∧ kvs.map (·.1) = (kn.map (·.1)).map Sum.inr ∧
    ∀ nm, nm ∈ kn.map (·.1) → ∃ (en : Bool × Int × Int) (p : Addr), (nm, en) ∈ kn ∧ valV kvs (Sum.inr nm) = some (.ref p) ∧ G p = some (.tup [.bl en.1, .int en.2.1, .int en.2.2])
theorem KnAt.mono {G G' : Hp} {dk : Addr} {kn : List (Str × (Bool × Int × Int))} (h : KnAt G dk kn) (s : Same G G') : KnAt G' dk kn := by
  obtain ⟨kvs, e1, e2, e3⟩ := h.ex
  refine ⟨h.len, h.ok, kvs, s _ _ e1, e2, fun nm hn => ?_⟩
  obtain ⟨en, p, q1, q2, q3⟩ := e3 nm hn
  exact ⟨en, p, q1, q2, s _ _ q3⟩
theorem KitAt.ne {H : Hp} {kc dk d l : Addr} {r : Int} {k : Kit} (h : KitAt H kc dk r k) (D : DrawAt H d l) : kc ≠ d := by
  rintro rfl
  obtain ⟨ns, p, z, s, e, _⟩ := D.ex
  rw [h] at e
  cases e
theorem strOk_name {nm : Str} (h : NameOk nm) : PyData.strOk nm = true := by
  unfold PyData.strOk
  rw [← Array.all_toList, List.all_eq_true]
  intro c hc
  have := (h.2.2.1 c hc).2
  exact decide_eq_true (by omega)
end My
namespace My
open PySem L2
def Two (d c : Addr) : Addr → Prop := fun b => b = d ∨ b = c
theorem two_cell {H : Hp} {d l kc dk : Addr} {r : Int} {k : Kit} (D : DrawAt H d l) (kit : KitAt H kc dk r k) : ∀ c, Two d kc c → Cell (H c) := by
  rintro c (rfl | rfl)
  · exact D.cell
  · exact cell_lst kit
theorem KitAt.nel {H : Hp} {kc dk d l : Addr} {r : Int} {k : Kit} (h : KitAt H kc dk r k) (D : DrawAt H d l) : kc ≠ l := by
  rintro rfl
  obtain ⟨ns, p, z, s, _, e, _⟩ := D.ex
  rw [h] at e
  cases ns with
  | nil => cases e
  | cons a ns =>
    cases ns with
    | nil => cases e
    | cons b ns => cases e
theorem Grow.one {d c : Addr} {G H G' H' : Hp} (g : Grow (Only1 d) G H G' H') : Grow (Two d c) G H G' H' := g.mono fun _ e => .inl e
theorem KitAt.but {H H' : Hp} {kc dk d : Addr} {r : Int} {k : Kit} (h : KitAt H kc dk r k) (n : kc ≠ d) (b : But (Only1 d) H H') : KitAt H' kc dk r k := b _ _ h n
/-- thing and body promises -/
def spThing (K : PySem.W.Frag) (f : Nat) : Sp := fun vs H Q _ => ∃ (d l kc dk sa : Addr) (sc : List Str) (k : Kit) (r : Int) (deep : Nat) (G : Hp), vs = [.ref d, .ref kc, .ref sa, .int (deep : Nat)] ∧ Same G H ∧ G d = none ∧ G kc = none ∧ DrawAt H d l ∧ KitAt H kc dk r k ∧ KnAt G dk k.kn ∧
  G sa = some (.lst (sc.map V.str)) ∧ (Str.ofString "n") ∈ sc ∧ sc.length ≤ deep + 10 ∧ 1 ≤ r ∧ deep ≤ 4 ∧ 5 ≤ deep + f ∧
  ∀ (v : V) (t : Thing) (G' H' : Hp), Grow (Two d kc) G H G' H' → DrawAt H' d l → KitAt H' kc dk (r - thingC t) k → (thingC t : Int) ≤ r → Dp K G' v (thingD t) → ThOk k t sc deep → Q v H'
def spBody (K : PySem.W.Frag) (f : Nat) : Sp := fun vs H Q _ => ∃ (d l kc dk sa : Addr) (sc : List Str) (k : Kit) (r : Int) (deep : Nat) (G : Hp), vs = [.ref d, .ref kc, .ref sa, .int (deep : Nat)] ∧ Same G H ∧ G d = none ∧ G kc = none ∧ DrawAt H d l ∧ KitAt H kc dk r k ∧ KnAt G dk k.kn ∧
  G sa = some (.lst (sc.map V.str)) ∧ (Str.ofString "n") ∈ sc ∧ sc.length ≤ deep + 10 ∧ 1 ≤ r ∧ deep ≤ 4 ∧ 5 ≤ deep + f ∧
  ∀ (v : V) (b : List Thing) (G' H' : Hp), Grow (Two d kc) G H G' H' → DrawAt H' d l → KitAt H' kc dk (r - thingsC b) k → (thingsC b : Int) ≤ r → Dp K G' v (planD b) → BdOk k b sc deep → 1 ≤ b.length → b.length ≤ 3 → Q v H'
end My
namespace My
open PySem L2
/-! ### plans as texts -/
def endT (e : En) : Str := if e.1 = "" then num e.2 else if e.2 = 0 then e.1 else if 0 < e.2 then e.1 ++ " + " ++ num e.2 else e.1 ++ " - " ++ num (0 - e.2)
mutual
def thingT : Thing → Str
  | .step n => "step " ++ num n
  | .call nm e => "call " ++ nm ++ " with " ++ endT e
  | .double b => "double (" ++ planT b ++ ")"
  | .loop nm e1 e2 b => "for " ++ nm ++ " from " ++ endT e1 ++ " to " ++ endT e2 ++ " (" ++ planT b ++ ")"
  | .test e1 e2 b1 b2 => if b2.isEmpty then "if " ++ endT e1 ++ " <= " ++ endT e2 ++ " (" ++ planT b1 ++ ")" else "if " ++ endT e1 ++ " <= " ++ endT e2 ++ " (" ++ planT b1 ++ ")" ++ " else (" ++ planT b2 ++ ")"
  | .again n w => "again " ++ num n ++ " on " ++ w
def planT : List Thing → Str
  | [] => ""
  | [t] => thingT t
  | t :: u :: r => thingT t ++ "; " ++ planT (u :: r)
end
theorem planT_eq : ∀ b : List Thing, planT b = Txt.join "; " (b.map thingT)
  | [] => by
    rw [planT, List.map_nil, join_nil]
    rfl
  | [t] => by
    rw [planT, List.map_singleton, join_one]
  | t :: u :: r => by
    rw [planT, planT_eq (u :: r), List.map_cons (a := t), join_cons (l := (u :: r).map thingT) (by simp)]
/-- small names and numbers -/
def NmS (x : Str) : Prop := x.length ≤ 100 ∧ PyData.strOk x = true
def EnS (e : En) : Prop := NmS e.1 ∧ e.2.natAbs.log2 < 400
mutual
def ThS : Thing → Prop
  | .step n => n.natAbs.log2 < 400
  | .call nm e => NmS nm ∧ EnS e
  | .double b => BdS b
  | .loop nm e1 e2 b => NmS nm ∧ EnS e1 ∧ EnS e2 ∧ BdS b
  | .test e1 e2 b1 b2 => EnS e1 ∧ EnS e2 ∧ BdS b1 ∧ BdS b2
  | .again n w => n.natAbs.log2 < 400 ∧ NmS w
def BdS : List Thing → Prop
  | [] => True
  | t :: r => ThS t ∧ BdS r
end
theorem BdS.mem {t : Thing} : ∀ {b : List Thing}, BdS b → t ∈ b → ThS t
  | [], _, h => nomatch h
  | x :: r, q, h => by
    rw [BdS] at q
    rcases List.mem_cons.mp h with rfl | h
    · exact q.1
    · exact BdS.mem q.2 h
theorem BdS.of : ∀ {b : List Thing}, (∀ t ∈ b, ThS t) → BdS b
  | [], _ => by simp [BdS]
  | x :: r, q => by
    rw [BdS]
    exact ⟨q x (List.mem_cons_self ..), BdS.of fun t h => q t (List.mem_cons_of_mem _ h)⟩
theorem neg_log {i : Int} : (0 - i).natAbs = i.natAbs := by omega
theorem endT_len {e : En} (h : EnS e) : (endT e).length ≤ 504 := by
  have h1 := num_len (by decide) h.2
  have h2 := num_len (i := 0 - e.2) (k := 400) (by decide) (by rw [neg_log]; exact h.2)
  have h3 := h.1.1
  have e1 : (Str.ofString " + ").length = 3 := by decide
  have e2 : (Str.ofString " - ").length = 3 := by decide
  unfold endT
  split
  · omega
  · split
    · omega
    · split
      · rw [str_len, str_len, e1]; omega
      · rw [str_len, str_len, e2]; omega
theorem s_len1 : (Str.ofString "step ").length = 5 ∧ (Str.ofString "call ").length = 5 ∧ (Str.ofString " with ").length = 6 ∧ (Str.ofString "double (").length = 8 ∧ (Str.ofString ")").length = 1 ∧ (Str.ofString "for ").length = 4 ∧ (Str.ofString " from ").length = 6 ∧ (Str.ofString " to ").length = 4 ∧ (Str.ofString " (").length = 2 ∧
  (Str.ofString "if ").length = 3 ∧ (Str.ofString " <= ").length = 4 ∧ (Str.ofString " else (").length = 7 ∧ (Str.ofString "again ").length = 6 ∧ (Str.ofString " on ").length = 4 ∧ (Str.ofString "; ").length = 2 := by decide +kernel
mutual
theorem thingT_len : ∀ {t : Thing}, ThS t → (thingT t).length + 2 ≤ 3000 * thingC t
  | .step n, h => by
    rw [ThS] at h
    have := num_len (by decide) h
    have q := s_len1
    rw [thingT, thingC, str_len]
    · omega
    all_goals simp
  | .call nm e, h => by
    rw [ThS] at h
    have := endT_len h.2
    have h1 := h.1.1
    have q := s_len1
    rw [thingT, thingC, str_len, str_len, str_len]
    · omega
    all_goals simp
  | .double b, h => by
    rw [ThS] at h
    have := planT_len h
    have q := s_len1
    rw [thingT, thingC, str_len, str_len]
    omega
  | .loop nm e1 e2 b, h => by
    rw [ThS] at h
    have := planT_len h.2.2.2
    have h1 := h.1.1
    have h2 := endT_len h.2.1
    have h3 := endT_len h.2.2.1
    have q := s_len1
    rw [thingT, thingC]
    simp only [str_len]
    omega
  | .test e1 e2 b1 b2, h => by
    rw [ThS] at h
    have := planT_len h.2.2.1
    have := planT_len h.2.2.2
    have h2 := endT_len h.1
    have h3 := endT_len h.2.1
    have q := s_len1
    rw [thingT, thingC]
    split
    · simp only [str_len]
      omega
    · simp only [str_len]
      omega
  | .again n w, h => by
    rw [ThS] at h
    have := num_len (by decide) h.1
    have h1 := h.2.1
    have q := s_len1
    rw [thingT, thingC, str_len, str_len, str_len]
    · omega
    all_goals simp
theorem planT_len : ∀ {b : List Thing}, BdS b → (planT b).length ≤ 3000 * thingsC b
  | [], _ => by
    rw [planT]
    exact Nat.zero_le _
  | [t], h => by
    rw [BdS] at h
    have := thingT_len h.1
    rw [planT, thingsC]
    omega
  | t :: u :: r, h => by
    rw [BdS] at h
    have h1 := thingT_len h.1
    have h2 := planT_len h.2
    have q := s_len1
    rw [planT, thingsC, str_len, str_len]
    omega
end
theorem endD_lay {e : En} (h : EnS e) : (endD e).canLay0 = true ∧ (endD e).depth ≤ 1 := by
  have := h.1.2
  simp [endD, PyData.canLay0, PyData.canLayAll0, PyData.depth, PyData.depthAll, this]
theorem strOk_lit (s : String) : PyData.strOk (Str.ofString s) = true := strOk_of s
mutual
theorem thingD_lay : ∀ {t : Thing}, ThS t → (thingD t).canLay0 = true ∧ (thingD t).depth ≤ 2 * thingC t
  | .step n, h => by
    simp [thingD, thingC, PyData.canLay0, PyData.canLayAll0, PyData.depth, PyData.depthAll, strOk_lit]
  | .call nm e, h => by
    rw [ThS] at h
    have h1 := endD_lay h.2
    have h2 := h.1.2
    simp [thingD, thingC, PyData.canLay0, PyData.canLayAll0, PyData.depth, PyData.depthAll, strOk_lit, h1.1, h2]
    omega
  | .double b, h => by
    rw [ThS] at h
    have h1 := thingsD_lay h
    simp [thingD, thingC, PyData.canLay0, PyData.canLayAll0, PyData.depth, PyData.depthAll, strOk_lit, h1.1]
    omega
  | .loop nm e1 e2 b, h => by
    rw [ThS] at h
    have h1 := thingsD_lay h.2.2.2
    have h2 := h.1.2
    have h3 := endD_lay h.2.1
    have h4 := endD_lay h.2.2.1
    simp [thingD, thingC, PyData.canLay0, PyData.canLayAll0, PyData.depth, PyData.depthAll, strOk_lit, h1.1, h2, h3.1, h4.1]
    omega
  | .test e1 e2 b1 b2, h => by
    rw [ThS] at h
    have h1 := thingsD_lay h.2.2.1
    have h2 := thingsD_lay h.2.2.2
    have h3 := endD_lay h.1
    have h4 := endD_lay h.2.1
    simp [thingD, thingC, PyData.canLay0, PyData.canLayAll0, PyData.depth, PyData.depthAll, strOk_lit, h1.1, h2.1, h3.1, h4.1]
    omega
  | .again n w, h => by
    rw [ThS] at h
    have h2 := h.2.2
    simp [thingD, thingC, PyData.canLay0, PyData.canLayAll0, PyData.depth, PyData.depthAll, strOk_lit, h2]
theorem thingsD_lay : ∀ {b : List Thing}, BdS b → PyData.canLayAll0 (thingsD b) = true ∧ PyData.depthAll (thingsD b) ≤ 2 * thingsC b
  | [], _ => by simp [thingsD, PyData.canLayAll0, PyData.depthAll]
  | t :: r, h => by
    rw [BdS] at h
    have h1 := thingD_lay h.1
    have h2 := thingsD_lay h.2
    simp [thingsD, thingsC, PyData.canLayAll0, PyData.depthAll, h1.1, h2.1]
    omega
end
theorem shaped_plan {b : List Thing} (h : BdS b) (c : thingsC b ≤ 31) : SeqAt.shaped (planD b) = true := by
  have h1 := thingsD_lay h
  unfold SeqAt.shaped planD
  rw [Bool.and_eq_true, decide_eq_true_eq]
  unfold PyData.canLay0 PyData.depth
  exact ⟨h1.1, by omega⟩
theorem eqv_plan (b : List Thing) : PyData.eqv (planD b) (.tuple []) = b.isEmpty := by
  cases b with
  | nil => simp [planD, thingsD, PyData.eqv, PyData.eqvAll]
  | cons t r => simp [planD, thingsD, PyData.eqv, PyData.eqvAll]
end My
namespace My
open PySem L2
theorem str_e0 : Str.empty.length = 0 := rfl
theorem dec_ff {x y : Str} (h : x ≠ y) : decide (V.str x = V.str y) = false := decide_eq_false fun e => h (V.str.inj e)
theorem dec_tt (x : Str) : decide (V.str x = V.str x) = true := decide_eq_true rfl
theorem num_len' {i : Int} (h : i.natAbs.log2 < 400) : (Str.ofString (toString i)).length ≤ 401 := num_len (k := 400) (by decide) h
end My
namespace My
open PySem L2
theorem thingC_mem {t : Thing} : ∀ {b : List Thing}, t ∈ b → thingC t ≤ thingsC b
  | [], h => nomatch h
  | x :: r, h => by
    rw [thingsC]
    rcases List.mem_cons.mp h with rfl | h
    · omega
    · have := thingC_mem h
      omega
theorem planSum : ∀ {b : List Thing}, BdS b → ((b.map thingT).map (·.length)).sum + b.length * 2 ≤ 3000 * thingsC b
  | [], _ => by simp
  | t :: r, h => by
    rw [BdS] at h
    have h1 := thingT_len h.1
    have h2 := planSum h.2
    rw [thingsC, List.map_cons, List.map_cons, List.sum_cons, List.length_cons]
    omega
/-! promises of the writers -/
def spEndText (K : PySem.W.Frag) : Sp := fun vs H Q _ => ∃ (v : V) (e : En), vs = [v] ∧ Dp K H v (endD e) ∧ EnS e ∧ ∀ H', Same H H' → Q (.str (endT e)) H'
def spThingText (K : PySem.W.Frag) (f : Nat) : Sp := fun vs H Q _ => ∃ (v : V) (t : Thing), vs = [v] ∧ Dp K H v (thingD t) ∧ ThS t ∧ thingC t ≤ f ∧ thingC t ≤ 31 ∧ ∀ H', Same H H' → Q (.str (thingT t)) H'
def spPlanText (K : PySem.W.Frag) (f : Nat) : Sp := fun vs H Q _ => ∃ (v : V) (b : List Thing), vs = [v] ∧ Dp K H v (planD b) ∧ BdS b ∧ thingsC b ≤ f ∧ thingsC b ≤ 31 ∧ ∀ H', Same H H' → Q (.str (planT b)) H'
end My
namespace My
open PySem L2
theorem nmS_of {nm : Str} (h : NameOk nm) : NmS nm := ⟨by have := h.2.1; omega, strOk_name h⟩
theorem nmS_n : NmS "n" := ⟨by decide, strOk_of _⟩
theorem enS_of {wide : Bool} {sc : List Str} {e : En} (hs : ∀ x ∈ sc, NmS x) (h : EndOk wide sc e) : EnS e := by
  obtain ⟨h1, h2⟩ := h
  have h3 : e.2.natAbs < 100 := by
    cases wide
    · have : e.2.natAbs < 5 := h1
      omega
    · exact h1
  refine ⟨?_, log_lt (k := 400) (Nat.lt_trans h3 (by decide)) (by decide)⟩
  rcases h2 with ⟨h2, _⟩ | h2
  · rw [h2]
    exact ⟨by decide, strOk_of _⟩
  · exact hs _ h2
mutual
theorem thS_of {k : Kit} (hk : ∀ e ∈ k.kn, NameOk e.1) : ∀ {t : Thing} {sc : List Str} {deep : Nat}, (∀ x ∈ sc, NmS x) → ThOk k t sc deep → ThS t
  | .step n, sc, deep, hs, h => by
    rw [ThOk] at h
    rw [ThS]
    exact log_lt (k := 400) (Nat.lt_trans (m := 100) (by omega) (by decide)) (by decide)
  | .call nm e, sc, deep, hs, h => by
    rw [ThOk] at h
    obtain ⟨en, h1, _, _, h2, _⟩ := h
    rw [ThS]
    exact ⟨nmS_of (hk _ h1), enS_of hs h2⟩
  | .double b, sc, deep, hs, h => by
    rw [ThOk] at h
    rw [ThS]
    exact bdS_of hk hs h.2.2.2.2
  | .loop nm e1 e2 b, sc, deep, hs, h => by
    rw [ThOk] at h
    obtain ⟨_, h1, _, h2, h3, _, _, h4⟩ := h
    rw [ThS]
    refine ⟨nmS_of h1, enS_of hs h2, enS_of hs h3, bdS_of hk (fun x hx => ?_) h4⟩
    rcases List.mem_append.mp hx with hx | hx
    · exact hs x hx
    · rw [List.mem_singleton.mp hx]
      exact nmS_of h1
  | .test e1 e2 b1 b2, sc, deep, hs, h => by
    rw [ThOk] at h
    obtain ⟨_, h2, h3, _, _, _, h4, h5⟩ := h
    rw [ThS]
    exact ⟨enS_of hs h2, enS_of hs h3, bdS_of hk hs h4, bdS_of hk hs h5⟩
  | .again _ _, _, _, _, h => by
    rw [ThOk] at h
    exact h.elim
theorem bdS_of {k : Kit} (hk : ∀ e ∈ k.kn, NameOk e.1) : ∀ {b : List Thing} {sc : List Str} {deep : Nat}, (∀ x ∈ sc, NmS x) → BdOk k b sc deep → BdS b
  | [], _, _, _, _ => by simp [BdS]
  | t :: r, sc, deep, hs, h => by
    rw [BdOk] at h
    rw [BdS]
    exact ⟨thS_of hk hs h.1, bdS_of hk hs h.2⟩
end
theorem bdS_drawn {fig wide : Bool} {b : List Thing} (h : BdOk ⟨[], fig, wide⟩ b [Str.ofString "n"] 0) : BdS b :=
  bdS_of (fun e (h : e ∈ []) => nomatch h) (fun x hx => by rw [List.mem_singleton.mp hx]; exact nmS_n) h
/-! ### tuples cut and put together, frozen -/
theorem cat_G {K : PySem.W.Frag} {G H : Hp} {a b : Addr} {xs ys : List V} {Q : VK} (sg : Same G H) (ha : SqT K G a xs) (hb : SqT K G b ys) (hl : xs.length + ys.length ≤ 1000)
    (k : ∀ (p : Addr) (G' H' : Hp), Grow NoM G H G' H' → SqT K G' p (xs ++ ys) → Q (.ref p) H') : rCatA K (.ref a) (.ref b) H Q := by
  refine ⟨a, b, xs, ys, rfl, rfl, same_t sg ha, same_t sg hb, Nat.le_trans hl (by decide), fun e => ?_, fun e1 e => ?_, fun _ _ p hp => ?_⟩
  · subst e
    exact k b G H (Grow.refl sg) hb
  · subst e
    exact k a G H (Grow.refl sg) (by rw [List.append_nil]; exact ha)
  · exact k p _ _ ((Grow.refl sg).new (o := .tup (xs ++ ys)) hp (fun _ h => h.elim)) (SqT.of upd_same)
theorem sl_G {K : PySem.W.Frag} {G H : Hp} {a : Addr} {xs ys : List V} {lo hi : Option Int} {Q : VK} (sg : Same G H) (ha : SqT K G a xs) (hw : HT.sIx xs.length 0 lo = 0 ∧ HT.sIx xs.length xs.length hi = xs.length → ys = xs) (hc : cutV xs lo hi = ys)
    (k : ∀ (p : Addr) (G' H' : Hp), Grow NoM G H G' H' → SqT K G' p ys → Q (.ref p) H') : rSlA K (.ref a) lo hi H Q := by
  refine ⟨a, xs, rfl, same_t sg ha, fun e => ?_, fun _ p hp => ?_⟩
  · have := hw e
    subst this
    exact k a G H (Grow.refl sg) ha
  · rw [hc]
    exact k p _ _ ((Grow.refl sg).new (o := .tup ys) hp (fun _ h => h.elim)) (SqT.of upd_same)
theorem cut_head (xs : List V) : cutV xs none (some 1) = xs.take 1 := by
  unfold cutV
  rw [HT.sIx_none, List.drop_zero, Nat.sub_zero]
  show xs.take (HT.sIx xs.length xs.length (some ((1 : Nat) : Int))) = _
  rw [HT.sIx_nat]
  cases xs with
  | nil => rfl
  | cons x r => simp
theorem cut_tail (xs : List V) : cutV xs (some 2) none = xs.drop 2 := by
  unfold cutV
  rw [HT.sIx_none]
  show (xs.drop (HT.sIx xs.length 0 (some ((2 : Nat) : Int)))).take (xs.length - HT.sIx xs.length 0 (some ((2 : Nat) : Int))) = _
  rw [HT.sIx_nat]
  rw [List.take_of_length_le (by rw [List.length_drop]; exact Nat.le_refl _)]
  by_cases h : 2 ≤ xs.length
  · rw [Nat.min_eq_left h]
  · rw [Nat.min_eq_right (by omega), List.drop_of_length_le (Nat.le_refl _), List.drop_of_length_le (by omega)]
theorem DpAll_app {K : PySem.W.Frag} {H : Hp} {us vs : List V} {ds es : List PyData} (h1 : DpAll K H us ds) (h2 : DpAll K H vs es) : DpAll K H (us ++ vs) (ds ++ es) := by
  induction ds generalizing us with
  | nil =>
    rw [h1.n]
    exact h2
  | cons d r ih =>
    obtain ⟨x, u, rfl, hx, hr⟩ := h1.c
    exact .cons hx (ih hr)
theorem DpAll_take {K : PySem.W.Frag} {H : Hp} : ∀ {us : List V} {ds : List PyData} (n : Nat), DpAll K H us ds → DpAll K H (us.take n) (ds.take n)
  | _, _, 0, _ => .nil
  | _, [], n + 1, h => by
    rw [h.n]
    exact .nil
  | _, d :: ds, n + 1, h => by
    obtain ⟨x, u, rfl, hx, hr⟩ := h.c
    exact .cons hx (DpAll_take n hr)
theorem DpAll_drop {K : PySem.W.Frag} {H : Hp} : ∀ {us : List V} {ds : List PyData} (n : Nat), DpAll K H us ds → DpAll K H (us.drop n) (ds.drop n)
  | _, _, 0, h => h
  | _, [], n + 1, h => by
    rw [h.n]
    exact .nil
  | _, d :: ds, n + 1, h => by
    obtain ⟨x, u, rfl, hx, hr⟩ := h.c
    exact DpAll_drop n hr
theorem same_single {H : Hp} {a : Addr} {o : HO} (h : H a = some o) : Same (upd (fun _ => none) a o) H := fun b x e => by
  by_cases q : b = a
  · rw [q, upd_same] at e
    rw [q, h, e]
  · rw [upd_ne q] at e
    cases e
theorem thingsC_app : ∀ (a b : List Thing), thingsC (a ++ b) = thingsC a + thingsC b
  | [], b => by simp [thingsC]
  | t :: r, b => by
    rw [List.cons_append, thingsC, thingsC, thingsC_app r b]
    omega
end My
namespace My
open PySem L2
/-! ### what stands in a plan -/
def bodiesL : Thing → List (List Thing)
  | .double b => [b]
  | .loop _ _ _ b => [b]
  | .test _ _ b1 b2 => [b1, b2]
  | .step _ => []
  | .call _ _ => []
  | .again _ _ => []
mutual
def everyT : Thing → List Thing
  | .double b => .double b :: everyL b
  | .loop nm e1 e2 b => .loop nm e1 e2 b :: everyL b
  | .test e1 e2 b1 b2 => .test e1 e2 b1 b2 :: (everyL b1 ++ everyL b2)
  | .step n => [.step n]
  | .call nm e => [.call nm e]
  | .again n w => [.again n w]
def everyL : List Thing → List Thing
  | [] => []
  | t :: r => everyT t ++ everyL r
end
theorem everyT_eq (t : Thing) : everyT t = t :: (bodiesL t).flatMap everyL := by
  cases t <;> simp [everyT, bodiesL]
mutual
theorem everyT_len : ∀ t : Thing, (everyT t).length = thingC t
  | .step _ => by simp [everyT, thingC]
  | .call _ _ => by simp [everyT, thingC]
  | .again _ _ => by simp [everyT, thingC]
  | .double b => by simp [everyT, thingC, everyL_len b]
  | .loop _ _ _ b => by simp [everyT, thingC, everyL_len b]
  | .test _ _ b1 b2 => by simp [everyT, thingC, everyL_len b1, everyL_len b2]
theorem everyL_len : ∀ b : List Thing, (everyL b).length = thingsC b
  | [] => by simp [everyL, thingsC]
  | t :: r => by simp [everyL, thingsC, everyT_len t, everyL_len r]
end
theorem everyL_app : ∀ a b : List Thing, everyL (a ++ b) = everyL a ++ everyL b
  | [], b => by simp [everyL]
  | t :: r, b => by simp [everyL, everyL_app r b]
theorem bodies_lt {t : Thing} {b : List Thing} (h : b ∈ bodiesL t) : thingsC b < thingC t := by
  cases t <;> simp only [bodiesL, List.mem_cons, List.not_mem_nil, or_false] at h
  · subst h; simp [thingC]
  · subst h; simp [thingC]
  · rcases h with rfl | rfl <;> simp [thingC] <;> omega
def callStep (acc : List Str) : Thing → List Str
  | .call nm _ => if nm ∈ acc then acc else acc ++ [nm]
  | _ => acc
def callsL (b : List Thing) : List Str := (everyL b).foldl callStep []
theorem callStep_len (acc : List Str) (t : Thing) : (callStep acc t).length ≤ acc.length + 1 := by
  unfold callStep
  split
  · split <;> simp
  · omega
theorem calls_len : ∀ (l : List Thing) (acc : List Str), (l.foldl callStep acc).length ≤ acc.length + l.length
  | [], acc => Nat.le_refl _
  | t :: r, acc => by
    have h1 := callStep_len acc t
    have h2 := calls_len r (callStep acc t)
    rw [List.foldl_cons, List.length_cons]
    omega
end My
namespace My
open PySem L2
theorem same_none {H H' : Hp} {p : Addr} (s : Same H H') (h : H' p = none) : H p = none := by
  cases e : H p with
  | none => rfl
  | some o =>
    rw [s _ _ e] at h
    cases h
theorem take_C (b : List Thing) (i : Nat) : thingsC (b.take i) ≤ thingsC b := by
  have : thingsC b = thingsC (b.take i) + thingsC (b.drop i) := by rw [← thingsC_app, List.take_append_drop]
  omega
def everyP (b : List Thing) (i : Nat) (t : Thing) (j : Nat) : List Thing := everyL (b.take i) ++ (t :: ((bodiesL t).take j).flatMap everyL)
theorem flat_len : ∀ (l : List (List Thing)) (j : Nat), ((l.take j).flatMap everyL).length ≤ (l.flatMap everyL).length
  | [], j => by simp
  | x :: r, 0 => by simp
  | x :: r, j + 1 => by
    have := flat_len r j
    rw [List.take_succ_cons, List.flatMap_cons, List.flatMap_cons, List.length_append, List.length_append]
    omega
theorem everyP_len {b : List Thing} {t : Thing} (i j : Nat) (ht : t ∈ b) : (everyP b i t j).length ≤ 2 * thingsC b := by
  have h1 := take_C b i
  have h2 := thingC_mem ht
  have h3 := everyT_len t
  rw [everyT_eq, List.length_cons] at h3
  have h4 := flat_len (bodiesL t) j
  unfold everyP
  rw [List.length_append, List.length_cons, everyL_len]
  omega
theorem everyP_zero (b : List Thing) (i : Nat) (t : Thing) : everyP b i t 0 = everyL (b.take i) ++ [t] := by simp [everyP]
theorem everyP_succ {b : List Thing} {i j : Nat} {t : Thing} {c : List Thing} (h : (bodiesL t)[j]? = some c) : everyP b i t (j + 1) = everyP b i t j ++ everyL c := by
  unfold everyP
  rw [take_snoc h, List.flatMap_append]
  simp
theorem everyP_end {b : List Thing} {i : Nat} {t : Thing} (h : b[i]? = some t) : everyP b i t (bodiesL t).length = everyL (b.take (i + 1)) := by
  unfold everyP
  rw [take_snoc h, everyL_app, List.take_length]
  simp [everyL, everyT_eq t]
end My
namespace My
open PySem L2
def wordT : Thing → Str
  | .step _ => "step"
  | .call _ _ => "call"
  | .double _ => "double"
  | .loop _ _ _ _ => "for"
  | .test _ _ _ _ => "if"
  | .again _ _ => "again"
theorem thing_head {K : PySem.W.Frag} {G : Hp} {v : V} {t : Thing} (h : Dp K G v (thingD t)) : ∃ a r, v = .ref a ∧ SqT K G a (.str (wordT t) :: r) := by
  have e : ∃ ds, thingD t = .tuple (.str (wordT t) :: ds) := by
    cases t <;> (rw [thingD]; exact ⟨_, rfl⟩)
  obtain ⟨ds, e⟩ := e
  rw [e] at h
  obtain ⟨a, xs, rfl, hs, hd⟩ := h.tup'
  obtain ⟨x, r, rfl, hx, _⟩ := hd.c
  cases hx.str'
  exact ⟨a, r, rfl, hs⟩
theorem thing_call {K : PySem.W.Frag} {G : Hp} {v : V} {nm : Str} {e : En} (h : Dp K G v (thingD (.call nm e))) : ∃ a x, v = .ref a ∧ SqT K G a [.str "call", .str nm, x] ∧ Dp K G x (endD e) := by
  rw [thingD] at h
  obtain ⟨a, xs, rfl, hs, hd⟩ := h.tup'
  obtain ⟨x0, r0, rfl, h0, hd⟩ := hd.c
  obtain ⟨x1, r1, rfl, h1, hd⟩ := hd.c
  obtain ⟨x2, r2, rfl, h2, hd⟩ := hd.c
  cases hd.n
  cases h0.str'
  cases h1.str'
  exact ⟨a, x2, rfl, hs, h2⟩
theorem word_no_call {t : Thing} (h : ∀ nm e, t ≠ .call nm e) : wordT t ≠ "call" ∧ ∀ acc, callStep acc t = acc := by
  cases t with
  | call nm e => exact absurd rfl (h nm e)
  | _ => exact ⟨by simp only [wordT]; decide, fun acc => rfl⟩
end My
namespace My
open PySem L2
def spBodies (K : PySem.W.Frag) : Sp := fun vs H Q _ => ∃ (v : V) (t : Thing) (G : Hp), vs = [v] ∧ Same G H ∧ Dp K G v (thingD t) ∧
  ∀ (p : Addr) (us : List V) (H' : Hp), Same H H' → H p = none → H' p = some (.lst us) → DpAll K G us ((bodiesL t).map planD) → Q (.ref p) H'
/-- all that stands in a plan, a new list -/
def spEvery (K : PySem.W.Frag) (f : Nat) : Sp := fun vs H Q _ => ∃ (v : V) (b : List Thing) (G : Hp), vs = [v] ∧ Same G H ∧ Dp K G v (planD b) ∧ thingsC b < f ∧ thingsC b ≤ 31 ∧
  ∀ (p : Addr) (us : List V) (H' : Hp), Same H H' → H p = none → H' p = some (.lst us) → DpAll K G us ((everyL b).map thingD) → Q (.ref p) H'
/-- the names that a plan calls, a new list -/
def spCalls (K : PySem.W.Frag) : Sp := fun vs H Q _ => ∃ (v : V) (b : List Thing) (G : Hp), vs = [v] ∧ Same G H ∧ Dp K G v (planD b) ∧ thingsC b < 15 ∧
  ∀ (p : Addr) (H' : Hp), Same H H' → H p = none → H' p = some (.lst ((callsL b).map V.str)) → Q (.ref p) H'
end My
namespace PySem.W
open PySem PySem.Spec PySem.Calls PyProof.Rows
/-! ### except (A, B, ..): a tuple of classes of any length -/
section
variable {M : Model} {K : Frag}
theorem loop_skip {A : Around} {s : Shared} {f : Value → PUnit → Sem (ForInStep PUnit)} {E : Value → Shared → Prop} : ∀ {cs : List Value} {Q : PUnit → Shared → Prop}, (∀ c ∈ cs, ∀ Q' : ForInStep PUnit → Shared → Prop, Q' (.yield PUnit.unit) s → wpAny M A (f c PUnit.unit) Q' E s) → Q PUnit.unit s → wpAny M A (forIn cs PUnit.unit f) Q E s
  | [], _, _, q => by
    rw [List.forIn_nil]
    exact wpAny_pure q
  | c :: cs, Q, hf, q => by
    rw [List.forIn_cons]
    exact wpAny_bind (hf c (List.mem_cons_self ..) _ (loop_skip (fun c' h => hf c' (List.mem_cons_of_mem _ h)) q))
theorem loop_find {A : Around} {s : Shared} {cls : Value} {f : Value → Option Bool × Unit → Sem (ForInStep (Option Bool × Unit))} {E : Value → Shared → Prop} : ∀ {cs : List Value} {b : Bool} {Q : Option Bool × Unit → Shared → Prop}, exmAny K cls cs = some b →
    (∀ c ∈ cs, ∀ b1, exmOne K cls c = some b1 → ∀ Q' : ForInStep (Option Bool × Unit) → Shared → Prop, Q' (if b1 = true then .done (some true, ()) else .yield (none, ())) s → wpAny M A (f c (none, ())) Q' E s) → Q (if b = true then (some true, ()) else (none, ())) s → wpAny M A (forIn cs (none, ()) f) Q E s
  | [], b, Q, h, _, q => by
    cases (show some false = some b from h)
    rw [List.forIn_nil]
    exact wpAny_pure q
  | c :: cs, b, Q, h, hf, q => by
    obtain ⟨b1, d1, x1, y1, rfl⟩ := exmAny_cons h
    rw [List.forIn_cons]
    refine wpAny_bind (hf c (List.mem_cons_self ..) b1 x1 _ ?_)
    cases b1 with
    | true => exact wpAny_pure q
    | false => exact loop_find y1 (fun c' hc => hf c' (List.mem_cons_of_mem _ hc)) q
theorem exmAny_all {cls : Value} : ∀ {cs : List Value} {b : Bool}, exmAny K cls cs = some b → ∀ c ∈ cs, ∃ b1, exmOne K cls c = some b1
  | [], _, _, _, h => nomatch h
  | x :: r, b, h, c, hc => by
    obtain ⟨b1, d1, x1, y1, _⟩ := exmAny_cons h
    rcases List.mem_cons.mp hc with rfl | hc
    · exact ⟨b1, x1⟩
    · exact exmAny_all y1 c hc
theorem exm_tupN {cs : List Value} {cls : Value} {tp e : Addr} {b : Bool} {h : Heap} {dd : Option Addr} {n : Nat} {sl : Array (Option Value)} (X : K.In h) (LT : Looks M h (typeOf (.ref e)) cls) (hp : h.get? tp = some ⟨.type "tuple", dd, .seq cs.toArray n, sl⟩) (hx : exmAny K cls cs = some b) :
    Looks M h (excMatches (.ref e) (.ref tp)) b := by
  intro A Q E s k₀ q
  obtain ⟨hh, g, d, tk, os⟩ := s
  have k : ∀ b o, h.get? b = some o → hh.get? b = some o := k₀
  have LT0 : Looks M h (isInstance (.ref tp) (.type "tuple")) true := ((Looks.ld hp).andThen .now).andThen (Looks.of_pure isSubtype_tuple_tuple)
  have LT := LT.keeps k
  have LT0 := LT0.keeps k
  have hp' := k _ _ hp
  unfold excMatches
  refine wpAny_bind (LT0.at ?_)
  dsimp only
  rw [if_pos rfl]
  first
    | refine wpAny_bind (wpAny_seqItems hp' rfl ?_)
    | refine wpAny_bind (wpAny_bind (wpAny_seqItems hp' rfl (wpAny_pure ?_)))
  dsimp only [Option.getD_some, Option.getD]
  first
    | refine wpAny_bind (wpAny_pure ?_)
    | skip
  refine wpAny_bind (loop_skip (fun c hc Q' q' => ?_) ?_)
  · obtain ⟨b1, x1⟩ := exmAny_all hx c hc
    obtain ⟨e1, _⟩ := exm_cls (M := M) X x1
    refine wpAny_bind ((e1.keeps k).at ?_)
    rw [if_neg (by decide)]
    exact wpAny_pure q'
  refine wpAny_bind (LT.at (wpAny_bind (loop_find hx (fun c hc b1 x1 Q' q' => ?_) ?_)))
  · obtain ⟨_, S1⟩ := exm_cls (M := M) X x1
    refine wpAny_bind ((S1.keeps k).at ?_)
    cases b1 with
    | true => exact wpAny_pure q'
    | false => exact wpAny_pure q'
  cases b with
  | true => exact wpAny_pure q
  | false => exact wpAny_pure q
end
end PySem.W
namespace My
open PySem PySem.Spec PyProof.Rows L2
/-! ### try: .. except A as n: .. except (B, C) as n: .. -/
theorem flying_kept {base h h' : Heap} {l : List Env} {e : Addr} {Z : Obj → Prop} (k : ∀ b o, h.get? b = some o → h'.get? b = some o) (x : HandSPX.FlyingZ base l e Z h) : HandSPX.FlyingZ base l e Z h' := by
  obtain ⟨f1, f2, f3, oe, vs, T, oT, ts, he, hz, hd, h1, hnT, hTe, hT, hdT, h3⟩ := x
  exact ⟨fun b o q => k b o (f1 b o q), f2, f3.of_keeps fun b o hb _ => ⟨o, k b o hb, rfl⟩, oe, vs, T, oT, ts, k _ _ he, hz, hd, h1, hnT, hTe, k _ _ hT, hdT, h3⟩
inductive NmAll (X : Cx) : List Expr → List Value → Prop
  | nil : NmAll X [] []
  | cons {x : Str} {c : Value} {np : Pos} {es : List Expr} {cs : List Value} : Names X x c → NmAll X es cs → NmAll X (.Name x np :: es) (c :: cs)
theorem name_run {X : Cx} {E : Value → Shared → Prop} {pins : List (Addr × Obj)} {σ : L2.St} {H : Hp} {s : Shared} {a : Addr} {pn : List (Addr × Obj)} {x : Str} {c : Value} {np : Pos} {Q : Value → Shared → Prop} (S : Inv (X.suite a pn) pins σ H s) (hc : Names X x c) (q : Q c s) :
    wpAny (model X.prog X.w) (X.A.mark (some (.ref a))) (eval (.Name x np) X.env) Q E s := by
  obtain ⟨hg, hdbg, hm | ⟨hm, hv, hnn⟩⟩ := hc
  · exact ld_glob (X := X.suite a pn) S hg hm q hdbg
  · exact ld_blt (X := X.suite a pn) S hg hm hv q hnn hdbg
theorem nmAll_run {X : Cx} {pos : Pos} {E : Value → Shared → Prop} {pins : List (Addr × Obj)} {σ : L2.St} {H : Hp} {s : Shared} {a : Addr} {pn : List (Addr × Obj)} (S : Inv (X.suite a pn) pins σ H s) :
    ∀ {es : List Expr} {cs : List Value} {Q : List Value → Shared → Prop}, NmAll X es cs → Q cs s → wpAny (model X.prog X.w) (X.A.mark (some (.ref a))) (spliced (backTo pos (starEach es X.env))) Q E s := by
  intro es cs Q h
  induction h generalizing Q with
  | nil => exact fun q => Calls.spliced_nil q
  | @cons x c np es cs hc r ih =>
    intro q
    show wpAny _ _ (spliced ((false, eval (.Name x np) X.env) :: backTo pos (starEach es X.env))) _ _ s
    exact Calls.spliced_cons (name_run S hc (ih q))
/-- what the clauses wish of an exception of the body; slot i is the clauses' name -/
def wManyA (Wout : WX) (D : Ends) (i : Nat) : List ((Value → Option Bool) × (Addr → Value → Option Addr → TS)) → WX
  | [] => Wout
  | (f, ts) :: r => fun cls d σ H => ∃ b, f cls = some b ∧ (b = true → ∀ a, H a = none → i < σ.length → ts a cls d { nx := fun σ' H' => D.nx (σ'.set i none) H', rt := D.rt, bk := fun σ' H' => D.bk (σ'.set i none) H', ct := fun σ' H' => D.ct (σ'.set i none) H' } (σ.set i (some (.ref a))) H) ∧ (b = false → wManyA Wout D i r cls d σ H)
inductive HdsA (X : Cx) (n : Str) : List ExceptHandler → List ((Value → Option Bool) × (Addr → Value → Option Addr → TS)) → Prop
  | nil : HdsA X n [] []
  | one {x : Str} {c : Value} {ts : Addr → Value → Option Addr → TS} {b₀ : Stmt} {suite : List Stmt} {np pos' : Pos} {hds : List ExceptHandler} {l : List ((Value → Option Bool) × (Addr → Value → Option Addr → TS))} (hc : Names X x c)
      (hsu : ∀ (a : Addr) (oe : Obj) (cls : Value) (d : Option Addr) (pn : List (Addr × Obj)), Zc cls d oe → (∃ vs, oe.data = .fields vs) → PSs (X.suite a ((a, oe) :: pn)) (b₀ :: suite) (ts a cls d)) (r : HdsA X n hds l) :
      HdsA X n (.ExceptHandler (some (.Name x np)) (some n) (b₀ :: suite) pos' :: hds) ((fun cls => PySem.W.exmOne X.K cls c, ts) :: l)
  | tup {es : List Expr} {cs : List Value} {x1} {ts : Addr → Value → Option Addr → TS} {b₀ : Stmt} {suite : List Stmt} {np pos' : Pos} {hds : List ExceptHandler} {l : List ((Value → Option Bool) × (Addr → Value → Option Addr → TS))} (hc : NmAll X es cs) (hl : cs.length ≤ 1000)
      (hsu : ∀ (a : Addr) (oe : Obj) (cls : Value) (d : Option Addr) (pn : List (Addr × Obj)), Zc cls d oe → (∃ vs, oe.data = .fields vs) → PSs (X.suite a ((a, oe) :: pn)) (b₀ :: suite) (ts a cls d)) (r : HdsA X n hds l) :
      HdsA X n (.ExceptHandler (some (.Tuple es x1 np)) (some n) (b₀ :: suite) pos' :: hds) ((fun cls => PySem.W.exmAny X.K cls cs, ts) :: l)
section
variable {X : Cx} {n : Str} {i : Nat} {body : List Stmt} {h₀ : ExceptHandler} {hds : List ExceptHandler} {l : List ((Value → Option Bool) × (Addr → Value → Option Addr → TS))} {pos : Pos} {tb : WX → TS} {Wout : WX}
theorem ps_try_manyA (hs : X.stack = X.env :: X.outer) (hf : X.env.frame = some X.env.locals) (hN : X.N.Nodup) (hi : X.N[i]? = some n) (hln : X.env.kindOf n = some .local) (tk : Takes X Wout)
    (hb : ∀ (W : WX) (pn : List (Addr × Obj)) (xe : Value → Shared → Prop), Takes (X.tr pn xe) W → PassesOwn (model X.prog X.w) X.A X.env xe → PSs (X.tr pn xe) body (tb W))
    (hh : HdsA X n (h₀ :: hds) l) : PS X (.Try body (h₀ :: hds) [] [] pos) (fun D σ H => tb (wManyA Wout D i l) D σ H) := by
  refine ⟨fun pins s σ H D I h => ?_⟩
  have ok := I.ok
  have hfr : X.A.frames = some (X.env :: X.outer) := by rw [ok.frames, hs]
  have hloc : Loc X.env.scope n := .inl hln
  refine wpAny_Try_except ?_
  refine wpAny_mono ((hb (wManyA Wout D i l) (X.pn ++ pins) (fun e s₁ => wpAny (model X.prog X.w) X.A (noteFrame e X.env) (fun _ s₂ => wpAny (model X.prog X.w) X.A (setFlight e none) (fun _ s₃ =>
    wpAny (model X.prog X.w) X.A (handleBy e X.env (h₀ :: hds)) (SP X pins D) X.xe s₃) X.xe s₂) X.xe s₁) (fun u s' xx => ?_) PassesOwn.looking).run [] s σ H D (I.toTry _) h) (fun f s1 hsp => ?_) (fun e s1 he => he)
  · -- the catch
    obtain ⟨a, B, sI, pins', σ', H', cls, d, rfl, J', nb, up, sky, na, os, ag, w⟩ := xx
    have J : Inv X pins σ' H' sI := J'.ofTry ok
    have sky' : Sky B (X.env :: X.outer) a (Zc cls d) X.env.locals s'.heap := by rw [← hs]; exact sky
    show wpAny (model X.prog X.w) X.A (noteFrame (.ref a) X.env) _ _ _
    refine Sky.land Zc.steady hfr hf sky' fun h3 fl3 up3 => ?_
    have notFr : ∀ {h : Heap} {o : Obj} {vs : Array Value}, h.FunFrames B (X.env :: X.outer) → h.get? a = some o → o.data = .fields vs → a ∉ frs (X.env :: X.outer) := fun {h o vs} ff e dd hm => by
      obtain ⟨_, o', e', hnf⟩ := ff.mem hm
      rw [e] at e'; cases e'
      exact hnf _ dd
    have go : ∀ {hds' : List ExceptHandler} {l' : List ((Value → Option Bool) × (Addr → Value → Option Addr → TS))}, HdsA X n hds' l' → ∀ h3 : Heap, HandSPX.FlyingZ B (X.env :: X.outer) a (Zc cls d) h3 → sI.heap.UpToSlots h3 → wManyA Wout D i l' cls d σ' H' →
        wpAny (model X.prog X.w) X.A (handleBy (.ref a) X.env hds') (SP X pins D) X.xe { s' with heap := h3 } := by
      intro hds' l' hk
      induction hk with
      | nil =>
        intro h3 fl3 up3 w
        refine wpAny_handleBy_nil ?_
        obtain ⟨k1, k2, k3, oe, vs, T, oT, ts', he, hz, hd, h1, hr⟩ := id fl3
        unfold PySem.passOn
        refine wpAny_bind (wpAny_field he hd h1 ?_)
        rw [if_neg (show ¬ ((Value.ref T == Value.none) = true) from by simp)]
        have fin : wpAny (model X.prog X.w) X.A (setFlight (.ref a) X.env.frame) (fun _ s4 => wpAny (model X.prog X.w) X.A (throw (.ref a) : Sem Flow) (SP X pins D) X.xe s4) X.xe { s' with heap := h3 } := by
          rw [hf]
          refine HandSPX.setFlight_upZ fl3 fun h4 hh4 up4 => wpAny_throw (tk _ _ ?_)
          exact ⟨a, B, sI, pins, σ', H', cls, d, rfl, J, nb, up3.trans up4, .inr (.inr (by rw [hs]; exact hh4)), na, os, ag, w⟩
        first
          | exact wpAny_bind (wpAny_pure (wpAny_bind fin))
          | exact wpAny_bind fin
      | @one x c ts b₀ suite np pos' hds2 l2 hc hsu r ih =>
        intro h3 fl3 up3 w
        obtain ⟨b, hb1, hyes, hno⟩ := w
        have J3 : Inv X pins σ' H' { s' with heap := h3 } := J.landed nb fl3.1 up3 os ag
        obtain ⟨oe3, vs3, he3, hz3, hd3⟩ := fl3.there
        have nfr := notFr fl3.2.2.1 he3 hd3
        have nL : a ≠ X.env.locals := fun z => nfr (List.mem_filterMap.mpr ⟨X.env, List.mem_cons_self, by rw [hf, z]⟩)
        have nF : a ∉ X.fs := fun hm => by
          obtain ⟨e, he, q⟩ := List.mem_filterMap.mp hm
          exact nfr (List.mem_filterMap.mpr ⟨e, List.mem_cons_of_mem _ he, q⟩)
        have S3 := J3.suite he3 hd3 na nL nF
        refine wpAny_handleBy_cons (codeAny_handlers_test ?_) (by intro q; cases q)
        have LT : PySem.W.Looks (model X.prog X.w) h3 (typeOf (.ref a)) cls := fun A Q E s k q => wpAny_typeOf_ref (k _ _ he3) (by rw [hz3.1]; exact q)
        have LM := PySem.W.exm_one (M := model X.prog X.w) (J3.kIn) LT hb1
        refine name_run S3 hc (LM.here ?_)
        cases b with
        | true =>
          refine codeAny_handlers_suite_as ?_
          refine HandSPX.lands_againZ fl3 fun h4 fl4 up4 => ?_
          have J4 : Inv X pins σ' H' { s' with heap := h4 } := J.landed nb fl4.1 (up3.trans up4) os ag
          obtain ⟨oe4, vs4, he4, hz4, hd4⟩ := fl4.there
          have S4 := J4.suite he4 hd4 na nL nF
          refine store_ok (X := X.suite a ((a, oe4) :: (X.pn ++ pins))) (v := .ref a) S4 hN hi hloc rfl (fun s5 S5 => ?_) (.inr hln)
          refine wpAny_mono ((hsu a oe4 cls d (X.pn ++ pins) hz4 ⟨_, hd4⟩).run [] s5 _ H' _ S5 (hyes rfl a na (by rw [J.len]; exact (List.getElem?_eq_some_iff.mp hi).1))) (fun f s6 hsp => ?_) (fun _ _ z => False.elim z)
          have end_ : ∀ {σ6 : L2.St} {H6 : Hp} {Q : Shared → Prop}, Inv (X.suite a ((a, oe4) :: (X.pn ++ pins))) [] σ6 H6 s6 → (∀ s7, Inv X pins (σ6.set i none) H6 s7 → Q s7) →
              wpAny (model X.prog X.w) X.A (do bindName X.env n .none; unbindBehindTheSuite X.env n pos') (fun _ s7 => Q s7) X.xe s6 := fun {σ6 H6 Q} S6 hq => gone_ok (S6.unsuite ok) hN hi hln hq
          cases f with
          | next =>
            obtain ⟨σ6, H6, S6, q6⟩ := hsp
            exact end_ S6 fun s7 J7 => ⟨_, _, J7, q6⟩
          | brk =>
            obtain ⟨σ6, H6, S6, q6⟩ := hsp
            exact end_ S6 fun s7 J7 => ⟨_, _, J7, q6⟩
          | cont =>
            obtain ⟨σ6, H6, S6, q6⟩ := hsp
            exact end_ S6 fun s7 J7 => ⟨_, _, J7, q6⟩
          | ret u =>
            obtain ⟨v6, σ6, H6, S6, r6, q6⟩ := hsp
            exact end_ S6 fun s7 J7 => ⟨_, _, _, J7, r6, q6⟩
        | false =>
          show wpAny _ X.A (handleBy (.ref a) X.env hds2) _ _ _
          exact ih _ fl3 up3 (hno rfl)
      | @tup es cs x1 ts b₀ suite np pos' hds2 l2 hc hl hsu r ih =>
        intro h3 fl3 up3 w
        obtain ⟨b, hb1, hyes, hno⟩ := w
        have J3 : Inv X pins σ' H' { s' with heap := h3 } := J.landed nb fl3.1 up3 os ag
        obtain ⟨oe3, vs3, he3, hz3, hd3⟩ := fl3.there
        have nfr := notFr fl3.2.2.1 he3 hd3
        have nL : a ≠ X.env.locals := fun z => nfr (List.mem_filterMap.mpr ⟨X.env, List.mem_cons_self, by rw [hf, z]⟩)
        have nF : a ∉ X.fs := fun hm => by
          obtain ⟨e, he, q⟩ := List.mem_filterMap.mp hm
          exact nfr (List.mem_filterMap.mpr ⟨e, List.mem_cons_of_mem _ he, q⟩)
        have S3 := J3.suite he3 hd3 na nL nF
        refine wpAny_handleBy_cons (codeAny_handlers_test ?_) (by intro q; cases q)
        have LT : PySem.W.Looks (model X.prog X.w) h3 (typeOf (.ref a)) cls := fun A Q E s k q => wpAny_typeOf_ref (k _ _ he3) (by rw [hz3.1]; exact q)
        have kp : ∀ b o, h3.get? b = some o → (h3.push ({ cls := .type "tuple", data := .seq cs.toArray } : Obj)).get? b = some o := fun b o e => Heap.get?_push_of_some _ e
        have fl5 := flying_kept kp fl3
        have up5 : sI.heap.UpToSlots (h3.push ({ cls := .type "tuple", data := .seq cs.toArray } : Obj)) := up3.trans (Heap.UpToSlots.of_keeps kp)
        have hp5 : (h3.push ({ cls := .type "tuple", data := .seq cs.toArray } : Obj)).get? h3.objs.size = some ({ cls := .type "tuple", data := .seq cs.toArray } : Obj) := Heap.get?_push_size _ rfl
        have LM := PySem.W.exm_tupN (M := model X.prog X.w) (J3.kIn.keeps kp) (LT.keeps kp) hp5 hb1
        refine wpAny_Tuple_spliced (nmAll_run S3 hc ⟨Nat.le_trans hl (by decide), LM.here ?_⟩)
        cases b with
        | true =>
          refine codeAny_handlers_suite_as ?_
          refine HandSPX.lands_againZ fl5 fun h4 fl4 up4 => ?_
          have J4 : Inv X pins σ' H' { s' with heap := h4 } := J.landed nb fl4.1 (up5.trans up4) os ag
          obtain ⟨oe4, vs4, he4, hz4, hd4⟩ := fl4.there
          have S4 := J4.suite he4 hd4 na nL nF
          refine store_ok (X := X.suite a ((a, oe4) :: (X.pn ++ pins))) (v := .ref a) S4 hN hi hloc rfl (fun s5 S5 => ?_) (.inr hln)
          refine wpAny_mono ((hsu a oe4 cls d (X.pn ++ pins) hz4 ⟨_, hd4⟩).run [] s5 _ H' _ S5 (hyes rfl a na (by rw [J.len]; exact (List.getElem?_eq_some_iff.mp hi).1))) (fun f s6 hsp => ?_) (fun _ _ z => False.elim z)
          have end_ : ∀ {σ6 : L2.St} {H6 : Hp} {Q : Shared → Prop}, Inv (X.suite a ((a, oe4) :: (X.pn ++ pins))) [] σ6 H6 s6 → (∀ s7, Inv X pins (σ6.set i none) H6 s7 → Q s7) →
              wpAny (model X.prog X.w) X.A (do bindName X.env n .none; unbindBehindTheSuite X.env n pos') (fun _ s7 => Q s7) X.xe s6 := fun {σ6 H6 Q} S6 hq => gone_ok (S6.unsuite ok) hN hi hln hq
          cases f with
          | next =>
            obtain ⟨σ6, H6, S6, q6⟩ := hsp
            exact end_ S6 fun s7 J7 => ⟨_, _, J7, q6⟩
          | brk =>
            obtain ⟨σ6, H6, S6, q6⟩ := hsp
            exact end_ S6 fun s7 J7 => ⟨_, _, J7, q6⟩
          | cont =>
            obtain ⟨σ6, H6, S6, q6⟩ := hsp
            exact end_ S6 fun s7 J7 => ⟨_, _, J7, q6⟩
          | ret u =>
            obtain ⟨v6, σ6, H6, S6, r6, q6⟩ := hsp
            exact end_ S6 fun s7 J7 => ⟨_, _, _, J7, r6, q6⟩
        | false =>
          show wpAny _ X.A (handleBy (.ref a) X.env hds2) _ _ _
          exact ih _ fl5 up5 (hno rfl)
    exact go hh h3 fl3 (up.trans up3) w
  · cases f with
    | next =>
      obtain ⟨σ', H', J', q⟩ := hsp
      exact wpAny_execs_nil ⟨σ', H', J'.ofTry ok, q⟩
    | brk =>
      obtain ⟨σ', H', J', q⟩ := hsp
      exact ⟨σ', H', J'.ofTry ok, q⟩
    | cont =>
      obtain ⟨σ', H', J', q⟩ := hsp
      exact ⟨σ', H', J'.ofTry ok, q⟩
    | ret u =>
      obtain ⟨v, σ', H', J', r, q⟩ := hsp
      exact ⟨v, σ', H', J'.ofTry ok, r, q⟩
end
end My
namespace My
open PySem PySem.Spec PyProof.Rows L2
open L2H
/-! ### a def that is called with the handled exception -/
structure FnE (P : Program) (w : World) (K : PySem.W.Frag) (mg : Str → Option Value) (base : Heap) (k : Nat) (f : Addr) (fd : FuncData) (ps : List Str) (sp : Addr → Value → Option Addr → Sp) : Prop where
  len : ∀ a cls d vs H Q E, sp a cls d vs H Q E → vs.length = ps.length
  run : ∀ (A : Around) (outer : List Env) (s : Shared) (H : Hp) (args : Args) (us : List Value) (vs : List V) (Q : VK) (E : XK) (p : Addr × Obj) (cls : Value) (d : Option Addr), RoomH k A → PinOk outer H s p → Zc cls d p.2 → (∃ zs, p.2.data = .fields zs) → Env0 P w K mg base A outer s H → BindsTo s fd args (ps.zip us) → Vals vs us → sp p.1 cls d vs H Q E →
    codeAny (model P w) A (.call (.ref f) args) (CR CX0 outer P w H s Q E) s
theorem fn_ofE {P : Program} {w : World} {K : PySem.W.Frag} {mg : Str → Option Value} {base : Heap} {k : Nat} {f : Addr} {x qual : Str} {st : Stmt} {fd : FuncData} {N ps : List Str} {sp : Addr → Value → Option Addr → Sp}
    (F : Fun K x qual st f fd) (S : FnScope N ps (defScope st)) (len : ∀ a cls d vs H Q E, sp a cls d vs H Q E → vs.length = ps.length)
    (hbody : ∀ (cdv : Value) (A : Around) (outer : List Env) (s : Shared) (H : Hp) (vs : List V) (Q : VK) (E : XK) (p : Addr × Obj) (cls : Value) (d : Option Addr), Zc cls d p.2 → (∃ zs, p.2.data = .fields zs) → RoomH k (A.deeper (envOfC qual (defScope st) s.heap.objs.size f cdv)) → sp p.1 cls d vs H Q E →
      ∃ t, PSs (cxH CX0 P w K mg base N qual (defScope st) f cdv A outer s H E p).nox (defBody st) t ∧ t { nx := fun _ H' => Q .non H', rt := Q } (L2.start N vs) H) :
    FnE P w K mg base (k + 1) f fd ps sp := by
  obtain ⟨oc, od, kV, doc, pm, an, cdv, ct, osl, rfl, lk, hcd⟩ := F.ex
  refine ⟨len, fun A outer s H args us vs Q E p cls d hr hpin hz hf e0 hb r hsp => ?_⟩
  have hl := len _ _ _ _ _ _ _ hsp
  have KX : K.In s.heap := e0.mod.kin.keeps fun b o e => (e0.bs b o e).1
  have lim : s.heap.NoLimit := e0.mod.nolimit.keeps fun b o e => (e0.bs b o e).1
  have hkind : ∀ y ∈ ps.zip us, (defScope st).names.lookup y.1 = some .local ∨ ((defScope st).names.lookup y.1 = some .cell ∧ ((cellsFrom (s.heap.objs.size + 1) (defScope st).names []).lookup y.1).isSome = true) := fun ⟨n, v⟩ hy => by
    rcases S.par n (List.of_mem_zip hy).1 with q | q
    · exact .inl q
    · exact .inr ⟨q, PySem.W.cellsFrom_some _ _ _ (.inl q)⟩
  refine codeAny_call_function hr.depth (KX _ _ lk) rfl S.co S.gen rfl (PySem.W.codeRec_of KX hcd) (hb _ _ _ _ ?_)
  refine wpAny_newFunctionEnv_cells S.kind hkind fun env he s1 y => ?_
  subst he
  refine ⟨lim.keeps y.toInCall.keep, codeAny_func ?_⟩
  obtain ⟨t, ht, hq⟩ := hbody cdv A outer s H vs Q E p cls d hz hf (hr.deeper _) hsp
  have I : Inv (cxH CX0 P w K mg base N qual (defScope st) f cdv A outer s H E p) [] (L2.start N vs) H s1 := inv_startH S hpin e0 hl r y
  refine wpAny_mono (ht.nox.run [] s1 (L2.start N vs) H _ I hq) (fun fl s' hs => ?_) fun e s' hs => hs
  cases fl with
  | ret u =>
    obtain ⟨v, σ', H', J, rv, q⟩ := hs
    exact ⟨v, H', J.os, J.bare, J.base, J.hok, rv, q⟩
  | next =>
    obtain ⟨σ', H', J, q⟩ := hs
    exact ⟨V.non, H', J.os, J.bare, J.base, J.hok, rfl, q⟩
  | brk =>
    obtain ⟨_, _, _, q⟩ := hs
    exact False.elim q
  | cont =>
    obtain ⟨_, _, _, q⟩ := hs
    exact False.elim q
section
variable {X : Cx} {k : Nat} {f : Addr} {fd : FuncData} {ps : List Str} {sp : Addr → Value → Option Addr → Sp} {x : Str} {q pos : Pos} {e : Expr} {es : List Expr} {t : TA} {a : Addr} {oe : Obj} {cls : Value} {d : Option Addr} {pn : List (Addr × Obj)}
def tCallE (a : Addr) (cls : Value) (d : Option Addr) (sp : Addr → Value → Option Addr → Sp) (t : TA) : TE := fun σ H Q => t σ H fun vs H1 => sp a cls d vs H1 Q E0
theorem pe_callE (F : FnE X.prog X.w X.K X.mg X.base k f fd ps sp) (hr : RoomH k X.A) (hz : Zc cls d oe) (hf : ∃ zs, oe.data = .fields zs) (hg : Gl X x) (hm : X.mg x = some (.ref f)) (hk : PySem.W.keepIn X.K (.ref f) = true) (hb : Binds X.K fd ps [])
    (ha : PA (X.suite a ((a, oe) :: pn)) (e :: es) t) (hdb : (x == ("__debug__" : Str)) = false := by decide) (he : starEach (e :: es) X.env = (false, eval e X.env) :: starEach es X.env := by rfl) (hpl : (backTo pos (starEach es X.env)).any (·.1) = false := by rfl) :
    PE (X.suite a ((a, oe) :: pn)) (.Call (.Name x q) (e :: es) [] pos) (tCallE a cls d sp t) := by
  refine ⟨fun pins s σ H Q I h => ?_⟩
  refine wpAny_Call_Name_kw (ld_glob I hg hm ?_ hdb)
  refine PySem.W.callWith_K (h₀ := X.base) I.ok.mod.kin hk (thn (ha.run pos pins s σ H _ I h) fun us s1 ⟨vs, H1, I1, r, q⟩ => ⟨I1.kIn, ?_⟩) he hpl
  have hl : us.length = ps.length := by rw [← r.length]; exact F.len _ _ _ _ _ _ _ q
  have b := hb s1 us I1.kIn (by rw [List.append_nil]; exact hl)
  rw [List.append_nil] at b
  have P1 := I1.pin (a, oe) (List.mem_append_left _ List.mem_cons_self)
  have hpin : PinOk X.stack H1 s1 (a, oe) := ⟨P1.1, P1.2.1, fun hm => (List.mem_cons.mp (I1.stkSub a hm)).elim P1.2.2.1 P1.2.2.2.1, P1.2.2.2.2⟩
  refine wpAny_call (codeAny_mono (F.run (X.A.mark (some (.ref a))) X.stack s1 H1 ⟨us, []⟩ us vs Q E0 (a, oe) cls d ⟨hr.dp, hr.un⟩ hpin hz hf I1.env0 b r q) fun r s' hq => ?_)
  cases r with
  | error e => exact (show False from hq).elim
  | ok fl =>
    cases fl with
    | ret u => exact I1.after hq
    | next => exact False.elim hq
    | brk => exact False.elim hq
    | cont => exact False.elim hq
end
/-! ### what such a def may ask of it: its class, its fields -/
/-- what the class D must say, so that isinstance asks its instances rightly -/
structure ClsE (K : PySem.W.Frag) (D : Addr) : Prop where
  cl : (PySem.W.clsIn K D).isSome = true
  ga : PySem.W.findIn K (.ref D) "__getattribute__" = some (some (.builtin "BaseException.__getattribute__"))
  gg : PySem.W.findIn K (.ref D) "__getattr__" = some none
  su : PySem.W.subIn K (.ref D) (.type "BaseException") = some true
  hd : PySem.W.hasDictIn K D = true
  ca : PySem.W.findIn K (.ref D) "__class__" = some (some (.builtin "object.__class__"))
  gt : PySem.W.specialIn K (.builtin "object.__class__") "__get__" = some (some (.builtin "getset_descriptor.__get__"))
  tk : PySem.W.takesIn K (.builtin "object.__class__") = some true
  mr : PySem.W.mroIn K D (.type "object") = some true
def rIsP (K : PySem.W.Frag) (D a dd : Addr) : List V → Hp → VK → Prop := fun xs H Q => ∃ (c : V) (cv : Value) (b : Bool) (fs : List (Str × V)), xs = [.ref a, c] ∧ (∀ u, RelV c u → u = cv) ∧ H dd = some (.xd fs) ∧ PySem.W.kitOne K (.ref D) cv = some b ∧ Q (.bl b) H
section
variable {X : Cx} {D dd : Addr} {p : Addr × Obj}
theorem call_isP (C : ClsE X.K D) (hp : p ∈ X.pn) (hz : Zc (.ref D) (some dd) p.2) (hf : ∃ vs, p.2.data = .fields vs) : CallR X (.builtin "isinstance") (rIsP X.K D p.1 dd) := by
  intro pins s σ H xs us Q I r h
  obtain ⟨c, cv, b, fs, rfl, hcv, ed, e, q⟩ := h
  cases r with
  | cons rx rr =>
    cases rr with
    | cons rt rr =>
      cases rr
      cases rx
      have ec := hcv _ rt
      subst ec
      obtain ⟨hget, _⟩ := I.pin p (List.mem_append_left _ hp)
      obtain ⟨vs, hv⟩ := hf
      obtain ⟨mA, hns, _⟩ := (show ObjOk X.prog X.w H s.heap dd (.xd fs) from I.hok dd _ ed)
      obtain ⟨od, ho, _⟩ := lookIn_ns hns
      have J : PySem.W.InstAt s.heap p.1 p.2 D (some od) := ⟨hget, hz.1, by unfold PySem.W.notCls; rw [hv] <;> rfl, by rw [hz.2]; exact ho⟩
      exact PySem.W.kia_one (PySem.W.kitx_exc C.cl C.ga C.gg C.su C.ca C.gt C.tk C.mr) I.kIn J e (fun z => nomatch z) fun tk => ⟨.bl b, H, I.kept (t' := tk) fun _ _ z => z, rfl, q⟩
/-- e.f -/
def tXp (a dd : Addr) (f : Str) (te : TE) : TE := fun σ H Q => te σ H fun x H1 => x = .ref a ∧ ∃ (fs : List (Str × V)) (v : V), H1 dd = some (.xd fs) ∧ fs.lookup f = some v ∧ Q v H1
theorem pe_xp {e : Expr} {te : TE} {pos : Pos} {n : Str} (T : ClsE X.K D) (hno : PySem.W.findIn X.K (.ref D) n = some none) (hp : p ∈ X.pn) (hz : Zc (.ref D) (some dd) p.2) (hf : ∃ vs, p.2.data = .fields vs) (he : PE X e te)
    (hb : attributeBase e n X.env (eval e X.env) = eval e X.env := by rfl) : PE X (.Attribute e n pos) (tXp p.1 dd n te) := by
  refine ⟨fun pins s σ H Q I h => ?_⟩
  refine attr_of hb (thn (he.run pins s σ H _ I h) fun u s1 hh => ?_)
  obtain ⟨x, H1, I1, rx, ex, fs, v, ea, l, q⟩ := hh
  subst ex
  obtain rfl : u = Value.ref p.1 := rx
  obtain ⟨ha, _⟩ := I1.pin p (List.mem_append_left _ hp)
  obtain ⟨vs, hd⟩ := hf
  obtain ⟨mA, hns, hr⟩ := (show ObjOk X.prog X.w H1 s1.heap dd (.xd fs) from I1.hok dd _ ea)
  obtain ⟨od, ho, hl⟩ := lookIn_ns hns
  obtain ⟨u, hu, ru⟩ := RelO.some_of (v := v) (o := mA n) (by rw [← l]; exact hr n)
  have J : PySem.W.InstAt s1.heap p.1 p.2 D (some od) := ⟨ha, hz.1, by unfold PySem.W.notCls; rw [hd] <;> rfl, by rw [hz.2]; exact ho⟩
  exact HandSPX.exc_get I1.kIn J T.ga T.gg T.su (PySem.W.findObj_own T.hd hno rfl (by rw [hl, hu])) (handed_of ru) ⟨v, H1, I1.tok _, ru, q⟩
end
end My
namespace My
open PySem PySem.Spec PyProof.Rows L2
/-! ### C.__init__(self, ..): the def of a class above, called by the class's name -/
section
variable {X : Cx} {CX : CXT} {k : Nat} {f C : Addr} {fd : FuncData} {ps : List Str} {sp : Sp} {dvs : List V} {ds : List Value} {E : XK} {x m : Str} {p1 p2 pos : Pos} {e : Expr} {es : List Expr} {t : TA}
theorem pe_cinit {pl : Sem Bool} (hg : Gl X x) (hm : X.mg x = some (.ref C)) (sg : PySem.W.specialIn X.K (.ref C) "__getattribute__" = some (some (.builtin "type.__getattribute__"))) (rd : PySem.W.readsIn X.K C (.type "type") = true)
    (fc : PySem.W.findCls X.K (.ref C) (.type "type") m = some (.val (.ref f))) (F : FnOk X.prog X.w X.K X.mg X.base CX k f fd ps sp) (hr : Room k X.A) (hk : PySem.W.keepIn X.K (.ref f) = true) (hb : Binds X.K fd ps ds) (hd : Vals dvs ds) (hx : Passes CX X E) (ha : PA X (e :: es) t)
    (ht : eval (.Call (.Attribute (.Name x p1) m p2) (e :: es) [] pos) X.env = (do
      let ov ← eval (.Name x p1) X.env
      standAt p2.atName
      let (f, first) ← holding [ov] (getMethod ov m pl)
      callWith pos f first (backTo pos (starEach (e :: es) X.env)) (backToKw pos (keywordEach [] X.env))) := by rfl)
    (hdb : (x == ("__debug__" : Str)) = false := by decide) (he : starEach (e :: es) X.env = (false, eval e X.env) :: starEach es X.env := by rfl) (hpl : (backTo pos (starEach es X.env)).any (·.1) = false := by rfl) :
    PE X (.Call (.Attribute (.Name x p1) m p2) (e :: es) [] pos) (tCall sp dvs E t) := by
  refine ⟨fun pins s σ H Q I h => ?_⟩
  refine PySem.W.methodCall_KW (pl := pl) (ld_glob I hg hm ?_ hdb) ht
  refine PySem.W.method_cls I.kIn sg (PySem.W.cls_value I.kIn rd fc rfl ?_)
  refine PySem.W.callWith_K (first := []) (h₀ := X.base) I.ok.mod.kin hk (thn (ha.run pos pins _ σ H _ (I.tok _) h) fun us s2 ⟨vs, H2, I2, r, q⟩ => ⟨I2.kIn, ?_⟩) he hpl
  exact run_fn F hr hb hd hx I2 r q
end
end My
namespace My
open PySem PySem.Spec PyProof.Rows L2
section
variable {X : Cx} {p pos : Pos}
/-- raise C(): nothing is handed in -/
theorem pmk_oex0 {CX : CXT} {x : Str} {C fI : Addr} {k : Nat} {fd : FuncData} {ps : List Str} {sp : Sp} {ds : List Value} {dvs : List V} (T : OexC X.K C) (iC : PySem.W.findIn X.K (.ref C) "__init__" = some (some (.ref fI))) (tI : PySem.W.typeIn X.K (.ref fI) = some (.type "function"))
    (F1 : FnOk X.prog X.w X.K X.mg X.base CX k fI fd ps sp) (hr : Room (k + 1) X.A) (hb : Binds X.K fd ps ds) (hd : Vals dvs ds) (hx : Passes CX X (fun _ _ _ => False)) (hg : Gl X x) (hm : X.mg x = some (.ref C))
    (hdb : (x == ("__debug__" : Str)) = false := by decide) :
    PMk X (.Call (.Name x p) [] [] pos) (tMkO C sp dvs tNil) := by
  intro pins s σ H Q I h
  obtain ⟨nm, q, N, bs, bm, sn, sub, ab, col, dd, k0, k1, k2, k3, k5, hC, hbm⟩ := T.cls
  obtain ⟨hz, q1⟩ := h
  refine wpAny_Call_Name_kw (ld_glob I hg hm ?_ hdb)
  refine PySem.W.callWith_K0 I.kIn T.kC ?_
  show wpAny _ _ (call (.ref C) []) _ _ _
  obtain ⟨hp, g, dr, tk, os⟩ := s
  have hsz : hp.objs.size ≤ hp.objs.size + 1 := Nat.le_succ _
  have hn : H (hp.objs.size + 1) = none := I.hok.fresh hsz
  have hq := q1 (hp.objs.size + 1) hn
  have kk : ∀ b o, hp.get? b = some o → ((hp.push (PySem.W.kdv_tup [])).push (PySem.HandSPX.excO C hp.objs.size)).get? b = some o := fun b o e => Heap.get?_push_of_some _ (Heap.get?_push_of_some _ e)
  have hget : ((hp.push (PySem.W.kdv_tup [])).push (PySem.HandSPX.excO C hp.objs.size)).get? (hp.objs.size + 1) = some (PySem.HandSPX.excO C hp.objs.size) := by heap_get
  have I2 : Inv X pins σ (upd H (hp.objs.size + 1) (exo (hp.objs.size + 1) C none)) ⟨(hp.push (PySem.W.kdv_tup [])).push (PySem.HandSPX.excO C hp.objs.size), g, dr, tk, os⟩ :=
    I.laid (t' := tk) (a := hp.objs.size + 1) (o := exo (hp.objs.size + 1) C none) (h' := (hp.push (PySem.W.kdv_tup [])).push (PySem.HandSPX.excO C hp.objs.size)) kk hsz (exo_ok hget)
  have r2 : Vals (V.ref (hp.objs.size + 1) :: ([] ++ dvs)) ([Value.ref (hp.objs.size + 1)] ++ ds) := .cons rfl hd
  have hl : ([Value.ref (hp.objs.size + 1)] ++ ds).length = ps.length := by
    have e := r2.length
    rw [F1.len _ _ _ _ hq] at e
    exact e.symm
  have hbb := hb ⟨(hp.push (PySem.W.kdv_tup [])).push (PySem.HandSPX.excO C hp.objs.size), g, dr, tk, os⟩ [Value.ref (hp.objs.size + 1)] I2.kIn hl
  refine wpAny_call (PySem.HandSPX.call_own F.excBase_ValueError (fun Y => PySem.HandSPX.refsVE_contains Y bm hbm) (I.kIn _ _ hC) (PySem.W.looks_findIn I.kIn iC) (fun self => PySem.W.bind_fn I.kIn self tI) (by show 0 ≤ sizeLine; decide)
    (codeAny_mono (F1.run _ X.stack _ _ ⟨[Value.ref (hp.objs.size + 1)], []⟩ ([Value.ref (hp.objs.size + 1)] ++ ds) _ _ (fun _ _ _ => False) (hr.make C [] []) (I2.env0.make C [] []) hbb r2 hq) fun r s' hq' => ?_))
  cases r with
  | error er => exact hx pins σ _ _ er s' I2 hq'
  | ok fl =>
    cases fl with
    | ret u =>
      obtain ⟨v, H2, os2, bare2, un2, hok2, rv, ev, d, fs, ea, ed, hd1, q2⟩ := hq'
      subst ev
      obtain ⟨h2, g2, d2, t2, os'⟩ := s'
      exact ⟨rv, mk_end (raises_own T.exC T.tyC) I hsz kk un2 hok2 os2 bare2 ea ed hd1 q2⟩
    | next => exact False.elim hq'
    | brk => exact False.elim hq'
    | cont => exact False.elim hq'
end
end My
namespace My
open PySem L2
def spWordI (K : PySem.W.Frag) (C : Addr) (w : Str) : Sp := fun vs H Q _ => ∃ (a : Addr), vs = [.ref a] ∧ H a = some (exo a C none) ∧
  ∀ dx H', H dx = none → dx ≠ a → H' a = some (exo a C (some dx)) → H' dx = some (exd dx [(Str.ofString "word", .str w)]) → (∀ b, b ≠ a → b ≠ dx → H' b = H b) → Q .non H'
/-- such an exception: word and name -/
def spNameI (K : PySem.W.Frag) (C : Addr) (w : Str) : Sp := fun vs H Q _ => ∃ (a : Addr) (z : Str), vs = [.ref a, .str z] ∧ H a = some (exo a C none) ∧
  ∀ dx H', H dx = none → dx ≠ a → H' a = some (exo a C (some dx)) → H' dx = some (exd dx [(Str.ofString "name", .str z), (Str.ofString "word", .str w)]) → (∀ b, b ≠ a → b ≠ dx → H' b = H b) → Q .non H'
end My
namespace My
open PySem L2
/-! ### plans that do not fit -/
inductive LErr where
  | noName (x : Str)
  | twice (x : Str)
  | misplaced
def lookE (sc : List Str) (e : En) : Option LErr := if e.1 = "" ∨ e.1 ∈ sc then none else some (.noName e.1)
def orE : Option LErr → Option LErr → Option LErr
  | some e, _ => some e
  | none, r => r
mutual
def lookT : Thing → List Str → Nat → Option LErr
  | .step _ => fun _ _ => none
  | .call _ e => fun sc _ => lookE sc e
  | .double b => fun sc deep => lookB b sc (deep + 1)
  | .loop nm e1 e2 b => fun sc deep => if nm ∈ sc then some (.twice nm) else orE (lookE sc e1) (orE (lookE sc e2) (lookB b (sc ++ [nm]) (deep + 1)))
  | .test e1 e2 b1 b2 => fun sc deep => orE (lookE sc e1) (orE (lookE sc e2) (orE (lookB b1 sc (deep + 1)) (lookB b2 sc (deep + 1))))
  | .again n w => fun _ deep => if 0 < deep ∨ (w = "less" ∧ 1 < n) then some .misplaced else none
def lookB : List Thing → List Str → Nat → Option LErr
  | [] => fun _ _ => none
  | t :: r => fun sc deep => orE (lookT t sc deep) (lookB r sc deep)
end
def lookBs : List (List Thing) → List Str → Nat → Option LErr
  | [], _, _ => none
  | b :: r, sc, deep => orE (lookB b sc deep) (lookBs r sc deep)
def isAg : Thing → Bool
  | .again _ _ => true
  | _ => false
def lookP : List Thing → Nat → Option LErr
  | [], _ => none
  | t :: r, k => orE (lookT t [Str.ofString "n"] 0) (if k + (if isAg t then 1 else 0) > 1 then some .misplaced else lookP r (k + (if isAg t then 1 else 0)))
theorem orE_none {r : Option LErr} : orE none r = r := rfl
theorem orE_right (a : Option LErr) : orE a none = a := by
  cases a <;> rfl
theorem orE_assoc (a b c : Option LErr) : orE (orE a b) c = orE a (orE b c) := by
  cases a <;> rfl
/-- the scope of what stands within a thing -/
def innerSc : Thing → List Str → List Str
  | .loop nm _ _ _ => fun sc => sc ++ [nm]
  | _ => fun sc => sc
/-- what of a thing itself does not fit -/
def lookH : Thing → List Str → Nat → Option LErr
  | .loop nm e1 e2 _ => fun sc _ => if nm ∈ sc then some (.twice nm) else orE (lookE sc e1) (lookE sc e2)
  | .test e1 e2 _ _ => fun sc _ => orE (lookE sc e1) (lookE sc e2)
  | .call _ e => fun sc _ => lookE sc e
  | .again n w => fun _ deep => if 0 < deep ∨ (w = "less" ∧ 1 < n) then some .misplaced else none
  | _ => fun _ _ => none
theorem lookT_eq (t : Thing) (sc : List Str) (deep : Nat) : lookT t sc deep = orE (lookH t sc deep) (lookBs (bodiesL t) (innerSc t sc) (deep + 1)) := by
  cases t with
  | step n => simp [lookT, lookH, bodiesL, lookBs, orE]
  | call nm e => simp only [lookT, lookH, bodiesL, lookBs, orE_right]
  | double b => simp only [lookT, lookH, bodiesL, lookBs, orE_right, innerSc, orE_none]
  | loop nm e1 e2 b =>
    simp only [lookT, lookH, bodiesL, lookBs, orE_right, innerSc]
    split
    · rfl
    · rw [orE_assoc]
  | test e1 e2 b1 b2 => simp only [lookT, lookH, bodiesL, lookBs, orE_right, innerSc, orE_assoc]
  | again n w => simp only [lookT, lookH, bodiesL, lookBs, orE_right]
theorem lookB_drop {b : List Thing} {i : Nat} {t : Thing} (h : b[i]? = some t) (sc : List Str) (deep : Nat) : lookB (b.drop i) sc deep = orE (lookT t sc deep) (lookB (b.drop (i + 1)) sc deep) := by
  obtain ⟨hi, e⟩ := List.getElem?_eq_some_iff.mp h
  rw [List.drop_eq_getElem_cons hi, e, lookB]
theorem lookBs_drop {bs : List (List Thing)} {i : Nat} {b : List Thing} (h : bs[i]? = some b) (sc : List Str) (deep : Nat) : lookBs (bs.drop i) sc deep = orE (lookB b sc deep) (lookBs (bs.drop (i + 1)) sc deep) := by
  obtain ⟨hi, e⟩ := List.getElem?_eq_some_iff.mp h
  rw [List.drop_eq_getElem_cons hi, e, lookBs]
theorem lookP_drop {b : List Thing} {i : Nat} {t : Thing} (h : b[i]? = some t) (k : Nat) : lookP (b.drop i) k = orE (lookT t [Str.ofString "n"] 0) (if k + (if isAg t then 1 else 0) > 1 then some .misplaced else lookP (b.drop (i + 1)) (k + (if isAg t then 1 else 0))) := by
  obtain ⟨hi, e⟩ := List.getElem?_eq_some_iff.mp h
  rw [List.drop_eq_getElem_cons hi, e, lookP]
/-! ### how it is told -/
structure XAd where
  n : Addr
  t : Addr
  m : Addr
def errC (x : XAd) : LErr → Addr
  | .noName _ => x.n
  | .twice _ => x.t
  | .misplaced => x.m
def errF : LErr → List (Str × V)
  | .noName z => [(Str.ofString "name", .str z), (Str.ofString "word", .str (Str.ofString "NoName"))]
  | .twice z => [(Str.ofString "name", .str z), (Str.ofString "word", .str (Str.ofString "Twice"))]
  | .misplaced => [(Str.ofString "word", .str (Str.ofString "Misplaced"))]
/-- None, or the exception -/
def LEnds (x : XAd) (H : Hp) (Q : VK) (E : XK) : Option LErr → Prop
  | none => ∀ H', Same H H' → Q .non H'
  | some e => ∀ dd H', Same H H' → H dd = none → H' dd = some (.xd (errF e)) → E (.ref (errC x e)) (some dd) H'
def spLookEnd (K : PySem.W.Frag) (x : XAd) : Sp := fun vs H Q E => ∃ (v : V) (sa : Addr) (e : En) (sc : List Str), vs = [v, .ref sa] ∧ Dp K H v (endD e) ∧ H sa = some (.lst (sc.map V.str)) ∧ LEnds x H Q E (lookE sc e)
def spLookThing (K : PySem.W.Frag) (x : XAd) (f : Nat) : Sp := fun vs H Q E => ∃ (v : V) (sa : Addr) (t : Thing) (sc : List Str) (deep : Nat), vs = [v, .ref sa, .int (deep : Nat)] ∧ Dp K H v (thingD t) ∧ H sa = some (.lst (sc.map V.str)) ∧ sc.length + thingC t ≤ 900 ∧ thingC t < f ∧ LEnds x H Q E (lookT t sc deep)
def spLookPlan (K : PySem.W.Frag) (x : XAd) : Sp := fun vs H Q E => ∃ (v : V) (b : List Thing), vs = [v] ∧ Dp K H v (planD b) ∧ thingsC b ≤ 30 ∧ LEnds x H Q E (lookP b 0)
/-- what a made exception leaves -/
theorem made_same {H H1 : Hp} {a dx : Addr} {o : HO} {fs : List (Str × V)} (ha : H a = none) (ne : dx ≠ a) (hd : upd H a o dx = none) (fr : ∀ b, b ≠ a → b ≠ dx → H1 b = upd H a o b) : H dx = none ∧ Same H (upd (del H1 a) dx (.xd fs)) := by
  have h0 : H dx = none := by
    rw [upd_ne ne] at hd
    exact hd
  refine ⟨h0, fun b q e => ?_⟩
  have n1 : b ≠ a := fun z => by rw [z, ha] at e; cases e
  have n2 : b ≠ dx := fun z => by rw [z, h0] at e; cases e
  rw [upd_ne n2, del_ne n1, fr b n1 n2, upd_ne n1]
  exact e
end My
namespace My
open PySem L2
/-- what stands behind a thing's word -/
def RestOk (K : PySem.W.Frag) (G : Hp) : Thing → List V → Prop
  | .step n => fun r => r = [.int n]
  | .call nm e => fun r => ∃ x, r = [.str nm, x] ∧ Dp K G x (endD e)
  | .double b => fun r => ∃ x, r = [x] ∧ Dp K G x (planD b)
  | .loop nm e1 e2 b => fun r => ∃ x y z, r = [.str nm, x, y, z] ∧ Dp K G x (endD e1) ∧ Dp K G y (endD e2) ∧ Dp K G z (planD b)
  | .test e1 e2 b1 b2 => fun r => ∃ x y z u, r = [x, y, z, u] ∧ Dp K G x (endD e1) ∧ Dp K G y (endD e2) ∧ Dp K G z (planD b1) ∧ Dp K G u (planD b2)
  | .again n w => fun r => r = [.int n, .str w]
theorem thing_rest {K : PySem.W.Frag} {G : Hp} {v : V} {t : Thing} (h : Dp K G v (thingD t)) : ∃ a r, v = .ref a ∧ SqT K G a (.str (wordT t) :: r) ∧ RestOk K G t r := by
  cases t with
  | step n =>
    rw [thingD] at h
    obtain ⟨a, xs, rfl, hs, hd⟩ := h.tup'
    obtain ⟨x0, r0, rfl, h0, hd⟩ := hd.c
    obtain ⟨x1, r1, rfl, h1, hd⟩ := hd.c
    cases hd.n
    cases h0.str'
    cases h1.int'
    exact ⟨a, _, rfl, hs, rfl⟩
  | again n w =>
    rw [thingD] at h
    obtain ⟨a, xs, rfl, hs, hd⟩ := h.tup'
    obtain ⟨x0, r0, rfl, h0, hd⟩ := hd.c
    obtain ⟨x1, r1, rfl, h1, hd⟩ := hd.c
    obtain ⟨x2, r2, rfl, h2, hd⟩ := hd.c
    cases hd.n
    cases h0.str'
    cases h1.int'
    cases h2.str'
    exact ⟨a, _, rfl, hs, rfl⟩
  | call nm e =>
    obtain ⟨a, x, rfl, hs, hx⟩ := thing_call h
    exact ⟨a, _, rfl, hs, x, rfl, hx⟩
  | double b =>
    rw [thingD] at h
    obtain ⟨a, xs, rfl, hs, hd⟩ := h.tup'
    obtain ⟨x0, r0, rfl, h0, hd⟩ := hd.c
    obtain ⟨x1, r1, rfl, h1, hd⟩ := hd.c
    cases hd.n
    cases h0.str'
    exact ⟨a, _, rfl, hs, x1, rfl, h1⟩
  | loop nm e1 e2 b =>
    rw [thingD] at h
    obtain ⟨a, xs, rfl, hs, hd⟩ := h.tup'
    obtain ⟨x0, r0, rfl, h0, hd⟩ := hd.c
    obtain ⟨x1, r1, rfl, h1, hd⟩ := hd.c
    obtain ⟨x2, r2, rfl, h2, hd⟩ := hd.c
    obtain ⟨x3, r3, rfl, h3, hd⟩ := hd.c
    obtain ⟨x4, r4, rfl, h4, hd⟩ := hd.c
    cases hd.n
    cases h0.str'
    cases h1.str'
    exact ⟨a, _, rfl, hs, x2, x3, x4, rfl, h2, h3, h4⟩
  | test e1 e2 b1 b2 =>
    rw [thingD] at h
    obtain ⟨a, xs, rfl, hs, hd⟩ := h.tup'
    obtain ⟨x0, r0, rfl, h0, hd⟩ := hd.c
    obtain ⟨x1, r1, rfl, h1, hd⟩ := hd.c
    obtain ⟨x2, r2, rfl, h2, hd⟩ := hd.c
    obtain ⟨x3, r3, rfl, h3, hd⟩ := hd.c
    obtain ⟨x4, r4, rfl, h4, hd⟩ := hd.c
    cases hd.n
    cases h0.str'
    exact ⟨a, _, rfl, hs, x1, x2, x3, x4, rfl, h1, h2, h3, h4⟩
end My
namespace My
open PySem L2
/-! ### the law's own look -/
def endsL : Thing → List En
  | .loop _ e1 e2 _ => [e1, e2]
  | .test e1 e2 _ _ => [e1, e2]
  | .call _ e => [e]
  | _ => []
def lookEs (sc : List Str) : List En → Option LErr
  | [] => none
  | e :: r => orE (lookE sc e) (lookEs sc r)
def twT (sc : List Str) : Thing → Option LErr
  | .loop nm _ _ _ => if nm ∈ sc then some (.twice nm) else none
  | _ => none
def agT (deep : Nat) : Thing → Option LErr
  | .again n w => if 0 < deep ∨ (w = "less" ∧ 1 < n) then some .misplaced else none
  | _ => none
theorem lookH_eq (t : Thing) (sc : List Str) (deep : Nat) : lookH t sc deep = orE (twT sc t) (orE (lookEs sc (endsL t)) (agT deep t)) := by
  cases t with
  | step n => rfl
  | call nm e => simp only [lookH, twT, agT, endsL, lookEs, orE_none, orE_right]
  | double b => rfl
  | loop nm e1 e2 b =>
    simp only [lookH, twT, agT, endsL, lookEs, orE_right]
    split <;> rfl
  | test e1 e2 b1 b2 => simp only [lookH, twT, agT, endsL, lookEs, orE_none, orE_right]
  | again n w => simp only [lookH, twT, agT, endsL, lookEs, orE_none]
theorem lookEs_drop {es : List En} {i : Nat} {e : En} (h : es[i]? = some e) (sc : List Str) : lookEs sc (es.drop i) = orE (lookE sc e) (lookEs sc (es.drop (i + 1))) := by
  obtain ⟨hi, q⟩ := List.getElem?_eq_some_iff.mp h
  rw [List.drop_eq_getElem_cons hi, q, lookEs]
theorem word_for (t : Thing) : (∃ nm e1 e2 b, t = .loop nm e1 e2 b) ∨ (decide (V.str (wordT t) = V.str (Str.ofString "for")) = false ∧ (∀ sc, twT sc t = none) ∧ ∀ sc, innerSc t sc = sc) := by
  cases t with
  | step n => exact .inr ⟨by show decide (V.str (Str.ofString "step") = V.str (Str.ofString "for")) = false; decide, fun _ => rfl, fun _ => rfl⟩
  | call nm e => exact .inr ⟨by show decide (V.str (Str.ofString "call") = V.str (Str.ofString "for")) = false; decide, fun _ => rfl, fun _ => rfl⟩
  | double b => exact .inr ⟨by show decide (V.str (Str.ofString "double") = V.str (Str.ofString "for")) = false; decide, fun _ => rfl, fun _ => rfl⟩
  | loop nm e1 e2 b => exact .inl ⟨_, _, _, _, rfl⟩
  | test e1 e2 b1 b2 => exact .inr ⟨by show decide (V.str (Str.ofString "if") = V.str (Str.ofString "for")) = false; decide, fun _ => rfl, fun _ => rfl⟩
  | again n y => exact .inr ⟨by show decide (V.str (Str.ofString "again") = V.str (Str.ofString "for")) = false; decide, fun _ => rfl, fun _ => rfl⟩
theorem word_again (t : Thing) : (∃ n y, t = .again n y) ∨ (decide (V.str (wordT t) = V.str (Str.ofString "again")) = false ∧ ∀ deep, agT deep t = none) := by
  cases t with
  | step n => exact .inr ⟨by show decide (V.str (Str.ofString "step") = V.str (Str.ofString "again")) = false; decide, fun _ => rfl⟩
  | call nm e => exact .inr ⟨by show decide (V.str (Str.ofString "call") = V.str (Str.ofString "again")) = false; decide, fun _ => rfl⟩
  | double b => exact .inr ⟨by show decide (V.str (Str.ofString "double") = V.str (Str.ofString "again")) = false; decide, fun _ => rfl⟩
  | loop nm e1 e2 b => exact .inr ⟨by show decide (V.str (Str.ofString "for") = V.str (Str.ofString "again")) = false; decide, fun _ => rfl⟩
  | test e1 e2 b1 b2 => exact .inr ⟨by show decide (V.str (Str.ofString "if") = V.str (Str.ofString "again")) = false; decide, fun _ => rfl⟩
  | again n y => exact .inl ⟨_, _, rfl⟩
theorem isAg_word (t : Thing) : decide (V.str (wordT t) = V.str (Str.ofString "again")) = isAg t := by
  cases t with
  | step n => show decide (V.str (Str.ofString "step") = V.str (Str.ofString "again")) = false; decide
  | call nm e => show decide (V.str (Str.ofString "call") = V.str (Str.ofString "again")) = false; decide
  | double b => show decide (V.str (Str.ofString "double") = V.str (Str.ofString "again")) = false; decide
  | loop nm e1 e2 b => show decide (V.str (Str.ofString "for") = V.str (Str.ofString "again")) = false; decide
  | test e1 e2 b1 b2 => show decide (V.str (Str.ofString "if") = V.str (Str.ofString "again")) = false; decide
  | again n y => exact decide_eq_true rfl
/-- a thing's second cell -/
theorem thing_second {K : PySem.W.Frag} {G : Hp} {v : V} {t : Thing} (h : Dp K G v (thingD t)) : ∃ a y r, v = .ref a ∧ SqT K G a (.str (wordT t) :: y :: r) ∧ RestOk K G t (y :: r) := by
  obtain ⟨a, r, rfl, hs, ro⟩ := thing_rest h
  cases t with
  | step n => cases ro; exact ⟨a, _, _, rfl, hs, rfl⟩
  | again n w => cases ro; exact ⟨a, _, _, rfl, hs, rfl⟩
  | call nm e => obtain ⟨x, rfl, dx⟩ := ro; exact ⟨a, _, _, rfl, hs, x, rfl, dx⟩
  | double b => obtain ⟨x, rfl, dx⟩ := ro; exact ⟨a, _, _, rfl, hs, x, rfl, dx⟩
  | loop nm e1 e2 b => obtain ⟨x, y, z, rfl, d⟩ := ro; exact ⟨a, _, _, rfl, hs, x, y, z, rfl, d⟩
  | test e1 e2 b1 b2 => obtain ⟨x, y, z, u, rfl, d⟩ := ro; exact ⟨a, _, _, rfl, hs, x, y, z, u, rfl, d⟩
def errD : LErr → PyData
  | .noName z => .tuple [.str "NoName", .str z]
  | .twice z => .tuple [.str "Twice", .str z]
  | .misplaced => .tuple [.str "Misplaced", .none]
def LTold (K : PySem.W.Frag) (H : Hp) (Q : VK) : Option LErr → Prop
  | none => ∀ H', Same H H' → Q .non H'
  | some e => ∀ p H', Same H H' → Dp K H' (.ref p) (errD e) → Q (.ref p) H'
def toldD : Option LErr → PyData
  | none => .tuple [.str "told", .none]
  | some e => errD e
def spLawLook (K : PySem.W.Frag) (f : Nat) : Sp := fun vs H Q _ => ∃ (v : V) (sa : Addr) (t : Thing) (sc : List Str) (deep : Nat), vs = [v, .ref sa, .int (deep : Nat)] ∧ Dp K H v (thingD t) ∧ H sa = some (.lst (sc.map V.str)) ∧ sc.length + thingC t ≤ 900 ∧ thingC t < f ∧ LTold K H Q (lookT t sc deep)
def spLooking (K : PySem.W.Frag) : Sp := fun vs H Q _ => ∃ (v : V) (b : List Thing), vs = [v] ∧ Dp K H v (planD b) ∧ thingsC b ≤ 30 ∧ ∀ p H', Same H H' → Dp K H' (.ref p) (toldD (lookP b 0)) → Q (.ref p) H'
theorem sl_S {K : PySem.W.Frag} {H : Hp} {a : Addr} {xs ys : List V} {lo hi : Option Int} {Q : VK} (ha : SqT K H a xs) (hc : cutV xs lo hi = ys) (hw : HT.sIx xs.length 0 lo = 0 ∧ HT.sIx xs.length xs.length hi = xs.length → ys = xs)
    (k : ∀ (p : Addr) (H' : Hp), Same H H' → SqT K H' p ys → Q (.ref p) H') : rSlA K (.ref a) lo hi H Q :=
  sl_G (Same.refl H) ha hw hc fun p _ _ g h => k p _ g.h.same (same_t g.gh h)
theorem sqt_dict {K : PySem.W.Frag} {H : Hp} {p D : Addr} {xs : List V} {m : List (L2.Key × V)} {o : HO} (h : SqT K H p xs) (e : H D = some (.dK m)) : SqT K (upd H D o) p xs := by
  rcases h with (h | ⟨o', h⟩) | h
  · exact .inl (.inl (by rw [upd_ne (fun z => by rw [z, e] at h; cases h)]; exact h))
  · exact .inl (.inr ⟨o', by rw [upd_ne (fun z => by rw [z, e] at h; cases h)]; exact h⟩)
  · exact .inr h
theorem scope_in {K : PySem.W.Frag} {H : Hp} {t : Thing} {y : V} {r : List V} (ro : RestOk K H t (y :: r)) (sc : List Str) {kb : Bool} (h : decide (V.str (wordT t) = V.str (Str.ofString "for")) = kb) : sc.map V.str ++ (List.replicate (if kb = true then 1 else 0 : Int).toNat [y]).flatten = (innerSc t sc).map V.str := by
  subst h
  rcases word_for t with ⟨nm, e1, e2, b, rfl⟩ | ⟨wf, _, hi⟩
  · obtain ⟨x, x2, x3, q, _⟩ := ro
    cases q
    rw [show decide (V.str (wordT (.loop nm e1 e2 b)) = V.str (Str.ofString "for")) = true from decide_eq_true rfl]
    simp only [innerSc, List.map_append]
    rfl
  · rw [wf, hi]
    simp
theorem inner_len (t : Thing) (sc : List Str) : (innerSc t sc).length ≤ sc.length + 1 := by
  cases t <;> simp [innerSc]
theorem slx_no {xs : List V} (j : Nat) (h : 0 < xs.length) : ¬ HT.sIx xs.length 0 (some ((j : Int) + 1)) = 0 := by
  rw [show (j : Int) + 1 = ((j + 1 : Nat) : Int) by simp, HT.sIx_nat]
  omega
theorem LTold.mono {K : PySem.W.Frag} {H H1 : Hp} {Q Q' : VK} {r r' : Option LErr} (s : Same H H1) (k : LTold K H Q r) (he : ∀ e, r' = some e → r = some e ∧ ∀ p H', Q (.ref p) H' → Q' (.ref p) H') (hn : r' = none → ∀ H', Same H1 H' → Q' .non H') : LTold K H1 Q' r' := by
  cases r' with
  | none => exact hn rfl
  | some e =>
    obtain ⟨q, kq⟩ := he e rfl
    rw [q] at k
    exact fun p H' s1 d => kq _ _ (k p H' (s.trans s1) d)
end My
namespace My
open PySem L2
theorem cut_to (xs : List V) (n : Nat) : cutV xs none (some (n : Int)) = xs.take n := by
  unfold cutV
  rw [HT.sIx_none, List.drop_zero, Nat.sub_zero, HT.sIx_nat]
  by_cases h : n ≤ xs.length
  · rw [Nat.min_eq_left h]
  · rw [Nat.min_eq_right (by omega), List.take_of_length_le (Nat.le_refl _), List.take_of_length_le (by omega)]
theorem cut_from (xs : List V) (n : Nat) : cutV xs (some (n : Int)) none = xs.drop n := by
  unfold cutV
  rw [HT.sIx_none, HT.sIx_nat, List.take_of_length_le (by rw [List.length_drop]; exact Nat.le_refl _)]
  by_cases h : n ≤ xs.length
  · rw [Nat.min_eq_left h]
  · rw [Nat.min_eq_right (by omega), List.drop_of_length_le (Nat.le_refl _), List.drop_of_length_le (by omega)]
theorem sl_take {K : PySem.W.Frag} {G H : Hp} {a : Addr} {xs : List V} {Q : VK} (n : Nat) (sg : Same G H) (ha : SqT K G a xs) (k : ∀ (p : Addr) (G' H' : Hp), Grow NoM G H G' H' → SqT K G' p (xs.take n) → Q (.ref p) H') : rSlA K (.ref a) none (some (n : Int)) H Q := by
  refine sl_G sg ha (fun e => ?_) (cut_to xs n) k
  have e2 := e.2
  rw [HT.sIx_nat] at e2
  exact List.take_of_length_le (by omega)
theorem sl_drop {K : PySem.W.Frag} {G H : Hp} {a : Addr} {xs : List V} {Q : VK} (n : Nat) (sg : Same G H) (ha : SqT K G a xs) (k : ∀ (p : Addr) (G' H' : Hp), Grow NoM G H G' H' → SqT K G' p (xs.drop n) → Q (.ref p) H') : rSlA K (.ref a) (some (n : Int)) none H Q := by
  refine sl_G sg ha (fun e => ?_) (cut_from xs n) k
  have e1 := e.1
  rw [HT.sIx_nat] at e1
  by_cases h : n = 0
  · rw [h, List.drop_zero]
  · have : xs.length = 0 := by omega
    rw [List.length_eq_zero_iff.mp this, List.drop_nil]
end My
namespace My
open PySem L2
def spUnfitT (K : PySem.W.Frag) (f : Nat) : Sp := fun vs H Q _ => ∃ (d l na : Addr) (names : List Str) (G : Hp) (v : V) (t : Thing), vs = [.ref d, v, .ref na] ∧ Same G H ∧ G d = none ∧ DrawAt H d l ∧ Dp K G v (thingD t) ∧ G na = some (.lst (names.map V.str)) ∧ 3 ≤ names.length ∧ names.length ≤ 1000 ∧ thingC t < f ∧ thingC t ≤ 31 ∧
  ∀ (v' : V) (t' : Thing) (G' H' : Hp), Grow (Only1 d) G H G' H' → DrawAt H' d l → Dp K G' v' (thingD t') → thingC t' = thingC t → Q v' H'
def spUnfitB (K : PySem.W.Frag) (f : Nat) : Sp := fun vs H Q _ => ∃ (d l na : Addr) (names : List Str) (G : Hp) (v : V) (b : List Thing), vs = [.ref d, v, .ref na] ∧ Same G H ∧ G d = none ∧ DrawAt H d l ∧ Dp K G v (planD b) ∧ G na = some (.lst (names.map V.str)) ∧ 3 ≤ names.length ∧ names.length ≤ 1000 ∧ thingsC b < f ∧ thingsC b ≤ 31 ∧
  ∀ (v' : V) (b' : List Thing) (G' H' : Hp), Grow (Only1 d) G H G' H' → DrawAt H' d l → Dp K G' v' (planD b') → thingsC b' = thingsC b → b'.length = b.length → Q v' H'
theorem of_step {t : Thing} (h : wordT t = Str.ofString "step") : ∃ n, t = .step n := by
  cases t <;> first | exact ⟨_, rfl⟩ | exact absurd h (by simp only [wordT]; decide)
theorem of_for {t : Thing} (h : wordT t = Str.ofString "for") : ∃ nm e1 e2 b, t = .loop nm e1 e2 b := by
  cases t <;> first | exact ⟨_, _, _, _, rfl⟩ | exact absurd h (by simp only [wordT]; decide)
theorem of_if {t : Thing} (h : wordT t = Str.ofString "if") : ∃ e1 e2 b1 b2, t = .test e1 e2 b1 b2 := by
  cases t <;> first | exact ⟨_, _, _, _, rfl⟩ | exact absurd h (by simp only [wordT]; decide)
theorem of_forif {t : Thing} (h : wordT t ∈ [Str.ofString "for", Str.ofString "if"]) : (∃ nm e1 e2 b, t = .loop nm e1 e2 b) ∨ ∃ e1 e2 b1 b2, t = .test e1 e2 b1 b2 := by
  cases t <;> first | exact .inl ⟨_, _, _, _, rfl⟩ | exact .inr ⟨_, _, _, _, rfl⟩ | exact absurd h (by simp only [wordT]; decide)
theorem of_fordouble {t : Thing} (h : wordT t ∈ [Str.ofString "for", Str.ofString "double"]) : (∃ nm e1 e2 b, t = .loop nm e1 e2 b) ∨ ∃ b, t = .double b := by
  cases t <;> first | exact .inl ⟨_, _, _, _, rfl⟩ | exact .inr ⟨_, rfl⟩ | exact absurd h (by simp only [wordT]; decide)
theorem ref_ne_draw {H : Hp} {d l p : Addr} {o : HO} (D : DrawAt H d l) (h : H p = some o) (no : ∀ x, o ≠ .lst x) : p ≠ d := by
  rintro rfl
  obtain ⟨ns, p', z, s, e, _⟩ := D.ex
  rw [h] at e
  cases e
  exact no _ rfl
end My
namespace My
open PySem PyProof.Rows L2
/-! ### the tables of code objects, and a heap of which the tables alone are written -/
theorem ext_l {K : PySem.W.Frag} {H H1 : Hp} {a : Addr} {xs : List V} (e : LamX.ExtN H H1) (h : SqL K H a xs) : SqL K H1 a xs := by
  rcases h with (h | ⟨o, h⟩) | h
  · exact .inl (.inl (e _ _ h fun ps z => nomatch z))
  · exact .inl (.inr ⟨o, e _ _ h fun ps z => nomatch z⟩)
  · exact .inr h
theorem ext_t {K : PySem.W.Frag} {H H1 : Hp} {a : Addr} {xs : List V} (e : LamX.ExtN H H1) (h : SqT K H a xs) : SqT K H1 a xs := by
  rcases h with (h | ⟨o, h⟩) | h
  · exact .inl (.inl (e _ _ h fun ps z => nomatch z))
  · exact .inl (.inr ⟨o, e _ _ h fun ps z => nomatch z⟩)
  · exact .inr h
mutual
theorem dp_ext {K : PySem.W.Frag} {H H1 : Hp} (e : LamX.ExtN H H1) : ∀ {d : PyData} {v : V}, Dp K H v d → Dp K H1 v d
  | _, _, .non => .non
  | _, _, .bl b => .bl b
  | _, _, .int i => .int i
  | _, _, .str x => .str x
  | _, _, .lst h a => .lst (ext_l e h) (dpAll_ext e a)
  | _, _, .tup h a => .tup (ext_t e h) (dpAll_ext e a)
theorem dpAll_ext {K : PySem.W.Frag} {H H1 : Hp} (e : LamX.ExtN H H1) : ∀ {ds : List PyData} {vs : List V}, DpAll K H vs ds → DpAll K H1 vs ds
  | _, _, .nil => .nil
  | _, _, .cons a b => .cons (dp_ext e a) (dpAll_ext e b)
end
theorem DrawAt.ext {H H1 : Hp} {d l : Addr} (h : DrawAt H d l) (e : LamX.ExtN H H1) : DrawAt H1 d l := by
  obtain ⟨ns, p, g, s, e1, e2, r⟩ := h.ex
  exact ⟨⟨ns, p, g, s, e _ _ e1 (fun ps z => nomatch z), e _ _ e2 (fun ps z => nomatch z), r⟩⟩
/-- the draw may be written -/
theorem tabs_but {T : List (Addr × Str)} {H H1 : Hp} {d l : Addr} (t : LamX.Tabs T H) (D : DrawAt H d l) (b : But (Only1 d) H H1) : LamX.Tabs T H1 := fun p hp => by
  obtain ⟨ps, h1, h2, h3⟩ := t p hp
  obtain ⟨ns, z1, z2, z3, ed, _⟩ := D.ex
  have n1 : ¬ Only1 d p.1 := fun z => by
    rw [show p.1 = d from z, ed] at h1
    cases h1
  refine ⟨ps, b _ _ h1 n1, h2, fun pos cv hc => ?_⟩
  obtain ⟨c, e1, e2⟩ := h3 pos cv hc
  refine ⟨c, e1, b _ _ e2 fun z => ?_⟩
  rw [show c = d from z, ed] at e2
  cases e2
/-- a def by its body, its code object told -/
theorem okC {P : Program} {w : World} {K : PySem.W.Frag} {mg : Str → Option Value} {base : Heap} {x qual : Str} {st : Stmt} {f c : Addr} {fd : FuncData} {N ps : List Str} {k : Nat} {sp : Sp} (F : Fun K x qual st f fd) (S : FnScope N ps (defScope st)) (len : ∀ vs H Q E, sp vs H Q E → vs.length = ps.length) (hc : fd.code = .ref c)
    (hbody : ∀ (A : Around) (outer : List Env) (s : Shared) (H : Hp) (vs : List V) (Q : VK) (E : XK), Room k (A.deeper (envOfC qual (defScope st) s.heap.objs.size f (.ref c))) → sp vs H Q E →
      ∃ t, PSs (cxOf CX0 P w K mg base N qual (defScope st) f (.ref c) A outer s H E).nox (defBody st) t ∧ t { nx := fun _ H' => Q .non H', rt := Q } (L2.start N vs) H) : FnOk P w K mg base CX0 (k + 1) f fd ps sp := by
  obtain ⟨oc, od, kV, doc, pm, an, cdv, ct, osl, rfl, lk, hcd⟩ := F.ex
  obtain rfl : cdv = .ref c := hc
  refine fn_of lk hcd S len fun A outer s H vs Q E hr hsp => ?_
  obtain ⟨t, h, q⟩ := hbody A outer s H vs Q E hr hsp
  exact ⟨t, h.nox, q⟩
end My
namespace My
open PySem L2
def topS (i : Nat) : Stmt := PySem.Challenge.pw_outgrow_k06_plans_that_do_not_fit.main.body.getD i (.Pass ⟨0, 0, 0, 0⟩)
abbrev s_law_begin : Stmt := topS 26
abbrev N_law_begin : List Str := ["_law_script"]
theorem sc_law_begin : FnScope N_law_begin ["_law_script"] (defScope s_law_begin) := ⟨rfl, rfl, rfl, by decide +kernel, rfl, by decide +kernel, by decide +kernel⟩
abbrev s_law_take : Stmt := topS 27
abbrev N_law_take : List Str := ["_law_draw", "_law_sides", "_law_cell", "_law_got"]
theorem sc_law_take : FnScope N_law_take ["_law_draw", "_law_sides"] (defScope s_law_take) := ⟨rfl, rfl, rfl, by decide +kernel, rfl, by decide +kernel, by decide +kernel⟩
abbrev s_law_pick : Stmt := topS 28
abbrev N_law_pick : List Str := ["_law_draw", "_law_row"]
theorem sc_law_pick : FnScope N_law_pick ["_law_draw", "_law_row"] (defScope s_law_pick) := ⟨rfl, rfl, rfl, by decide +kernel, rfl, by decide +kernel, by decide +kernel⟩
abbrev s_law_some_end : Stmt := topS 29
abbrev N_law_some_end : List Str := ["_law_draw", "_law_scope", "_law_wide", "_law_more"]
theorem sc_law_some_end : FnScope N_law_some_end ["_law_draw", "_law_scope", "_law_wide"] (defScope s_law_some_end) := ⟨rfl, rfl, rfl, by decide +kernel, rfl, by decide +kernel, by decide +kernel⟩
abbrev s_law_leaf : Stmt := topS 30
abbrev N_law_leaf : List Str := ["_law_draw", "_law_kit", "_law_scope", "_law_deep", "_law_name", "_law_fit", "_law_end"]
theorem sc_law_leaf : FnScope N_law_leaf ["_law_draw", "_law_kit", "_law_scope", "_law_deep"] (defScope s_law_leaf) := ⟨rfl, rfl, rfl, by decide +kernel, rfl, by decide +kernel, by decide +kernel⟩
abbrev s_law_kept_words : Stmt := topS 31
abbrev N_law_kept_words : List Str := []
theorem sc_law_kept_words : FnScope N_law_kept_words [] (defScope s_law_kept_words) := ⟨rfl, rfl, rfl, by decide +kernel, rfl, by decide +kernel, by decide +kernel⟩
abbrev s_law_fresh : Stmt := topS 32
abbrev N_law_fresh : List Str := ["_law_draw", "_law_taken", "_law_size", "_law_name", "_law_spare", "_law_sign", "_law_k", "_law_one"]
theorem sc_law_fresh : FnScope N_law_fresh ["_law_draw", "_law_taken"] (defScope s_law_fresh) := ⟨rfl, rfl, rfl, by decide +kernel, rfl, by decide +kernel, by decide +kernel⟩
abbrev s_law_drawn_thing : Stmt := topS 33
abbrev N_law_drawn_thing : List Str := ["_law_draw", "_law_kit", "_law_scope", "_law_deep", "_law_fork", "_law_one", "_law_other", "_law_name", "_law_body", "_law_rest"]
theorem sc_law_drawn_thing : FnScope N_law_drawn_thing ["_law_draw", "_law_kit", "_law_scope", "_law_deep"] (defScope s_law_drawn_thing) := ⟨rfl, rfl, rfl, by decide +kernel, rfl, by decide +kernel, by decide +kernel⟩
abbrev s_law_drawn_body : Stmt := topS 34
abbrev N_law_drawn_body : List Str := ["_law_draw", "_law_kit", "_law_scope", "_law_deep", "_law_found", "_law_k"]
theorem sc_law_drawn_body : FnScope N_law_drawn_body ["_law_draw", "_law_kit", "_law_scope", "_law_deep"] (defScope s_law_drawn_body) := ⟨rfl, rfl, rfl, by decide +kernel, rfl, by decide +kernel, by decide +kernel⟩
abbrev s_law_drawn : Stmt := topS 35
abbrev N_law_drawn : List Str := ["_law_draw", "_law_room", "_law_figures", "_law_wide"]
theorem sc_law_drawn : FnScope N_law_drawn ["_law_draw", "_law_room", "_law_figures", "_law_wide"] (defScope s_law_drawn) := ⟨rfl, rfl, rfl, by decide +kernel, rfl, by decide +kernel, by decide +kernel⟩
abbrev s_law_unfit_thing : Stmt := topS 38
abbrev N_law_unfit_thing : List Str := ["_law_draw", "_law_thing", "_law_names", "_law_fork", "_law_at"]
theorem sc_law_unfit_thing : FnScope N_law_unfit_thing ["_law_draw", "_law_thing", "_law_names"] (defScope s_law_unfit_thing) := ⟨rfl, rfl, rfl, by decide +kernel, rfl, by decide +kernel, by decide +kernel⟩
abbrev s_law_unfit : Stmt := topS 39
abbrev N_law_unfit : List Str := ["_law_draw", "_law_plan", "_law_names", "_law_thing"]
theorem sc_law_unfit : FnScope N_law_unfit ["_law_draw", "_law_plan", "_law_names"] (defScope s_law_unfit) := ⟨rfl, rfl, rfl, by decide +kernel, rfl, by decide +kernel, by decide +kernel⟩
abbrev s_law_same : Stmt := topS 40
abbrev N_law_same : List Str := ["_law_found", "_law_due", "_law_one", "_law_other"]
theorem sc_law_same : FnScope N_law_same ["_law_found", "_law_due"] (defScope s_law_same) := ⟨rfl, rfl, rfl, by decide +kernel, rfl, by decide +kernel, by decide +kernel⟩
abbrev s_law_class : Stmt := topS 41
abbrev N_law_class : List Str := ["_law_e"]
theorem sc_law_class : FnScope N_law_class ["_law_e"] (defScope s_law_class) := ⟨rfl, rfl, rfl, by decide +kernel, rfl, by decide +kernel, by decide +kernel⟩
abbrev s_law_tried : Stmt := topS 42
abbrev N_law_tried : List Str := ["_law_ask", "_law_e"]
theorem sc_law_tried : FnScope N_law_tried ["_law_ask"] (defScope s_law_tried) := ⟨rfl, rfl, rfl, by decide +kernel, rfl, by decide +kernel, by decide +kernel⟩
abbrev s_law_bodies : Stmt := topS 36
abbrev N_law_bodies : List Str := ["_law_thing"]
theorem sc_law_bodies : FnScope N_law_bodies ["_law_thing"] (defScope s_law_bodies) := ⟨rfl, rfl, rfl, by decide +kernel, rfl, by decide +kernel, by decide +kernel⟩
abbrev s_law_look_thing : Stmt := topS 43
abbrev N_law_look_thing : List Str := ["_law_thing", "_law_scope", "_law_deep", "_law_word", "_law_ends", "_law_end", "_law_body", "_law_one", "_law_found"]
theorem sc_law_look_thing : FnScope N_law_look_thing ["_law_thing", "_law_scope", "_law_deep"] (defScope s_law_look_thing) := ⟨rfl, rfl, rfl, by decide +kernel, rfl, by decide +kernel, by decide +kernel⟩
abbrev s_law_looking : Stmt := topS 44
abbrev N_law_looking : List Str := ["_law_plan", "_law_agains", "_law_thing", "_law_found"]
theorem sc_law_looking : FnScope N_law_looking ["_law_plan"] (defScope s_law_looking) := ⟨rfl, rfl, rfl, by decide +kernel, rfl, by decide +kernel, by decide +kernel⟩
abbrev s_law_every : Stmt := topS 37
abbrev N_law_every : List Str := ["_law_plan", "_law_found", "_law_thing", "_law_body"]
theorem sc_law_every : FnScope N_law_every ["_law_plan"] (defScope s_law_every) := ⟨rfl, rfl, rfl, by decide +kernel, rfl, by decide +kernel, by decide +kernel⟩
abbrev s_Refused_init : Stmt := inClass (topS 2) 0
abbrev N_Refused_init : List Str := ["self", "word"]
theorem sc_Refused_init : FnScope N_Refused_init ["self", "word"] (defScope s_Refused_init) := ⟨rfl, rfl, rfl, by decide +kernel, rfl, by decide +kernel, by decide +kernel⟩
abbrev s_Misplaced_init : Stmt := inClass (topS 9) 0
abbrev N_Misplaced_init : List Str := ["self"]
theorem sc_Misplaced_init : FnScope N_Misplaced_init ["self"] (defScope s_Misplaced_init) := ⟨rfl, rfl, rfl, by decide +kernel, rfl, by decide +kernel, by decide +kernel⟩
abbrev s_Twice_init : Stmt := inClass (topS 8) 0
abbrev N_Twice_init : List Str := ["self", "name"]
theorem sc_Twice_init : FnScope N_Twice_init ["self", "name"] (defScope s_Twice_init) := ⟨rfl, rfl, rfl, by decide +kernel, rfl, by decide +kernel, by decide +kernel⟩
abbrev s_bodies_of : Stmt := topS 21
abbrev N_bodies_of : List Str := ["thing"]
theorem sc_bodies_of : FnScope N_bodies_of ["thing"] (defScope s_bodies_of) := ⟨rfl, rfl, rfl, by decide +kernel, rfl, by decide +kernel, by decide +kernel⟩
abbrev s_NoName_init : Stmt := inClass (topS 7) 0
abbrev N_NoName_init : List Str := ["self", "name"]
theorem sc_NoName_init : FnScope N_NoName_init ["self", "name"] (defScope s_NoName_init) := ⟨rfl, rfl, rfl, by decide +kernel, rfl, by decide +kernel, by decide +kernel⟩
abbrev s_look_end : Stmt := topS 22
abbrev N_look_end : List Str := ["end", "names"]
theorem sc_look_end : FnScope N_look_end ["end", "names"] (defScope s_look_end) := ⟨rfl, rfl, rfl, by decide +kernel, rfl, by decide +kernel, by decide +kernel⟩
abbrev s_look_thing : Stmt := topS 23
abbrev N_look_thing : List Str := ["thing", "names", "deep", "word", "rest", "inner", "body", "one"]
theorem sc_look_thing : FnScope N_look_thing ["thing", "names", "deep"] (defScope s_look_thing) := ⟨rfl, rfl, rfl, by decide +kernel, rfl, by decide +kernel, by decide +kernel⟩
abbrev s_look_plan : Stmt := topS 24
abbrev N_look_plan : List Str := ["plan", "agains", "thing"]
theorem sc_look_plan : FnScope N_look_plan ["plan"] (defScope s_look_plan) := ⟨rfl, rfl, rfl, by decide +kernel, rfl, by decide +kernel, by decide +kernel⟩
abbrev s_law : Stmt := topS 45
abbrev N_law : List Str := ["_law_script", "_law_draw", "_law_turn", "_law_names", "_law_step", "_law_at", "_law_plan", "_law_thing"]
theorem sc_law : FnScope N_law ["_law_script"] (defScope s_law) := ⟨rfl, rfl, rfl, by decide +kernel, rfl, by decide +kernel, by decide +kernel⟩
structure Txt (K : PySem.W.Frag) (mg : Str → Option Value) : Type where
  a_law_begin : Addr
  d_law_begin : FuncData
  F_law_begin : Fun K "_law_begin" "_law_begin" s_law_begin a_law_begin d_law_begin
  b_law_begin : Binds K d_law_begin ["_law_script"] []
  g_law_begin : mg "_law_begin" = some (.ref a_law_begin)
  a_law_take : Addr
  d_law_take : FuncData
  F_law_take : Fun K "_law_take" "_law_take" s_law_take a_law_take d_law_take
  b_law_take : Binds K d_law_take ["_law_draw", "_law_sides"] []
  g_law_take : mg "_law_take" = some (.ref a_law_take)
  a_law_pick : Addr
  d_law_pick : FuncData
  F_law_pick : Fun K "_law_pick" "_law_pick" s_law_pick a_law_pick d_law_pick
  b_law_pick : Binds K d_law_pick ["_law_draw", "_law_row"] []
  g_law_pick : mg "_law_pick" = some (.ref a_law_pick)
  a_law_some_end : Addr
  d_law_some_end : FuncData
  F_law_some_end : Fun K "_law_some_end" "_law_some_end" s_law_some_end a_law_some_end d_law_some_end
  b_law_some_end : Binds K d_law_some_end ["_law_draw", "_law_scope", "_law_wide"] []
  g_law_some_end : mg "_law_some_end" = some (.ref a_law_some_end)
  a_law_leaf : Addr
  d_law_leaf : FuncData
  F_law_leaf : Fun K "_law_leaf" "_law_leaf" s_law_leaf a_law_leaf d_law_leaf
  b_law_leaf : Binds K d_law_leaf ["_law_draw", "_law_kit", "_law_scope", "_law_deep"] []
  g_law_leaf : mg "_law_leaf" = some (.ref a_law_leaf)
  a_law_kept_words : Addr
  d_law_kept_words : FuncData
  F_law_kept_words : Fun K "_law_kept_words" "_law_kept_words" s_law_kept_words a_law_kept_words d_law_kept_words
  b_law_kept_words : Binds K d_law_kept_words [] []
  g_law_kept_words : mg "_law_kept_words" = some (.ref a_law_kept_words)
  a_law_fresh : Addr
  d_law_fresh : FuncData
  F_law_fresh : Fun K "_law_fresh" "_law_fresh" s_law_fresh a_law_fresh d_law_fresh
  b_law_fresh : Binds K d_law_fresh ["_law_draw", "_law_taken"] []
  g_law_fresh : mg "_law_fresh" = some (.ref a_law_fresh)
  a_law_drawn_thing : Addr
  d_law_drawn_thing : FuncData
  F_law_drawn_thing : Fun K "_law_drawn_thing" "_law_drawn_thing" s_law_drawn_thing a_law_drawn_thing d_law_drawn_thing
  b_law_drawn_thing : Binds K d_law_drawn_thing ["_law_draw", "_law_kit", "_law_scope", "_law_deep"] []
  g_law_drawn_thing : mg "_law_drawn_thing" = some (.ref a_law_drawn_thing)
  a_law_drawn_body : Addr
  d_law_drawn_body : FuncData
  F_law_drawn_body : Fun K "_law_drawn_body" "_law_drawn_body" s_law_drawn_body a_law_drawn_body d_law_drawn_body
  b_law_drawn_body : Binds K d_law_drawn_body ["_law_draw", "_law_kit", "_law_scope", "_law_deep"] []
  g_law_drawn_body : mg "_law_drawn_body" = some (.ref a_law_drawn_body)
  a_law_drawn : Addr
  d_law_drawn : FuncData
  F_law_drawn : Fun K "_law_drawn" "_law_drawn" s_law_drawn a_law_drawn d_law_drawn
  b_law_drawn : Binds K d_law_drawn ["_law_draw", "_law_room", "_law_figures", "_law_wide"] []
  g_law_drawn : mg "_law_drawn" = some (.ref a_law_drawn)
  a_law_unfit_thing : Addr
  d_law_unfit_thing : FuncData
  F_law_unfit_thing : Fun K "_law_unfit_thing" "_law_unfit_thing" s_law_unfit_thing a_law_unfit_thing d_law_unfit_thing
  b_law_unfit_thing : Binds K d_law_unfit_thing ["_law_draw", "_law_thing", "_law_names"] []
  g_law_unfit_thing : mg "_law_unfit_thing" = some (.ref a_law_unfit_thing)
  a_law_unfit : Addr
  d_law_unfit : FuncData
  F_law_unfit : Fun K "_law_unfit" "_law_unfit" s_law_unfit a_law_unfit d_law_unfit
  b_law_unfit : Binds K d_law_unfit ["_law_draw", "_law_plan", "_law_names"] []
  g_law_unfit : mg "_law_unfit" = some (.ref a_law_unfit)
  a_law_same : Addr
  d_law_same : FuncData
  F_law_same : Fun K "_law_same" "_law_same" s_law_same a_law_same d_law_same
  b_law_same : Binds K d_law_same ["_law_found", "_law_due"] []
  g_law_same : mg "_law_same" = some (.ref a_law_same)
  a_law_class : Addr
  d_law_class : FuncData
  F_law_class : Fun K "_law_class" "_law_class" s_law_class a_law_class d_law_class
  b_law_class : Binds K d_law_class ["_law_e"] []
  g_law_class : mg "_law_class" = some (.ref a_law_class)
  a_law_tried : Addr
  d_law_tried : FuncData
  F_law_tried : Fun K "_law_tried" "_law_tried" s_law_tried a_law_tried d_law_tried
  b_law_tried : Binds K d_law_tried ["_law_ask"] []
  g_law_tried : mg "_law_tried" = some (.ref a_law_tried)
  a_law_bodies : Addr
  d_law_bodies : FuncData
  F_law_bodies : Fun K "_law_bodies" "_law_bodies" s_law_bodies a_law_bodies d_law_bodies
  b_law_bodies : Binds K d_law_bodies ["_law_thing"] []
  g_law_bodies : mg "_law_bodies" = some (.ref a_law_bodies)
  a_law_look_thing : Addr
  d_law_look_thing : FuncData
  F_law_look_thing : Fun K "_law_look_thing" "_law_look_thing" s_law_look_thing a_law_look_thing d_law_look_thing
  b_law_look_thing : Binds K d_law_look_thing ["_law_thing", "_law_scope", "_law_deep"] []
  g_law_look_thing : mg "_law_look_thing" = some (.ref a_law_look_thing)
  a_law_looking : Addr
  d_law_looking : FuncData
  F_law_looking : Fun K "_law_looking" "_law_looking" s_law_looking a_law_looking d_law_looking
  b_law_looking : Binds K d_law_looking ["_law_plan"] []
  g_law_looking : mg "_law_looking" = some (.ref a_law_looking)
  a_law_every : Addr
  d_law_every : FuncData
  F_law_every : Fun K "_law_every" "_law_every" s_law_every a_law_every d_law_every
  b_law_every : Binds K d_law_every ["_law_plan"] []
  g_law_every : mg "_law_every" = some (.ref a_law_every)
  a_Refused_init : Addr
  d_Refused_init : FuncData
  F_Refused_init : FunD K "__init__" "Refused.__init__" (defArgs s_Refused_init) (defBody s_Refused_init) (defScope s_Refused_init) [V.str "Refused"] [] a_Refused_init d_Refused_init
  b_Refused_init : Binds K d_Refused_init ["self", "word"] []
  a_Misplaced_init : Addr
  d_Misplaced_init : FuncData
  F_Misplaced_init : Fun K "__init__" "Misplaced.__init__" s_Misplaced_init a_Misplaced_init d_Misplaced_init
  b_Misplaced_init : Binds K d_Misplaced_init ["self"] []
  a_Twice_init : Addr
  d_Twice_init : FuncData
  F_Twice_init : FunD K "__init__" "Twice.__init__" (defArgs s_Twice_init) (defBody s_Twice_init) (defScope s_Twice_init) [V.str ""] [] a_Twice_init d_Twice_init
  b_Twice_init : Binds K d_Twice_init ["self", "name"] []
  a_bodies_of : Addr
  d_bodies_of : FuncData
  F_bodies_of : Fun K "bodies_of" "bodies_of" s_bodies_of a_bodies_of d_bodies_of
  b_bodies_of : Binds K d_bodies_of ["thing"] []
  g_bodies_of : mg "bodies_of" = some (.ref a_bodies_of)
  a_NoName_init : Addr
  d_NoName_init : FuncData
  F_NoName_init : FunD K "__init__" "NoName.__init__" (defArgs s_NoName_init) (defBody s_NoName_init) (defScope s_NoName_init) [V.str ""] [] a_NoName_init d_NoName_init
  b_NoName_init : Binds K d_NoName_init ["self", "name"] []
  a_look_end : Addr
  d_look_end : FuncData
  F_look_end : Fun K "look_end" "look_end" s_look_end a_look_end d_look_end
  b_look_end : Binds K d_look_end ["end", "names"] []
  g_look_end : mg "look_end" = some (.ref a_look_end)
  a_look_thing : Addr
  d_look_thing : FuncData
  F_look_thing : Fun K "look_thing" "look_thing" s_look_thing a_look_thing d_look_thing
  b_look_thing : Binds K d_look_thing ["thing", "names", "deep"] []
  g_look_thing : mg "look_thing" = some (.ref a_look_thing)
  a_look_plan : Addr
  d_look_plan : FuncData
  F_look_plan : Fun K "look_plan" "look_plan" s_look_plan a_look_plan d_look_plan
  b_look_plan : Binds K d_look_plan ["plan"] []
  g_look_plan : mg "look_plan" = some (.ref a_look_plan)
  a_law : Addr
  d_law : FuncData
  F_law : Fun K "law" "law" s_law a_law d_law
  b_law : Binds K d_law ["_law_script"] []
  g_law : mg "law" = some (.ref a_law)
  x_Refused : Addr
  gx_Refused : mg "Refused" = some (.ref x_Refused)
  x_Misread : Addr
  gx_Misread : mg "Misread" = some (.ref x_Misread)
  x_Unfit : Addr
  gx_Unfit : mg "Unfit" = some (.ref x_Unfit)
  x_BadText : Addr
  gx_BadText : mg "BadText" = some (.ref x_BadText)
  x_BadPage : Addr
  gx_BadPage : mg "BadPage" = some (.ref x_BadPage)
  x_Stopped : Addr
  gx_Stopped : mg "Stopped" = some (.ref x_Stopped)
  x_Misplaced : Addr
  gx_Misplaced : mg "Misplaced" = some (.ref x_Misplaced)
  x_NoName : Addr
  gx_NoName : mg "NoName" = some (.ref x_NoName)
  x_Twice : Addr
  gx_Twice : mg "Twice" = some (.ref x_Twice)
  x_NoPlan : Addr
  gx_NoPlan : mg "NoPlan" = some (.ref x_NoPlan)
  x_NoLabel : Addr
  gx_NoLabel : mg "NoLabel" = some (.ref x_NoLabel)
  x_Taken : Addr
  gx_Taken : mg "Taken" = some (.ref x_Taken)
  x_Ring : Addr
  gx_Ring : mg "Ring" = some (.ref x_Ring)
  x_NotPlain : Addr
  gx_NotPlain : mg "NotPlain" = some (.ref x_NotPlain)
  x_Tangled : Addr
  gx_Tangled : mg "Tangled" = some (.ref x_Tangled)
  x_Breaks : Addr
  gx_Breaks : mg "Breaks" = some (.ref x_Breaks)
  x_InUse : Addr
  gx_InUse : mg "InUse" = some (.ref x_InUse)
  x_Uneven : Addr
  gx_Uneven : mg "Uneven" = some (.ref x_Uneven)
  ox_NoName : OexC K x_NoName
  in_NoName : PySem.W.findIn K (.ref x_NoName) "__init__" = some (some (.ref a_NoName_init))
  ti_NoName : PySem.W.typeIn K (.ref a_NoName_init) = some (.type "function")
  ce_NoName : ClsE K x_NoName
  nf_NoName_word : PySem.W.findIn K (.ref x_NoName) "word" = some none
  nf_NoName_name : PySem.W.findIn K (.ref x_NoName) "name" = some none
  em_NoName_BadText : PySem.W.exmOne K (.ref x_NoName) (.ref x_BadText) = some false
  em_NoName_BadPage : PySem.W.exmOne K (.ref x_NoName) (.ref x_BadPage) = some false
  em_NoName_Stopped : PySem.W.exmOne K (.ref x_NoName) (.ref x_Stopped) = some false
  em_NoName_Refused : PySem.W.exmOne K (.ref x_NoName) (.ref x_Refused) = some true
  et_NoName : PySem.W.exmAny K (.ref x_NoName) [.ref x_NoName, .ref x_Twice, .ref x_NoPlan, .ref x_NoLabel, .ref x_Taken, .ref x_Ring, .ref x_NotPlain, .ref x_Tangled, .ref x_Breaks, .ref x_InUse, .ref x_Uneven] = some true
  ki_NoName_Misread : PySem.W.kitOne K (.ref x_NoName) (.ref x_Misread) = some false
  ki_NoName_Unfit : PySem.W.kitOne K (.ref x_NoName) (.ref x_Unfit) = some true
  ki_NoName_VE : PySem.W.kitOne K (.ref x_NoName) (.type "ValueError") = some true
  ox_Twice : OexC K x_Twice
  in_Twice : PySem.W.findIn K (.ref x_Twice) "__init__" = some (some (.ref a_Twice_init))
  ti_Twice : PySem.W.typeIn K (.ref a_Twice_init) = some (.type "function")
  ce_Twice : ClsE K x_Twice
  nf_Twice_word : PySem.W.findIn K (.ref x_Twice) "word" = some none
  nf_Twice_name : PySem.W.findIn K (.ref x_Twice) "name" = some none
  em_Twice_BadText : PySem.W.exmOne K (.ref x_Twice) (.ref x_BadText) = some false
  em_Twice_BadPage : PySem.W.exmOne K (.ref x_Twice) (.ref x_BadPage) = some false
  em_Twice_Stopped : PySem.W.exmOne K (.ref x_Twice) (.ref x_Stopped) = some false
  em_Twice_Refused : PySem.W.exmOne K (.ref x_Twice) (.ref x_Refused) = some true
  et_Twice : PySem.W.exmAny K (.ref x_Twice) [.ref x_NoName, .ref x_Twice, .ref x_NoPlan, .ref x_NoLabel, .ref x_Taken, .ref x_Ring, .ref x_NotPlain, .ref x_Tangled, .ref x_Breaks, .ref x_InUse, .ref x_Uneven] = some true
  ki_Twice_Misread : PySem.W.kitOne K (.ref x_Twice) (.ref x_Misread) = some false
  ki_Twice_Unfit : PySem.W.kitOne K (.ref x_Twice) (.ref x_Unfit) = some true
  ki_Twice_VE : PySem.W.kitOne K (.ref x_Twice) (.type "ValueError") = some true
  ox_Misplaced : OexC K x_Misplaced
  in_Misplaced : PySem.W.findIn K (.ref x_Misplaced) "__init__" = some (some (.ref a_Misplaced_init))
  ti_Misplaced : PySem.W.typeIn K (.ref a_Misplaced_init) = some (.type "function")
  ce_Misplaced : ClsE K x_Misplaced
  nf_Misplaced_word : PySem.W.findIn K (.ref x_Misplaced) "word" = some none
  em_Misplaced_BadText : PySem.W.exmOne K (.ref x_Misplaced) (.ref x_BadText) = some false
  em_Misplaced_BadPage : PySem.W.exmOne K (.ref x_Misplaced) (.ref x_BadPage) = some false
  em_Misplaced_Stopped : PySem.W.exmOne K (.ref x_Misplaced) (.ref x_Stopped) = some false
  em_Misplaced_Refused : PySem.W.exmOne K (.ref x_Misplaced) (.ref x_Refused) = some true
  et_Misplaced : PySem.W.exmAny K (.ref x_Misplaced) [.ref x_NoName, .ref x_Twice, .ref x_NoPlan, .ref x_NoLabel, .ref x_Taken, .ref x_Ring, .ref x_NotPlain, .ref x_Tangled, .ref x_Breaks, .ref x_InUse, .ref x_Uneven] = some false
  ki_Misplaced_Misread : PySem.W.kitOne K (.ref x_Misplaced) (.ref x_Misread) = some false
  ki_Misplaced_Unfit : PySem.W.kitOne K (.ref x_Misplaced) (.ref x_Unfit) = some true
  ki_Misplaced_VE : PySem.W.kitOne K (.ref x_Misplaced) (.type "ValueError") = some true
  sg_Unfit : PySem.W.specialIn K (.ref x_Unfit) "__getattribute__" = some (some (.builtin "type.__getattribute__"))
  rd_Unfit : PySem.W.readsIn K x_Unfit (.type "type") = true
  fc_Unfit : PySem.W.findCls K (.ref x_Unfit) (.type "type") "__init__" = some (.val (.ref a_Refused_init))
  z_ValueError : mg "ValueError" = none
  z_abs : mg "abs" = none
  z_all : mg "all" = none
  z_bool : mg "bool" = none
  z_int : mg "int" = none
  z_isinstance : mg "isinstance" = none
  z_len : mg "len" = none
  z_list : mg "list" = none
  z_range : mg "range" = none
  z_sorted : mg "sorted" = none
  z_str : mg "str" = none
  z_tuple : mg "tuple" = none
  z_zip : mg "zip" = none
  u_SIZE : Value
  m_SIZE : mg "SIZE" = some u_SIZE
  r_SIZE : RelV (.str "n") u_SIZE
section
variable {P : Program} {w : World} {K : PySem.W.Frag} {mg : Str → Option Value} {base : Heap}
/-- a fresh draw -/
def spBegin (K : PySem.W.Frag) : Sp := fun vs H Q _ => ∃ (a : Addr) (ns : List Int), vs = [.ref a] ∧ SqL K H a (ns.map V.int) ∧ ns.length ≤ 63 ∧
  ∀ d l H', H d = none → H l = none → Same H H' → DrawAt H' d l → Q (.ref d) H'
theorem ok_law_begin (T : Txt K mg) : FnOk P w K mg base CX0 1 T.a_law_begin T.d_law_begin ["_law_script"] (spBegin K) := by
  refine T.F_law_begin.ok sc_law_begin (fun vs H Q E h => ?_) (fun cdv A outer s H vs Q E hr h => ?_)
  · obtain ⟨a, ns, rfl, _⟩ := h
    rfl
  obtain ⟨a, ns, rfl, hS, hl, k⟩ := h
  refine ⟨_, (pss_one (ps_ret (pe_lst (pa_cons (pe_callTy call_list_of (by rfl) T.z_list (by decide +kernel) (pa_cons (pe_slice sl_list (pv 0) po_none (po_some pe_int)) pa_nil)) (pa_cons pe_int (pa_cons pe_int (pa_cons pe_int pa_nil))))))), ?_⟩
  refine ⟨.ref a, rfl, 63, rfl, a, _, rfl, hS, fun p hp => ?_⟩
  refine ⟨p, _, rfl, .inl (SqL.of upd_same), fun l hl2 => ?_⟩
  refine ⟨by show 4 ≤ sizeLine; decide, fun d hd => ?_⟩
  have s1 : Same H _ := (same_upd (o := .lst (cutV (ns.map V.int) none (some 63))) hp)
  have s2 := s1.trans (same_upd (o := .lst (cutV (ns.map V.int) none (some 63))) hl2)
  have s3 := s2.trans (same_upd (o := .lst [.ref l, .int 0, .int 0, .int 37]) hd)
  have nld : l ≠ d := fun e => by
    rw [← e, upd_same] at hd
    cases hd
  refine k d l _ (s2.free hd) (s1.free hl2) s3 ⟨⟨ns.take 63, 0, 0, 37, upd_same, ?_, by decide, by decide, by decide, by decide, ?_⟩⟩
  · rw [upd_ne nld, upd_same]
    have e : cutV (ns.map V.int) none (some 63) = (ns.take 63).map V.int := by
      unfold cutV
      rw [HT.sIx_none, show HT.sIx (ns.map V.int).length (ns.map V.int).length (some 63) = min 63 (ns.map V.int).length from HT.sIx_nat _ _ 63, List.drop_zero, Nat.sub_zero]
      rw [List.map_take, List.length_map, List.take_eq_take_iff]
      simp
    rw [e]
  · rw [List.length_take]
    omega
/-- a draw below n -/
def spTake : Sp := fun vs H Q _ => ∃ (d l : Addr) (n : Int), vs = [.ref d, .int n] ∧ DrawAt H d l ∧ 0 < n ∧ n < 2 ^ 200 ∧
  ∀ (r : Int) H', 0 ≤ r → r < n → DrawAt H' d l → But (Only1 d) H H' → Q (.int r) H'
theorem ok_law_take (T : Txt K mg) : FnOk P w K mg base CX0 1 T.a_law_take T.d_law_take ["_law_draw", "_law_sides"] spTake := by
  refine T.F_law_take.ok sc_law_take (fun vs H Q E h => ?_) (fun cdv A outer s H vs Q E hr h => ?_)
  · obtain ⟨d, l, n, rfl, _⟩ := h
    rfl
  obtain ⟨d, l, n, rfl, D, hn0, hn, k⟩ := h
  refine ⟨_, (C8.pss_cut (ps_if (PW.pt (pw_and (pt_cmpR op_lt (pe_ix ix_list (pv 0) pe_int (fun _ _ => rfl)) (pv 1) (nomark _)) (pw_and1 (pt_cmpR op_lt (pe_ix ix_list (pv 0) pe_int (fun _ _ => rfl)) (pe_callB call_len_seq (by rfl) T.z_len (by decide +kernel) (pa_cons (pe_ix ix_list (pv 0) pe_int (fun _ _ => rfl)) pa_nil)) (nomark _))))) (pss_cons (ps_set (i := 2) sc_law_take.nd rfl (Or.inl rfl) (pe_ix ix_list (pe_ix ix_list (pv 0) pe_int (fun _ _ => rfl)) (pe_ix ix_list (pv 0) pe_int (fun _ _ => rfl)) (fun _ _ => rfl)))
      (pss_cons (ps_asg (pe_op op_add (pe_ix ix_list (pv 0) pe_int (fun _ _ => rfl)) pe_int) (pg_sub (pv 0) pe_int set_list))
      (pss_cons (ps_asg pe_int (pg_sub (pv 0) pe_int set_list))
      (pss_one (ps_if (pt_cmpR op_ge (pe_callB call_abs (by rfl) T.z_abs (by decide +kernel) (pa_cons (pv 2) pa_nil)) (pe_op op_pow pe_int pe_int) (nomark _)) (pss_one (ps_asg (pe_callB call_abs (by rfl) T.z_abs (by decide +kernel) (pa_cons (pv 2) pa_nil)) (pg_sub (pv 0) pe_int set_list))) (pss_one (ps_asg (pe_op op_mod (pe_op op_add (pe_op op_add (pe_op op_mul (pe_ix ix_list (pv 0) pe_int (fun _ _ => rfl)) pe_int) (pe_op op_mul (pe_op op_mod (pv 2) pe_int) pe_int)) pe_int) pe_int) (pg_sub (pv 0) pe_int set_list)))))))) pss_nil)
      (pss_cons (ps_if (pt_cmpR op_ge (pe_ix ix_list (pv 0) pe_int (fun _ _ => rfl)) (pv 1) (nomark _)) (pss_cons (ps_set (i := 3) sc_law_take.nd rfl (Or.inl rfl) (pe_op op_mod (pe_ix ix_list (pv 0) pe_int (fun _ _ => rfl)) (pv 1)))
      (pss_cons (ps_asg (pe_op op_fdivW (pe_ix ix_list (pv 0) pe_int (fun _ _ => rfl)) (pv 1)) (pg_sub (pv 0) pe_int set_list))
      (pss_one (ps_ret (pv 3))))) pss_nil)
      (pss_cons (ps_asg (pe_op op_mod (pe_op op_add (pe_op op_add (pe_op op_mul (pe_op op_mod (pe_op op_mul (pe_ix ix_list (pv 0) pe_int (fun _ _ => rfl)) (pe_ix ix_list (pv 0) pe_int (fun _ _ => rfl))) pe_int) pe_int) (pe_op op_mul (pe_ix ix_list (pv 0) pe_int (fun _ _ => rfl)) pe_int)) pe_int) pe_int) (pg_sub (pv 0) pe_int set_list))
      (pss_one (ps_ret (pe_op op_mod (pe_op op_add (pe_op op_fdivW (pe_ix ix_list (pv 0) pe_int (fun _ _ => rfl)) pe_int) (pe_op op_mul (pe_op op_mod (pe_ix ix_list (pv 0) pe_int (fun _ _ => rfl)) pe_int) pe_int)) (pv 1))))))), ?_⟩
  obtain ⟨ns, p, g, s, e1, e2, p0, g0, s0, s1, hl⟩ := D.ex
  have nld : l ≠ d := fun e => by
    rw [e, e1] at e2
    cases ns with
    | nil => cases e2
    | cons x r => cases e2
  have cw : CDivW 0 n := log_small hn0 hn (by decide) (by decide)
  refine ⟨fun σ' H' => ∃ c p g s, σ' = [some (.ref d), some (.int n), c, none] ∧ H' d = some (.lst [.ref l, .int p, .int g, .int s]) ∧ H' l = some (.lst (ns.map V.int)) ∧ 0 ≤ p ∧ 0 ≤ g ∧ 0 ≤ s ∧ s < 2147483647 ∧ But (Only1 d) H H', ?_, ?_⟩
  · refine ⟨_, rfl, d, _, 2, .int g, rfl, rfl, SqL.of e1, rfl, _, rfl, g, n, rfl, rfl, _, rfl, ?_⟩
    refine ite2 (fun c1 => ?_) (fun _ => ⟨_, p, g, s, rfl, e1, e2, p0, g0, s0, s1, But.refl _ _⟩)
    refine ⟨_, rfl, d, _, 1, .int p, rfl, rfl, SqL.of e1, rfl, _, rfl, d, _, 0, .ref l, rfl, rfl, SqL.of e1, rfl, l, _, rfl, .inl (SqL.of e2), p, _, rfl, rfl, _, rfl, ?_⟩
    refine ite2 (fun c2 => ?_) (fun _ => ⟨_, p, g, s, rfl, e1, e2, p0, g0, s0, s1, But.refl _ _⟩)
    have c2' : p < (((ns.map V.int).length : Nat) : Int) := of_decide_eq_true c2
    rw [List.length_map] at c2'
    obtain ⟨j, ej⟩ : ∃ j : Nat, p = (j : Int) := ⟨p.toNat, by omega⟩
    have hj : j < ns.length := by omega
    have ha : atI (ns.map V.int) p = some (.int ns[j]) := by
      rw [ej]
      exact atI_nat (by rw [List.getElem?_map, List.getElem?_eq_getElem hj]; rfl)
    -- cell = draw[0][draw[1]]
    refine ⟨_, rfl, d, _, 0, .ref l, rfl, rfl, SqL.of e1, rfl, _, rfl, d, _, 1, .int p, rfl, rfl, SqL.of e1, rfl, l, _, p, _, rfl, rfl, SqL.of e2, ha, ?_⟩
    generalize ns[j] = x
    -- draw[1] = draw[1] + 1; draw[2] = 0
    refine ⟨_, rfl, d, _, 1, .int p, rfl, rfl, SqL.of e1, rfl, p, 1, rfl, rfl, _, rfl, d, _, 1, 1, rfl, rfl, e1, rfl, ?_⟩
    refine ⟨_, rfl, d, _, 2, 2, rfl, rfl, upd_same, rfl, ?_⟩
    have b2 : ∀ o, But (Only1 d) H (upd (upd H d (.lst [.ref l, .int (p + 1), .int g, .int s])) d o) := fun o => ((But.refl _ _).put only1).put only1
    have e2' : ∀ o o', upd (upd H d o) d o' l = some (.lst (ns.map V.int)) := fun o o' => by
      rw [upd_ne nld, upd_ne nld]
      exact e2
    -- abs(cell) >= 10 ** 18
    refine ⟨_, rfl, x, rfl, 10, 18, rfl, rfl, ⟨by decide, by decide, by decide⟩, _, _, rfl, rfl, _, rfl, ?_⟩
    refine ite2 (fun _ => ?_) (fun _ => ?_)
    · refine ⟨_, rfl, x, rfl, _, rfl, d, _, 2, 2, rfl, rfl, upd_same, rfl, ?_⟩
      refine ⟨_, p + 1, _, s, rfl, upd_same, ?_, by omega, ?_, s0, s1, ((b2 _).put only1)⟩
      · rw [upd_ne nld]
        exact e2' _ _
      · split <;> omega
    · refine ⟨_, rfl, d, _, 3, .int s, rfl, rfl, SqL.of upd_same, rfl, s, 48271, rfl, rfl, .inr ⟨by decide, by decide⟩, _, rfl, x, 2147483629, rfl, rfl, (by show (0 : Int) < 2147483629; decide), _, 69621, rfl, rfl, .inr ⟨by decide, by decide⟩, _, _, rfl, rfl, _, 12345, rfl, rfl, _, 2147483647, rfl, rfl, (by show (0 : Int) < 2147483647; decide), _, rfl, d, _, 3, 3, rfl, rfl, upd_same, rfl, ?_⟩
      refine ⟨_, p + 1, 0, _, rfl, upd_same, ?_, by omega, by omega, Int.emod_nonneg _ (by decide), Int.emod_lt_of_pos _ (by decide), ((b2 _).put only1)⟩
      rw [upd_ne nld]
      exact e2' _ _
  · rintro σ' H1 ⟨c, p, g, s, rfl, e1, e2, p0, g0, s0, s1, b⟩
    refine ⟨_, rfl, d, _, 2, .int g, rfl, rfl, SqL.of e1, rfl, _, rfl, g, n, rfl, rfl, _, rfl, ?_⟩
    refine ite2 (fun c1 => ?_) (fun _ => ?_)
    · refine ⟨_, rfl, d, _, 2, .int g, rfl, rfl, SqL.of e1, rfl, _, rfl, g, n, rfl, rfl, hn0, ?_⟩
      refine ⟨_, rfl, d, _, 2, .int g, rfl, rfl, SqL.of e1, rfl, _, rfl, g, n, rfl, rfl, cw, _, rfl, d, _, 2, 2, rfl, rfl, e1, rfl, ?_⟩
      refine ⟨_, rfl, k _ _ (Int.emod_nonneg _ (by omega)) (Int.emod_lt_of_pos _ hn0) ⟨⟨ns, p, _, s, upd_same, by rw [upd_ne nld]; exact e2, p0, Int.ediv_nonneg g0 (by omega), s0, s1, hl⟩⟩ (b.put only1)⟩
    · refine ⟨_, rfl, d, _, 3, .int s, rfl, rfl, SqL.of e1, rfl, _, rfl, d, _, 3, .int s, rfl, rfl, SqL.of e1, rfl, s, s, rfl, rfl, .inl ⟨by omega, by omega⟩, _, 2147483629, rfl, rfl, (by show (0 : Int) < 2147483629; decide), _, 5, rfl, rfl, .inr ⟨by decide, by decide⟩, _, rfl, d, _, 3, .int s, rfl, rfl, SqL.of e1, rfl, s, 16811, rfl, rfl, .inr ⟨by decide, by decide⟩, _, _, rfl, rfl, _, 2531011, rfl, rfl, _, 2147483647, rfl, rfl, (by show (0 : Int) < 2147483647; decide), _, rfl, d, _, 3, 3, rfl, rfl, e1, rfl, ?_⟩
      have z0 : ∀ x : Int, 0 ≤ x % 2147483647 := fun x => Int.emod_nonneg _ (by decide)
      have z1 : ∀ x : Int, x % 2147483647 < 2147483647 := fun x => Int.emod_lt_of_pos _ (by decide)
      refine ⟨_, rfl, d, _, 3, _, rfl, rfl, SqL.of upd_same, rfl, _, 61, rfl, rfl, log_small (k := 10) (by decide) (by decide) (by decide) (by decide), _, rfl, d, _, 3, _, rfl, rfl, SqL.of upd_same, rfl, _, 8191, rfl, rfl, (by show (0 : Int) < 8191; decide), _, 31, rfl, rfl, .inr ⟨by decide, by decide⟩, _, _, rfl, rfl, _, rfl, _, n, rfl, rfl, hn0, ?_⟩
      exact k _ _ (Int.emod_nonneg _ (by omega)) (Int.emod_lt_of_pos _ hn0) ⟨⟨ns, p, g, _, upd_same, by rw [upd_ne nld]; exact e2, p0, g0, z0 _, z1 _, hl⟩⟩ (b.put only1)
/-- one of a row: a text's sign, a list's or tuple's item -/
def spPick (K : PySem.W.Frag) : Sp := fun vs H Q _ => ∃ (d l : Addr) (x : V), vs = [.ref d, x] ∧ DrawAt H d l ∧
  ((∃ z : Str, x = .str z ∧ 0 < z.length ∧ z.length ≤ 100000 ∧ ∀ (c : Nat) H', c ∈ z.cps.toList → DrawAt H' d l → But (Only1 d) H H' → Q (.str ⟨#[c]⟩) H') ∨
   ∃ (a : Addr) (xs : List V), x = .ref a ∧ a ≠ d ∧ (SqL K H a xs ∨ SqT K H a xs) ∧ 0 < xs.length ∧ xs.length ≤ 100000 ∧ ∀ (v : V) H', v ∈ xs → DrawAt H' d l → But (Only1 d) H H' → Q v H')
theorem ok_law_pick (T : Txt K mg) : FnOk P w K mg base CX0 2 T.a_law_pick T.d_law_pick ["_law_draw", "_law_row"] (spPick K) := by
  refine T.F_law_pick.ok sc_law_pick (fun vs H Q E h => ?_) (fun cdv A outer s H vs Q E hr h => ?_)
  · obtain ⟨d, l, x, rfl, _⟩ := h
    rfl
  obtain ⟨d, l, x, rfl, D, h⟩ := h
  refine ⟨_, (pss_one (ps_ret (pe_ix ix_seq (pv 1) (pe_call (ok_law_take T) (hr.mono (by decide)) (by rfl) T.g_law_take T.F_law_take.kp T.b_law_take .nil pass0 (pa_cons (pv 0) (pa_cons (pe_callB call_len (by rfl) T.z_len (by decide +kernel) (pa_cons (pv 1) pa_nil)) pa_nil))) (fun _ _ => rfl)))), ?_⟩
  have big : (100000 : Int) < 2 ^ 200 := by decide
  rcases h with ⟨z, rfl, h0, h1, k⟩ | ⟨a, xs, rfl, na, hs, h0, h1, k⟩
  · refine ⟨_, rfl, _, rfl, _, rfl, _, z.length, rfl, ⟨Nat.le_trans h1 (by decide), rfl⟩, d, l, _, rfl, D, by omega, by omega, fun r H' r0 r1 D' b => ?_⟩
    obtain ⟨j, rfl⟩ : ∃ j : Nat, r = (j : Int) := ⟨r.toNat, by omega⟩
    have hj : j < z.cps.toList.length := by
      rw [Array.length_toList]
      show j < z.length
      omega
    exact .inr (.inr ⟨z, _, _, rfl, rfl, Nat.le_trans h1 (by decide), atI_nat (List.getElem?_eq_getElem hj), k _ H' (List.getElem_mem hj) D' b⟩)
  · have hl : LenV K (.ref a) H xs.length := by
      rcases hs with hs | hs
      · exact .inl ⟨xs, hs, rfl⟩
      · exact .inr ⟨xs, hs, rfl⟩
    refine ⟨_, rfl, _, rfl, _, rfl, _, xs.length, rfl, hl, d, l, _, rfl, D, by omega, by omega, fun r H' r0 r1 D' b => ?_⟩
    obtain ⟨j, rfl⟩ : ∃ j : Nat, r = (j : Int) := ⟨r.toNat, by omega⟩
    have hj : j < xs.length := by omega
    rcases hs with hs | hs
    · exact .inl ⟨a, xs, _, _, rfl, rfl, but_l b na hs, atI_nat (List.getElem?_eq_getElem hj), k _ H' (List.getElem_mem hj) D' b⟩
    · exact .inr (.inl ⟨a, xs, _, _, rfl, rfl, but_t b na hs, atI_nat (List.getElem?_eq_getElem hj), k _ H' (List.getElem_mem hj) D' b⟩)
/-- an end, frozen -/
def spSomeEnd (K : PySem.W.Frag) : Sp := fun vs H Q _ => ∃ (d l sa : Addr) (sc : List Str) (wide : Bool) (G : Hp), vs = [.ref d, .ref sa, .bl wide] ∧ Same G H ∧ G d = none ∧ DrawAt H d l ∧ G sa = some (.lst (sc.map V.str)) ∧ sc ≠ [] ∧ sc.length ≤ 1000 ∧
  ∀ (v : V) (e : En) (G' H' : Hp), Grow (Only1 d) G H G' H' → DrawAt H' d l → Dp K G' v (endD e) → EndOk wide sc e → Q v H'
theorem ok_law_some_end (T : Txt K mg) : FnOk P w K mg base CX0 3 T.a_law_some_end T.d_law_some_end ["_law_draw", "_law_scope", "_law_wide"] (spSomeEnd K) := by
  refine T.F_law_some_end.ok sc_law_some_end (fun vs H Q E h => ?_) (fun cdv A outer s H vs Q E hr h => ?_)
  · obtain ⟨d, l, sa, sc, wide, G, rfl, _⟩ := h
    rfl
  obtain ⟨d, l, sa, sc, wide, G, rfl, sg, gd, D, es, sne, sl, k⟩ := h
  refine ⟨_, (pss_cons (ps_set (i := 3) sc_law_some_end.nd rfl (Or.inl rfl) (pe_ix ix_list (pe_lst (pa_cons pe_int (pa_cons (pe_call (ok_law_take T) (hr.mono (by decide)) (by rfl) T.g_law_take T.F_law_take.kp T.b_law_take .nil pass0 (pa_cons (pv 0) (pa_cons pe_int pa_nil))) (pa_cons (pe_call (ok_law_take T) (hr.mono (by decide)) (by rfl) T.g_law_take T.F_law_take.kp T.b_law_take .nil pass0 (pa_cons (pv 0) (pa_cons (pe_ix ix_list (pe_lst (pa_cons pe_int (pa_cons pe_int pa_nil))) (pe_callTy call_int1 (by rfl) T.z_int (by decide +kernel) (pa_cons (pv 2) pa_nil)) (fun _ _ => rfl)) pa_nil))) pa_nil)))) (pe_call (ok_law_take T) (hr.mono (by decide)) (by rfl) T.g_law_take T.F_law_take.kp T.b_law_take .nil pass0 (pa_cons (pv 0) (pa_cons pe_int pa_nil))) (fun _ _ => rfl)))
      (pss_cons (ps_if (pt_cmpR op_eq (pe_call (ok_law_take T) (hr.mono (by decide)) (by rfl) T.g_law_take T.F_law_take.kp T.b_law_take .nil pass0 (pa_cons (pv 0) (pa_cons pe_int pa_nil))) pe_int (nomark _)) (pss_one (ps_ret (pe_tup (pa_cons pe_str (pa_cons (pv 3) pa_nil))))) pss_nil)
      (pss_one (ps_ret (pe_tup (pa_cons (pe_call (ok_law_pick T) (hr.mono (by decide)) (by rfl) T.g_law_pick T.F_law_pick.kp T.b_law_pick .nil pass0 (pa_cons (pv 0) (pa_cons (pv 1) pa_nil))) (pa_cons (pe_op op_mul (pv 3) (pe_ix ix_list (pe_lst (pa_cons pe_int (pa_cons (pe_un un_neg pe_int) pa_nil))) (pe_call (ok_law_take T) (hr.mono (by decide)) (by rfl) T.g_law_take T.F_law_take.kp T.b_law_take .nil pass0 (pa_cons (pv 0) (pa_cons pe_int pa_nil))) (fun _ _ => rfl))) pa_nil))))))), ?_⟩
  have nsd : sa ≠ d := fun e => by rw [e, gd] at es; cases es
  have gr0 : Grow (Only1 d) G H G H := Grow.refl sg
  refine ⟨_, rfl, d, l, 5, rfl, D, by decide, by decide, fun m1 H1 a0 a1 D1 b1 => ?_⟩
  have gr1 := gr0.trans (Grow.draw gr0.gh gd b1) D.some'
  refine ⟨_, rfl, by show 2 ≤ sizeLine; decide, fun L1 hL1 => ?_⟩
  have gr2 := gr1.cell (o := .lst [.int 5, .int 100]) hL1
  have D2 := D1.upd (o := .lst [.int 5, .int 100]) hL1
  have at5 : atI [V.int 5, V.int 100] (if wide then 1 else 0) = some (.int (if wide then 100 else 5)) := by cases wide <;> rfl
  have w5 : (0 : Int) < (if wide then 100 else 5) ∧ (if wide then (100 : Int) else 5) ≤ 100 := by cases wide <;> decide
  have w6 : (5 : Int) ≤ (if wide then 100 else 5) := by cases wide <;> decide
  refine ⟨_, rfl, .inr ⟨wide, rfl, ?_⟩⟩
  refine ⟨L1, _, _, _, rfl, rfl, SqL.of upd_same, at5, d, l, _, rfl, D2, w5.1, Int.lt_of_le_of_lt w5.2 (by decide), fun m2 H3 c0 c1 D3 b3 => ?_⟩
  have gr3 := gr2.trans (Grow.draw gr2.gh gd b3) D2.some'
  refine ⟨by show 3 ≤ sizeLine; decide, fun L2 hL2 => ?_⟩
  have gr4 := gr3.cell (o := .lst [.int 0, .int m1, .int m2]) hL2
  have D4 := D3.upd (o := .lst [.int 0, .int m1, .int m2]) hL2
  refine ⟨_, rfl, d, l, 3, rfl, D4, by decide, by decide, fun j H5 j0 j1 D5 b5 => ?_⟩
  have gr5 := gr4.trans (Grow.draw gr4.gh gd b5) D4.some'
  obtain ⟨m, hm, hm0, hm1⟩ : ∃ m : Int, atI [V.int 0, V.int m1, V.int m2] j = some (.int m) ∧ 0 ≤ m ∧ m < (if wide then 100 else 5) := by
    obtain ⟨n, rfl⟩ : ∃ n : Nat, j = (n : Int) := ⟨j.toNat, by omega⟩
    match n, j1 with
    | 0, _ => exact ⟨0, rfl, by decide, w5.1⟩
    | 1, _ => exact ⟨m1, rfl, a0, by omega⟩
    | 2, _ => exact ⟨m2, rfl, c0, c1⟩
    | n + 3, e => omega
  refine ⟨L2, _, _, _, rfl, rfl, SqL.of (b5 _ _ upd_same (D3.ned hL2)), hm, ?_⟩
  have hmn : m.natAbs < (if wide then 100 else 5) := by cases wide <;> simp at hm1 ⊢ <;> omega
  refine ⟨_, rfl, d, l, 3, rfl, D5, by decide, by decide, fun q H6 q0 q1 D6 b6 => ?_⟩
  have gr6 := gr5.trans (Grow.draw gr5.gh gd b6) D5.some'
  have tupOk : ∀ (H7 : Hp) (x : Str) (i : Int) (p : Addr), Grow (Only1 d) G H G H7 → DrawAt H7 d l → H7 p = none → EndOk wide sc (x, i) → Q (.ref p) (upd H7 p (.tup [.str x, .int i])) := fun H7 x i p g7 D7 hp eo => by
    have g8 := g7.new (o := .tup [.str x, .int i]) hp D7.some'
    exact k _ (x, i) _ _ g8 (D7.upd hp) (.tup (xs := [.str x, .int i]) (SqT.of upd_same) (.cons (.str _) (.cons (.int _) .nil))) eo
  refine ⟨rfl, _, rfl, ite2 (fun _ => ?_) (fun _ => ?_)⟩
  · refine ⟨_, rfl, by show 2 ≤ sizeLine; decide, fun p hp => ?_⟩
    exact tupOk _ "" m p gr6 D6 hp ⟨hmn, .inl ⟨rfl, hm0⟩⟩
  · have es6 : H6 sa = some (.lst (sc.map V.str)) := gr6.gh _ _ es
    have sp : 0 < sc.length := List.length_pos_iff.mpr sne
    refine ⟨_, rfl, _, rfl, d, l, _, rfl, D6, .inr ⟨sa, _, rfl, nsd, .inl (SqL.of es6), by rw [List.length_map]; exact sp, by rw [List.length_map]; omega, fun v H7 hv D7 b7 => ?_⟩⟩
    obtain ⟨x, hx, rfl⟩ := List.mem_map.mp hv
    have gr7 := gr6.trans (Grow.draw gr6.gh gd b7) D6.some'
    refine ⟨_, rfl, _, rfl, by show 2 ≤ sizeLine; decide, fun L3 hL3 => ?_⟩
    have gr8 := gr7.cell (o := .lst [.int 1, .int (-1)]) hL3
    have D8 := D7.upd (o := .lst [.int 1, .int (-1)]) hL3
    refine ⟨_, rfl, d, l, 2, rfl, D8, by decide, by decide, fun z H9 z0 z1 D9 b9 => ?_⟩
    have gr9 := gr8.trans (Grow.draw gr8.gh gd b9) D8.some'
    obtain ⟨y, hy, hy2⟩ : ∃ y : Int, atI [V.int 1, V.int (-1)] z = some (.int y) ∧ (y = 1 ∨ y = -1) := by
      obtain ⟨n, rfl⟩ : ∃ n : Nat, z = (n : Int) := ⟨z.toNat, by omega⟩
      match n, z1 with
      | 0, _ => exact ⟨1, rfl, .inl rfl⟩
      | 1, _ => exact ⟨-1, rfl, .inr rfl⟩
      | n + 2, e => omega
    have yn : (m * y).natAbs < (if wide then 100 else 5) := by
      rcases hy2 with rfl | rfl
      · rw [Int.mul_one]; exact hmn
      · rw [Int.mul_neg, Int.mul_one, Int.natAbs_neg]; exact hmn
    refine ⟨L3, _, _, _, rfl, rfl, SqL.of (b9 _ _ upd_same (D7.ned hL3)), hy, _, _, rfl, rfl, .inr (by rcases hy2 with rfl | rfl <;> decide), by show 2 ≤ sizeLine; decide, fun p hp => ?_⟩
    exact tupOk _ x (m * y) p gr9 D9 hp ⟨yn, .inr hx⟩
def spLeaf (K : PySem.W.Frag) : Sp := fun vs H Q _ => ∃ (d l kc dk sa : Addr) (sc : List Str) (k : Kit) (r : Int) (deep : Nat) (G : Hp), vs = [.ref d, .ref kc, .ref sa, .int (deep : Nat)] ∧ Same G H ∧ G d = none ∧ DrawAt H d l ∧ KitAt H kc dk r k ∧ KnAt G dk k.kn ∧
  G sa = some (.lst (sc.map V.str)) ∧ (Str.ofString "n") ∈ sc ∧ sc.length ≤ 25 ∧
  ∀ (v : V) (t : Thing) (G' H' : Hp), Grow (Only1 d) G H G' H' → DrawAt H' d l → Dp K G' v (thingD t) → ThOk k t sc deep → thingC t = 1 → Q v H'
theorem ok_law_leaf (T : Txt K mg) : FnOk P w K mg base CX0 4 T.a_law_leaf T.d_law_leaf ["_law_draw", "_law_kit", "_law_scope", "_law_deep"] (spLeaf K) := by
  refine T.F_law_leaf.ok sc_law_leaf (fun vs H Q E h => ?_) (fun cdv A outer s H vs Q E hr h => ?_)
  · obtain ⟨d, l, kc, dk, sa, sc, k, r, deep, G, rfl, _⟩ := h
    rfl
  obtain ⟨d, l, kc, dk, sa, sc, k, r, deep, G, rfl, sg, gd, D, kit, kn, es, hn, sl, q⟩ := h
  refine ⟨_, (pss_cons (ps_setLc (i := 5) (own := [("_law_name", 4)]) (g := gName 4) (tt := _) rfl sc_law_leaf.nd rfl rfl (sw_true rfl rfl rfl (by decide +kernel)) (pi_list (pe_callB (call_sortedD rfl) (by rfl) T.z_sorted (by decide +kernel) (pa_cons (pe_ix ix_list (pv 1) pe_int (fun _ _ => rfl)) pa_nil))) (blkOk_by (N := N_law_leaf) (sc := defScope s_law_leaf) (by decide +kernel)) (fun _ _ _ _ _ => (pg_name (i := 4) sc_law_leaf.nd rfl (Or.inl rfl))) (fun _ _ _ _ _ => (pts_one (PW.pt (pw_and (pt_cmpR op_lt (pe_op op_add (pe_ix (r := rIxT K) ix_tup (pe_dget (hu_of hr) (pe_ix (r := rIxL K) ix_list (pv 1) pe_int (fun _ _ => rfl)) (pv 4) (fun _ _ => rfl)) pe_int (fun _ _ => rfl)) (pv 3)) pe_int (nomark _)) (pw_and1 (pt_cmpR op_lt (pe_ix (r := rIxT K) ix_tup (pe_dget (hu_of hr) (pe_ix (r := rIxL K) ix_list (pv 1) pe_int (fun _ _ => rfl)) (pv 4) (fun _ _ => rfl)) pe_int (fun _ _ => rfl)) pe_int (nomark _))))))) (fun _ _ _ _ _ => (pv 4)))
      (C8.pss_cut (ps_if (PW.pt (pw_and (pt_cmpR (op_neD hr.units) (pv 5) (pe_lst pa_nil) (nomark _)) (pw_and1 (pt_cmpR op_eq (pe_call (ok_law_take T) (hr.mono (by decide)) (by rfl) T.g_law_take T.F_law_take.kp T.b_law_take .nil pass0 (pa_cons (pv 0) (pa_cons pe_int pa_nil))) pe_int (nomark _))))) (pss_cons (ps_set (i := 4) sc_law_leaf.nd rfl (Or.inl rfl) (pe_call (ok_law_pick T) (hr.mono (by decide)) (by rfl) T.g_law_pick T.F_law_pick.kp T.b_law_pick .nil pass0 (pa_cons (pv 0) (pa_cons (pv 5) pa_nil))))
      (pss_cons (ps_set (i := 6) sc_law_leaf.nd rfl (Or.inl rfl) (pe_call (ok_law_some_end T) (hr.mono (by decide)) (by rfl) T.g_law_some_end T.F_law_some_end.kp T.b_law_some_end .nil pass0 (pa_cons (pv 0) (pa_cons (pv 2) (pa_cons (pe_ix ix_list (pv 1) pe_int (fun _ _ => rfl)) pa_nil)))))
      (pss_one (ps_ret (pe_tup (pa_cons pe_str (pa_cons (pv 4) (pa_cons (pe_ifExp (PW.pt (pw_and (pt_val (pe_ix ix_tup (pe_dget (hu_of hr) (pe_ix ix_list (pv 1) pe_int (fun _ _ => rfl)) (pv 4) (fun _ _ => rfl)) pe_int (fun _ _ => rfl))) (pw_and1 (pt_cmpR op_ne (pe_ix ix_tup (pv 6) pe_int (fun _ _ => rfl)) pe_str (nomark _))))) (pe_tup (pa_cons pe_str (pa_cons pe_int pa_nil))) (pv 6)) pa_nil)))))))) pss_nil)
      (pss_one (ps_ret (pe_tup (pa_cons pe_str (pa_cons (pe_ix ix_list (pe_lst (pa_cons (pe_call (ok_law_take T) (hr.mono (by decide)) (by rfl) T.g_law_take T.F_law_take.kp T.b_law_take .nil pass0 (pa_cons (pv 0) (pa_cons pe_int pa_nil))) (pa_cons (pe_call (ok_law_take T) (hr.mono (by decide)) (by rfl) T.g_law_take T.F_law_take.kp T.b_law_take .nil pass0 (pa_cons (pv 0) (pa_cons pe_int pa_nil))) pa_nil))) (pe_call (ok_law_take T) (hr.mono (by decide)) (by rfl) T.g_law_take T.F_law_take.kp T.b_law_take .nil pass0 (pa_cons (pv 0) (pa_cons pe_int pa_nil))) (fun _ _ => rfl)) pa_nil))))))), ?_⟩
  obtain ⟨kvs, e1, e2, e3⟩ := kn.ex
  have ki : ∀ {H'}, Same H H' → SqL K H' kc [.int r, .ref dk, .bl k.fig, .bl k.wide] := fun s => SqL.of (s _ _ kit)
  refine ⟨_, rfl, kc, _, _, _, rfl, rfl, SqL.of kit, (rfl : atI [V.int r, .ref dk, .bl k.fig, .bl k.wide] 1 = some (.ref dk)), dk, kvs, k.kn.map (·.1), rfl, .inl (sg _ _ e1), e2, by rw [List.length_map]; have := kn.len; omega, fun ys p hperm _ hp => ?_⟩
  have s1 : Same H _ := same_upd (o := .lst (ys.map V.str)) hp
  refine ⟨p, rfl, ⟨_, SqL.of upd_same⟩, fun R hR => ?_⟩
  have yl : ys.length < 60 := by
    rw [hperm.length_eq, List.length_map]
    exact kn.len
  let ok1 : Str → Prop := fun x => ∃ en : Bool × Int × Int, ((x, en) ∈ k.kn ∧ en.2.1 + deep < 9 ∧ en.2.2 < 4) ∧ ∃ p, valV kvs (Sum.inr x) = some (.ref p) ∧ G p = some (.tup [.bl en.1, .int en.2.1, .int en.2.2])
  refine lc_it (walk_list (xs := ys.map V.str)) (fun i H' => Same (upd H p (.lst (ys.map V.str))) H' ∧ ∃ fs : List Str, fs.length ≤ i ∧ (∀ x ∈ fs, ok1 x) ∧ H' R = some (.lst (fs.map V.str))) ⟨same_upd hR, [], Nat.le_refl _, (fun _ h => nomatch h), upd_same⟩ (fun i H' _ p => SqL.of (p.1 _ _ upd_same)) ?_ ?_
  · rintro i x H1 H2 hi ⟨sm, fs, fl, fo, eR⟩ ⟨rfl, hx⟩
    have hi : i < ys.length := by simpa using hi
    rw [List.getElem?_map] at hx
    obtain ⟨y, hy, rfl⟩ : ∃ y, ys[i]? = some y ∧ x = .str y := by
      cases h : ys[i]? with
      | none => rw [h] at hx; cases hx
      | some y => rw [h] at hx; exact ⟨y, rfl, (Option.some.inj hx).symm⟩
    have ym : y ∈ k.kn.map (·.1) := hperm.mem_iff.mp (List.mem_of_getElem? hy)
    obtain ⟨en, p2, q1, q2, q3⟩ := e3 y ym
    have s2 := s1.trans sm
    have dg : DGet H2 dk (.str y) (some (.ref p2)) := by
      have := DGet.k (k := Sum.inr y) (s2 _ _ (sg _ _ e1))
      rw [q2] at this
      exact this
    have st : SqT K H2 p2 [.bl en.1, .int en.2.1, .int en.2.2] := SqT.of (s2 _ _ (sg _ _ q3))
    have ak : ∀ {H' : Hp} (s : Same H H'), SqL K H' kc [.int r, .ref dk, .bl k.fig, .bl k.wide] := fun s => ki s
    refine ⟨rfl, ?_⟩
    refine ⟨_, rfl, kc, _, _, _, rfl, rfl, ki s2, (rfl : atI [V.int r, .ref dk, .bl k.fig, .bl k.wide] 1 = some (.ref dk)), _, rfl, dk, _, rfl, dg, p2, _, _, _, rfl, rfl, st, (rfl : atI [V.bl en.1, .int en.2.1, .int en.2.2] 1 = some (.int en.2.1)), _, rfl, _, _, rfl, rfl, _, _, rfl, rfl, _, rfl, ?_⟩
    refine ite2 (fun c1 => ?_) (fun c1 => ?_)
    · have c1' : en.2.1 + deep < 9 := of_decide_eq_true c1
      refine ⟨_, rfl, kc, _, _, _, rfl, rfl, ki s2, (rfl : atI [V.int r, .ref dk, .bl k.fig, .bl k.wide] 1 = some (.ref dk)), _, rfl, dk, _, rfl, dg, p2, _, _, _, rfl, rfl, st, (rfl : atI [V.bl en.1, .int en.2.1, .int en.2.2] 2 = some (.int en.2.2)), _, _, rfl, rfl, _, rfl, ?_⟩
      refine ite2 (fun c2 => ?_) (fun c2 => ?_)
      · have c2' : en.2.2 < 4 := of_decide_eq_true c2
        refine ⟨_, rfl, _, eR, ?_, same_put sm hR, fs ++ [y], ?_, ?_, ?_⟩
        · rw [List.length_map]
          exact small1000 (by omega)
        · rw [List.length_append, List.length_singleton]
          omega
        · intro z hz
          rcases List.mem_append.mp hz with hz | hz
          · exact fo z hz
          · rw [List.mem_singleton.mp hz]
            exact ⟨en, ⟨q1, c1', c2'⟩, p2, q2, q3⟩
        · rw [upd_same, List.map_append]
          rfl
      · exact ⟨sm, fs, by omega, fo, eR⟩
    · exact iteF ⟨sm, fs, by omega, fo, eR⟩
  rintro H1 ⟨sm, fs, fl, fo, eR⟩
  have fl : fs.length < 60 := by
    have : fs.length ≤ (ys.map V.str).length := fl
    rw [List.length_map] at this
    omega
  have s2 := s1.trans sm
  have gr1 : Grow (Only1 d) G H G H1 := ⟨Same.refl _, sg.trans s2, same_but s2, fun _ _ => rfl⟩
  have D1 := (D.mono s1).mono sm
  have dF : ∀ {H' : Hp} {l : List Str}, DpAll K H' (l.map V.str) (l.map PyData.str) := fun {H' l} => by
    induction l with
    | nil => exact .nil
    | cons x l ih => exact .cons (.str _) ih
  have nmOk : ∀ x, ok1 x → NameOk x := fun x ⟨en, h, _⟩ => kn.ok _ h.1
  have stepP : ∀ (H5 : Hp), Grow (Only1 d) G H G H5 → DrawAt H5 d l → ∀ (n : Int), 0 ≤ n → n < 100 → ∀ p, H5 p = none → Q (.ref p) (upd H5 p (.tup [.str "step", .int n])) := fun H5 g5 D5 n h0 h1 p hp => by
    have g6 := g5.new (o := .tup [.str "step", .int n]) hp D5.some'
    refine q _ (.step n) _ _ g6 (D5.upd hp) ?_ ?_ ?_
    · rw [thingD]
      exact .tup (xs := [.str "step", .int n]) (SqT.of upd_same) (.cons (.str _) (.cons (.int _) .nil))
    · rw [ThOk]
      exact ⟨h0, h1⟩
    · simp [thingC]
  refine ⟨fun σ H' => Grow (Only1 d) G H G H' ∧ DrawAt H' d l ∧ ∃ v4 v5 v6, σ = [some (.ref d), some (.ref kc), some (.ref sa), some (.int (deep : Nat)), v4, v5, v6], ?_, ?_⟩
  · refine ⟨_, rfl, by show 0 ≤ sizeLine; decide, fun N hN => ?_⟩
    have sN := same_upd (o := .lst []) hN
    have gr2 := gr1.cell (o := .lst []) hN
    have D2 := D1.upd (o := .lst []) hN
    refine ⟨.list (fs.map PyData.str), .list [], .lst (SqL.of (sN _ _ eR)) dF, .lst (SqL.of upd_same) .nil, shaped_list fun x hx => ⟨strOk_name (nmOk x (fo x hx)), Nat.zero_le _⟩, shaped_nil, _, rfl, ?_⟩
    rw [eqv_nil]
    refine ite2 (fun c1 => ?_) (fun c1 => iteF ⟨gr2, D2, _, _, _, rfl⟩)
    have fne : fs ≠ [] := by
      rintro rfl
      exact absurd c1 (by decide)
    refine ⟨_, rfl, d, l, 2, rfl, D2, by decide, by decide, fun z H3 z0 z1 D3 b3 => ?_⟩
    have gr3 := gr2.trans (Grow.draw gr2.gh gd b3) D2.some'
    refine ⟨rfl, _, rfl, ite2 (fun c2 => ?_) (fun c2 => ⟨gr3, D3, _, _, _, rfl⟩)⟩
    have nRd : R ≠ d := (D.mono s1).ned hR
    have eR3 := b3 _ _ (sN _ _ eR) nRd
    refine ⟨_, rfl, _, rfl, d, l, _, rfl, D3, .inr ⟨R, _, rfl, nRd, .inl (SqL.of eR3), ?_, ?_, fun v H4 hv D4 b4 => ?_⟩⟩
    · rw [List.length_map]
      exact List.length_pos_iff.mpr fne
    · rw [List.length_map]
      omega
    obtain ⟨nm, hnm, rfl⟩ := List.mem_map.mp hv
    have gr4 := gr3.trans (Grow.draw gr3.gh gd b4) D3.some'
    have nkd := kit.ne D
    have kit4 : KitAt H4 kc dk r k := gr4.h _ _ kit nkd
    have sg4 := gr4.gh
    refine ⟨_, rfl, _, rfl, _, rfl, kc, _, _, _, rfl, rfl, SqL.of kit4, (rfl : atI [V.int r, .ref dk, .bl k.fig, .bl k.wide] 3 = some (.bl k.wide)), ?_⟩
    refine ⟨d, l, sa, sc, k.wide, G, rfl, sg4, gd, D4, es, List.ne_nil_of_mem hn, by omega, fun v e G5 H5 g5 D5 de eo => ?_⟩
    have gr5 := gr4.trans g5 D4.some'
    obtain ⟨pe, x, y, rfl, he, hx, hy⟩ := de.tup2
    cases hx.str'
    cases hy.int'
    obtain ⟨en, ⟨hen, hw, hc⟩, p2, q2, q3⟩ := fo nm hnm
    have sg5 := gr5.gh
    have kit5 : KitAt H5 kc dk r k := gr5.h _ _ kit nkd
    have dg : DGet H5 dk (.str nm) (some (.ref p2)) := by
      have := DGet.k (k := Sum.inr nm) (sg5 _ _ (gr5.g _ _ e1))
      rw [q2] at this
      exact this
    have st : SqT K H5 p2 [.bl en.1, .int en.2.1, .int en.2.2] := SqT.of (sg5 _ _ (gr5.g _ _ q3))
    have he5 : SqT K H5 pe [.str e.1, .int e.2] := same_t sg5 he
    have fin : ∀ (H6 : Hp) (G6 : Hp) (e' : En) (v : V) (p : Addr), Grow (Only1 d) G H G6 H6 → DrawAt H6 d l → Dp K G6 v (endD e') → EndOk k.wide sc e' → (en.1 = true → e'.1 = "" ∨ e' = ((Str.ofString "n", 0) : En)) → H6 p = none → Q (.ref p) (upd H6 p (.tup [.str "call", .str nm, v])) := fun H6 G6 e' v p g6 D6 dv eo ef hp => by
      have g7 := g6.new (o := .tup [.str "call", .str nm, v]) hp D6.some'
      have s7 : Same G6 _ := same_upd (o := .tup [.str "call", .str nm, v]) (g6.gh.free hp)
      refine q _ (.call nm e') _ _ g7 (D6.upd hp) ?_ ?_ ?_
      · rw [thingD]
        exact .tup (xs := [.str "call", .str nm, v]) (SqT.of upd_same) (.cons (.str _) (.cons (.str _) (.cons (dv.mono s7) .nil)))
      · rw [ThOk]
        exact ⟨en, hen, hw, hc, eo, ef⟩
      · simp [thingC]
    have dE : Dp K G5 (.ref pe) (endD e) := .tup he (.cons (.str _) (.cons (.int _) .nil))
    refine ⟨_, rfl, ?_⟩
    refine ⟨_, rfl, kc, _, _, _, rfl, rfl, SqL.of kit5, (rfl : atI [V.int r, .ref dk, .bl k.fig, .bl k.wide] 1 = some (.ref dk)), _, rfl, dk, _, rfl, dg, p2, _, _, _, rfl, rfl, st, (rfl : atI [V.bl en.1, .int en.2.1, .int en.2.2] 0 = some (.bl en.1)), _, rfl, ?_⟩
    have useE : (en.1 = true → e.1 = "" ∨ e = ((Str.ofString "n", 0) : En)) → ∃ v, [some (V.ref d), some (V.ref kc), some (V.ref sa), some (V.int (deep : Nat)), some (V.str nm), some (V.ref R), some (V.ref pe)][6]? = some (some v) ∧ 3 ≤ sizeLine ∧ ∀ p, H5 p = none → Q (.ref p) (upd H5 p (.tup [.str "call", .str nm, v])) := fun hf =>
      ⟨_, rfl, by decide, fun p hp => fin H5 G5 e _ p gr5 D5 dE eo hf hp⟩
    refine ite2 (fun c3 => ?_) (fun c3 => iteF (useE (fun h => absurd h c3)))
    refine ⟨_, rfl, pe, _, _, _, rfl, rfl, he5, (rfl : atI [V.str e.1, .int e.2] 0 = some (.str e.1)), rfl, _, rfl, ?_⟩
    refine ite2 (fun c4 => ?_) (fun c4 => useE (fun _ => .inl ?_))
    · refine ⟨by show 2 ≤ sizeLine; decide, fun p hp => ?_⟩
      have g6 := gr5.new (o := .tup [.str "n", .int 0]) hp D5.some'
      refine ⟨by show 3 ≤ sizeLine; decide, fun p' hp' => ?_⟩
      exact fin _ _ ("n", 0) _ p' g6 (D5.upd hp) (.tup (xs := [.str "n", .int 0]) (SqT.of upd_same) (.cons (.str _) (.cons (.int _) .nil))) ⟨by show (0 : Int).natAbs < _; split <;> decide, .inr hn⟩ (fun _ => .inr rfl) hp'
    · have : ¬ (!decide (V.str e.1 = V.str "")) = true := c4
      simp at this
      exact this
  · rintro σ H3 ⟨gr3, D3, v4, v5, v6, rfl⟩
    refine ⟨_, rfl, d, l, 5, rfl, D3, by decide, by decide, fun x1 H4 a0 a1 D4 b4 => ?_⟩
    have gr4 := gr3.trans (Grow.draw gr3.gh gd b4) D3.some'
    refine ⟨_, rfl, d, l, 100, rfl, D4, by decide, by decide, fun x2 H5 c0 c1 D5 b5 => ?_⟩
    have gr5 := gr4.trans (Grow.draw gr4.gh gd b5) D4.some'
    refine ⟨by show 2 ≤ sizeLine; decide, fun L hL => ?_⟩
    have gr6 := gr5.cell (o := .lst [.int x1, .int x2]) hL
    have D6 := D5.upd (o := .lst [.int x1, .int x2]) hL
    refine ⟨_, rfl, d, l, 2, rfl, D6, by decide, by decide, fun x3 H7 e0 e1 D7 b7 => ?_⟩
    have gr7 := gr6.trans (Grow.draw gr6.gh gd b7) D6.some'
    obtain ⟨n, hn, n0, n1⟩ : ∃ n : Int, atI [V.int x1, V.int x2] x3 = some (.int n) ∧ 0 ≤ n ∧ n < 100 := by
      obtain ⟨j, rfl⟩ : ∃ j : Nat, x3 = (j : Int) := ⟨x3.toNat, by omega⟩
      match j, e1 with
      | 0, _ => exact ⟨x1, rfl, a0, by omega⟩
      | 1, _ => exact ⟨x2, rfl, c0, c1⟩
      | j + 2, e => omega
    refine ⟨L, _, _, _, rfl, rfl, SqL.of (b7 _ _ upd_same (D5.ned hL)), hn, by show 2 ≤ sizeLine; decide, fun p hp => ?_⟩
    exact stepP _ gr7 D7 n n0 n1 p hp
theorem kept_split : Txt.split "step for from to if else double call with again on halves thirds less n" " " = keptL := by decide +kernel
/-- the kept words, a new list -/
def spKept : Sp := fun vs H Q _ => vs = [] ∧ ∀ p, H p = none → Q (.ref p) (upd H p (.lst (keptL.map V.str)))
theorem ok_law_kept_words (T : Txt K mg) : FnOk P w K mg base CX0 1 T.a_law_kept_words T.d_law_kept_words [] spKept := by
  refine T.F_law_kept_words.ok sc_law_kept_words (fun vs H Q E h => ?_) (fun cdv A outer s H vs Q E hr h => ?_)
  · obtain ⟨rfl, _⟩ := h
    rfl
  obtain ⟨rfl, k⟩ := h
  refine ⟨_, (pss_one (ps_ret (pe_split pe_str pe_str))), ?_⟩
  refine ⟨⟨_, rfl⟩, _, _, rfl, rfl, by decide +kernel, by decide +kernel, fun p hp => ?_⟩
  rw [kept_split]
  exact k p hp
/-- a name that is free -/
def spFresh (K : PySem.W.Frag) : Sp := fun vs H Q _ => ∃ (d l ta : Addr) (taken : List Str), vs = [.ref d, .ref ta] ∧ DrawAt H d l ∧ H ta = some (.lst (taken.map V.str)) ∧ taken.length ≤ 25 ∧
  ∀ (nm : Str) (H' : Hp), But (Only1 d) H H' → DrawAt H' d l → NameOk nm → nm ∉ taken → Q (.str nm) H'
theorem signs_sum : ∀ cs : List Nat, ((cs.map fun c => (⟨#[c]⟩ : Str)).map (·.length)).sum = cs.length
  | [] => rfl
  | c :: r => by
    rw [List.map_cons, List.map_cons, List.sum_cons, signs_sum r, List.length_cons]
    show 1 + _ = _
    omega
theorem ok_law_fresh (T : Txt K mg) : FnOk P w K mg base CX0 3 T.a_law_fresh T.d_law_fresh ["_law_draw", "_law_taken"] (spFresh K) := by
  refine T.F_law_fresh.ok sc_law_fresh (fun vs H Q E h => ?_) (fun cdv A outer s H vs Q E hr h => ?_)
  · obtain ⟨d, l, ta, taken, rfl, _⟩ := h
    rfl
  obtain ⟨d, l, ta, taken, rfl, D, et, tl, k⟩ := h
  refine ⟨_, (pss_cons (ps_set (i := 2) sc_law_fresh.nd rfl (Or.inl rfl) (pe_ix ix_list (pe_lst (pa_cons pe_int (pa_cons pe_int (pa_cons pe_int (pa_cons pe_int (pa_cons pe_int (pa_cons (pe_op op_add pe_int (pe_call (ok_law_take T) (hr.mono (by decide)) (by rfl) T.g_law_take T.F_law_take.kp T.b_law_take .nil pass0 (pa_cons (pv 0) (pa_cons pe_int pa_nil)))) pa_nil))))))) (pe_call (ok_law_take T) (hr.mono (by decide)) (by rfl) T.g_law_take T.F_law_take.kp T.b_law_take .nil pass0 (pa_cons (pv 0) (pa_cons pe_int pa_nil))) (fun _ _ => rfl)))
      (pss_cons (ps_set (i := 3) sc_law_fresh.nd rfl (Or.inl rfl) (pe_join pe_str (pe_lc (own := [("_law_k", 6)]) (g := gName 6) (tt := tYes) rfl sc_law_fresh.nd (pi_range1 (by rfl) T.z_range (pa_cons (pv 2) pa_nil)) (blkOk_by (N := N_law_fresh) (sc := defScope s_law_fresh) (by decide +kernel)) (fun _ _ _ _ _ => (pg_name (i := 6) sc_law_fresh.nd rfl (Or.inl rfl))) (fun _ _ _ _ _ => pts_nil) (fun _ _ _ _ _ => (pe_call (ok_law_pick T) (hr.mono (by decide)) (by rfl) T.g_law_pick T.F_law_pick.kp T.b_law_pick .nil pass0 (pa_cons (pv 0) (pa_cons pe_str pa_nil)))))))
      (C8.pss_cut (ps_if (PW.pt (pw_and (pt_cmpR op_notIn_seq (pv 3) (pv 1) (by rfl)) (pw_and1 (pt_cmpR op_notIn_seq (pv 3) (pe_call0 (ok_law_kept_words T) (hr.mono (by decide)) (by rfl) T.g_law_kept_words T.F_law_kept_words.kp T.b_law_kept_words .nil pass0) (by rfl))))) (pss_one (ps_ret (pv 3))) pss_nil)
      (pss_cons (ps_setLc (i := 4) (own := [("_law_sign", 5)]) (g := gName 5) (tt := tYes) rfl sc_law_fresh.nd rfl rfl (sw_true rfl rfl rfl (by decide +kernel)) (pi_str pe_str) (blkOk_by (N := N_law_fresh) (sc := defScope s_law_fresh) (by decide +kernel)) (fun _ _ _ _ _ => (pg_name (i := 5) sc_law_fresh.nd rfl (Or.inl rfl))) (fun _ _ _ _ _ => pts_nil) (fun _ _ _ _ _ => (pe_op op_repS (pv 5) pe_int)))
      (pss_one (ps_ret (pe_ix ix_list (pe_lc (own := [("_law_one", 7)]) (g := gName 7) (tt := _) rfl sc_law_fresh.nd (pi_list (pv 4)) (blkOk_by (N := N_law_fresh) (sc := defScope s_law_fresh) (by decide +kernel)) (fun _ _ _ _ _ => (pg_name (i := 7) sc_law_fresh.nd rfl (Or.inl rfl))) (fun _ _ _ _ _ => (pts_one (pt_cmpR (r := rIn K true) op_notIn_seq (pv 7) (pv 1) (by rfl)))) (fun _ _ _ _ _ => (pv 7))) pe_int (fun _ _ => rfl)))))))), ?_⟩
  have ntd : ta ≠ d := by
    rintro rfl
    obtain ⟨ns, p, z, s, e, _⟩ := D.ex
    rw [et] at e
    cases taken with
    | nil => cases e
    | cons x r => cases e
  refine ⟨_, rfl, d, l, 8, rfl, D, by decide, by decide, fun m1 H1 a0 a1 D1 b1 => ?_⟩
  refine ⟨_, _, rfl, rfl, by show 6 ≤ sizeLine; decide, fun L1 hL1 => ?_⟩
  have D2 := D1.upd (o := .lst [.int 1, .int 1, .int 2, .int 3, .int 8, .int (1 + m1)]) hL1
  refine ⟨_, rfl, d, l, 6, rfl, D2, by decide, by decide, fun j H3 j0 j1 D3 b3 => ?_⟩
  obtain ⟨m, hm, hm0, hm1⟩ : ∃ m : Nat, atI [V.int 1, .int 1, .int 2, .int 3, .int 8, .int (1 + m1)] j = some (.int (m : Nat)) ∧ 1 ≤ m ∧ m ≤ 8 := by
    obtain ⟨n, rfl⟩ : ∃ n : Nat, j = (n : Int) := ⟨j.toNat, by omega⟩
    match n, j1 with
    | 0, _ => exact ⟨1, rfl, by decide, by decide⟩
    | 1, _ => exact ⟨1, rfl, by decide, by decide⟩
    | 2, _ => exact ⟨2, rfl, by decide, by decide⟩
    | 3, _ => exact ⟨3, rfl, by decide, by decide⟩
    | 4, _ => exact ⟨8, rfl, by decide, by decide⟩
    | 5, _ => exact ⟨(1 + m1).toNat, by rw [show (((1 + m1).toNat : Nat) : Int) = 1 + m1 by omega]; rfl, by omega, by omega⟩
    | n + 6, e => omega
  have b03 : But (Only1 d) H H3 := (b1.trans (But.new hL1)).trans b3
  refine ⟨L1, _, _, _, rfl, rfl, SqL.of (b3 _ _ upd_same (D1.ned hL1)), hm, ?_⟩
  refine ⟨⟨_, rfl⟩, ?_⟩
  refine ⟨_, rfl, (m : Int), rfl, by omega, by omega, fun R hR => ?_⟩
  have nRd := D3.ned hR
  refine lc_it walk_range (fun i H' => But (Only1 d) H3 H' ∧ DrawAt H' d l ∧ ∃ cs : List Nat, cs.length = i ∧ (∀ c ∈ cs, 97 ≤ c ∧ c ≤ 122) ∧ H' R = some (.lst (cs.map fun c => V.str ⟨#[c]⟩))) ⟨But.new hR, D3.upd hR, [], rfl, (fun _ h => nomatch h), upd_same⟩ (fun _ _ _ _ => trivial) ?_ ?_
  · rintro i x H5 H6 hi ⟨b5, D5, cs, lc, cl, eR⟩ ⟨rfl, rfl⟩
    have hi : i < m := by
      have hi : i < ((m : Int) - 0).toNat := hi
      omega
    refine ⟨rfl, ?_⟩
    refine ⟨_, rfl, d, l, _, rfl, D5, .inl ⟨letters, rfl, by decide +kernel, by decide +kernel, fun c H7 hc D7 b7 => ?_⟩⟩
    have eR7 := b7 _ _ eR nRd
    refine ⟨_, eR7, by rw [List.length_map, lc]; exact Nat.lt_of_lt_of_le hi (Nat.le_trans hm1 (by decide)), ?_⟩
    refine ⟨(b5.trans b7).put0 hR, D7.put nRd (D3.nel hR), cs ++ [c], by rw [List.length_append, lc]; rfl, fun c' h => ?_, by rw [upd_same, List.map_append]; rfl⟩
    rcases List.mem_append.mp h with h | h
    · exact cl c' h
    · rw [List.mem_singleton.mp h]
      exact letters_ok c hc
  rintro H5 ⟨b5, D5, cs, lc, cl, eR⟩
  have lc : cs.length = m := by
    have lc : cs.length = ((m : Int) - 0).toNat := lc
    omega
  refine ⟨_, R, cs.map fun c => (⟨#[c]⟩ : Str), rfl, rfl, .inl (SqL.of (by rw [eR, List.map_map]; rfl)), ?_, ?_⟩
  · rw [List.length_map, signs_sum]
    have e0 : (Str.ofString "").length = 0 := by decide
    rw [e0]
    omega
  rw [join_signs]
  have b05 := b03.trans b5
  have et5 := b05 _ _ et ntd
  have nl : (⟨cs.toArray⟩ : Str).length = m := by
    show cs.toArray.size = m
    rw [List.size_toArray]
    exact lc
  have kn : ∀ H8, But (Only1 d) H H8 → DrawAt H8 d l → ¬ (⟨cs.toArray⟩ : Str) ∈ taken → ¬ (⟨cs.toArray⟩ : Str) ∈ keptL → Q (.str ⟨cs.toArray⟩) H8 := fun H8 b8 D8 h1 h2 =>
    k _ H8 b8 D8 ⟨by rw [nl]; exact hm0, by rw [nl]; exact hm1, cl, h2⟩ h1
  refine ⟨fun σ H' => But (Only1 d) H H' ∧ DrawAt H' d l ∧ ∃ v2 v3 v4 v5 v6 v7, σ = [some (.ref d), some (.ref ta), v2, v3, v4, v5, v6, v7], ?_, ?_⟩
  · refine ⟨_, rfl, _, rfl, ta, _, rfl, .inl (SqL.of et5), rfl, flat_strs _, _, rfl, ?_⟩
    rw [show (if true = true then !inV (V.str ⟨cs.toArray⟩) (taken.map V.str) else inV (V.str ⟨cs.toArray⟩) (taken.map V.str)) = !decide ((⟨cs.toArray⟩ : Str) ∈ taken) by rw [if_pos rfl, inV_strs]]
    refine ite2 (fun c1 => ?_) (fun c1 => ?_)
    · have c1' : ¬ (⟨cs.toArray⟩ : Str) ∈ taken := by simpa using c1
      refine ⟨_, rfl, rfl, fun p hp => ⟨p, _, rfl, .inl (SqL.of upd_same), rfl, flat_strs _, _, rfl, ?_⟩⟩
      rw [show (if true = true then !inV (V.str ⟨cs.toArray⟩) (keptL.map V.str) else inV (V.str ⟨cs.toArray⟩) (keptL.map V.str)) = !decide ((⟨cs.toArray⟩ : Str) ∈ keptL) by rw [if_pos rfl, inV_strs]]
      have b6 := b05.trans (But.new (o := .lst (keptL.map V.str)) hp)
      have D6 := D5.upd (o := .lst (keptL.map V.str)) hp
      refine ite2 (fun c2 => ?_) (fun c2 => ?_)
      · have c2' : ¬ (⟨cs.toArray⟩ : Str) ∈ keptL := by simpa using c2
        exact ⟨_, rfl, kn _ b6 D6 c1' c2'⟩
      · exact ⟨b6, D6, _, _, _, _, _, _, rfl⟩
    · exact iteF ⟨b05, D5, _, _, _, _, _, _, rfl⟩
  · rintro σ H6 ⟨b6, D6, v2, v3, v4, v5, v6, v7, rfl⟩
    refine ⟨letters, rfl, fun S hS => ?_⟩
    have n26 : letters.cps.size = 26 := by decide +kernel
    have sp26 : spares.length = 26 := spares_len
    have rep_ok : ∀ c : Nat, (repS (⟨#[c]⟩ : Str) 2).length = 2 := fun c => rfl
    refine lc_pure walk_str (fun j => .str (spares.getD j Str.empty)) (by rw [n26]; decide) hS (fun _ _ => trivial) ?_ ?_
    · rintro j x H7 H8 Q' hj s7 ⟨rfl, c, hc, rfl⟩ kq
      have e : spares.getD j Str.empty = repS (⟨#[c]⟩ : Str) 2 := by
        refine getD_of' ?_
        unfold spares
        rw [List.getElem?_map, Array.getElem?_toList, hc]
        rfl
      refine ⟨rfl, ?_⟩
      refine ⟨_, rfl, _, 2, rfl, rfl, by decide, by decide, (by show 0 < 1; decide), (by show 1 * 2 ≤ 2 ^ 20; decide), (by show 2 ≤ sizeLine; decide), ?_⟩
      have q := kq _ (Same.refl _)
      rw [e] at q
      exact q
    intro H7 s7 eS
    have eS : H7 S = some (.lst (spares.map V.str)) := by
      rw [eS, n26, ← sp26]
      show some (HO.lst ((List.range _).map (V.str ∘ fun j => spares.getD j Str.empty))) = _
      rw [← List.map_map, range_getD]
    have b7 := b6.trans (same_but s7)
    have et7 := b7 _ _ et ntd
    refine ⟨_, rfl, S, rfl, ⟨_, SqL.of eS⟩, fun R2 hR2 => ?_⟩
    refine lc_it (walk_list (xs := spares.map V.str)) (fun i H' => Same H7 H' ∧ H' R2 = some (.lst (((spares.take i).filter fun x => !decide (x ∈ taken)).map V.str))) ⟨same_upd hR2, upd_same⟩ (fun i H' _ p => SqL.of (p.1 _ _ eS)) ?_ ?_
    · rintro i x H8 H9 hi ⟨s8, eR2⟩ ⟨rfl, hx⟩
      rw [List.getElem?_map] at hx
      obtain ⟨y, hy, rfl⟩ : ∃ y, spares[i]? = some y ∧ x = .str y := by
        cases h : spares[i]? with
        | none => rw [h] at hx; cases hx
        | some y => rw [h] at hx; exact ⟨y, rfl, (Option.some.inj hx).symm⟩
      refine ⟨rfl, ?_⟩
      refine ⟨_, rfl, _, rfl, ta, _, rfl, .inl (SqL.of (s8 _ _ et7)), rfl, flat_strs _, _, rfl, ?_⟩
      rw [show (if true = true then !inV (V.str y) (taken.map V.str) else inV (V.str y) (taken.map V.str)) = !decide (y ∈ taken) by rw [if_pos rfl, inV_strs]]
      have e : (spares.take (i + 1)).filter (fun x => !decide (x ∈ taken)) = (spares.take i).filter (fun x => !decide (x ∈ taken)) ++ (if (!decide (y ∈ taken)) = true then [y] else []) := by
        rw [take_snoc hy, List.filter_append, List.filter_cons, List.filter_nil]
      refine ite2 (fun c => ?_) (fun c => ?_)
      · rw [if_pos c] at e
        refine ⟨_, rfl, _, eR2, ?_, same_put s8 hR2, ?_⟩
        · rw [List.length_map]
          refine Nat.lt_of_le_of_lt (List.length_filter_le ..) ?_
          rw [List.length_take, sp26]
          exact Nat.lt_of_le_of_lt (Nat.min_le_right ..) (by decide)
        · rw [upd_same, e, List.map_append]
          rfl
      · rw [if_neg c, List.append_nil] at e
        rw [e]
        exact ⟨s8, eR2⟩
    rintro H8 ⟨s8, eR2⟩
    have ef : (spares.take (spares.map V.str).length).filter (fun x => !decide (x ∈ taken)) = spares.filter fun x => !decide (x ∈ taken) := by
      rw [List.length_map, List.take_length]
    rw [ef] at eR2
    obtain ⟨x, hx1, hx2⟩ := spare_free tl
    cases hz : spares.filter (fun x => !decide (x ∈ taken)) with
    | nil =>
      have : x ∈ spares.filter (fun x => !decide (x ∈ taken)) := List.mem_filter.mpr ⟨hx1, by simpa using hx2⟩
      rw [hz] at this
      cases this
    | cons y r =>
      rw [hz] at eR2
      have hy : y ∈ spares.filter (fun x => !decide (x ∈ taken)) := by rw [hz]; exact List.mem_cons_self ..
      obtain ⟨hy1, hy2⟩ := List.mem_filter.mp hy
      obtain ⟨o1, o2, o3⟩ := spares_ok y hy1
      refine ⟨R2, _, _, _, rfl, rfl, SqL.of eR2, atI_nat (j := 0) (xs := V.str y :: r.map V.str) rfl, ?_⟩
      exact k y _ (b7.trans (same_but s8)) ((D6.mono s7).mono s8) ⟨by omega, by omega, o2, o3⟩ (by simpa using hy2)
theorem thing_step (T : Txt K mg) (f : Nat) (G_law_drawn_body : FnOk P w K mg base CX0 (2 * f + 11) T.a_law_drawn_body T.d_law_drawn_body ["_law_draw", "_law_kit", "_law_scope", "_law_deep"] (spBody K f)) :
    FnOk P w K mg base CX0 (2 * f + 12) T.a_law_drawn_thing T.d_law_drawn_thing ["_law_draw", "_law_kit", "_law_scope", "_law_deep"] (spThing K (f + 1)) := by
  refine T.F_law_drawn_thing.ok sc_law_drawn_thing (fun vs H Q E h => ?_) (fun cdv A outer s H vs Q E hr h => ?_)
  · obtain ⟨d, l, kc, dk, sa, sc, k, r, deep, G, rfl, _⟩ := h
    rfl
  obtain ⟨d, l, kc, dk, sa, sc, k, r, deep, G, rfl, sg, gd, gk, D, kit, kn, es, hn, sl, r1, dp4, hf, q⟩ := h
  refine ⟨_, (pss_cons (ps_asg (pe_op op_sub (pe_ix ix_list (pv 1) pe_int (fun _ _ => rfl)) pe_int) (pg_sub (pv 1) pe_int set_list))
      (pss_cons (ps_set (i := 4) sc_law_drawn_thing.nd rfl (Or.inl rfl) (pe_call (ok_law_take T) (hr.mono (by omega)) (by rfl) T.g_law_take T.F_law_take.kp T.b_law_take .nil pass0 (pa_cons (pv 0) (pa_cons pe_int pa_nil))))
      (C8.pss_cut (ps_if (PW.pt (pw_or (pt_cmpR op_lt (pe_ix ix_list (pv 1) pe_int (fun _ _ => rfl)) pe_int (nomark _)) (pw_or (pt_cmpR op_gt (pv 3) pe_int (nomark _)) (pw_or1 (pt_cmpR op_lt (pv 4) pe_int (nomark _)))))) (pss_one (ps_ret (pe_call (ok_law_leaf T) (hr.mono (by omega)) (by rfl) T.g_law_leaf T.F_law_leaf.kp T.b_law_leaf .nil pass0 (pa_cons (pv 0) (pa_cons (pv 1) (pa_cons (pv 2) (pa_cons (pv 3) pa_nil))))))) pss_nil)
      (C8.pss_cut (ps_if (PW.pt (pw_and (pt_cmpR op_eq (pv 4) pe_int (nomark _)) (pw_and1 (pt_val (pe_ix ix_list (pv 1) pe_int (fun _ _ => rfl)))))) (pss_one (ps_ret (pe_tup (pa_cons pe_str (pa_cons (pe_call G_law_drawn_body (hr.mono (by omega)) (by rfl) T.g_law_drawn_body T.F_law_drawn_body.kp T.b_law_drawn_body .nil pass0 (pa_cons (pv 0) (pa_cons (pv 1) (pa_cons (pv 2) (pa_cons (pe_op op_add (pv 3) pe_int) pa_nil))))) pa_nil))))) pss_nil)
      (pss_cons (ps_par (i := 5) (j := 6) (by rfl) sc_law_drawn_thing.nd rfl rfl (by decide) rfl rfl (pa_cons (pe_call (ok_law_some_end T) (hr.mono (by omega)) (by rfl) T.g_law_some_end T.F_law_some_end.kp T.b_law_some_end .nil pass0 (pa_cons (pv 0) (pa_cons (pv 2) (pa_cons (pe_ix ix_list (pv 1) pe_int (fun _ _ => rfl)) pa_nil)))) (pa_cons (pe_call (ok_law_some_end T) (hr.mono (by omega)) (by rfl) T.g_law_some_end T.F_law_some_end.kp T.b_law_some_end .nil pass0 (pa_cons (pv 0) (pa_cons (pv 2) (pa_cons (pe_ix ix_list (pv 1) pe_int (fun _ _ => rfl)) pa_nil)))) pa_nil)) (by rfl))
      (pss_cons (ps_if (pt_cmpR op_lt (pv 4) pe_int (nomark _)) (pss_cons (ps_set (i := 7) sc_law_drawn_thing.nd rfl (Or.inl rfl) (pe_call (ok_law_fresh T) (hr.mono (by omega)) (by rfl) T.g_law_fresh T.F_law_fresh.kp T.b_law_fresh .nil pass0 (pa_cons (pv 0) (pa_cons (pv 2) pa_nil))))
      (pss_one (ps_ret (pe_tup (pa_cons pe_str (pa_cons (pv 7) (pa_cons (pv 5) (pa_cons (pv 6) (pa_cons (pe_call G_law_drawn_body (hr.mono (by omega)) (by rfl) T.g_law_drawn_body T.F_law_drawn_body.kp T.b_law_drawn_body .nil pass0 (pa_cons (pv 0) (pa_cons (pv 1) (pa_cons (pe_op op_cat (pv 2) (pe_lst (pa_cons (pv 7) pa_nil))) (pa_cons (pe_op op_add (pv 3) pe_int) pa_nil))))) pa_nil))))))))) pss_nil)
      (pss_cons (ps_asg (pe_op op_sub (pe_ix ix_list (pv 1) pe_int (fun _ _ => rfl)) pe_int) (pg_sub (pv 1) pe_int set_list))
      (pss_cons (ps_set (i := 8) sc_law_drawn_thing.nd rfl (Or.inl rfl) (pe_call G_law_drawn_body (hr.mono (by omega)) (by rfl) T.g_law_drawn_body T.F_law_drawn_body.kp T.b_law_drawn_body .nil pass0 (pa_cons (pv 0) (pa_cons (pv 1) (pa_cons (pv 2) (pa_cons (pe_op op_add (pv 3) pe_int) pa_nil))))))
      (pss_cons (ps_asg (pe_op op_add (pe_ix ix_list (pv 1) pe_int (fun _ _ => rfl)) pe_int) (pg_sub (pv 1) pe_int set_list))
      (pss_cons (ps_set (i := 9) sc_law_drawn_thing.nd rfl (Or.inl rfl) (pe_ifExp (pt_cmpR op_eq (pe_call (ok_law_take T) (hr.mono (by omega)) (by rfl) T.g_law_take T.F_law_take.kp T.b_law_take .nil pass0 (pa_cons (pv 0) (pa_cons pe_int pa_nil))) pe_int (nomark _)) (pe_tup pa_nil) (pe_call G_law_drawn_body (hr.mono (by omega)) (by rfl) T.g_law_drawn_body T.F_law_drawn_body.kp T.b_law_drawn_body .nil pass0 (pa_cons (pv 0) (pa_cons (pv 1) (pa_cons (pv 2) (pa_cons (pe_op op_add (pv 3) pe_int) pa_nil)))))))
      (pss_one (ps_ret (pe_tup (pa_cons pe_str (pa_cons (pv 5) (pa_cons (pv 6) (pa_cons (pv 8) (pa_cons (pv 9) pa_nil)))))))))))))))))), ?_⟩
  have nkd := kit.ne D
  have nkl := kit.nel D
  refine ⟨_, rfl, kc, _, 0, .int r, rfl, rfl, SqL.of kit, rfl, r, 1, rfl, rfl, _, rfl, kc, _, 0, 0, rfl, rfl, kit, rfl, ?_⟩
  have kit1 : KitAt (upd H kc (.lst [.int (r - 1), .ref dk, .bl k.fig, .bl k.wide])) kc dk (r - 1) k := upd_same
  have D1 : DrawAt (upd H kc (.lst [.int (r - 1), .ref dk, .bl k.fig, .bl k.wide])) d l := D.put nkd nkl
  have g1 : Grow (Two d kc) G H G (upd H kc (.lst [.int (r - 1), .ref dk, .bl k.fig, .bl k.wide])) := (Grow.refl sg).put gk (.inr (.inr rfl))
  refine ⟨_, rfl, d, l, 9, rfl, D1, by decide, by decide, fun fk H2 f0 f1 D2 b2 => ?_⟩
  have g2 := g1.trans (Grow.one (Grow.draw g1.gh gd b2)) (two_cell D1 kit1)
  have kit2 := kit1.but nkd b2
  clear b2 g1 D1 kit1
  -- a leaf?
  have lf : ∀ Q' : VK, (∀ v H', Q v H' → Q' v H') → spLeaf K [.ref d, .ref kc, .ref sa, .int (deep : Nat)] H2 Q' E0 := fun Q' hq =>
    ⟨d, l, kc, dk, sa, sc, k, _, deep, G, rfl, g2.gh, gd, D2, kit2, kn, es, hn, by omega, fun v t G3 H3 g3 D3 dv ok c1 => hq _ _ (q v t G3 H3 (g2.trans (Grow.one g3) (two_cell D2 kit2)) D3 (by rw [c1]; exact g3.h _ _ kit2 nkd) (by rw [c1]; exact r1) dv ok)⟩
  refine ⟨fun σ H' => H2 = H' ∧ 2 ≤ r - 1 ∧ deep ≤ 3 ∧ σ = [some (.ref d), some (.ref kc), some (.ref sa), some (.int (deep : Nat)), some (.int fk), none, none, none, none, none], ?_, ?_⟩
  · refine ⟨_, rfl, kc, _, 0, .int (r - 1), rfl, rfl, SqL.of kit2, rfl, _, _, rfl, rfl, _, rfl, ?_⟩
    refine ite2 (fun _ => ⟨_, rfl, _, rfl, _, rfl, _, rfl, lf _ (fun _ _ h => h)⟩) (fun c1 => ?_)
    have c1' : ¬ (r - 1 < 2) := fun e => c1 (decide_eq_true e)
    refine ⟨_, rfl, _, _, rfl, rfl, _, rfl, ?_⟩
    refine ite2 (fun _ => ⟨_, rfl, _, rfl, _, rfl, _, rfl, lf _ (fun _ _ h => h)⟩) (fun c2 => ?_)
    have c2' : ¬ ((deep : Int) > 3) := fun e => c2 (decide_eq_true e)
    refine ⟨_, rfl, _, _, rfl, rfl, _, rfl, ?_⟩
    refine ite2 (fun _ => ⟨_, rfl, _, rfl, _, rfl, _, rfl, lf _ (fun _ _ h => h)⟩) (fun c3 => ?_)
    exact ⟨rfl, by omega, by omega, rfl⟩
  rintro σ H' ⟨rfl, r3, d3, rfl⟩
  clear lf
  -- a body below
  have bd : ∀ (G3 H3 : Hp) (sb : Addr) (sc' : List Str) (r' : Int) (Q' : VK), Grow (Two d kc) G H G3 H3 → DrawAt H3 d l → KitAt H3 kc dk r' k → G3 sb = some (.lst (sc'.map V.str)) → (Str.ofString "n") ∈ sc' → sc'.length ≤ deep + 11 → 1 ≤ r' →
      (∀ (v : V) (b : List Thing) (G4 H4 : Hp), Grow (Two d kc) G H G4 H4 → Same G3 G4 → DrawAt H4 d l → KitAt H4 kc dk (r' - thingsC b) k → (thingsC b : Int) ≤ r' → Dp K G4 v (planD b) → BdOk k b sc' (deep + 1) → 1 ≤ b.length → b.length ≤ 3 → Q' v H4) →
      spBody K f [.ref d, .ref kc, .ref sb, .int ((deep : Int) + 1)] H3 Q' E0 := fun G3 H3 sb sc' r' Q' g3 D3 kit3 es' hn' sl' hr' hq => by
    refine ⟨d, l, kc, dk, sb, sc', k, r', deep + 1, G3, rfl, g3.gh, g3.none gd D.cell, g3.none gk (cell_lst kit), D3, kit3, kn.mono g3.g, es', hn', by omega, hr', by omega, by omega, fun v b G4 H4 g4 D4 kit4 cb dv ok l1 l2 => ?_⟩
    exact hq v b G4 H4 (g3.trans g4 (two_cell D3 kit3)) g4.g D4 kit4 cb dv ok l1 l2
  have fin : ∀ (G6 H6 : Hp) (xs : List V) (t : Thing) (ds : List PyData) (p : Addr), Grow (Two d kc) G H G6 H6 → DrawAt H6 d l → KitAt H6 kc dk (r - thingC t) k → (thingC t : Int) ≤ r → thingD t = .tuple ds → DpAll K G6 xs ds → ThOk k t sc deep → H6 p = none → Q (.ref p) (upd H6 p (.tup xs)) := fun G6 H6 xs t ds p g6 D6 kit6 hc ht hd ho hp => by
    have g7 := g6.new (o := .tup xs) hp (two_cell D6 kit6)
    have s7 : Same G6 _ := same_upd (o := .tup xs) (g6.gh.free hp)
    refine q _ t _ _ g7 (D6.upd hp) ((same_upd hp) _ _ kit6) hc ?_ ho
    rw [ht]
    exact .tup (SqT.of upd_same) (hd.mono s7)
  refine ⟨fun σ H' => H2 = H' ∧ σ = [some (.ref d), some (.ref kc), some (.ref sa), some (.int (deep : Nat)), some (.int fk), none, none, none, none, none], ?_, ?_⟩
  · refine ⟨_, rfl, rfl, _, rfl, ?_⟩
    refine ite2 (fun _ => ?_) (fun _ => iteF ⟨rfl, rfl⟩)
    refine ⟨_, rfl, kc, _, 2, .bl k.fig, rfl, rfl, SqL.of kit2, rfl, _, rfl, ?_⟩
    refine ite2 (fun c => ?_) (fun _ => ⟨rfl, rfl⟩)
    refine ⟨_, rfl, _, rfl, _, rfl, _, rfl, _, _, rfl, rfl, ?_⟩
    refine bd G H2 sa sc (r - 1) _ g2 D2 kit2 es hn (by omega) (by omega) fun v b G4 H4 g4 _ D4 kit4 cb dv ok l1 l2 => ?_
    refine ⟨by show 2 ≤ sizeLine; decide, fun p hp => ?_⟩
    refine fin G4 H4 [.str "double", v] (.double b) [.str "double", planD b] p g4 D4 ?_ ?_ (by rw [thingD]; rfl) (.cons (.str _) (.cons dv .nil)) ?_ hp
    · rw [thingC]
      rw [show r - ((thingsC b + 1 : Nat) : Int) = r - 1 - thingsC b by omega]
      exact kit4
    · rw [thingC]
      omega
    · rw [ThOk]
      exact ⟨d3, c, l1, l2, ok⟩
  rintro σ H' ⟨rfl, rfl⟩
  -- the two ends
  refine ⟨_, rfl, _, rfl, _, rfl, kc, _, 3, .bl k.wide, rfl, rfl, SqL.of kit2, rfl, ?_⟩
  refine ⟨d, l, sa, sc, k.wide, G, rfl, g2.gh, gd, D2, es, List.ne_nil_of_mem hn, by omega, fun v1 e1 G3 H3 g3 D3 dv1 eo1 => ?_⟩
  have g23 := g2.trans (Grow.one g3) (two_cell D2 kit2)
  have kit3 := kit2.but nkd g3.h
  refine ⟨_, rfl, _, rfl, _, rfl, kc, _, 3, .bl k.wide, rfl, rfl, SqL.of kit3, rfl, ?_⟩
  refine ⟨d, l, sa, sc, k.wide, G3, rfl, g23.gh, g23.none gd D.cell, D3, g23.g _ _ es, List.ne_nil_of_mem hn, by omega, fun v2 e2 G4 H4 g4 D4 dv2 eo2 => ?_⟩
  have g24 := g23.trans (Grow.one g4) (two_cell D3 kit3)
  have kit4 := kit3.but nkd g4.h
  have dv1' := dv1.mono g4.g
  try unfold tNil
  refine ⟨_, _, rfl, _, rfl, _, _, rfl, rfl, _, rfl, ?_⟩
  have lm : ((sc ++ [(Str.ofString "")]).map V.str).length ≤ 1000 := by
    rw [List.length_map, List.length_append, List.length_singleton]
    omega
  refine ite2 (fun _ => ?_) (fun _ => ?_)
  · refine ⟨_, rfl, _, rfl, d, l, sa, sc, rfl, D4, g24.gh _ _ (g24.g _ _ es), by omega, fun nm H5 b5 D5 no ns => ?_⟩
    have g5 := g24.trans (Grow.one (Grow.draw g24.gh (g24.none gd D.cell) b5)) (two_cell D4 kit4)
    have kit5 := kit4.but nkd b5
    refine ⟨_, rfl, _, rfl, _, rfl, _, rfl, _, rfl, _, rfl, _, rfl, by show 1 ≤ sizeLine; decide, fun L hL => ?_⟩
    have g6 := g5.cell (o := .lst [.str nm]) hL
    have D6 := D5.upd (o := .lst [.str nm]) hL
    have kit6 : KitAt (upd H5 L (.lst [.str nm])) kc dk (r - 1) k := (same_upd hL) _ _ kit5
    have es6 : (upd H5 L (.lst [.str nm])) sa = some (.lst (sc.map V.str)) := g6.gh _ _ (g5.g _ _ es)
    refine ⟨sa, L, _, _, rfl, rfl, es6, upd_same, ?_, fun S hS => ?_⟩
    · rw [List.length_map, List.length_singleton]
      exact Nat.le_trans (m := 1000) (by omega) (by decide)
    have g7 := g6.new (o := .lst (sc.map V.str ++ [.str nm])) hS (two_cell D6 kit6)
    have s7 : Same G4 _ := same_upd (o := .lst (sc.map V.str ++ [.str nm])) (g6.gh.free hS)
    refine ⟨_, rfl, _, _, rfl, rfl, ?_⟩
    refine bd _ _ S (sc ++ [nm]) (r - 1) _ g7 (D6.upd hS) ((same_upd hS) _ _ kit6) (by rw [upd_same, List.map_append]; rfl) (List.mem_append_left _ hn) (by rw [List.length_append, List.length_singleton]; omega) (by omega) fun v b G8 H8 g8 s8 D8 kit8 cb dv ok l1 l2 => ?_
    refine ⟨by show 5 ≤ sizeLine; decide, fun p hp => ?_⟩
    have s48 := s7.trans s8
    refine fin G8 H8 [.str "for", .str nm, v1, v2, v] (.loop nm e1 e2 b) [.str "for", .str nm, endD e1, endD e2, planD b] p g8 D8 ?_ ?_ (by rw [thingD]; rfl) (.cons (.str _) (.cons (.str _) (.cons (dv1'.mono s48) (.cons (dv2.mono s48) (.cons dv .nil))))) ?_ hp
    · rw [thingC]
      rw [show r - ((thingsC b + 1 : Nat) : Int) = r - 1 - thingsC b by omega]
      exact kit8
    · rw [thingC]
      omega
    · rw [ThOk]
      exact ⟨d3, no, ns, eo1, eo2, l1, l2, ok⟩
  · -- a test
    refine ⟨_, rfl, kc, _, 0, .int (r - 1), rfl, rfl, SqL.of kit4, rfl, _, 1, rfl, rfl, _, rfl, kc, _, 0, 0, rfl, rfl, kit4, rfl, ?_⟩
    have kit5 : KitAt (upd H4 kc (.lst [.int (r - 1 - 1), .ref dk, .bl k.fig, .bl k.wide])) kc dk (r - 1 - 1) k := upd_same
    have D5 : DrawAt (upd H4 kc (.lst [.int (r - 1 - 1), .ref dk, .bl k.fig, .bl k.wide])) d l := D4.put nkd (kit4.nel D4)
    have gk4 := g24.none gk (cell_lst kit)
    have g5 : Grow (Two d kc) G H G4 (upd H4 kc (.lst [.int (r - 1 - 1), .ref dk, .bl k.fig, .bl k.wide])) := g24.put gk4 (.inr (.inr rfl))
    refine ⟨_, rfl, _, rfl, _, rfl, _, rfl, _, _, rfl, rfl, ?_⟩
    refine bd _ _ sa sc (r - 1 - 1) _ g5 D5 kit5 (g24.g _ _ es) hn (by omega) (by omega) fun v3 b3 G6 H6 g6 s6 D6 kit6 cb3 dv3 ok3 l31 l32 => ?_
    have gk6 := g6.none gk (cell_lst kit)
    refine ⟨_, rfl, kc, _, 0, .int (r - 1 - 1 - thingsC b3), rfl, rfl, SqL.of kit6, rfl, _, 1, rfl, rfl, _, rfl, kc, _, 0, 0, rfl, rfl, kit6, rfl, ?_⟩
    have kit7 : KitAt (upd H6 kc (.lst [.int (r - 1 - 1 - thingsC b3 + 1), .ref dk, .bl k.fig, .bl k.wide])) kc dk (r - 1 - 1 - thingsC b3 + 1) k := upd_same
    have D7 : DrawAt (upd H6 kc (.lst [.int (r - 1 - 1 - thingsC b3 + 1), .ref dk, .bl k.fig, .bl k.wide])) d l := D6.put nkd (kit6.nel D6)
    have g7 : Grow (Two d kc) G H G6 (upd H6 kc (.lst [.int (r - 1 - 1 - thingsC b3 + 1), .ref dk, .bl k.fig, .bl k.wide])) := g6.put gk6 (.inr (.inr rfl))
    refine ⟨_, rfl, d, l, 2, rfl, D7, by decide, by decide, fun z H8 z0 z1 D8 b8 => ?_⟩
    have g8 := g7.trans (Grow.one (Grow.draw g7.gh (g7.none gd D.cell) b8)) (two_cell D7 kit7)
    have kit8 := kit7.but nkd b8
    refine ⟨rfl, _, rfl, ite2 (fun _ => ?_) (fun _ => ?_)⟩
    · refine ⟨by show 0 ≤ sizeLine; decide, fun R hR => ?_⟩
      have g9 := g8.new (o := .tup []) hR (two_cell D8 kit8)
      have s9 : Same G6 _ := same_upd (o := .tup []) (g8.gh.free hR)
      refine ⟨_, rfl, _, rfl, _, rfl, _, rfl, by show 5 ≤ sizeLine; decide, fun p hp => ?_⟩
      have s49 := s6.trans s9
      refine fin _ _ [.str "if", v1, v2, v3, .ref R] (.test e1 e2 b3 []) [.str "if", endD e1, endD e2, planD b3, planD []] p g9 (D8.upd hR) ?_ ?_ (by rw [thingD]; rfl) (.cons (.str _) (.cons (dv1'.mono s49) (.cons (dv2.mono s49) (.cons (dv3.mono s9) (.cons ?_ .nil))))) ?_ hp
      · rw [thingC, thingsC]
        rw [show r - ((thingsC b3 + 0 + 1 : Nat) : Int) = r - 1 - 1 - thingsC b3 + 1 by omega]
        exact (same_upd hR) _ _ kit8
      · rw [thingC, thingsC]
        omega
      · unfold planD thingsD
        exact .tup (xs := []) (SqT.of upd_same) .nil
      · rw [ThOk]
        exact ⟨d3, eo1, eo2, l31, l32, by decide, ok3, .nil⟩
    · refine ⟨_, rfl, _, rfl, _, rfl, _, rfl, _, _, rfl, rfl, ?_⟩
      refine bd _ _ sa sc _ _ g8 D8 kit8 (s6 _ _ (g24.g _ _ es)) hn (by omega) (by omega) fun v4 b4 G9 H9 g9 s9 D9 kit9 cb4 dv4 ok4 l41 l42 => ?_
      refine ⟨_, rfl, _, rfl, _, rfl, _, rfl, by show 5 ≤ sizeLine; decide, fun p hp => ?_⟩
      have s49 := s6.trans s9
      refine fin _ _ [.str "if", v1, v2, v3, v4] (.test e1 e2 b3 b4) [.str "if", endD e1, endD e2, planD b3, planD b4] p g9 D9 ?_ ?_ (by rw [thingD]; rfl) (.cons (.str _) (.cons (dv1'.mono s49) (.cons (dv2.mono s49) (.cons (dv3.mono s9) (.cons dv4 .nil))))) ?_ hp
      · rw [thingC]
        rw [show r - ((thingsC b3 + thingsC b4 + 1 : Nat) : Int) = r - 1 - 1 - thingsC b3 + 1 - thingsC b4 by omega]
        exact kit9
      · rw [thingC]
        omega
      · rw [ThOk]
        exact ⟨d3, eo1, eo2, l31, l32, l42, ok3, ok4⟩
theorem body_step (T : Txt K mg) (f : Nat) (G_law_drawn_thing : FnOk P w K mg base CX0 (2 * f + 10) T.a_law_drawn_thing T.d_law_drawn_thing ["_law_draw", "_law_kit", "_law_scope", "_law_deep"] (spThing K f)) :
    FnOk P w K mg base CX0 (2 * f + 11) T.a_law_drawn_body T.d_law_drawn_body ["_law_draw", "_law_kit", "_law_scope", "_law_deep"] (spBody K f) := by
  refine T.F_law_drawn_body.ok sc_law_drawn_body (fun vs H Q E h => ?_) (fun cdv A outer s H vs Q E hr h => ?_)
  · obtain ⟨d, l, kc, dk, sa, sc, k, r, deep, G, rfl, _⟩ := h
    rfl
  obtain ⟨d, l, kc, dk, sa, sc, k, r, deep, G, rfl, sg, gd, gk, D, kit, kn, es, hn, sl, r1, dp4, hf, q⟩ := h
  refine ⟨_, (pss_cons (ps_set (i := 4) sc_law_drawn_body.nd rfl (Or.inl rfl) (pe_lst (pa_cons (pe_call G_law_drawn_thing (hr.mono (by omega)) (by rfl) T.g_law_drawn_thing T.F_law_drawn_thing.kp T.b_law_drawn_thing .nil pass0 (pa_cons (pv 0) (pa_cons (pv 1) (pa_cons (pv 2) (pa_cons (pv 3) pa_nil))))) pa_nil)))
      (pss_cons (ps_for PassesOwn.never rfl (pi_range1 (by rfl) T.z_range (pa_cons (pe_call (ok_law_take T) (hr.mono (by omega)) (by rfl) T.g_law_take T.F_law_take.kp T.b_law_take .nil pass0 (pa_cons (pv 0) (pa_cons pe_int pa_nil))) pa_nil)) (pg_name (i := 5) sc_law_drawn_body.nd rfl (Or.inl rfl)) (pss_one (ps_if (pt_cmpR op_gt (pe_ix ix_list (pv 1) pe_int (fun _ _ => rfl)) pe_int (nomark _)) (pss_one (ps_expr (pe_bm PySem.F.plainAttrs_list PySem.F.slot_list_append PySem.F.type_list_append mt_append (pv 4) (pa_cons (pe_call G_law_drawn_thing (hr.mono (by omega)) (by rfl) T.g_law_drawn_thing T.F_law_drawn_thing.kp T.b_law_drawn_thing .nil pass0 (pa_cons (pv 0) (pa_cons (pv 1) (pa_cons (pv 2) (pa_cons (pv 3) pa_nil))))) pa_nil)))) pss_nil)))
      (pss_one (ps_ret (pe_callTy call_tuple_of (by rfl) T.z_tuple (by decide +kernel) (pa_cons (pv 4) pa_nil)))))), ?_⟩
  have nkd := kit.ne D
  refine ⟨_, rfl, _, rfl, _, rfl, _, rfl, d, l, kc, dk, sa, sc, k, r, deep, G, rfl, sg, gd, gk, D, kit, kn, es, hn, sl, r1, dp4, hf, fun v t G1 H1 g1 D1 kit1 c1 dv ok => ?_⟩
  refine ⟨by show 1 ≤ sizeLine; decide, fun L hL => ?_⟩
  have g2 := g1.cell (o := .lst [v]) hL
  have D2 := D1.upd (o := .lst [v]) hL
  have kit2 : KitAt (upd H1 L (.lst [v])) kc dk (r - thingC t) k := (same_upd hL) _ _ kit1
  have nLd := D1.ned hL
  have nLk : L ≠ kc := by
    rintro rfl
    rw [kit1] at hL
    cases hL
  have hLH : H L = none := g1.h.none (two_cell D1 kit1) hL
  have gL := g1.gh.free hL
  refine ⟨_, rfl, d, l, 3, rfl, D2, by decide, by decide, fun n H3 n0 n1 D3 b3 => ?_⟩
  have g3 := g2.trans (Grow.one (Grow.draw g2.gh (g2.none gd D.cell) b3)) (two_cell D2 kit2)
  have kit3 := kit2.but nkd b3
  refine ⟨n, rfl, by omega, by omega, for_it walk_range (fun i σ H' => ∃ (vs : List V) (b : List Thing) (G' : Hp), Grow (Two d kc) G H G' H' ∧ DrawAt H' d l ∧ KitAt H' kc dk (r - thingsC b) k ∧ (thingsC b : Int) ≤ r ∧ H' L = some (.lst vs) ∧ G' L = none ∧ DpAll K G' vs (thingsD b) ∧ BdOk k b sc deep ∧ 1 ≤ b.length ∧ b.length ≤ i + 1 ∧
    ∃ v5, σ = [some (.ref d), some (.ref kc), some (.ref sa), some (.int (deep : Nat)), some (.ref L), v5]) ?_ (fun _ _ _ _ _ => trivial) ?_ ?_⟩
  · refine ⟨[v], [t], G1, g3, D3, ?_, ?_, b3 _ _ upd_same nLd, gL, ?_, ?_, Nat.le_refl _, Nat.le_refl _, _, rfl⟩
    · rw [thingsC, thingsC]
      exact kit3
    · rw [thingsC, thingsC]
      exact c1
    · rw [thingsD, thingsD]
      exact .cons dv .nil
    · rw [BdOk]
      exact ⟨ok, .nil⟩
  · rintro i x σ H4 H5 hi ⟨vs, b, G4, g4, D4, kit4, c4, eL, gL4, dvs, okb, l1, l2, v5, rfl⟩ ⟨rfl, rfl⟩
    have hi : i < n.toNat := hi
    refine ⟨_, rfl, kc, _, 0, .int (r - thingsC b), rfl, rfl, SqL.of kit4, rfl, _, 0, rfl, rfl, _, rfl, ?_⟩
    refine ite2 (fun c => ?_) (fun _ => ⟨vs, b, G4, g4, D4, kit4, c4, eL, gL4, dvs, okb, l1, by omega, _, rfl⟩)
    have c' : 0 < r - (thingsC b : Int) := of_decide_eq_true c
    refine ⟨_, rfl, .inl ⟨rfl, _, SqL.of eL⟩, ?_⟩
    refine ⟨_, rfl, _, rfl, _, rfl, _, rfl, d, l, kc, dk, sa, sc, k, r - thingsC b, deep, G4, rfl, g4.gh, g4.none gd D.cell, g4.none gk (cell_lst kit), D4, kit4, kn.mono g4.g, g4.g _ _ es, hn, sl, by omega, dp4, hf, fun v6 t6 G6 H6 g6 D6 kit6 c6 dv6 ok6 => ?_⟩
    have eL6 : H6 L = some (.lst vs) := g6.h _ _ eL (by rintro (e | e); exact nLd e; exact nLk e)
    have g46 := g4.trans g6 (two_cell D4 kit4)
    have gL6 := g6.none gL4 (cell_lst eL)
    have lv := dvs.length
    rw [thingsD_eq, List.length_map] at lv
    try unfold tNil
    refine ⟨L, _, _, rfl, rfl, eL6, small1000 (by omega), ?_⟩
    refine ⟨vs ++ [v6], b ++ [t6], G6, g46.put gL6 (.inl hLH), D6.put nLd (D1.nel hL), ?_, ?_, upd_same, gL6, ?_, okb.snoc ok6, by simp, by simp; omega, _, rfl⟩
    · unfold KitAt
      rw [upd_ne (Ne.symm nLk), thingsC_snoc, show r - ((thingsC b + thingC t6 : Nat) : Int) = r - thingsC b - thingC t6 by omega]
      exact kit6
    · rw [thingsC_snoc]
      omega
    · rw [thingsD_eq, List.map_append, ← thingsD_eq]
      exact DpAll.snoc (dvs.mono g6.g) dv6
  · rintro σ H4 ⟨vs, b, G4, g4, D4, kit4, c4, eL, gL4, dvs, okb, l1, l2, v5, rfl⟩
    have l2 : b.length ≤ n.toNat + 1 := l2
    refine ⟨_, rfl, L, vs, rfl, .inl ⟨SqL.of eL, fun p hp => ?_⟩⟩
    have g5 := g4.new (o := .tup vs) hp (two_cell D4 kit4)
    have s5 : Same G4 _ := same_upd (o := .tup vs) (g4.gh.free hp)
    refine q _ b _ _ g5 (D4.upd hp) ((same_upd hp) _ _ kit4) c4 ?_ okb l1 (by omega)
    exact .tup (SqT.of upd_same) (dvs.mono s5)
theorem thing_all (T : Txt K mg) : ∀ f : Nat, FnOk P w K mg base CX0 (2 * f + 10) T.a_law_drawn_thing T.d_law_drawn_thing ["_law_draw", "_law_kit", "_law_scope", "_law_deep"] (spThing K f)
  | 0 => by
    have no : ∀ vs H Q E, ¬ spThing K 0 vs H Q E := fun vs H Q E h => by
      obtain ⟨d, l, kc, dk, sa, sc, k, r, deep, G, _, _, _, _, _, _, _, _, _, _, _, h1, h2, _⟩ := h
      omega
    exact ⟨fun vs H Q E h => absurd h (no vs H Q E), fun A outer s H args us vs Q E _ _ _ _ h => absurd h (no vs H Q E)⟩
  | f + 1 => thing_step T f (body_step T f (thing_all T f))
theorem ok_law_drawn_body (T : Txt K mg) : FnOk P w K mg base CX0 21 T.a_law_drawn_body T.d_law_drawn_body ["_law_draw", "_law_kit", "_law_scope", "_law_deep"] (spBody K 5) := body_step T 5 (thing_all T 5)
theorem grow_drop {d kc : Addr} {G H G1 H1 G2 H2 : Hp} (a : Grow (Only1 d) G H G1 H1) (b : Grow (Two d kc) G1 H1 G2 H2) (hk : H kc = none) (hm : ∀ c, Only1 d c → Cell (H1 c)) : Grow (Only1 d) G H G2 H2 :=
  ⟨a.g.trans b.g, b.gh, fun x o e n => b.h x o (a.h x o e n) (by
    rintro (z | z)
    · exact n z
    · rw [z, hk] at e
      cases e), fun c hc => (b.old c (a.h.cell hm hc)).trans (a.old c hc)⟩
/-- a plan, frozen -/
def spDrawn (K : PySem.W.Frag) : Sp := fun vs H Q _ => ∃ (d l : Addr) (G : Hp) (room : Int) (fig wide : Bool), vs = [.ref d, .int room, .bl fig, .bl wide] ∧ Same G H ∧ G d = none ∧ DrawAt H d l ∧ 1 ≤ room ∧
  ∀ (v : V) (b : List Thing) (G' H' : Hp), Grow (Only1 d) G H G' H' → DrawAt H' d l → Dp K G' v (planD b) → BdOk ⟨[], fig, wide⟩ b [Str.ofString "n"] 0 → 1 ≤ b.length → b.length ≤ 3 → (thingsC b : Int) ≤ room → Q v H'
theorem ok_law_drawn (T : Txt K mg) : FnOk P w K mg base CX0 22 T.a_law_drawn T.d_law_drawn ["_law_draw", "_law_room", "_law_figures", "_law_wide"] (spDrawn K) := by
  refine T.F_law_drawn.ok sc_law_drawn (fun vs H Q E h => ?_) (fun cdv A outer s H vs Q E hr h => ?_)
  · obtain ⟨d, l, G, room, fig, wide, rfl, _⟩ := h
    rfl
  obtain ⟨d, l, G, room, fig, wide, rfl, sg, gd, D, r1, q⟩ := h
  refine ⟨_, (pss_one (ps_ret (pe_call (ok_law_drawn_body T) (hr.mono (by decide)) (by rfl) T.g_law_drawn_body T.F_law_drawn_body.kp T.b_law_drawn_body .nil pass0 (pa_cons (pv 0) (pa_cons (pe_lst (pa_cons (pv 1) (pa_cons pe_dnewK (pa_cons (pv 2) (pa_cons (pv 3) pa_nil))))) (pa_cons (pe_lst (pa_cons pe_str pa_nil)) (pa_cons pe_int pa_nil))))))), ?_⟩
  refine ⟨_, rfl, _, rfl, fun dk hdk => ⟨_, rfl, _, rfl, by show 4 ≤ sizeLine; decide, fun kc hkc => ⟨by show 1 ≤ sizeLine; decide, fun sa hsa => ?_⟩⟩⟩
  have g1 := (Grow.refl (M := Only1 d) sg).new (o := .dK []) hdk D.some'
  have D1 := D.upd (o := .dK []) hdk
  have hk : H kc = none := by
    cases e : H kc with
    | none => rfl
    | some o =>
      rw [(same_upd hdk) _ _ e] at hkc
      cases hkc
  have g2 := g1.cell (o := .lst [.int room, .ref dk, .bl fig, .bl wide]) hkc
  have D2 := D1.upd (o := .lst [.int room, .ref dk, .bl fig, .bl wide]) hkc
  have g3 := g2.new (o := .lst [.str "n"]) hsa D2.some'
  have D3 := D2.upd (o := .lst [.str "n"]) hsa
  have s3 : Same _ _ := same_upd (o := .lst [.str "n"]) (g2.gh.free hsa)
  have gk : (upd (upd G dk (.dK [])) sa (.lst [.str "n"])) kc = none := by
    have n1 : kc ≠ sa := fun z => by rw [← z, upd_same] at hsa; cases hsa
    rw [upd_ne n1]
    exact g1.gh.free hkc
  refine ⟨d, l, kc, dk, sa, [Str.ofString "n"], ⟨[], fig, wide⟩, room, 0, _, rfl, g3.gh, g3.none gd D.cell, gk, D3, (same_upd hsa) _ _ upd_same, ⟨(by show 0 < 60; decide), (fun _ h => nomatch h), [], s3 _ _ upd_same, rfl, (fun _ h => nomatch h)⟩, upd_same, by decide, by decide, r1, by decide, by decide, fun v b G4 H4 g4 D4 _ c4 dv ok l1 l2 => ?_⟩
  exact q v b G4 H4 (grow_drop g3 g4 hk D3.some') D4 dv ok l1 l2 c4
theorem unfit_thing_step (T : Txt K mg) (f : Nat) (G_law_unfit : FnOk P w K mg base CX0 (2 * f + 11) T.a_law_unfit T.d_law_unfit ["_law_draw", "_law_plan", "_law_names"] (spUnfitB K f)) :
    FnOk P w K mg base CX0 (2 * f + 12) T.a_law_unfit_thing T.d_law_unfit_thing ["_law_draw", "_law_thing", "_law_names"] (spUnfitT K (f + 1)) := by
  refine T.F_law_unfit_thing.ok sc_law_unfit_thing (fun vs H Q E h => ?_) (fun cdv A outer s H vs Q E hr h => ?_)
  · obtain ⟨d, l, na, names, G, v, t, rfl, _⟩ := h
    rfl
  obtain ⟨d, l, na, names, G, v, t, rfl, sg, gd, D, dt, en, n3, nl, hf, hc, k⟩ := h
  refine ⟨_, (pss_cons (ps_set (i := 3) sc_law_unfit_thing.nd rfl (Or.inl rfl) (pe_call (ok_law_take T) (hr.mono (by omega)) (by rfl) T.g_law_take T.F_law_take.kp T.b_law_take .nil pass0 (pa_cons (pv 0) (pa_cons pe_int pa_nil))))
      (C8.pss_cut (ps_if (PW.pt (pw_and (pt_cmpR op_eq (pv 3) pe_int (nomark _)) (pw_and1 (pt_cmpR op_eq (pe_ix ix_tup (pv 1) pe_int (fun _ _ => rfl)) pe_str (nomark _))))) (pss_one (ps_ret (pe_op op_catA (pe_tup (pa_cons pe_str (pa_cons (pe_call (ok_law_pick T) (hr.mono (by omega)) (by rfl) T.g_law_pick T.F_law_pick.kp T.b_law_pick .nil pass0 (pa_cons (pv 0) (pa_cons (pe_slice sl_list (pv 2) (po_some pe_int) po_none) pa_nil))) pa_nil))) (pe_slice sl_tupA (pv 1) (po_some pe_int) po_none)))) pss_nil)
      (C8.pss_cut (ps_if (PW.pt (pw_and (pt_cmpR op_eq (pv 3) pe_int (nomark _)) (pw_and1 (pt_cmpR op_in_seq (pe_ix ix_tup (pv 1) pe_int (fun _ _ => rfl)) (pe_lst (pa_cons pe_str (pa_cons pe_str pa_nil))) (by rfl))))) (pss_cons (ps_set (i := 4) sc_law_unfit_thing.nd rfl (Or.inl rfl) (pe_op op_add (pe_dget (hu_of hr) (pe_disp (pps_cons pe_str pe_int (pps_cons pe_str pe_int pps_nil)) (by rfl) (by rfl) (by simp) (by decide)) (pe_ix ix_tup (pv 1) pe_int (fun _ _ => rfl)) (fun _ _ => rfl)) (pe_call (ok_law_take T) (hr.mono (by omega)) (by rfl) T.g_law_take T.F_law_take.kp T.b_law_take .nil pass0 (pa_cons (pv 0) (pa_cons pe_int pa_nil)))))
      (pss_one (ps_ret (pe_op op_catA (pe_op op_catA (pe_slice sl_tupA (pv 1) po_none (po_some (pv 4))) (pe_tup (pa_cons (pe_tup (pa_cons (pe_call (ok_law_pick T) (hr.mono (by omega)) (by rfl) T.g_law_pick T.F_law_pick.kp T.b_law_pick .nil pass0 (pa_cons (pv 0) (pa_cons (pv 2) pa_nil))) (pa_cons (pe_call (ok_law_take T) (hr.mono (by omega)) (by rfl) T.g_law_take T.F_law_take.kp T.b_law_take .nil pass0 (pa_cons (pv 0) (pa_cons pe_int pa_nil))) pa_nil))) pa_nil))) (pe_slice sl_tupA (pv 1) (po_some (pe_op op_add (pv 4) pe_int)) po_none))))) pss_nil)
      (C8.pss_cut (ps_if (PW.pt (pw_and (pt_cmpR op_eq (pv 3) pe_int (nomark _)) (pw_and1 (pt_cmpR op_eq (pe_ix ix_tup (pv 1) pe_int (fun _ _ => rfl)) pe_str (nomark _))))) (pss_one (ps_ret (pe_tup (pa_cons pe_str (pa_cons (pe_op op_add pe_int (pe_call (ok_law_take T) (hr.mono (by omega)) (by rfl) T.g_law_take T.F_law_take.kp T.b_law_take .nil pass0 (pa_cons (pv 0) (pa_cons pe_int pa_nil)))) (pa_cons (pe_call (ok_law_pick T) (hr.mono (by omega)) (by rfl) T.g_law_pick T.F_law_pick.kp T.b_law_pick .nil pass0 (pa_cons (pv 0) (pa_cons (pe_lst (pa_cons pe_str (pa_cons pe_str (pa_cons pe_str pa_nil)))) pa_nil))) pa_nil)))))) pss_nil)
      (C8.pss_cut (ps_if (PW.pt (pw_and (pt_cmpR op_eq (pv 3) pe_int (nomark _)) (pw_and1 (pt_cmpR op_eq (pe_ix ix_tup (pv 1) pe_int (fun _ _ => rfl)) pe_str (nomark _))))) (pss_one (ps_ret (pe_tup (pa_cons pe_str (pa_cons pe_str (pa_cons (pe_tup (pa_cons (pe_call (ok_law_pick T) (hr.mono (by omega)) (by rfl) T.g_law_pick T.F_law_pick.kp T.b_law_pick .nil pass0 (pa_cons (pv 0) (pa_cons (pv 2) pa_nil))) (pa_cons pe_int pa_nil))) pa_nil)))))) pss_nil)
      (C8.pss_cut (ps_if (pt_cmpR op_in_seq (pe_ix ix_tup (pv 1) pe_int (fun _ _ => rfl)) (pe_lst (pa_cons pe_str (pa_cons pe_str pa_nil))) (by rfl)) (pss_one (ps_ret (pe_op op_catA (pe_slice sl_tupA (pv 1) po_none (po_some (pe_un un_neg pe_int))) (pe_tup (pa_cons (pe_call G_law_unfit (hr.mono (by omega)) (by rfl) T.g_law_unfit T.F_law_unfit.kp T.b_law_unfit .nil pass0 (pa_cons (pv 0) (pa_cons (pe_ix ix_tup (pv 1) (pe_un un_neg pe_int) (fun _ _ => rfl)) (pa_cons (pv 2) pa_nil)))) pa_nil))))) pss_nil)
      (C8.pss_cut (ps_if (pt_cmpR op_eq (pe_ix ix_tup (pv 1) pe_int (fun _ _ => rfl)) pe_str (nomark _)) (pss_one (ps_ret (pe_op op_catA (pe_slice sl_tupA (pv 1) po_none (po_some pe_int)) (pe_tup (pa_cons (pe_call G_law_unfit (hr.mono (by omega)) (by rfl) T.g_law_unfit T.F_law_unfit.kp T.b_law_unfit .nil pass0 (pa_cons (pv 0) (pa_cons (pe_ix ix_tup (pv 1) pe_int (fun _ _ => rfl)) (pa_cons (pv 2) pa_nil)))) (pa_cons (pe_call G_law_unfit (hr.mono (by omega)) (by rfl) T.g_law_unfit T.F_law_unfit.kp T.b_law_unfit .nil pass0 (pa_cons (pv 0) (pa_cons (pe_ix ix_tup (pv 1) pe_int (fun _ _ => rfl)) (pa_cons (pv 2) pa_nil)))) pa_nil)))))) pss_nil)
      (pss_one (ps_ret (pv 1)))))))))), ?_⟩
  have nad : na ≠ d := fun e => by rw [e, gd] at en; cases en
  obtain ⟨a, r, rfl, hs, ro⟩ := thing_rest dt
  refine ⟨_, rfl, d, l, 12, rfl, D, by decide, by decide, fun fk H2 f0 f1 D2 b2 => ?_⟩
  have g2 := (Grow.refl (M := Only1 d) sg).trans (Grow.draw sg gd b2) D.some'
  let Md : L2.St → Hp → Prop := fun σ H' => Grow (Only1 d) G H G H' ∧ DrawAt H' d l ∧ σ = [some (.ref d), some (.ref a), some (.ref na), some (.int fk), none]
  -- a call below
  have below : ∀ (G5 H5 : Hp) (x : V) (c : List Thing) (Q' : VK), Grow (Only1 d) G H G5 H5 → DrawAt H5 d l → Dp K G5 x (planD c) → thingsC c < f → thingsC c ≤ 31 → (∀ (v' : V) (b' : List Thing) (G' H' : Hp), Grow (Only1 d) G H G' H' → Same G5 G' → DrawAt H' d l → Dp K G' v' (planD b') → thingsC b' = thingsC c → Q' v' H') →
      spUnfitB K f [.ref d, x, .ref na] H5 Q' E0 := fun G5 H5 x c Q' g5 D5 dx hcf h31 hq =>
    ⟨d, l, na, names, G5, x, c, rfl, g5.gh, g5.none gd D.cell, D5, dx, g5.g _ _ en, n3, nl, hcf, h31, fun v' b' G6 H6 g6 D6 dv' hb _ => hq v' b' G6 H6 (g5.trans g6 D5.some') g6.g D6 dv' hb⟩
  refine ⟨Md, ?_, ?_⟩
  · refine ⟨_, rfl, rfl, _, rfl, ?_⟩
    refine ite2 (fun _ => ?_) (fun _ => iteF ⟨g2, D2, rfl⟩)
    have hs2 := same_t g2.gh hs
    refine ⟨_, rfl, a, _, _, _, rfl, rfl, hs2, atI_nat (j := 0) rfl, rfl, _, rfl, ?_⟩
    refine ite2 (fun c1 => ?_) (fun _ => ⟨g2, D2, rfl⟩)
    obtain ⟨nm, e1, e2, b, rfl⟩ := of_for (V.str.inj (of_decide_eq_true c1))
    obtain ⟨x2, x3, x4, rfl, d2, d3, d4⟩ := ro
    have en2 := g2.gh _ _ en
    refine ⟨_, rfl, _, rfl, 2, rfl, na, _, rfl, SqL.of en2, fun Z hZ => ?_⟩
    rw [cut_tail]
    have D3 := D2.upd (o := .lst ((names.map V.str).drop 2)) hZ
    have g3 := g2.cell (o := .lst ((names.map V.str).drop 2)) hZ
    refine ⟨d, l, _, rfl, D3, .inr ⟨Z, _, rfl, D2.ned hZ, .inl (SqL.of upd_same), by rw [List.length_drop, List.length_map]; omega, by rw [List.length_drop, List.length_map]; omega, fun q H4 hq D4 b4 => ?_⟩⟩
    obtain ⟨nm', _, rfl⟩ := List.mem_map.mp (List.mem_of_mem_drop hq)
    have g4 := g3.trans (Grow.draw g3.gh (g3.none gd D.cell) b4) D3.some'
    refine ⟨by show 2 ≤ sizeLine; decide, fun p1 hp1 => ?_⟩
    have g5 := g4.new (o := .tup [.str "for", .str nm']) hp1 D4.some'
    have D5 := D4.upd (o := .tup [.str "for", .str nm']) hp1
    have hs5 := same_t g5.gh (same_t g5.g hs)
    refine ⟨_, rfl, 2, rfl, ?_⟩
    unfold tNoPart
    refine sl_G (lo := some 2) (hi := none) (ys := [x2, x3, x4]) g5.gh (same_t g5.g hs) (fun h => absurd h.1 (by show ¬ HT.sIx 5 0 (some 2) = 0; decide)) rfl fun p2 G6 H6 g6 hp2 => ?_
    have D6 := D5.mono g6.h.same
    have e6 := g5.trans (g6.mono fun _ h => h.elim) D5.some'
    refine cat_G e6.gh (same_t g6.g (SqT.of upd_same)) hp2 (by show 5 ≤ 1000; decide) fun p3 G7 H7 g7 hp3 => ?_
    have e7 := e6.trans (g7.mono fun _ h => h.elim) D6.some'
    refine k _ (.loop nm' e1 e2 b) G7 H7 e7 (D6.mono g7.h.same) ?_ (by rw [thingC, thingC])
    rw [thingD]
    exact .tup hp3 (.cons (.str _) (.cons (.str _) (.cons (d2.mono e7.g) (.cons (d3.mono e7.g) (.cons (d4.mono e7.g) .nil)))))
  rintro σ H3 ⟨g3, D3, rfl⟩
  have hs3 := same_t g3.gh hs
  refine ⟨Md, ?_, ?_⟩
  · refine ⟨_, rfl, rfl, _, rfl, ?_⟩
    refine ite2 (fun _ => ?_) (fun _ => iteF ⟨g3, D3, rfl⟩)
    refine ⟨_, rfl, a, _, _, _, rfl, rfl, hs3, atI_nat (j := 0) rfl, by show 2 ≤ sizeLine; decide, fun L hL => ?_⟩
    have g4 := g3.cell (o := .lst [.str "for", .str "if"]) hL
    have D4 := D3.upd (o := .lst [.str "for", .str "if"]) hL
    refine ⟨L, _, rfl, .inl (SqL.of upd_same), rfl, rfl, _, rfl, ?_⟩
    rw [show (if false = true then !inV (V.str (wordT t)) [V.str "for", V.str "if"] else inV (V.str (wordT t)) [V.str "for", V.str "if"]) = decide (wordT t ∈ [Str.ofString "for", Str.ofString "if"]) by rw [if_neg (by decide)]; exact inV_strs _ [Str.ofString "for", Str.ofString "if"]]
    refine ite2 (fun c => ?_) (fun _ => ⟨g4, D4, rfl⟩)
    have hA : ∀ z : Int, 0 ≤ z → z < 2 → ∃ (b0 : Int) (j : Nat), valV (mergeK [] [(Sum.inr (Str.ofString "for"), V.int 2), (Sum.inr (Str.ofString "if"), V.int 1)]) (Sum.inr (wordT t)) = some (.int b0) ∧ b0 + z = (j : Int) ∧
        (V.str (wordT t) :: r).length = 5 ∧ ∀ (p q : Addr) (nm' : Str) (r' : Int) (G' : Hp), Same G G' → SqT K G' p ((V.str (wordT t) :: r).take j ++ [.ref q] ++ (V.str (wordT t) :: r).drop (j + 1)) → Dp K G' (.ref q) (endD (nm', r')) →
          ∃ t', Dp K G' (.ref p) (thingD t') ∧ thingC t' = thingC t := by
      intro z z0 z1
      rcases of_forif (of_decide_eq_true c) with ⟨nm, e1, e2, b, rfl⟩ | ⟨e1, e2, b1, b2, rfl⟩
      · obtain ⟨x2, x3, x4, rfl, h2, h3, h4⟩ := ro
        have hz : z = 0 ∨ z = 1 := by omega
        rcases hz with rfl | rfl
        · refine ⟨2, 2, rfl, rfl, rfl, fun p q nm' r' G' sg' hp hq => ⟨.loop nm (nm', r') e2 b, ?_, by simp only [thingC]⟩⟩
          rw [thingD]
          exact .tup hp (.cons (.str _) (.cons (.str _) (.cons hq (.cons (h3.mono sg') (.cons (h4.mono sg') .nil)))))
        · refine ⟨2, 3, rfl, rfl, rfl, fun p q nm' r' G' sg' hp hq => ⟨.loop nm e1 (nm', r') b, ?_, by simp only [thingC]⟩⟩
          rw [thingD]
          exact .tup hp (.cons (.str _) (.cons (.str _) (.cons (h2.mono sg') (.cons hq (.cons (h4.mono sg') .nil)))))
      · obtain ⟨x1, x2, x3, x4, rfl, h1, h2, h3, h4⟩ := ro
        have hz : z = 0 ∨ z = 1 := by omega
        rcases hz with rfl | rfl
        · refine ⟨1, 1, rfl, rfl, rfl, fun p q nm' r' G' sg' hp hq => ⟨.test (nm', r') e2 b1 b2, ?_, by simp only [thingC]⟩⟩
          rw [thingD]
          exact .tup hp (.cons (.str _) (.cons hq (.cons (h2.mono sg') (.cons (h3.mono sg') (.cons (h4.mono sg') .nil)))))
        · refine ⟨1, 2, rfl, rfl, rfl, fun p q nm' r' G' sg' hp hq => ⟨.test e1 (nm', r') b1 b2, ?_, by simp only [thingC]⟩⟩
          rw [thingD]
          exact .tup hp (.cons (.str _) (.cons (h1.mono sg') (.cons hq (.cons (h3.mono sg') (.cons (h4.mono sg') .nil)))))
    have hb := hA 0 (by decide) (by decide)
    obtain ⟨b0, _, hb0, _⟩ := hb
    have hA2 : ∀ z : Int, 0 ≤ z → z < 2 → ∃ (j : Nat), b0 + z = (j : Int) ∧
        (V.str (wordT t) :: r).length = 5 ∧ ∀ (p q : Addr) (nm' : Str) (r' : Int) (G' : Hp), Same G G' → SqT K G' p ((V.str (wordT t) :: r).take j ++ [.ref q] ++ (V.str (wordT t) :: r).drop (j + 1)) → Dp K G' (.ref q) (endD (nm', r')) →
          ∃ t', Dp K G' (.ref p) (thingD t') ∧ thingC t' = thingC t := fun z z0 z1 => by
      obtain ⟨b1, j, e1, e2, e3⟩ := hA z z0 z1
      rw [hb0] at e1
      cases e1
      exact ⟨j, e2, e3⟩
    intro D5 hD5
    refine ⟨upd_same, [(Sum.inr (Str.ofString "for"), V.int 2), (Sum.inr (Str.ofString "if"), V.int 1)], rfl, (by show 2 ≤ 15; decide), ?_⟩
    rw [upd_upd]
    let M := mergeK [] [(Sum.inr (Str.ofString "for"), V.int 2), (Sum.inr (Str.ofString "if"), V.int 1)]
    have g5 := g4.cell (o := .dK M) hD5
    have D5' := D4.upd (o := .dK M) hD5
    refine ⟨_, rfl, a, _, _, _, rfl, rfl, same_t g5.gh hs, atI_nat (j := 0) rfl, D5, V.int b0, rfl, ?_, ?_⟩
    · have := DGet.k (k := Sum.inr (wordT t)) (upd_same : upd (upd H3 L (.lst [.str "for", .str "if"])) D5 (.dK M) D5 = some (.dK M))
      rw [hb0] at this
      exact this
    refine ⟨_, rfl, d, l, 2, rfl, D5', by decide, by decide, fun z H6 z0 z1 D6 b6 => ?_⟩
    have g6 := g5.trans (Grow.draw g5.gh gd b6) D5'.some'
    obtain ⟨j, hj, h5, fin⟩ := hA2 z z0 z1
    refine ⟨_, _, rfl, rfl, ?_⟩
    simp only [hj]
    show tRet (tOp _ _ _) _ [some (.ref d), some (.ref a), some (.ref na), some (.int fk), some (.int (j : Int))] _
    refine ⟨_, rfl, ?_⟩
    unfold tNoPart
    refine ⟨_, rfl, _, rfl, ?_⟩
    refine sl_take j g6.gh hs fun p1 G7 H7 g7 hp1 => ?_
    have D7 := D6.mono g7.h.same
    have e7 := g6.trans (g7.mono fun _ h => h.elim) D6.some'
    have en7 := e7.gh _ _ (e7.g _ _ en)
    refine ⟨_, rfl, _, rfl, d, l, _, rfl, D7, .inr ⟨na, _, rfl, nad, .inl (SqL.of en7), by rw [List.length_map]; omega, by rw [List.length_map]; omega, fun q H8 hq D8 b8 => ?_⟩⟩
    obtain ⟨nm', _, rfl⟩ := List.mem_map.mp hq
    have g8 := e7.trans (Grow.draw e7.gh (e7.none gd D.cell) b8) D7.some'
    refine ⟨_, rfl, d, l, 3, rfl, D8, by decide, by decide, fun r' H9 r0 r1 D9 b9 => ?_⟩
    have g9 := g8.trans (Grow.draw g8.gh (g8.none gd D.cell) b9) D8.some'
    refine ⟨by show 2 ≤ sizeLine; decide, fun p2 hp2 => ?_⟩
    have g10 := g9.new (o := .tup [.str nm', .int r']) hp2 D9.some'
    have D10 := D9.upd (o := .tup [.str nm', .int r']) hp2
    have s10 := same_upd (o := .tup [.str nm', .int r']) (g9.gh.free hp2)
    have dq : Dp K (upd G7 p2 (.tup [.str nm', .int r'])) (.ref p2) (endD (nm', r')) := .tup (SqT.of upd_same) (.cons (.str _) (.cons (.int _) .nil))
    refine ⟨by show 1 ≤ sizeLine; decide, fun p3 hp3 => ?_⟩
    have g11 := g10.new (o := .tup [.ref p2]) hp3 D10.some'
    have D11 := D10.upd (o := .tup [.ref p2]) hp3
    have s11 := same_upd (o := .tup [.ref p2]) (g10.gh.free hp3)
    refine cat_G g11.gh (same_t (s10.trans s11) hp1) (SqT.of upd_same) (by rw [List.length_take, h5]; show _ + 1 ≤ _; omega) fun p4 G12 H12 g12 hp4 => ?_
    have D12 := D11.mono g12.h.same
    have e12 := g11.trans (g12.mono fun _ h => h.elim) D11.some'
    refine ⟨_, rfl, _, rfl, _, _, rfl, rfl, _, rfl, ?_⟩
    rw [show (j : Int) + 1 = ((j + 1 : Nat) : Int) by simp]
    refine sl_drop (j + 1) e12.gh (same_t e12.g hs) fun p5 G13 H13 g13 hp5 => ?_
    have D13 := D12.mono g13.h.same
    have e13 := e12.trans (g13.mono fun _ h => h.elim) D12.some'
    refine cat_G e13.gh (same_t g13.g hp4) hp5 (by rw [List.length_append, List.length_take, List.length_drop, h5]; show _ + 1 + _ ≤ _; omega) fun p6 G14 H14 g14 hp6 => ?_
    have D14 := D13.mono g14.h.same
    have e14 := e13.trans (g14.mono fun _ h => h.elim) D13.some'
    obtain ⟨t', dt', ht'⟩ := fin p6 p2 nm' r' G14 e14.g hp6 (dq.mono (s11.trans (g12.g.trans (g13.g.trans g14.g))))
    exact k _ t' G14 H14 e14 D14 dt' ht'
  rintro σ H4 ⟨g4, D4, rfl⟩
  have hs4 := same_t g4.gh hs
  refine ⟨Md, ?_, ?_⟩
  · refine ⟨_, rfl, rfl, _, rfl, ?_⟩
    refine ite2 (fun _ => ?_) (fun _ => iteF ⟨g4, D4, rfl⟩)
    refine ⟨_, rfl, a, _, _, _, rfl, rfl, hs4, atI_nat (j := 0) rfl, rfl, _, rfl, ?_⟩
    refine ite2 (fun c1 => ?_) (fun _ => ⟨g4, D4, rfl⟩)
    obtain ⟨n, rfl⟩ := of_step (V.str.inj (of_decide_eq_true c1))
    refine ⟨_, rfl, d, l, 2, rfl, D4, by decide, by decide, fun z H5 z0 z1 D5 b5 => ?_⟩
    have g5 := g4.trans (Grow.draw g4.gh gd b5) D4.some'
    refine ⟨_, _, rfl, rfl, ?_⟩
    refine ⟨_, rfl, by show 3 ≤ sizeLine; decide, fun Z hZ => ?_⟩
    have D6 := D5.upd (o := .lst [.str "halves", .str "thirds", .str "less"]) hZ
    have g6 := g5.cell (o := .lst [.str "halves", .str "thirds", .str "less"]) hZ
    refine ⟨d, l, _, rfl, D6, .inr ⟨Z, _, rfl, D5.ned hZ, .inl (SqL.of upd_same), by show 0 < 3; decide, by show 3 ≤ 100000; decide, fun q H7 hq D7 b7 => ?_⟩⟩
    obtain ⟨wd, rfl⟩ : ∃ wd : Str, q = .str wd := by
      rcases List.mem_cons.mp hq with rfl | hq
      · exact ⟨_, rfl⟩
      rcases List.mem_cons.mp hq with rfl | hq
      · exact ⟨_, rfl⟩
      rcases List.mem_cons.mp hq with rfl | hq
      · exact ⟨_, rfl⟩
      cases hq
    have g7 := g6.trans (Grow.draw g6.gh (g6.none gd D.cell) b7) D6.some'
    refine ⟨by show 3 ≤ sizeLine; decide, fun p hp => ?_⟩
    have g8 := g7.new (o := .tup [.str "again", .int (1 + z), .str wd]) hp D7.some'
    refine k _ (.again (1 + z) wd) _ _ g8 (D7.upd hp) ?_ (by simp only [thingC])
    rw [thingD]
    exact .tup (SqT.of upd_same) (.cons (.str _) (.cons (.int _) (.cons (.str _) .nil)))
  rintro σ H5 ⟨g5, D5, rfl⟩
  have hs5 := same_t g5.gh hs
  refine ⟨Md, ?_, ?_⟩
  · refine ⟨_, rfl, rfl, _, rfl, ?_⟩
    refine ite2 (fun _ => ?_) (fun _ => iteF ⟨g5, D5, rfl⟩)
    refine ⟨_, rfl, a, _, _, _, rfl, rfl, hs5, atI_nat (j := 0) rfl, rfl, _, rfl, ?_⟩
    refine ite2 (fun c1 => ?_) (fun _ => ⟨g5, D5, rfl⟩)
    obtain ⟨n, rfl⟩ := of_step (V.str.inj (of_decide_eq_true c1))
    have en5 := g5.gh _ _ en
    refine ⟨_, rfl, _, rfl, d, l, _, rfl, D5, .inr ⟨na, _, rfl, nad, .inl (SqL.of en5), by rw [List.length_map]; omega, by rw [List.length_map]; omega, fun q H6 hq D6 b6 => ?_⟩⟩
    obtain ⟨nm', _, rfl⟩ := List.mem_map.mp hq
    have g6 := g5.trans (Grow.draw g5.gh gd b6) D5.some'
    refine ⟨by show 2 ≤ sizeLine; decide, fun p1 hp1 => ?_⟩
    have g7 := g6.new (o := .tup [.str nm', .int 0]) hp1 D6.some'
    have D7 := D6.upd (o := .tup [.str nm', .int 0]) hp1
    refine ⟨by show 3 ≤ sizeLine; decide, fun p2 hp2 => ?_⟩
    have g8 := g7.new (o := .tup [.str "call", .str "f", .ref p1]) hp2 D7.some'
    have s8 := same_upd (o := .tup [.str "call", .str "f", .ref p1]) (g7.gh.free hp2)
    refine k _ (.call "f" (nm', 0)) _ _ g8 (D7.upd hp2) ?_ (by simp only [thingC])
    rw [thingD]
    exact .tup (xs := [.str "call", .str "f", .ref p1]) (SqT.of upd_same) (.cons (.str _) (.cons (.str _) (.cons (.tup (xs := [.str nm', .int 0]) (SqT.of (s8 _ _ upd_same)) (.cons (.str _) (.cons (.int _) .nil))) .nil)))
  rintro σ H6 ⟨g6, D6, rfl⟩
  have hs6 := same_t g6.gh hs
  refine ⟨Md, ?_, ?_⟩
  · refine ⟨_, rfl, a, _, _, _, rfl, rfl, hs6, atI_nat (j := 0) rfl, by show 2 ≤ sizeLine; decide, fun L hL => ?_⟩
    have g8 := g6.cell (o := .lst [.str "for", .str "double"]) hL
    have D8 := D6.upd (o := .lst [.str "for", .str "double"]) hL
    refine ⟨L, _, rfl, .inl (SqL.of upd_same), rfl, rfl, _, rfl, ?_⟩
    rw [show (if false = true then !inV (V.str (wordT t)) [V.str "for", V.str "double"] else inV (V.str (wordT t)) [V.str "for", V.str "double"]) = decide (wordT t ∈ [Str.ofString "for", Str.ofString "double"]) by rw [if_neg (by decide)]; exact inV_strs _ [Str.ofString "for", Str.ofString "double"]]
    refine ite2 (fun c => ?_) (fun _ => ⟨g8, D8, rfl⟩)
    rcases of_fordouble (of_decide_eq_true c) with ⟨nm, e1, e2, c0, rfl⟩ | ⟨c0, rfl⟩
    · obtain ⟨x2, x3, x4, rfl, d2, d3, d4⟩ := ro
      rw [thingC] at hf hc k
      refine ⟨_, rfl, 1, rfl, -1, rfl, ?_⟩
      refine sl_G (ys := [V.str "for", .str nm, x2, x3]) g8.gh hs (fun h => absurd h.2 (by show ¬ HT.sIx 5 5 (some (-1)) = 5; decide)) rfl fun p1 G9 H9 g9 hp1 => ?_
      have D9 := D8.mono g9.h.same
      have e9 := g8.trans (g9.mono fun _ h => h.elim) D8.some'
      have hs9 := same_t e9.gh (same_t g9.g hs)
      refine ⟨_, rfl, _, rfl, _, rfl, a, _, _, _, rfl, rfl, hs9, (rfl : atI [V.str "for", .str nm, x2, x3, x4] (-1) = some x4), _, rfl, ?_⟩
      refine below G9 H9 x4 c0 _ e9 D9 (d4.mono g9.g) (by omega) (by omega) fun v' c' G10 H10 g10 s10 D10 dv hc' => ?_
      refine ⟨by show 1 ≤ sizeLine; decide, fun p2 hp2 => ?_⟩
      have g11 := g10.new (o := .tup [v']) hp2 D10.some'
      have D11 := D10.upd (o := .tup [v']) hp2
      have s11 := same_upd (o := .tup [v']) (g10.gh.free hp2)
      refine cat_G g11.gh (same_t (s10.trans s11) hp1) (SqT.of upd_same) (by show 5 ≤ 1000; decide) fun p3 G12 H12 g12 hp3 => ?_
      have e12 := g11.trans (g12.mono fun _ h => h.elim) D11.some'
      have sA := g9.g.trans (s10.trans (s11.trans g12.g))
      refine k _ (.loop nm e1 e2 c') G12 H12 e12 (D11.mono g12.h.same) ?_ (by rw [thingC]; omega)
      rw [thingD]
      exact .tup hp3 (.cons (.str _) (.cons (.str _) (.cons (d2.mono sA) (.cons (d3.mono sA) (.cons (dv.mono (s11.trans g12.g)) .nil)))))
    · obtain ⟨x1, rfl, h1⟩ := ro
      rw [thingC] at hf hc k
      refine ⟨_, rfl, 1, rfl, -1, rfl, ?_⟩
      refine sl_G (ys := [V.str "double"]) g8.gh hs (fun h => absurd h.2 (by show ¬ HT.sIx 2 2 (some (-1)) = 2; decide)) rfl fun p1 G9 H9 g9 hp1 => ?_
      have D9 := D8.mono g9.h.same
      have e9 := g8.trans (g9.mono fun _ h => h.elim) D8.some'
      have hs9 := same_t e9.gh (same_t g9.g hs)
      refine ⟨_, rfl, _, rfl, _, rfl, a, _, _, _, rfl, rfl, hs9, (rfl : atI [V.str "double", x1] (-1) = some x1), _, rfl, ?_⟩
      refine below G9 H9 x1 c0 _ e9 D9 (h1.mono g9.g) (by omega) (by omega) fun v' c' G10 H10 g10 s10 D10 dv hc' => ?_
      refine ⟨by show 1 ≤ sizeLine; decide, fun p2 hp2 => ?_⟩
      have g11 := g10.new (o := .tup [v']) hp2 D10.some'
      have D11 := D10.upd (o := .tup [v']) hp2
      have s11 := same_upd (o := .tup [v']) (g10.gh.free hp2)
      refine cat_G g11.gh (same_t (s10.trans s11) hp1) (SqT.of upd_same) (by show 2 ≤ 1000; decide) fun p3 G12 H12 g12 hp3 => ?_
      have e12 := g11.trans (g12.mono fun _ h => h.elim) D11.some'
      refine k _ (.double c') G12 H12 e12 (D11.mono g12.h.same) ?_ (by rw [thingC]; omega)
      rw [thingD]
      exact .tup hp3 (.cons (.str _) (.cons (dv.mono (s11.trans g12.g)) .nil))
  rintro σ H7 ⟨g7, D7, rfl⟩
  have hs7 := same_t g7.gh hs
  refine ⟨Md, ?_, ?_⟩
  · refine ⟨_, rfl, a, _, _, _, rfl, rfl, hs7, atI_nat (j := 0) rfl, rfl, _, rfl, ?_⟩
    refine ite2 (fun c => ?_) (fun _ => ⟨g7, D7, rfl⟩)
    obtain ⟨e1, e2, c3, c4, rfl⟩ := of_if (V.str.inj (of_decide_eq_true c))
    obtain ⟨x1, x2, x3, x4, rfl, h1, h2, h3, h4⟩ := ro
    rw [thingC] at hf hc k
    refine ⟨_, rfl, 3, rfl, ?_⟩
    refine sl_G (ys := [V.str "if", x1, x2]) g7.gh hs (fun h => absurd h.2 (by show ¬ HT.sIx 5 5 (some 3) = 5; decide)) rfl fun p1 G9 H9 g9 hp1 => ?_
    have D9 := D7.mono g9.h.same
    have e9 := g7.trans (g9.mono fun _ h => h.elim) D7.some'
    have hs9 := same_t e9.gh (same_t g9.g hs)
    refine ⟨_, rfl, _, rfl, a, _, _, _, rfl, rfl, hs9, (rfl : atI [V.str "if", x1, x2, x3, x4] 3 = some x3), _, rfl, ?_⟩
    refine below G9 H9 x3 c3 _ e9 D9 (h3.mono g9.g) (by omega) (by omega) fun v3 c3' G10 H10 g10 s10 D10 dv3 hc3 => ?_
    have hs10 := same_t g10.gh (same_t (g9.g.trans s10) hs)
    refine ⟨_, rfl, _, rfl, a, _, _, _, rfl, rfl, hs10, (rfl : atI [V.str "if", x1, x2, x3, x4] 4 = some x4), _, rfl, ?_⟩
    refine below G10 H10 x4 c4 _ g10 D10 (h4.mono (g9.g.trans s10)) (by omega) (by omega) fun v4' c4' G11 H11 g11 s11 D11 dv4 hc4 => ?_
    refine ⟨by show 2 ≤ sizeLine; decide, fun p2 hp2 => ?_⟩
    have g12 := g11.new (o := .tup [v3, v4']) hp2 D11.some'
    have D12 := D11.upd (o := .tup [v3, v4']) hp2
    have s12 := same_upd (o := .tup [v3, v4']) (g11.gh.free hp2)
    refine cat_G g12.gh (same_t (s10.trans (s11.trans s12)) hp1) (SqT.of upd_same) (by show 5 ≤ 1000; decide) fun p3 G13 H13 g13 hp3 => ?_
    have e13 := g12.trans (g13.mono fun _ h => h.elim) D12.some'
    have sA := g9.g.trans (s10.trans (s11.trans (s12.trans g13.g)))
    refine k _ (.test e1 e2 c3' c4') G13 H13 e13 (D12.mono g13.h.same) ?_ (by rw [thingC]; omega)
    rw [thingD]
    exact .tup hp3 (.cons (.str _) (.cons (h1.mono sA) (.cons (h2.mono sA) (.cons (dv3.mono (s11.trans (s12.trans g13.g))) (.cons (dv4.mono (s12.trans g13.g)) .nil)))))
  rintro σ H8 ⟨g8, D8, rfl⟩
  exact ⟨_, rfl, k _ t G H8 g8 D8 dt rfl⟩
theorem unfit_step (T : Txt K mg) (f : Nat) (G_law_unfit_thing : FnOk P w K mg base CX0 (2 * f + 10) T.a_law_unfit_thing T.d_law_unfit_thing ["_law_draw", "_law_thing", "_law_names"] (spUnfitT K f)) :
    FnOk P w K mg base CX0 (2 * f + 11) T.a_law_unfit T.d_law_unfit ["_law_draw", "_law_plan", "_law_names"] (spUnfitB K f) := by
  refine T.F_law_unfit.ok sc_law_unfit (fun vs H Q E h => ?_) (fun cdv A outer s H vs Q E hr h => ?_)
  · obtain ⟨d, l, na, names, G, v, b, rfl, _⟩ := h
    rfl
  obtain ⟨d, l, na, names, G, v, b, rfl, sg, gd, D, dt, en, n3, nl, hf, hc, k⟩ := h
  refine ⟨_, (pss_one (ps_ret (pe_callTy call_tuple_of (by rfl) T.z_tuple (by decide +kernel) (pa_cons (pe_lc (own := [("_law_thing", 3)]) (g := gName 3) (tt := tYes) rfl sc_law_unfit.nd (pi_tup (pv 1)) (blkOk_by (N := N_law_unfit) (sc := defScope s_law_unfit) (by decide +kernel)) (fun _ _ _ _ _ => (pg_name (i := 3) sc_law_unfit.nd rfl (Or.inl rfl))) (fun _ _ _ _ _ => pts_nil) (fun _ _ _ _ _ => (pe_call G_law_unfit_thing (hr.mono (by omega)) (by rfl) T.g_law_unfit_thing T.F_law_unfit_thing.kp T.b_law_unfit_thing .nil pass0 (pa_cons (pv 0) (pa_cons (pv 3) (pa_cons (pv 2) pa_nil)))))) pa_nil)))), ?_⟩
  have dt' : Dp K G v (.tuple (b.map thingD)) := by
    have := dt
    unfold planD at this
    rw [thingsD_eq] at this
    exact this
  cases dt' with
  | @tup a xs _ hs hx =>
  have hl := hx.length
  rw [List.length_map] at hl
  refine ⟨_, rfl, a, rfl, ⟨_, same_t sg hs⟩, fun R hR => ?_⟩
  have gR := sg.free hR
  have nRd := D.ned hR
  refine lc_it (walk_tup (xs := xs)) (fun i H' => ∃ (vs : List V) (b' : List Thing) (G' : Hp), Grow (Only1 d) G H G' H' ∧ DrawAt H' d l ∧ H' R = some (.lst vs) ∧ G' R = none ∧ DpAll K G' vs (b'.map thingD) ∧ thingsC b' = thingsC (b.take i) ∧ b'.length = i)
    ⟨[], [], G, (Grow.refl sg).cell hR, D.upd hR, upd_same, gR, .nil, rfl, rfl⟩ (fun i H' _ p => ?_) ?_ ?_
  · obtain ⟨vs, b', G', g, _⟩ := p
    exact same_t g.gh (same_t g.g hs)
  · rintro i x H1 H2 hi ⟨vs, b', G1, g1, D1, eR, gR1, dvs, hC, hL⟩ ⟨rfl, hxi⟩
    obtain ⟨t, ht, dxt⟩ := DpAll.at_ hx hxi
    have hib : i < b.length := by omega
    have hsum : thingsC (b.take i) + thingC t + thingsC (b.drop (i + 1)) = thingsC b := by
      rw [← thingsC_snoc, ← take_snoc ht, ← thingsC_app, List.take_append_drop]
    refine ⟨rfl, ?_⟩
    show tCall (spUnfitT K f) [] E0 (tCons (tVar 0) (tCons (tVar 3) (tCons (tVar 2) tNil))) _ _ _
    refine ⟨_, rfl, _, rfl, _, rfl, d, l, na, names, G1, x, t, rfl, g1.gh, g1.none gd D.cell, D1, dxt.mono g1.g, g1.g _ _ en, n3, nl, by omega, by omega, fun v' t' G3 H3 g3 D3 dv' hC' => ?_⟩
    have eR3 : H3 R = some (.lst vs) := g3.h _ _ eR (by rintro rfl; exact nRd rfl)
    have lv := dvs.length
    rw [List.length_map] at lv
    refine ⟨vs, eR3, small1000 (by have := thingsC_len b; omega), vs ++ [v'], b' ++ [t'], G3, ?_, ?_, upd_same, ?_, ?_, ?_, by simp [hL]⟩
    · exact (g1.trans g3 D1.some').put (g3.none gR1 (cell_lst eR)) (.inl hR)
    · exact D3.put nRd (D.nel hR)
    · exact g3.none gR1 (cell_lst eR)
    · rw [List.map_append]
      exact DpAll.snoc (dvs.mono g3.g) dv'
    · rw [thingsC_snoc, take_snoc ht, thingsC_snoc, hC, hC']
  · rintro H1 ⟨vs, b', G1, g1, D1, eR, gR1, dvs, hC, hL⟩
    refine ⟨R, vs, rfl, .inl ⟨SqL.of eR, fun p hp => ?_⟩⟩
    have g2 := g1.new (o := .tup vs) hp D1.some'
    have s2 := same_upd (o := .tup vs) (g1.gh.free hp)
    rw [List.take_of_length_le (by omega)] at hC
    refine k _ b' _ _ g2 (D1.upd hp) ?_ hC (by omega)
    unfold planD
    rw [thingsD_eq]
    exact .tup (SqT.of upd_same) (dvs.mono s2)
theorem unfit_thing_all (T : Txt K mg) : ∀ f : Nat, FnOk P w K mg base CX0 (2 * f + 10) T.a_law_unfit_thing T.d_law_unfit_thing ["_law_draw", "_law_thing", "_law_names"] (spUnfitT K f)
  | 0 => by
    have no : ∀ vs H Q E, ¬ spUnfitT K 0 vs H Q E := fun vs H Q E h => by
      obtain ⟨d, l, na, names, G, v, t, _, _, _, _, _, _, _, _, h1, _⟩ := h
      omega
    exact ⟨fun vs H Q E h => absurd h (no vs H Q E), fun A outer s H args us vs Q E _ _ _ _ h => absurd h (no vs H Q E)⟩
  | f + 1 => unfit_thing_step T f (unfit_step T f (unfit_thing_all T f))
theorem ok_law_unfit (T : Txt K mg) : FnOk P w K mg base CX0 75 T.a_law_unfit T.d_law_unfit ["_law_draw", "_law_plan", "_law_names"] (spUnfitB K 32) := unfit_step T 32 (unfit_thing_all T 32)
/-- alike data are the same -/
def spSame (K : PySem.W.Frag) (n : Nat) : Sp := fun vs H Q _ => ∃ (x y : V) (d : PyData), vs = [x, y] ∧ Dp K H x d ∧ Dp K H y d ∧ dep d < n ∧ wid d ≤ 100000 ∧ ∀ H', Same H H' → Q (.bl true) H'
theorem same_step (T : Txt K mg) (n : Nat) (G_law_same : FnOk P w K mg base CX0 n T.a_law_same T.d_law_same ["_law_found", "_law_due"] (spSame K n)) :
    FnOk P w K mg base CX0 (n + 1) T.a_law_same T.d_law_same ["_law_found", "_law_due"] (spSame K (n + 1)) := by
  refine T.F_law_same.ok sc_law_same (fun vs H Q E h => ?_) (fun cdv A outer s H vs Q E hr h => ?_)
  · obtain ⟨x, y, d, rfl, _⟩ := h
    rfl
  obtain ⟨x, y, d, rfl, dx, dy, hn, hw, k⟩ := h
  refine ⟨_, (pss_cons (ps_if (pt_val (pe_callB call_isiT (by rfl) T.z_isinstance (by decide +kernel) (pa_cons (pv 1) (pa_cons (pe_tup (pa_cons (pe_bltn (v := .ty "list") (by rfl) T.z_list (by decide +kernel) rfl) (pa_cons (pe_bltn (v := .ty "tuple") (by rfl) T.z_tuple (by decide +kernel) rfl) pa_nil))) pa_nil)))) (pss_cons (ps_if (PW.pt (pw_or (pt_cmpR op_ne (pe_callB call_isi (by rfl) T.z_isinstance (by decide +kernel) (pa_cons (pv 0) (pa_cons (pe_bltn (v := .ty "list") (by rfl) T.z_list (by decide +kernel) rfl) pa_nil))) (pe_callB call_isi (by rfl) T.z_isinstance (by decide +kernel) (pa_cons (pv 1) (pa_cons (pe_bltn (v := .ty "list") (by rfl) T.z_list (by decide +kernel) rfl) pa_nil))) (nomark _)) (pw_or1 (pt_not (pt_val (pe_callB call_isiT (by rfl) T.z_isinstance (by decide +kernel) (pa_cons (pv 0) (pa_cons (pe_tup (pa_cons (pe_bltn (v := .ty "list") (by rfl) T.z_list (by decide +kernel) rfl) (pa_cons (pe_bltn (v := .ty "tuple") (by rfl) T.z_tuple (by decide +kernel) rfl) pa_nil))) pa_nil)))))))) (pss_one (ps_ret pe_bl)) pss_nil)
      (pss_one (ps_ret (pe_and (pe_cmpR op_eq (pe_callB call_len (by rfl) T.z_len (by decide +kernel) (pa_cons (pv 0) pa_nil)) (pe_callB call_len (by rfl) T.z_len (by decide +kernel) (pa_cons (pv 1) pa_nil)) (nomark _)) (pe_one (pe_callB (cr_all rfl) (by rfl) T.z_all (by decide +kernel) (pa_cons (pe_lc (own := [("_law_one", 2), ("_law_other", 3)]) (g := gTup K 2 ((gCons (gName 2) (gCons (gName 3) gNil)))) (tt := tYes) rfl sc_law_same.nd (RZ.pi_zipA (by rfl) T.z_zip (pa_cons (pv 0) (pa_cons (pv 1) pa_nil))) (blkOk_by (N := N_law_same) (sc := defScope s_law_same) (by decide +kernel)) (fun _ _ _ _ _ => (pg_tup rfl (pgs_cons (pg_name (i := 2) sc_law_same.nd rfl (Or.inl rfl)) (pgs_cons (pg_name (i := 3) sc_law_same.nd rfl (Or.inl rfl)) pgs_nil)))) (fun _ _ _ _ _ => pts_nil) (fun _ _ _ _ _ => (pe_call G_law_same hr (by rfl) T.g_law_same T.F_law_same.kp T.b_law_same .nil pass0 (pa_cons (pv 2) (pa_cons (pv 3) pa_nil))))) pa_nil))))))) pss_nil)
      (pss_cons (ps_if (pt_cmpR op_isN (pv 1) pe_non (nomark _)) (pss_one (ps_ret (pe_cmpR op_isN (pv 0) pe_non (nomark _)))) pss_nil)
      (pss_cons (ps_if (PW.pt (pw_or (pt_cmpR op_ne (pe_callB call_isi (by rfl) T.z_isinstance (by decide +kernel) (pa_cons (pv 0) (pa_cons (pe_bltn (v := .ty "bool") (by rfl) T.z_bool (by decide +kernel) rfl) pa_nil))) (pe_callB call_isi (by rfl) T.z_isinstance (by decide +kernel) (pa_cons (pv 1) (pa_cons (pe_bltn (v := .ty "bool") (by rfl) T.z_bool (by decide +kernel) rfl) pa_nil))) (nomark _)) (pw_or1 (pt_cmpR op_ne (pe_callB call_isi (by rfl) T.z_isinstance (by decide +kernel) (pa_cons (pv 0) (pa_cons (pe_bltn (v := .ty "int") (by rfl) T.z_int (by decide +kernel) rfl) pa_nil))) (pe_callB call_isi (by rfl) T.z_isinstance (by decide +kernel) (pa_cons (pv 1) (pa_cons (pe_bltn (v := .ty "int") (by rfl) T.z_int (by decide +kernel) rfl) pa_nil))) (nomark _))))) (pss_one (ps_ret pe_bl)) pss_nil)
      (pss_one (ps_ret (pe_and (pe_cmpR op_eq (pe_callB call_isi (by rfl) T.z_isinstance (by decide +kernel) (pa_cons (pv 0) (pa_cons (pe_bltn (v := .ty "str") (by rfl) T.z_str (by decide +kernel) rfl) pa_nil))) (pe_callB call_isi (by rfl) T.z_isinstance (by decide +kernel) (pa_cons (pv 1) (pa_cons (pe_bltn (v := .ty "str") (by rfl) T.z_str (by decide +kernel) rfl) pa_nil))) (nomark _)) (pe_one (pe_cmpR op_eq (pv 0) (pv 1) (nomark _))))))))), ?_⟩
  have kd := fun d => kit_d (K := K) d
  -- isinstance(due, (list, tuple))
  refine ⟨_, rfl, by show 2 ≤ sizeLine; decide, fun p hp => ?_⟩
  have s1 : Same H (upd H p (.tup clsLT)) := same_upd hp
  refine ⟨y, p, clsLT, _, _, _, rfl, upd_same, pairLT, dp_ty (Dp.mono s1 dy), kit2 (kd d).1 (kd d).2.1, _, rfl, ?_⟩
  refine ite2 (fun c1 => ?_) (fun c1 => ?_)
  · -- lists, tuples
    refine ⟨_, rfl, x, _, _, _, _, rfl, .ty _, dp_ty (Dp.mono s1 dx), (kd d).1, ?_⟩
    refine ⟨_, rfl, y, _, _, _, _, rfl, .ty _, dp_ty (Dp.mono s1 dy), (kd d).1, rfl, _, rfl, ?_⟩
    refine iteNS rfl ?_
    refine ⟨_, rfl, by show 2 ≤ sizeLine; decide, fun p2 hp2 => ?_⟩
    have s2 := s1.trans (same_upd (o := .tup clsLT) hp2)
    refine ⟨x, p2, clsLT, _, _, _, rfl, upd_same, pairLT, dp_ty (Dp.mono s2 dx), kit2 (kd d).1 (kd d).2.1, _, rfl, ?_⟩
    rw [c1]
    refine iteF ?_
    generalize hH : upd (upd H p (.tup clsLT)) p2 (.tup clsLT) = H2 at s2
    have dx2 := Dp.mono s2 dx
    have dy2 := Dp.mono s2 dy
    -- the turns of the comprehension
    have turn : ∀ (D : Addr) (xs ys : List V) (ds : List PyData), H2 D = none → DpAll K H2 xs ds → DpAll K H2 ys ds → depAll ds < n → widAll ds ≤ 100000 → ds.length ≤ 100000 → ∀ (i : Nat) (z : V) (H H' : Hp), i < min xs.length ys.length →
        (Same H2 H ∧ H D = some (.lst (List.replicate i (V.bl true)))) → YPair (fun i => xs[i]?) (fun i => ys[i]?) i H z H' → ∃ T u v du, z = .ref T ∧ H' T = some (.tup [u, v]) ∧ Dp K H' u du ∧ Dp K H' v du ∧ dep du < n ∧ wid du ≤ 100000 ∧ i < 100000 ∧ Same H2 H' ∧ H' D = some (.lst (List.replicate i (V.bl true))) := by
      rintro D xs ys ds hD ax ay hdp hwd hln i z H3 H4 hi ⟨sm, eD⟩ ⟨Tt, u, v, rfl, nT, rfl, gx, gy⟩
      have lx := ax.length
      obtain ⟨du, gd, pu⟩ := ax.get gx
      obtain ⟨dv, gd', pv⟩ := ay.get gy
      rw [gd] at gd'
      cases gd'
      have sm' := sm.trans (same_upd (o := .tup [u, v]) nT)
      have := dep_get gd
      have := wid_get gd
      refine ⟨Tt, u, v, du, rfl, upd_same, Dp.mono sm' pu, Dp.mono sm' pv, by omega, by omega, by omega, sm', ?_⟩
      rw [upd_ne (ne_of_none eD nT)]
      exact eD
    have fin : ∀ (m : Nat) (H' : Hp) (D : Addr), Same H2 H' → H' D = some (.lst (List.replicate m (V.bl true))) → ∃ (a : Addr) (bs : List Bool), ([.ref D] : List V) = [V.ref a] ∧ SqL K H' a (bs.map V.bl) ∧ Q (.bl (bs.all id)) H' := by
      intro m H' D sm eD
      refine ⟨D, List.replicate m true, rfl, SqL.of (by rw [List.map_replicate]; exact eD), ?_⟩
      rw [show (List.replicate m true).all id = true by simp]
      exact k _ (s2.trans sm)
    have body : ∀ (D : Addr) (i : Nat) (u v : V) (du : PyData) (H' : Hp), H2 D = none → Dp K H' u du → Dp K H' v du → dep du < n → wid du ≤ 100000 → i < 100000 → Same H2 H' → H' D = some (.lst (List.replicate i (V.bl true))) →
        spSame K n [u, v] H' (fun y H4 => ∃ acc, H4 D = some (.lst acc) ∧ acc.length < sizeLine ∧ (Same H2 (upd H4 D (.lst (acc ++ [y]))) ∧ (upd H4 D (.lst (acc ++ [y]))) D = some (.lst (List.replicate (i + 1) (V.bl true))))) E0 := by
      intro D i u v du H' hD pu pv hdp hwd hi sm eD
      refine ⟨u, v, du, rfl, pu, pv, hdp, hwd, fun H4 sm4 => ?_⟩
      refine ⟨List.replicate i (V.bl true), sm4 _ _ eD, ?_, ?_, ?_⟩
      · rw [List.length_replicate]
        exact Nat.lt_of_lt_of_le hi (by decide)
      · intro b o e
        rw [upd_ne (ne_of_none e hD)]
        exact sm4 _ _ (sm _ _ e)
      · rw [upd_same, List.replicate_succ']
    cases dx2 with
    | @lst a xs ds hs ha =>
      cases dy2 with
      | @lst b ys _ hs' ha' =>
        have hdp : depAll ds < n := by
          rw [dep] at hn
          omega
        have hwd : widAll ds ≤ 100000 ∧ ds.length ≤ 100000 := by
          rw [wid] at hw
          omega
        have lx := ha.length
        have ly := ha'.length
        have el : decide (V.int ((xs.length : Nat) : Int) = V.int ((ys.length : Nat) : Int)) = true := by
          rw [lx, ly]
          exact decide_eq_true rfl
        refine ⟨_, rfl, _, _, rfl, .inl ⟨xs, hs, rfl⟩, _, rfl, _, _, rfl, .inl ⟨ys, hs', rfl⟩, rfl, _, rfl, ?_⟩
        rw [el]
        refine iteT ?_
        refine ⟨_, rfl, _, rfl, a, b, xs, ys, rfl, .inl ⟨hs, hs', fun D hD => ?_⟩⟩
        refine lc_it (walk_zip rfl) (fun i H => Same H2 H ∧ H D = some (.lst (List.replicate i (V.bl true)))) ⟨same_upd hD, upd_same⟩ (fun i H _ p => ⟨same_l p.1 hs, same_l p.1 hs'⟩) ?_ (fun H' p => fin _ H' D p.1 p.2)
        intro i z H3 H4 hi p y
        obtain ⟨Tt, u, v, du, rfl, eT, pu, pv, h1, h2, h3, sm, eD⟩ := turn D xs ys ds hD ha ha' hdp hwd.1 hwd.2 i z H3 H4 hi p y
        refine ⟨Tt, [u, v], rfl, SqT.of eT, rfl, u, [v], rfl, v, [], rfl, rfl, rfl, ?_⟩
        exact ⟨_, rfl, _, rfl, body D i u v du H4 hD pu pv h1 h2 h3 sm eD⟩
    | @tup a xs ds hs ha =>
      cases dy2 with
      | @tup b ys _ hs' ha' =>
        have hdp : depAll ds < n := by
          rw [dep] at hn
          omega
        have hwd : widAll ds ≤ 100000 ∧ ds.length ≤ 100000 := by
          rw [wid] at hw
          omega
        have lx := ha.length
        have ly := ha'.length
        have el : decide (V.int ((xs.length : Nat) : Int) = V.int ((ys.length : Nat) : Int)) = true := by
          rw [lx, ly]
          exact decide_eq_true rfl
        refine ⟨_, rfl, _, _, rfl, .inr ⟨xs, hs, rfl⟩, _, rfl, _, _, rfl, .inr ⟨ys, hs', rfl⟩, rfl, _, rfl, ?_⟩
        rw [el]
        refine iteT ?_
        refine ⟨_, rfl, _, rfl, a, b, xs, ys, rfl, .inr ⟨hs, hs', fun D hD => ?_⟩⟩
        refine lc_it (walk_zipT rfl) (fun i H => Same H2 H ∧ H D = some (.lst (List.replicate i (V.bl true)))) ⟨same_upd hD, upd_same⟩ (fun i H _ p => ⟨same_t p.1 hs, same_t p.1 hs'⟩) ?_ (fun H' p => fin _ H' D p.1 p.2)
        intro i z H3 H4 hi p y
        obtain ⟨Tt, u, v, du, rfl, eT, pu, pv, h1, h2, h3, sm, eD⟩ := turn D xs ys ds hD ha ha' hdp hwd.1 hwd.2 i z H3 H4 hi p y
        refine ⟨Tt, [u, v], rfl, SqT.of eT, rfl, u, [v], rfl, v, [], rfl, rfl, rfl, ?_⟩
        exact ⟨_, rfl, _, rfl, body D i u v du H4 hD pu pv h1 h2 h3 sm eD⟩
    | non => exact absurd c1 (by decide)
    | bl b => exact absurd c1 (by decide : ¬ (isTn "list" "bool" || isTn "tuple" "bool") = true)
    | int i => exact absurd c1 (by decide : ¬ (isTn "list" "int" || isTn "tuple" "int") = true)
    | str x => exact absurd c1 (by decide : ¬ (isTn "list" "str" || isTn "tuple" "str") = true)
  · generalize upd H p (.tup clsLT) = H2 at s1
    have dx2 := Dp.mono s1 dx
    have dy2 := Dp.mono s1 dy
    cases dx2 with
    | lst hs ha => exact absurd rfl c1
    | tup hs ha => exact absurd rfl c1
    | non =>
      cases dy2
      refine ⟨_, rfl, rfl, _, rfl, ?_⟩
      refine iteT ?_
      exact ⟨_, rfl, rfl, k _ s1⟩
    | bl b =>
      cases dy2
      refine ⟨_, rfl, rfl, _, rfl, ?_⟩
      refine iteF ?_
      -- isinstance(.., bool), isinstance(.., int)
      refine ⟨_, rfl, _, _, _, _, _, rfl, .ty _, .base (.bl b), (kd (.bool b)).2.2.1, _, rfl, _, _, _, _, _, rfl, .ty _, .base (.bl b), (kd (.bool b)).2.2.1, rfl, _, rfl, ?_⟩
      refine iteNS rfl ?_
      refine ⟨_, rfl, _, _, _, _, _, rfl, .ty _, .base (.bl b), (kd (.bool b)).2.2.2.1, _, rfl, _, _, _, _, _, rfl, .ty _, .base (.bl b), (kd (.bool b)).2.2.2.1, rfl, _, rfl, ?_⟩
      refine iteNS rfl ?_
      refine ⟨_, rfl, _, _, _, _, _, rfl, .ty _, .base (.bl b), (kd (.bool b)).2.2.2.2, _, rfl, _, _, _, _, _, rfl, .ty _, .base (.bl b), (kd (.bool b)).2.2.2.2, rfl, _, rfl, ?_⟩
      rw [decide_eq_true rfl]
      refine iteT ?_
      refine ⟨_, rfl, _, rfl, rfl, ?_⟩
      rw [decide_eq_true rfl]
      exact k _ s1
    | int b =>
      cases dy2
      refine ⟨_, rfl, rfl, _, rfl, ?_⟩
      refine iteF ?_
      -- isinstance(.., bool), isinstance(.., int)
      refine ⟨_, rfl, _, _, _, _, _, rfl, .ty _, .base (.int b), (kd (.int b)).2.2.1, _, rfl, _, _, _, _, _, rfl, .ty _, .base (.int b), (kd (.int b)).2.2.1, rfl, _, rfl, ?_⟩
      refine iteNS rfl ?_
      refine ⟨_, rfl, _, _, _, _, _, rfl, .ty _, .base (.int b), (kd (.int b)).2.2.2.1, _, rfl, _, _, _, _, _, rfl, .ty _, .base (.int b), (kd (.int b)).2.2.2.1, rfl, _, rfl, ?_⟩
      refine iteNS rfl ?_
      refine ⟨_, rfl, _, _, _, _, _, rfl, .ty _, .base (.int b), (kd (.int b)).2.2.2.2, _, rfl, _, _, _, _, _, rfl, .ty _, .base (.int b), (kd (.int b)).2.2.2.2, rfl, _, rfl, ?_⟩
      rw [decide_eq_true rfl]
      refine iteT ?_
      refine ⟨_, rfl, _, rfl, rfl, ?_⟩
      rw [decide_eq_true rfl]
      exact k _ s1
    | str b =>
      cases dy2
      refine ⟨_, rfl, rfl, _, rfl, ?_⟩
      refine iteF ?_
      -- isinstance(.., bool), isinstance(.., int)
      refine ⟨_, rfl, _, _, _, _, _, rfl, .ty _, .base (.str b), (kd (.str b)).2.2.1, _, rfl, _, _, _, _, _, rfl, .ty _, .base (.str b), (kd (.str b)).2.2.1, rfl, _, rfl, ?_⟩
      refine iteNS rfl ?_
      refine ⟨_, rfl, _, _, _, _, _, rfl, .ty _, .base (.str b), (kd (.str b)).2.2.2.1, _, rfl, _, _, _, _, _, rfl, .ty _, .base (.str b), (kd (.str b)).2.2.2.1, rfl, _, rfl, ?_⟩
      refine iteNS rfl ?_
      refine ⟨_, rfl, _, _, _, _, _, rfl, .ty _, .base (.str b), (kd (.str b)).2.2.2.2, _, rfl, _, _, _, _, _, rfl, .ty _, .base (.str b), (kd (.str b)).2.2.2.2, rfl, _, rfl, ?_⟩
      rw [decide_eq_true rfl]
      refine iteT ?_
      refine ⟨_, rfl, _, rfl, rfl, ?_⟩
      rw [decide_eq_true rfl]
      exact k _ s1
theorem same_all (T : Txt K mg) : ∀ n, FnOk P w K mg base CX0 n T.a_law_same T.d_law_same ["_law_found", "_law_due"] (spSame K n)
  | 0 => by
    have no : ∀ vs H Q E, ¬ spSame K 0 vs H Q E := fun vs H Q E h => by
      obtain ⟨x, y, d, _, _, _, h, _⟩ := h
      omega
    exact ⟨fun vs H Q E h => absurd h (no vs H Q E), fun A outer s H args us vs Q E _ _ _ _ h => absurd h (no vs H Q E)⟩
  | n + 1 => same_step T n (same_all T n)
theorem ok_law_same (T : Txt K mg) : FnOk P w K mg base CX0 12 T.a_law_same T.d_law_same ["_law_found", "_law_due"] (spSame K 12) := same_all T 12
/-- what the law asks of an exception's class -/
structure UfC (T : Txt K mg) (C : Addr) : Prop where
  cls : ClsE K C
  word : PySem.W.findIn K (.ref C) "word" = some none
  kind : ∃ b, PySem.W.kitOne K (.ref C) (.ref T.x_Misread) = some b ∧ PySem.W.kitOne K (.ref C) (.ref T.x_Unfit) = some (!b)
  ve : PySem.W.kitOne K (.ref C) (.type "ValueError") = some true
def spClass (T : Txt K mg) : Addr → Value → Option Addr → Sp := fun a cls d vs H Q _ => ∃ (C dd : Addr) (fs : List (Str × V)) (wd : Str), vs = [.ref a] ∧ cls = .ref C ∧ d = some dd ∧ UfC T C ∧ H dd = some (.xd fs) ∧ fs.lookup (Str.ofString "word") = some (V.str wd) ∧ Q (.str wd) H
theorem ok_law_class (T : Txt K mg) : FnE P w K mg base 1 T.a_law_class T.d_law_class ["_law_e"] (spClass T) := by
  refine fn_ofE T.F_law_class sc_law_class (fun a cls d vs H Q E h => ?_) (fun cdv A outer s H vs Q E p cls d hz hf hr h => ?_)
  · obtain ⟨C, dd, fs, wd, rfl, _⟩ := h
    rfl
  obtain ⟨C, dd, fs, wd, rfl, rfl, rfl, U, ed, lw, k⟩ := h
  have hp : p ∈ (L2H.cxH CX0 P w K mg base N_law_class (Str.ofString "_law_class") (defScope s_law_class) T.a_law_class cdv A outer s H E p).nox.pn := List.mem_singleton.mpr rfl
  refine ⟨_, (pss_cons (ps_if (PW.pt (pw_or (pt_cmpR op_eq (pe_callB (call_isP U.cls hp hz hf) (by rfl) T.z_isinstance (by decide +kernel) (pa_cons (pv 0) (pa_cons (pe_glob (v := .ref T.x_Misread) rfl T.gx_Misread rfl) pa_nil))) (pe_callB (call_isP U.cls hp hz hf) (by rfl) T.z_isinstance (by decide +kernel) (pa_cons (pv 0) (pa_cons (pe_glob (v := .ref T.x_Unfit) rfl T.gx_Unfit rfl) pa_nil))) (nomark _)) (pw_or1 (pt_not (pt_val (pe_callB (call_isP U.cls hp hz hf) (by rfl) T.z_isinstance (by decide +kernel) (pa_cons (pv 0) (pa_cons (pe_bltn (v := .ty "ValueError") (by rfl) T.z_ValueError (by decide +kernel) rfl) pa_nil)))))))) (pss_one (ps_ret pe_str)) pss_nil)
      (pss_one (ps_ret (pe_xp U.cls U.word hp hz hf (pv 0))))), ?_⟩
  obtain ⟨b, k1, k2⟩ := U.kind
  refine ⟨_, rfl, _, _, b, fs, rfl, fun u hu => hu, ed, k1, ?_⟩
  refine ⟨_, rfl, _, _, !b, fs, rfl, fun u hu => hu, ed, k2, ?_⟩
  refine ⟨rfl, _, rfl, ?_⟩
  rw [show decide (V.bl b = V.bl (!b)) = false by cases b <;> decide]
  refine iteF ?_
  refine ⟨_, rfl, _, _, true, fs, rfl, fun u hu => hu, ed, U.ve, _, rfl, ?_⟩
  refine iteF ?_
  exact ⟨_, rfl, rfl, fs, _, ed, lw, k⟩
theorem pss_ex {X : Cx} {ss : List Stmt} {α : Type} {p : α → Prop} {t : α → TS} (h : ∀ x, p x → PSs X ss (t x)) : PSs X ss (fun D σ H => ∃ x, p x ∧ t x D σ H) :=
  ⟨fun pins s σ H D I ⟨x, hx, q⟩ => (h x hx).run pins s σ H D I q⟩
/-- what the law makes of an exception -/
def EXTried (T : Txt K mg) (Q : VK) : XK := fun cls d H' => ∃ (C dd : Addr) (fs : List (Str × V)) (wd : Str), cls = .ref C ∧ d = some dd ∧ UfC T C ∧ H' dd = some (.xd fs) ∧ fs.lookup (Str.ofString "word") = some (V.str wd) ∧
  PySem.W.exmOne K (.ref C) (.ref T.x_BadText) = some false ∧ PySem.W.exmOne K (.ref C) (.ref T.x_BadPage) = some false ∧ PySem.W.exmOne K (.ref C) (.ref T.x_Stopped) = some false ∧
  ((PySem.W.exmAny K (.ref C) [.ref T.x_NoName, .ref T.x_Twice, .ref T.x_NoPlan, .ref T.x_NoLabel, .ref T.x_Taken, .ref T.x_Ring, .ref T.x_NotPlain, .ref T.x_Tangled, .ref T.x_Breaks, .ref T.x_InUse, .ref T.x_Uneven] = some true ∧ PySem.W.findIn K (.ref C) "name" = some none ∧ ∃ v, fs.lookup (Str.ofString "name") = some v ∧ ∀ p, H' p = none → Q (.ref p) (upd H' p (.tup [.str wd, v]))) ∨
    (PySem.W.exmAny K (.ref C) [.ref T.x_NoName, .ref T.x_Twice, .ref T.x_NoPlan, .ref T.x_NoLabel, .ref T.x_Taken, .ref T.x_Ring, .ref T.x_NotPlain, .ref T.x_Tangled, .ref T.x_Breaks, .ref T.x_InUse, .ref T.x_Uneven] = some false ∧ PySem.W.exmOne K (.ref C) (.ref T.x_Refused) = some true ∧ ∀ p, H' p = none → Q (.ref p) (upd H' p (.tup [.str wd, .non]))))
def TTried (T : Txt K mg) : (XK → Hp → VK → Prop) → Hp → VK → Prop := fun tl H Q =>
  tl (EXTried T Q) H fun v H' => 2 ≤ sizeLine ∧ ∀ p, H' p = none → Q (.ref p) (upd H' p (.tup [.str "told", v]))
theorem tried_gives {X : Cx} (T : Txt X.K X.mg) (cdg : Value) (q : Str) (hr : Room 3 X.A) : LamX.GivesTo X N_law_tried "_law_tried" (defScope s_law_tried) T.a_law_tried cdg (defBody s_law_tried) "_law_ask" q (TTried T) := by
  intro f c' s H Q tl act hc h
  have hr1 : Room 2 (cxOf C8.CX0 X.prog X.w X.K X.mg X.base N_law_tried "_law_tried" (defScope s_law_tried) T.a_law_tried cdg X.A X.stack s H C8.E0).nox.A := hr.deeper _
  refine ⟨_, pss_one (ps_try_manyA (X := (cxOf C8.CX0 X.prog X.w X.K X.mg X.base N_law_tried "_law_tried" (defScope s_law_tried) T.a_law_tried cdg X.A X.stack s H C8.E0).nox) (n := "_law_e") (i := 1)
      (tb := fun W D σ H => ∃ Ech : XK, (∀ cls d σ' H', Ech cls d H' → W cls d σ' H') ∧ tRet (tTup (tCons (tC (V.str "told")) (tCons (fun σZ HZ Q => σZ[0]? = some (some (V.ref f)) ∧ HZ c' = some (LamX.CodeO c' q) ∧ tl Ech HZ Q) tNil))) D σ H)
      rfl rfl sc_law_tried.nd rfl rfl LamX.takes0 (fun W pn xe tk _ => ?_)
      (.one ⟨rfl, by decide, .inl T.gx_BadText⟩ (fun _ _ _ _ _ _ _ => pss_one ps_never) <| .one ⟨rfl, by decide, .inl T.gx_BadPage⟩ (fun _ _ _ _ _ _ _ => pss_one ps_never) <| .one ⟨rfl, by decide, .inl T.gx_Stopped⟩ (fun _ _ _ _ _ _ _ => pss_one ps_never) <|
        .tup (.cons ⟨rfl, by decide, .inl T.gx_NoName⟩ (.cons ⟨rfl, by decide, .inl T.gx_Twice⟩ (.cons ⟨rfl, by decide, .inl T.gx_NoPlan⟩ (.cons ⟨rfl, by decide, .inl T.gx_NoLabel⟩ (.cons ⟨rfl, by decide, .inl T.gx_Taken⟩ (.cons ⟨rfl, by decide, .inl T.gx_Ring⟩ (.cons ⟨rfl, by decide, .inl T.gx_NotPlain⟩ (.cons ⟨rfl, by decide, .inl T.gx_Tangled⟩ (.cons ⟨rfl, by decide, .inl T.gx_Breaks⟩ (.cons ⟨rfl, by decide, .inl T.gx_InUse⟩ (.cons ⟨rfl, by decide, .inl T.gx_Uneven⟩ .nil))))))))))) (by simp) (fun a oe cls d pn hz hf => pss_ex (p := fun x : Addr × Addr => cls = .ref x.1 ∧ d = some x.2 ∧ UfC T x.1 ∧ PySem.W.findIn X.K (.ref x.1) "name" = some none) (t := fun x => tRet (tTup (tCons (tCallE a (.ref x.1) (some x.2) (spClass T) (tCons (tVar 1) tNil)) (tCons (tXp a x.2 "name" (tVar 1)) tNil)))) fun x hx => by
            obtain ⟨rfl, rfl, U, hn⟩ := hx
            exact pss_one (ps_ret (pe_tup (pa_cons (pe_callE (ok_law_class T) (L2H.roomH_of (hr1.mono (by decide))) hz hf (by rfl) T.g_law_class T.F_law_class.kp T.b_law_class (pa_cons (pv 1) pa_nil)) (pa_cons (pe_xp (p := (a, oe)) U.cls hn List.mem_cons_self hz hf (pv 1)) pa_nil))))) <|
        .one ⟨rfl, by decide, .inl T.gx_Refused⟩ (ts := fun a cls d => tRet (tTup (tCons (tCallE a cls d (spClass T) (tCons (tVar 1) tNil)) (tCons (tC .non) tNil)))) (fun a oe cls d pn hz hf => pss_one (ps_ret (pe_tup (pa_cons (pe_callE (ok_law_class T) (L2H.roomH_of (hr1.mono (by decide))) hz hf (by rfl) T.g_law_class T.F_law_class.kp T.b_law_class (pa_cons (pv 1) pa_nil)) (pa_cons pe_non pa_nil))))) .nil)), ?_⟩
  · refine ⟨fun pins s' σ H' D I h' => ?_⟩
    obtain ⟨Ech, hW, h3⟩ := h'
    exact (pss_one (ps_ret (pe_tup (pa_cons pe_str (pa_cons (act W pn xe Ech _ _ tk hW) pa_nil))))).run pins s' σ H' D I h3
  · refine ⟨EXTried T Q, fun cls d σ' H' hx => ?_, rfl, hc, h⟩
    obtain ⟨C, dd, fs, wd, rfl, rfl, U, ed, lw, m1, m2, m3, hx⟩ := hx
    refine ⟨false, m1, (fun z => nomatch z), fun _ => ⟨false, m2, (fun z => nomatch z), fun _ => ⟨false, m3, (fun z => nomatch z), fun _ => ?_⟩⟩⟩
    rcases hx with ⟨mt, hn, v, lv, k⟩ | ⟨mt, mr, k⟩
    · refine ⟨true, mt, fun _ a ha hi => ?_, (fun z => nomatch z)⟩
      have hg : (σ'.set 1 (some (V.ref a)))[1]? = some (some (V.ref a)) := by rw [List.getElem?_set_self hi]
      refine ⟨(C, dd), ⟨rfl, rfl, U, hn⟩, ?_⟩
      exact ⟨_, hg, C, dd, fs, wd, rfl, rfl, rfl, U, ed, lw, _, hg, rfl, fs, v, ed, lv, by show 2 ≤ sizeLine; decide, k⟩
    · refine ⟨false, mt, (fun z => nomatch z), fun _ => ⟨true, mr, fun _ a ha hi => ?_, (fun z => nomatch z)⟩⟩
      have hg : (σ'.set 1 (some (V.ref a)))[1]? = some (some (V.ref a)) := by rw [List.getElem?_set_self hi]
      exact ⟨_, hg, C, dd, fs, wd, rfl, rfl, rfl, U, ed, lw, by show 2 ≤ sizeLine; decide, k⟩
theorem ok_law_bodies (T : Txt K mg) : FnOk P w K mg base CX0 1 T.a_law_bodies T.d_law_bodies ["_law_thing"] (spBodies K) := by
  refine T.F_law_bodies.ok sc_law_bodies (fun vs H Q E h => ?_) (fun cdv A outer s H vs Q E hr h => ?_)
  · obtain ⟨v, t, G, rfl, _⟩ := h
    rfl
  obtain ⟨v, t, G, rfl, sg, dt, k⟩ := h
  refine ⟨_, (pss_cons (ps_if (pt_cmpR op_eq (pe_ix ix_tup (pv 0) pe_int (fun _ _ => rfl)) pe_str (nomark _)) (pss_one (ps_ret (pe_lst (pa_cons (pe_ix ix_tup (pv 0) pe_int (fun _ _ => rfl)) (pa_cons (pe_ix ix_tup (pv 0) pe_int (fun _ _ => rfl)) pa_nil))))) pss_nil)
      (pss_one (ps_ret (pe_dget2 (hu_of hr) (pe_disp (pps_cons pe_str (pe_lst (pa_cons (pe_ix ix_tup (pv 0) (pe_un un_neg pe_int) (fun _ _ => rfl)) pa_nil)) (pps_cons pe_str (pe_lst (pa_cons (pe_ix ix_tup (pv 0) (pe_un un_neg pe_int) (fun _ _ => rfl)) pa_nil)) pps_nil)) (by rfl) (by rfl) (by simp) (by decide)) (pe_ix ix_tup (pv 0) pe_int (fun _ _ => rfl)) (pe_lst pa_nil) ⟨rfl, rfl, rfl, rfl⟩)))), ?_⟩
  cases t with
  | step n =>
    rw [thingD] at dt
    obtain ⟨a, xs, rfl, hs, hd⟩ := dt.tup'
    obtain ⟨x0, r0, rfl, h0, hd⟩ := hd.c
    obtain ⟨x1, r1, rfl, h1, hd⟩ := hd.c
    cases hd.n
    have hs := same_t sg hs
    cases h0.str'
    cases h1.int'
    refine ⟨_, rfl, a, _, _, _, rfl, rfl, hs, (rfl : atI [V.str "step", V.int n] 0 = some (V.str "step")), rfl, _, rfl, ?_⟩
    rw [dec_ff (by decide)]
    refine iteF ?_
    intro D hD
    have s1 := same_upd (o := .dK []) hD
    refine ⟨_, rfl, _, rfl, a, _, _, _, rfl, rfl, same_t s1 hs, (rfl : atI [V.str "step", V.int n] (-1) = some (V.int n)), by show 1 ≤ sizeLine; decide, fun L1 hL1 => ?_⟩
    have s2 := s1.trans (same_upd (o := .lst [(V.int n)]) hL1)
    refine ⟨_, rfl, _, rfl, a, _, _, _, rfl, rfl, same_t s2 hs, (rfl : atI [V.str "step", V.int n] (-1) = some (V.int n)), by show 1 ≤ sizeLine; decide, fun L2 hL2 => ?_⟩
    have s3 := s2.trans (same_upd (o := .lst [(V.int n)]) hL2)
    have eD : _ = some (HO.dK []) := (same_upd (o := .lst [(V.int n)]) hL2) _ _ ((same_upd (o := .lst [(V.int n)]) hL1) _ _ (upd_same (H := H) (a := D) (o := .dK [])))
    have nD1 : L1 ≠ D := fun z => by rw [z, upd_same] at hL1; cases hL1
    have nD2 : L2 ≠ D := fun z => by
      rw [z, upd_ne (Ne.symm nD1), upd_same] at hL2
      cases hL2
    refine ⟨eD, [(Sum.inr (Str.ofString "for"), .ref L1), (Sum.inr (Str.ofString "double"), .ref L2)], rfl, (by show 2 ≤ 15; decide), ?_⟩
    have s4 := same_put (o := .dK (mergeK [] [(Sum.inr (Str.ofString "for"), .ref L1), (Sum.inr (Str.ofString "double"), .ref L2)])) s3 hD
    refine ⟨D, rfl, .inl ⟨_, .inl upd_same⟩, ?_⟩
    refine ⟨_, rfl, a, _, _, _, rfl, rfl, same_t s4 hs, (rfl : atI [V.str "step", V.int n] 0 = some (V.str "step")), by show 0 ≤ sizeLine; decide, fun L3 hL3 => ?_⟩
    have s5 := same_upd (o := .lst []) hL3
    have dg := DGet.k (k := Sum.inr (Str.ofString "step")) (s5 _ _ (upd_same (a := D) (o := .dK (mergeK [] [(Sum.inr (Str.ofString "for"), V.ref L1), (Sum.inr (Str.ofString "double"), .ref L2)]))))
    exact ⟨_, dg, k L3 _ _ (s4.trans s5) (same_none s4 hL3) upd_same .nil⟩
  | call nm e =>
    rw [thingD] at dt
    obtain ⟨a, xs, rfl, hs, hd⟩ := dt.tup'
    obtain ⟨x0, r0, rfl, h0, hd⟩ := hd.c
    obtain ⟨x1, r1, rfl, h1, hd⟩ := hd.c
    obtain ⟨x2, r2, rfl, h2, hd⟩ := hd.c
    cases hd.n
    have hs := same_t sg hs
    cases h0.str'
    cases h1.str'
    refine ⟨_, rfl, a, _, _, _, rfl, rfl, hs, (rfl : atI [V.str "call", V.str nm, x2] 0 = some (V.str "call")), rfl, _, rfl, ?_⟩
    rw [dec_ff (by decide)]
    refine iteF ?_
    intro D hD
    have s1 := same_upd (o := .dK []) hD
    refine ⟨_, rfl, _, rfl, a, _, _, _, rfl, rfl, same_t s1 hs, (rfl : atI [V.str "call", V.str nm, x2] (-1) = some x2), by show 1 ≤ sizeLine; decide, fun L1 hL1 => ?_⟩
    have s2 := s1.trans (same_upd (o := .lst [x2]) hL1)
    refine ⟨_, rfl, _, rfl, a, _, _, _, rfl, rfl, same_t s2 hs, (rfl : atI [V.str "call", V.str nm, x2] (-1) = some x2), by show 1 ≤ sizeLine; decide, fun L2 hL2 => ?_⟩
    have s3 := s2.trans (same_upd (o := .lst [x2]) hL2)
    have eD : _ = some (HO.dK []) := (same_upd (o := .lst [x2]) hL2) _ _ ((same_upd (o := .lst [x2]) hL1) _ _ (upd_same (H := H) (a := D) (o := .dK [])))
    have nD1 : L1 ≠ D := fun z => by rw [z, upd_same] at hL1; cases hL1
    have nD2 : L2 ≠ D := fun z => by
      rw [z, upd_ne (Ne.symm nD1), upd_same] at hL2
      cases hL2
    refine ⟨eD, [(Sum.inr (Str.ofString "for"), .ref L1), (Sum.inr (Str.ofString "double"), .ref L2)], rfl, (by show 2 ≤ 15; decide), ?_⟩
    have s4 := same_put (o := .dK (mergeK [] [(Sum.inr (Str.ofString "for"), .ref L1), (Sum.inr (Str.ofString "double"), .ref L2)])) s3 hD
    refine ⟨D, rfl, .inl ⟨_, .inl upd_same⟩, ?_⟩
    refine ⟨_, rfl, a, _, _, _, rfl, rfl, same_t s4 hs, (rfl : atI [V.str "call", V.str nm, x2] 0 = some (V.str "call")), by show 0 ≤ sizeLine; decide, fun L3 hL3 => ?_⟩
    have s5 := same_upd (o := .lst []) hL3
    have dg := DGet.k (k := Sum.inr (Str.ofString "call")) (s5 _ _ (upd_same (a := D) (o := .dK (mergeK [] [(Sum.inr (Str.ofString "for"), V.ref L1), (Sum.inr (Str.ofString "double"), .ref L2)]))))
    exact ⟨_, dg, k L3 _ _ (s4.trans s5) (same_none s4 hL3) upd_same .nil⟩
  | double b =>
    rw [thingD] at dt
    obtain ⟨a, xs, rfl, hs, hd⟩ := dt.tup'
    obtain ⟨x0, r0, rfl, h0, hd⟩ := hd.c
    obtain ⟨x1, r1, rfl, h1, hd⟩ := hd.c
    cases hd.n
    have hs := same_t sg hs
    cases h0.str'
    refine ⟨_, rfl, a, _, _, _, rfl, rfl, hs, (rfl : atI [V.str "double", x1] 0 = some (V.str "double")), rfl, _, rfl, ?_⟩
    rw [dec_ff (by decide)]
    refine iteF ?_
    intro D hD
    have s1 := same_upd (o := .dK []) hD
    refine ⟨_, rfl, _, rfl, a, _, _, _, rfl, rfl, same_t s1 hs, (rfl : atI [V.str "double", x1] (-1) = some x1), by show 1 ≤ sizeLine; decide, fun L1 hL1 => ?_⟩
    have s2 := s1.trans (same_upd (o := .lst [x1]) hL1)
    refine ⟨_, rfl, _, rfl, a, _, _, _, rfl, rfl, same_t s2 hs, (rfl : atI [V.str "double", x1] (-1) = some x1), by show 1 ≤ sizeLine; decide, fun L2 hL2 => ?_⟩
    have s3 := s2.trans (same_upd (o := .lst [x1]) hL2)
    have eD : _ = some (HO.dK []) := (same_upd (o := .lst [x1]) hL2) _ _ ((same_upd (o := .lst [x1]) hL1) _ _ (upd_same (H := H) (a := D) (o := .dK [])))
    have nD1 : L1 ≠ D := fun z => by rw [z, upd_same] at hL1; cases hL1
    have nD2 : L2 ≠ D := fun z => by
      rw [z, upd_ne (Ne.symm nD1), upd_same] at hL2
      cases hL2
    refine ⟨eD, [(Sum.inr (Str.ofString "for"), .ref L1), (Sum.inr (Str.ofString "double"), .ref L2)], rfl, (by show 2 ≤ 15; decide), ?_⟩
    have s4 := same_put (o := .dK (mergeK [] [(Sum.inr (Str.ofString "for"), .ref L1), (Sum.inr (Str.ofString "double"), .ref L2)])) s3 hD
    refine ⟨D, rfl, .inl ⟨_, .inl upd_same⟩, ?_⟩
    refine ⟨_, rfl, a, _, _, _, rfl, rfl, same_t s4 hs, (rfl : atI [V.str "double", x1] 0 = some (V.str "double")), by show 0 ≤ sizeLine; decide, fun L3 hL3 => ?_⟩
    have s5 := same_upd (o := .lst []) hL3
    have dg := DGet.k (k := Sum.inr (Str.ofString "double")) (s5 _ _ (upd_same (a := D) (o := .dK (mergeK [] [(Sum.inr (Str.ofString "for"), V.ref L1), (Sum.inr (Str.ofString "double"), .ref L2)]))))
    refine ⟨_, dg, k L2 _ _ (s4.trans s5) (same_none s2 hL2) (s5 _ _ (by rw [upd_ne nD2]; exact upd_same)) (.cons h1 .nil)⟩
  | loop nm e1 e2 b =>
    rw [thingD] at dt
    obtain ⟨a, xs, rfl, hs, hd⟩ := dt.tup'
    obtain ⟨x0, r0, rfl, h0, hd⟩ := hd.c
    obtain ⟨x1, r1, rfl, h1, hd⟩ := hd.c
    obtain ⟨x2, r2, rfl, h2, hd⟩ := hd.c
    obtain ⟨x3, r3, rfl, h3, hd⟩ := hd.c
    obtain ⟨x4, r4, rfl, h4, hd⟩ := hd.c
    cases hd.n
    have hs := same_t sg hs
    cases h0.str'
    cases h1.str'
    refine ⟨_, rfl, a, _, _, _, rfl, rfl, hs, (rfl : atI [V.str "for", V.str nm, x2, x3, x4] 0 = some (V.str "for")), rfl, _, rfl, ?_⟩
    rw [dec_ff (by decide)]
    refine iteF ?_
    intro D hD
    have s1 := same_upd (o := .dK []) hD
    refine ⟨_, rfl, _, rfl, a, _, _, _, rfl, rfl, same_t s1 hs, (rfl : atI [V.str "for", V.str nm, x2, x3, x4] (-1) = some x4), by show 1 ≤ sizeLine; decide, fun L1 hL1 => ?_⟩
    have s2 := s1.trans (same_upd (o := .lst [x4]) hL1)
    refine ⟨_, rfl, _, rfl, a, _, _, _, rfl, rfl, same_t s2 hs, (rfl : atI [V.str "for", V.str nm, x2, x3, x4] (-1) = some x4), by show 1 ≤ sizeLine; decide, fun L2 hL2 => ?_⟩
    have s3 := s2.trans (same_upd (o := .lst [x4]) hL2)
    have eD : _ = some (HO.dK []) := (same_upd (o := .lst [x4]) hL2) _ _ ((same_upd (o := .lst [x4]) hL1) _ _ (upd_same (H := H) (a := D) (o := .dK [])))
    have nD1 : L1 ≠ D := fun z => by rw [z, upd_same] at hL1; cases hL1
    have nD2 : L2 ≠ D := fun z => by
      rw [z, upd_ne (Ne.symm nD1), upd_same] at hL2
      cases hL2
    refine ⟨eD, [(Sum.inr (Str.ofString "for"), .ref L1), (Sum.inr (Str.ofString "double"), .ref L2)], rfl, (by show 2 ≤ 15; decide), ?_⟩
    have s4 := same_put (o := .dK (mergeK [] [(Sum.inr (Str.ofString "for"), .ref L1), (Sum.inr (Str.ofString "double"), .ref L2)])) s3 hD
    refine ⟨D, rfl, .inl ⟨_, .inl upd_same⟩, ?_⟩
    refine ⟨_, rfl, a, _, _, _, rfl, rfl, same_t s4 hs, (rfl : atI [V.str "for", V.str nm, x2, x3, x4] 0 = some (V.str "for")), by show 0 ≤ sizeLine; decide, fun L3 hL3 => ?_⟩
    have s5 := same_upd (o := .lst []) hL3
    have dg := DGet.k (k := Sum.inr (Str.ofString "for")) (s5 _ _ (upd_same (a := D) (o := .dK (mergeK [] [(Sum.inr (Str.ofString "for"), V.ref L1), (Sum.inr (Str.ofString "double"), .ref L2)]))))
    refine ⟨_, dg, k L1 _ _ (s4.trans s5) (same_none s1 hL1) (s5 _ _ (by rw [upd_ne nD1]; exact (same_upd hL2) _ _ upd_same)) (.cons h4 .nil)⟩
  | test e1 e2 b1 b2 =>
    rw [thingD] at dt
    obtain ⟨a, xs, rfl, hs, hd⟩ := dt.tup'
    obtain ⟨x0, r0, rfl, h0, hd⟩ := hd.c
    obtain ⟨x1, r1, rfl, h1, hd⟩ := hd.c
    obtain ⟨x2, r2, rfl, h2, hd⟩ := hd.c
    obtain ⟨x3, r3, rfl, h3, hd⟩ := hd.c
    obtain ⟨x4, r4, rfl, h4, hd⟩ := hd.c
    cases hd.n
    have hs := same_t sg hs
    cases h0.str'
    refine ⟨_, rfl, a, _, _, _, rfl, rfl, hs, (rfl : atI [V.str "if", x1, x2, x3, x4] 0 = some (V.str "if")), rfl, _, rfl, ?_⟩
    rw [dec_tt]
    refine iteT ?_
    exact ⟨_, rfl, a, _, _, _, rfl, rfl, hs, (rfl : atI [V.str "if", x1, x2, x3, x4] 3 = some x3), _, rfl, a, _, _, _, rfl, rfl, hs, (rfl : atI [V.str "if", x1, x2, x3, x4] 4 = some x4), by show 2 ≤ sizeLine; decide, fun L hL => k L _ _ (same_upd hL) hL upd_same (.cons h3 (.cons h4 .nil))⟩
  | again n z =>
    rw [thingD] at dt
    obtain ⟨a, xs, rfl, hs, hd⟩ := dt.tup'
    obtain ⟨x0, r0, rfl, h0, hd⟩ := hd.c
    obtain ⟨x1, r1, rfl, h1, hd⟩ := hd.c
    obtain ⟨x2, r2, rfl, h2, hd⟩ := hd.c
    cases hd.n
    have hs := same_t sg hs
    cases h0.str'
    cases h2.str'
    cases h1.int'
    refine ⟨_, rfl, a, _, _, _, rfl, rfl, hs, (rfl : atI [V.str "again", V.int n, V.str z] 0 = some (V.str "again")), rfl, _, rfl, ?_⟩
    rw [dec_ff (by decide)]
    refine iteF ?_
    intro D hD
    have s1 := same_upd (o := .dK []) hD
    refine ⟨_, rfl, _, rfl, a, _, _, _, rfl, rfl, same_t s1 hs, (rfl : atI [V.str "again", V.int n, V.str z] (-1) = some (V.str z)), by show 1 ≤ sizeLine; decide, fun L1 hL1 => ?_⟩
    have s2 := s1.trans (same_upd (o := .lst [(V.str z)]) hL1)
    refine ⟨_, rfl, _, rfl, a, _, _, _, rfl, rfl, same_t s2 hs, (rfl : atI [V.str "again", V.int n, V.str z] (-1) = some (V.str z)), by show 1 ≤ sizeLine; decide, fun L2 hL2 => ?_⟩
    have s3 := s2.trans (same_upd (o := .lst [(V.str z)]) hL2)
    have eD : _ = some (HO.dK []) := (same_upd (o := .lst [(V.str z)]) hL2) _ _ ((same_upd (o := .lst [(V.str z)]) hL1) _ _ (upd_same (H := H) (a := D) (o := .dK [])))
    have nD1 : L1 ≠ D := fun z => by rw [z, upd_same] at hL1; cases hL1
    have nD2 : L2 ≠ D := fun z => by
      rw [z, upd_ne (Ne.symm nD1), upd_same] at hL2
      cases hL2
    refine ⟨eD, [(Sum.inr (Str.ofString "for"), .ref L1), (Sum.inr (Str.ofString "double"), .ref L2)], rfl, (by show 2 ≤ 15; decide), ?_⟩
    have s4 := same_put (o := .dK (mergeK [] [(Sum.inr (Str.ofString "for"), .ref L1), (Sum.inr (Str.ofString "double"), .ref L2)])) s3 hD
    refine ⟨D, rfl, .inl ⟨_, .inl upd_same⟩, ?_⟩
    refine ⟨_, rfl, a, _, _, _, rfl, rfl, same_t s4 hs, (rfl : atI [V.str "again", V.int n, V.str z] 0 = some (V.str "again")), by show 0 ≤ sizeLine; decide, fun L3 hL3 => ?_⟩
    have s5 := same_upd (o := .lst []) hL3
    have dg := DGet.k (k := Sum.inr (Str.ofString "again")) (s5 _ _ (upd_same (a := D) (o := .dK (mergeK [] [(Sum.inr (Str.ofString "for"), V.ref L1), (Sum.inr (Str.ofString "double"), .ref L2)]))))
    exact ⟨_, dg, k L3 _ _ (s4.trans s5) (same_none s4 hL3) upd_same .nil⟩
theorem law_look_thing_step (T : Txt K mg) (f : Nat) (G_law_look_thing : FnOk P w K mg base CX0 (f + 5) T.a_law_look_thing T.d_law_look_thing ["_law_thing", "_law_scope", "_law_deep"] (spLawLook K f)) :
    FnOk P w K mg base CX0 (f + 6) T.a_law_look_thing T.d_law_look_thing ["_law_thing", "_law_scope", "_law_deep"] (spLawLook K (f + 1)) := by
  refine T.F_law_look_thing.ok sc_law_look_thing (fun vs H Q E h => ?_) (fun cdv A outer s H vs Q E hr h => ?_)
  · obtain ⟨v, sa, t, sc, deep, rfl, _⟩ := h
    rfl
  obtain ⟨v, sa, t, sc, deep, rfl, dt, es, hsz, hf, k⟩ := h
  obtain ⟨a, y, r, rfl, hs, ro⟩ := thing_second dt
  have teq := lookT_eq t sc deep
  rw [lookH_eq, orE_assoc, orE_assoc] at teq
  refine ⟨_, (pss_cons (ps_set (i := 3) sc_law_look_thing.nd rfl (Or.inl rfl) (pe_ix ix_tup (pv 0) pe_int (fun _ _ => rfl)))
      (C8.pss_cut (ps_set (i := 4) sc_law_look_thing.nd rfl (Or.inl rfl) (pe_dget2 (hu_of hr) (pe_disp (pps_cons pe_str (pe_slice sl_tupA (pv 0) (po_some pe_int) (po_some pe_int)) (pps_cons pe_str (pe_slice sl_tupA (pv 0) (po_some pe_int) (po_some pe_int)) (pps_cons pe_str (pe_slice sl_tupA (pv 0) (po_some pe_int) (po_some pe_int)) pps_nil))) (by rfl) (by rfl) (by simp) (by decide)) (pv 3) (pe_tup pa_nil) ⟨rfl, rfl, rfl, rfl⟩))
      (C8.pss_cut (ps_if (PW.pt (pw_and (pt_cmpR op_eq (pv 3) pe_str (nomark _)) (pw_and1 (pt_cmpR op_in_seq (pe_ix ix_tup (pv 0) pe_int (fun _ _ => rfl)) (pv 1) (by rfl))))) (pss_one (ps_ret (pe_tup (pa_cons pe_str (pa_cons (pe_ix ix_tup (pv 0) pe_int (fun _ _ => rfl)) pa_nil))))) pss_nil)
      (C8.pss_cut (ps_for PassesOwn.never rfl (pi_tup (pv 4)) (pg_name (i := 5) sc_law_look_thing.nd rfl (Or.inl rfl)) (pss_one (ps_if (PW.pt (pw_and (pt_cmpR op_ne (pe_ix ix_tup (pv 5) pe_int (fun _ _ => rfl)) pe_str (nomark _)) (pw_and1 (pt_cmpR op_notIn_seq (pe_ix ix_tup (pv 5) pe_int (fun _ _ => rfl)) (pv 1) (by rfl))))) (pss_one (ps_ret (pe_tup (pa_cons pe_str (pa_cons (pe_ix ix_tup (pv 5) pe_int (fun _ _ => rfl)) pa_nil))))) pss_nil)))
      (C8.pss_cut (ps_if (PW.pt (pw_and (pt_cmpR op_eq (pv 3) pe_str (nomark _)) (pw_and1 (PW.pt (pw_or (pt_cmpR op_gt (pv 2) pe_int (nomark _)) (pw_or1 (PW.pt (pw_and (pt_cmpR op_eq (pe_ix ix_tup (pv 0) pe_int (fun _ _ => rfl)) pe_str (nomark _)) (pw_and1 (pt_cmpR op_gt (pe_ix ix_tup (pv 0) pe_int (fun _ _ => rfl)) pe_int (nomark _))))))))))) (pss_one (ps_ret (pe_tup (pa_cons pe_str (pa_cons pe_non pa_nil))))) pss_nil)
      (pss_cons (ps_for PassesOwn.never rfl (pi_list (pe_call (ok_law_bodies T) (hr.mono (by omega)) (by rfl) T.g_law_bodies T.F_law_bodies.kp T.b_law_bodies .nil pass0 (pa_cons (pv 0) pa_nil))) (pg_name (i := 6) sc_law_look_thing.nd rfl (Or.inl rfl)) (pss_one (ps_for PassesOwn.never rfl (pi_tup (pv 6)) (pg_name (i := 7) sc_law_look_thing.nd rfl (Or.inl rfl)) (pss_cons (ps_set (i := 8) sc_law_look_thing.nd rfl (Or.inl rfl) (pe_call G_law_look_thing (hr.mono (by omega)) (by rfl) T.g_law_look_thing T.F_law_look_thing.kp T.b_law_look_thing .nil pass0 (pa_cons (pv 7) (pa_cons (pe_op op_cat (pv 1) (pe_op op_rep (pe_lst (pa_cons (pe_ix ix_tup (pv 0) pe_int (fun _ _ => rfl)) pa_nil)) (pe_callTy call_int1 (by rfl) T.z_int (by decide +kernel) (pa_cons (pe_cmpR op_eq (pv 3) pe_str (nomark _)) pa_nil)))) (pa_cons (pe_op op_add (pv 2) pe_int) pa_nil)))))
      (pss_one (ps_if (pt_cmpR op_notN (pv 8) pe_non (nomark _)) (pss_one (ps_ret (pv 8))) pss_nil))))))
      (pss_one (ps_ret pe_non)))))))), ?_⟩
  let S : Option V → Option V → Option V → Option V → Option V → L2.St := fun v4 v5 v6 v7 v8 => [some (.ref a), some (.ref sa), some (.int (deep : Nat)), some (.str (wordT t)), v4, v5, v6, v7, v8]
  let Md : L2.St → Hp → Prop := fun σ H' => ∃ (p : Addr) (xs : List V), Same H H' ∧ SqT K H' p xs ∧ DpAll K H' xs ((endsL t).map endD) ∧ σ = S (some (.ref p)) none none none none
  refine ⟨_, rfl, a, _, _, _, rfl, rfl, hs, (atI_nat (j := 0) rfl : atI (V.str (wordT t) :: y :: r) 0 = some (.str (wordT t))), ?_⟩
  refine ⟨Md, ?_, ?_⟩
  · intro D hD
    have sD := same_upd (o := .dK []) hD
    refine ⟨_, rfl, _, rfl, _, rfl, sl_S (same_t sD hs) rfl (fun z => absurd z.1 (slx_no 1 (by simp))) fun p1 H1 s1 h1 => ?_⟩
    refine ⟨_, rfl, _, rfl, _, rfl, sl_S (same_t (sD.trans s1) hs) rfl (fun z => absurd z.1 (slx_no 0 (by simp))) fun p2 H2 s2 h2 => ?_⟩
    refine ⟨_, rfl, _, rfl, _, rfl, sl_S (same_t (sD.trans (s1.trans s2)) hs) rfl (fun z => absurd z.1 (slx_no 1 (by simp))) fun p3 H3 s3 h3 => ?_⟩
    have s23 := s2.trans s3
    have s13 := s1.trans s23
    refine ⟨s13 _ _ upd_same, [(Sum.inr (Str.ofString "for"), .ref p1), (Sum.inr (Str.ofString "if"), .ref p2), (Sum.inr (Str.ofString "call"), .ref p3)], rfl, (by show 3 ≤ 15; decide), ?_⟩
    let M := mergeK [] [(Sum.inr (Str.ofString "for"), V.ref p1), (Sum.inr (Str.ofString "if"), V.ref p2), (Sum.inr (Str.ofString "call"), V.ref p3)]
    have s4 := same_put (o := .dK M) (sD.trans s13) hD
    have eD3 : H3 D = some (.dK []) := s13 _ _ upd_same
    have h1 := sqt_dict (o := .dK M) (same_t s23 h1) eD3
    have h2 := sqt_dict (o := .dK M) (same_t s3 h2) eD3
    have h3 := sqt_dict (o := .dK M) h3 eD3
    refine ⟨D, rfl, .inl ⟨_, .inl upd_same⟩, ?_⟩
    refine ⟨_, rfl, by show 0 ≤ sizeLine; decide, fun p4 h4 => ?_⟩
    have s5 := same_upd (o := .tup []) h4
    have s45 := s4.trans s5
    cases t with
    | step n =>
      cases ro
      exact ⟨_, DGet.k (k := Sum.inr (Str.ofString "step")) (s5 _ _ upd_same), p4, [], s45, SqT.of upd_same, .nil, rfl⟩
    | again n z =>
      cases ro
      exact ⟨_, DGet.k (k := Sum.inr (Str.ofString "again")) (s5 _ _ upd_same), p4, [], s45, SqT.of upd_same, .nil, rfl⟩
    | double b =>
      obtain ⟨x, q, _⟩ := ro
      cases q
      exact ⟨_, DGet.k (k := Sum.inr (Str.ofString "double")) (s5 _ _ upd_same), p4, [], s45, SqT.of upd_same, .nil, rfl⟩
    | call nm e =>
      obtain ⟨x, q, d⟩ := ro
      cases q
      exact ⟨_, DGet.k (k := Sum.inr (Str.ofString "call")) (s5 _ _ upd_same), p3, [x], s45, same_t s5 h3, .cons (d.mono s45) .nil, rfl⟩
    | loop nm e1 e2 b =>
      obtain ⟨x, x2, x3, q, d1, d2, _⟩ := ro
      cases q
      exact ⟨_, DGet.k (k := Sum.inr (Str.ofString "for")) (s5 _ _ upd_same), p1, [x, x2], s45, same_t s5 h1, .cons (d1.mono s45) (.cons (d2.mono s45) .nil), rfl⟩
    | test e1 e2 b1 b2 =>
      obtain ⟨x, x2, x3, x4, q, d1, d2, _⟩ := ro
      cases q
      exact ⟨_, DGet.k (k := Sum.inr (Str.ofString "if")) (s5 _ _ upd_same), p2, [y, x2], s45, same_t s5 h2, .cons (d1.mono s45) (.cons (d2.mono s45) .nil), rfl⟩
  rintro σ H1 ⟨p, xs, s1, hp, dxs, rfl⟩
  have hs1 := same_t s1 hs
  -- a going round it of that name
  refine ⟨fun σ H' => twT sc t = none ∧ Same H1 H' ∧ σ = S (some (.ref p)) none none none none, ?_, ?_⟩
  · refine ⟨_, rfl, rfl, _, rfl, ?_⟩
    rcases word_for t with ⟨nm, e1, e2, b, rfl⟩ | ⟨wf, tn, _⟩
    · obtain ⟨x, x2, x3, q, _⟩ := ro
      cases q
      simp only [wordT]
      rw [decide_true]
      refine iteT ?_
      refine ⟨_, rfl, a, _, _, _, rfl, rfl, hs1, (rfl : atI [V.str (wordT (.loop nm e1 e2 b)), V.str nm, x, x2, x3] 1 = some (.str nm)), _, rfl, sa, _, rfl, .inl (SqL.of (s1 _ _ es)), rfl, flat_strs _, _, rfl, ?_⟩
      rw [show (if false = true then !inV (V.str nm) (sc.map V.str) else inV (V.str nm) (sc.map V.str)) = decide (nm ∈ sc) by rw [if_neg (by decide)]; exact inV_strs _ _]
      simp only [twT] at teq ⊢
      refine ite2 (fun c1 => ?_) (fun c1 => ?_)
      · have c1' : nm ∈ sc := of_decide_eq_true c1
        rw [if_pos c1'] at teq
        rw [teq] at k
        refine ⟨_, rfl, a, _, _, _, rfl, rfl, hs1, (rfl : atI [V.str (wordT (.loop nm e1 e2 b)), V.str nm, x, x2, x3] 1 = some (.str nm)), by show 2 ≤ sizeLine; decide, fun q hq => ?_⟩
        exact k q _ (s1.trans (same_upd hq)) (.tup (SqT.of upd_same) (.cons (.str _) (.cons (.str _) .nil)))
      · have c1' : ¬ nm ∈ sc := fun z => c1 (decide_eq_true z)
        rw [if_neg c1']
        exact ⟨rfl, Same.refl _, rfl⟩
    · rw [wf]
      exact iteF (iteF ⟨tn _, Same.refl _, rfl⟩)
  rintro σ H2 ⟨tw, s2, rfl⟩
  rw [tw, orE_none] at teq
  -- its ends
  refine ⟨fun σ H' => ∃ v5 : Option V, lookEs sc (endsL t) = none ∧ Same H1 H' ∧ σ = S (some (.ref p)) v5 none none none, ?_, ?_⟩
  · have lx : xs.length = (endsL t).length := by
      have := dxs.length
      rw [List.length_map] at this
      exact this
    refine ⟨_, rfl, p, rfl, ⟨_, same_t s2 hp⟩, for_it (walk_tup (xs := xs)) (fun i σ H' => Same H1 H' ∧ lookEs sc (endsL t) = lookEs sc ((endsL t).drop i) ∧ ∃ v5 : Option V, σ = S (some (.ref p)) v5 none none none) ⟨s2, by rw [List.drop_zero], _, rfl⟩ (fun i σ H' _ q => same_t q.1 hp) ?_ ?_⟩
    · rintro i x σ H5 H6 hi ⟨s5, el, v5, rfl⟩ ⟨rfl, hx⟩
      obtain ⟨e, he, de⟩ := DpAll.at_ dxs hx
      rw [lookEs_drop he] at el
      obtain ⟨ea, u, v, rfl, hea, du, dv⟩ := (de.mono s5).tup2
      cases du.str'
      cases dv.int'
      have s15 := s1.trans s5
      refine ⟨_, rfl, ea, _, _, _, rfl, rfl, hea, (rfl : atI [V.str e.1, .int e.2] 0 = some (.str e.1)), rfl, _, rfl, ?_⟩
      by_cases h0 : e.1 = Str.ofString ""
      · have le : lookE sc e = none := by
          unfold lookE
          exact if_pos (.inl h0)
        rw [le, orE_none] at el
        have c : decide (V.str e.1 = V.str (Str.ofString "")) = true := decide_eq_true (by rw [h0])
        rw [c]
        exact iteF (iteF ⟨s5, el, _, rfl⟩)
      have c : decide (V.str e.1 = V.str (Str.ofString "")) = false := decide_eq_false (by intro z; exact h0 (V.str.inj z))
      rw [c]
      refine iteT ?_
      refine ⟨_, rfl, ea, _, _, _, rfl, rfl, hea, (rfl : atI [V.str e.1, .int e.2] 0 = some (.str e.1)), _, rfl, sa, _, rfl, .inl (SqL.of (s15 _ _ es)), rfl, flat_strs _, _, rfl, ?_⟩
      rw [show (if true = true then !inV (V.str e.1) (sc.map V.str) else inV (V.str e.1) (sc.map V.str)) = !decide (e.1 ∈ sc) by rw [if_pos rfl, inV_strs]]
      refine ite2 (fun c2 => ?_) (fun c2 => ?_)
      · have c2' : ¬ e.1 ∈ sc := by simpa using c2
        have le : lookE sc e = some (.noName e.1) := by
          unfold lookE
          exact if_neg (by rintro (z | z); exact h0 z; exact c2' z)
        rw [le] at el
        rw [teq, el] at k
        refine ⟨_, rfl, ea, _, _, _, rfl, rfl, hea, (rfl : atI [V.str e.1, .int e.2] 0 = some (.str e.1)), by show 2 ≤ sizeLine; decide, fun q hq => ?_⟩
        exact k q _ (s15.trans (same_upd hq)) (.tup (SqT.of upd_same) (.cons (.str _) (.cons (.str _) .nil)))
      · have c2' : e.1 ∈ sc := by simpa using c2
        have le : lookE sc e = none := by
          unfold lookE
          exact if_pos (.inr c2')
        rw [le, orE_none] at el
        exact ⟨s5, el, _, rfl⟩
    · rintro σ H5 ⟨s5, el, v5, rfl⟩
      rw [lx, List.drop_length] at el
      exact ⟨v5, el, s5, rfl⟩
  rintro σ H3 ⟨v5, le, s3, rfl⟩
  rw [le, orE_none] at teq
  have s13 := s1.trans s3
  -- again
  refine ⟨fun σ H' => agT deep t = none ∧ Same H1 H' ∧ σ = S (some (.ref p)) v5 none none none, ?_, ?_⟩
  · refine ⟨_, rfl, rfl, _, rfl, ?_⟩
    rcases word_again t with ⟨n, z, rfl⟩ | ⟨wf, tn⟩
    · cases ro
      have hs3 := same_t s13 hs
      simp only [wordT]
      rw [decide_true]
      have mis : (0 < deep ∨ (z = Str.ofString "less" ∧ 1 < n)) → tRet (tTup (tCons (tC (V.str (Str.ofString "Misplaced"))) (tCons (tC V.non) tNil))) { nx := fun σ H' => agT deep (.again n z) = none ∧ Same H1 H' ∧ σ = S (some (.ref p)) v5 none none none, rt := Q } (S (some (.ref p)) v5 none none none) H3 := fun hm => by
        simp only [agT] at teq
        rw [if_pos hm] at teq
        rw [teq] at k
        refine ⟨by show 2 ≤ sizeLine; decide, fun q hq => ?_⟩
        exact k q _ (s13.trans (same_upd hq)) (.tup (SqT.of upd_same) (.cons (.str _) (.cons .non .nil)))
      have fine : ¬ (0 < deep ∨ (z = Str.ofString "less" ∧ 1 < n)) → agT deep (.again n z) = none ∧ Same H1 H3 ∧ S (some (.ref p)) v5 none none none = S (some (.ref p)) v5 none none none := fun hm => by
        refine ⟨?_, s3, rfl⟩
        simp only [agT]
        rw [if_neg hm]
      rw [if_pos rfl]
      refine ⟨_, rfl, _, _, rfl, rfl, _, rfl, ?_⟩
      refine ite2 (fun c1 => ?_) (fun c1 => ?_)
      · have c1' : (0 : Int) < (deep : Int) := of_decide_eq_true c1
        exact mis (.inl (by omega))
      have c1' : ¬ 0 < deep := fun z => c1 (decide_eq_true (by omega))
      refine ⟨_, rfl, a, _, _, _, rfl, rfl, hs3, (rfl : atI [V.str (wordT (.again n z)), V.int n, .str z] 2 = some (.str z)), rfl, _, rfl, ?_⟩
      refine ite2 (fun c2 => ?_) (fun c2 => ?_)
      · have c2' : z = Str.ofString "less" := V.str.inj (of_decide_eq_true c2)
        refine ⟨_, rfl, a, _, _, _, rfl, rfl, hs3, (rfl : atI [V.str (wordT (.again n z)), V.int n, .str z] 1 = some (.int n)), _, _, rfl, rfl, _, rfl, ?_⟩
        refine ite2 (fun c3 => ?_) (fun c3 => ?_)
        · exact mis (.inr ⟨c2', of_decide_eq_true c3⟩)
        · exact fine (by rintro (z | z); exact c1' z; exact c3 (decide_eq_true z.2))
      · exact iteF (fine (by rintro (z | z); exact c1' z; exact c2 (decide_eq_true (by rw [z.1]))))
    · rw [wf]
      exact iteF (iteF ⟨tn _, s3, rfl⟩)
  rintro σ H4 ⟨ag, s4, rfl⟩
  rw [ag, orE_none] at teq
  rw [teq] at k
  have s14 := s1.trans s4
  refine ⟨_, rfl, _, t, H, rfl, s14, dt, fun q us H5 s5 np ep du => ?_⟩
  have lu : us.length = (bodiesL t).length := by
    have := du.length
    rw [List.length_map] at this
    exact this
  have s05 := s14.trans s5
  refine ⟨q, rfl, ⟨_, SqL.of ep⟩, for_it (walk_list (xs := us)) (fun j σ H' => Same H5 H' ∧ lookBs (bodiesL t) (innerSc t sc) (deep + 1) = lookBs ((bodiesL t).drop j) (innerSc t sc) (deep + 1) ∧ ∃ v6 v7 v8 : Option V, σ = S (some (.ref p)) v5 v6 v7 v8) ⟨Same.refl _, by rw [List.drop_zero], _, _, _, rfl⟩ (fun i σ H' _ p => SqL.of (p.1 _ _ ep)) ?_ ?_⟩
  · rintro j x σ H6 H7 hj ⟨s7, ej, v6, v7, v8, rfl⟩ ⟨rfl, hx⟩
    obtain ⟨b, hb, db⟩ := DpAll.at_ du hx
    obtain ⟨ba, zs, rfl, hz, hd⟩ := db.tup'
    rw [thingsD_eq] at hd
    have lz : zs.length = b.length := by
      have := hd.length
      rw [List.length_map] at this
      exact this
    have bm := List.mem_of_getElem? hb
    have blt := bodies_lt bm
    rw [lookBs_drop hb] at ej
    have s07 := s05.trans s7
    refine ⟨_, rfl, ba, rfl, ⟨_, same_t s07 hz⟩, for_it (walk_tup (xs := zs)) (fun i σ H' => Same H5 H' ∧ lookBs (bodiesL t) (innerSc t sc) (deep + 1) = orE (lookB (b.drop i) (innerSc t sc) (deep + 1)) (lookBs ((bodiesL t).drop (j + 1)) (innerSc t sc) (deep + 1)) ∧ ∃ v7 v8 : Option V, σ = S (some (.ref p)) v5 (some (.ref ba)) v7 v8) ⟨s7, by rw [List.drop_zero]; exact ej, _, _, rfl⟩ (fun i σ H' _ p => same_t (s05.trans p.1) hz) ?_ ?_⟩
    · rintro i y' σ H8 H9 hi ⟨s9, ei, v7, v8, rfl⟩ ⟨rfl, hy⟩
      obtain ⟨t', ht', dt'⟩ := DpAll.at_ hd hy
      have tm := thingC_mem (List.mem_of_getElem? ht')
      rw [lookB_drop ht', orE_assoc] at ei
      have s09 := s05.trans s9
      refine ⟨_, rfl, _, rfl, _, rfl, a, _, _, _, rfl, rfl, same_t s09 hs, (atI_nat (j := 1) rfl : atI (V.str (wordT t) :: y :: r) 1 = some y), by show 1 ≤ sizeLine; decide, fun Z hZ => ?_⟩
      have sZ := s09.trans (same_upd (o := .lst [y]) hZ)
      refine ⟨_, rfl, rfl, .inr ⟨_, rfl, ?_⟩⟩
      generalize hkb : decide (V.str (wordT t) = V.str (Str.ofString "for")) = kb
      have il := inner_len t sc
      refine ⟨Z, _, [y], rfl, rfl, upd_same, by cases kb <;> decide, by cases kb <;> decide, by show 1 * (if kb = true then 1 else 0 : Int).toNat ≤ sizeLine; cases kb <;> decide, fun Z2 hZ2 => ?_⟩
      have sZ2 := sZ.trans (same_upd (o := .lst (List.replicate (if kb = true then 1 else 0 : Int).toNat [y]).flatten) hZ2)
      have sce := scope_in ro sc hkb
      have scl := congrArg List.length sce
      rw [List.length_append, List.length_map, List.length_map] at scl
      refine ⟨sa, Z2, _, _, rfl, rfl, sZ2 _ _ es, upd_same, Nat.le_trans (m := 1000) (by rw [List.length_map, scl]; omega) (by decide), fun Z3 hZ3 => ?_⟩
      rw [sce]
      have sZ3 := sZ2.trans (same_upd (o := .lst ((innerSc t sc).map V.str)) hZ3)
      have s53 : Same H5 _ := ((s9.trans (same_upd hZ)).trans (same_upd hZ2)).trans (same_upd (o := .lst ((innerSc t sc).map V.str)) hZ3)
      refine ⟨_, rfl, _, _, rfl, rfl, y', Z3, t', innerSc t sc, deep + 1, rfl, dt'.mono sZ3, upd_same, by omega, by omega, ?_⟩
      refine LTold.mono sZ3 k (fun e q => ⟨by rw [ei, q]; rfl, fun u H' kq => ?_⟩) fun q H' s' => ?_
      · refine ⟨_, rfl, rfl, _, rfl, ?_⟩
        rw [show decide (V.ref u = V.non) = false from decide_eq_false (fun z => nomatch z)]
        exact iteT ⟨_, rfl, kq⟩
      · rw [q, orE_none] at ei
        refine ⟨_, rfl, rfl, _, rfl, ?_⟩
        rw [show decide (V.non = V.non) = true from rfl]
        exact iteF ⟨s53.trans s', ei, _, _, rfl⟩
    · rintro σ H6 ⟨s6, ei, v7, v8, rfl⟩
      rw [lz, List.drop_length, lookB, orE_none] at ei
      exact ⟨s6, ei, _, _, _, rfl⟩
  · rintro σ H6 ⟨s6, ej, v6, v7, v8, rfl⟩
    rw [lu, List.drop_length, lookBs] at ej
    rw [ej] at k
    exact k _ (s05.trans s6)
theorem law_look_thing_all (T : Txt K mg) : ∀ f : Nat, FnOk P w K mg base CX0 (f + 5) T.a_law_look_thing T.d_law_look_thing ["_law_thing", "_law_scope", "_law_deep"] (spLawLook K f)
  | 0 => by
    have no : ∀ vs H Q E, ¬ spLawLook K 0 vs H Q E := fun vs H Q E h => by
      obtain ⟨v, sa, t, sc, deep, _, _, _, _, h1, _⟩ := h
      omega
    exact ⟨fun vs H Q E h => absurd h (no vs H Q E), fun A outer s H args us vs Q E _ _ _ _ h => absurd h (no vs H Q E)⟩
  | f + 1 => law_look_thing_step T f (law_look_thing_all T f)
theorem ok_law_look_thing (T : Txt K mg) : FnOk P w K mg base CX0 36 T.a_law_look_thing T.d_law_look_thing ["_law_thing", "_law_scope", "_law_deep"] (spLawLook K 31) := law_look_thing_all T 31
theorem ok_law_looking (T : Txt K mg) : FnOk P w K mg base CX0 37 T.a_law_looking T.d_law_looking ["_law_plan"] (spLooking K) := by
  refine T.F_law_looking.ok sc_law_looking (fun vs H Q E h => ?_) (fun cdv A outer s H vs Q E hr h => ?_)
  · obtain ⟨v, b, rfl, _⟩ := h
    rfl
  obtain ⟨v, b, rfl, db, hc, k⟩ := h
  obtain ⟨a, xs, rfl, hs, hd⟩ := db.tup'
  rw [thingsD_eq] at hd
  have lx : xs.length = b.length := by
    have := hd.length
    rw [List.length_map] at this
    exact this
  refine ⟨_, (pss_cons (ps_set (i := 1) sc_law_looking.nd rfl (Or.inl rfl) pe_int)
      (pss_cons (ps_for PassesOwn.never rfl (pi_tup (pv 0)) (pg_name (i := 2) sc_law_looking.nd rfl (Or.inl rfl)) (pss_cons (ps_set (i := 3) sc_law_looking.nd rfl (Or.inl rfl) (pe_call (ok_law_look_thing T) (hr.mono (by decide)) (by rfl) T.g_law_look_thing T.F_law_look_thing.kp T.b_law_look_thing .nil pass0 (pa_cons (pv 2) (pa_cons (pe_lst (pa_cons pe_str pa_nil)) (pa_cons pe_int pa_nil)))))
      (pss_cons (ps_if (pt_cmpR op_notN (pv 3) pe_non (nomark _)) (pss_one (ps_ret (pv 3))) pss_nil)
      (pss_cons (ps_set (i := 1) sc_law_looking.nd rfl (Or.inl rfl) (pe_op op_add (pv 1) (pe_callTy call_int1 (by rfl) T.z_int (by decide +kernel) (pa_cons (pe_cmpR op_eq (pe_ix ix_tup (pv 2) pe_int (fun _ _ => rfl)) pe_str (nomark _)) pa_nil))))
      (pss_one (ps_if (pt_cmpR op_gt (pv 1) pe_int (nomark _)) (pss_one (ps_ret (pe_tup (pa_cons pe_str (pa_cons pe_non pa_nil))))) pss_nil))))))
      (pss_one (ps_ret (pe_tup (pa_cons pe_str (pa_cons pe_non pa_nil))))))), ?_⟩
  refine ⟨_, rfl, ?_⟩
  refine ⟨a, rfl, ⟨_, hs⟩, for_it (walk_tup (xs := xs)) (fun i σ H' => ∃ (c : Nat) (v2 v3 : Option V), Same H H' ∧ lookP b 0 = lookP (b.drop i) c ∧ σ = [some (.ref a), some (.int (c : Nat)), v2, v3]) ⟨0, none, none, Same.refl _, by rw [List.drop_zero], rfl⟩ (fun i σ H' _ p => by obtain ⟨_, _, _, s, _⟩ := p; exact same_t s hs) ?_ ?_⟩
  · rintro i x σ H1 H2 hi ⟨c, v2, v3, s1, el, rfl⟩ ⟨rfl, hx⟩
    obtain ⟨t, ht, dt⟩ := DpAll.at_ hd hx
    have tm := thingC_mem (List.mem_of_getElem? ht)
    rw [lookP_drop ht] at el
    refine ⟨_, rfl, by show 1 ≤ sizeLine; decide, fun Z hZ => ?_⟩
    have sZ := s1.trans (same_upd (o := .lst [.str (Str.ofString "n")]) hZ)
    refine ⟨x, Z, t, [Str.ofString "n"], 0, rfl, dt.mono sZ, upd_same, ?_, by omega, ?_⟩
    · show 1 + thingC t ≤ 900
      omega
    generalize lookT t [Str.ofString "n"] 0 = q at el ⊢
    cases q with
    | some e =>
      intro u H' s' du
      refine ⟨_, rfl, rfl, _, rfl, ?_⟩
      rw [show decide (V.ref u = V.non) = false from decide_eq_false (fun z => nomatch z)]
      refine iteT ⟨_, rfl, ?_⟩
      rw [el] at k
      exact k _ _ (sZ.trans s') du
    | none =>
      intro H3 s3
      rw [orE_none] at el
      have s03 := sZ.trans s3
      refine ⟨_, rfl, rfl, _, rfl, ?_⟩
      rw [show decide (V.non = V.non) = true from rfl]
      refine iteF ?_
      obtain ⟨ta, r, rfl, hta, _⟩ := thing_rest dt
      refine ⟨_, rfl, _, rfl, ta, _, _, _, rfl, rfl, same_t s03 hta, (atI_nat (j := 0) rfl : atI (V.str (wordT t) :: r) 0 = some (.str (wordT t))), rfl, .inr ⟨_, rfl, ?_⟩⟩
      rw [isAg_word]
      refine ⟨_, _, rfl, rfl, ?_⟩
      have ce : ((c : Int) + (if isAg t = true then 1 else 0)) = ((c + (if isAg t = true then 1 else 0) : Nat) : Int) := by
        split <;> simp
      simp only [ce]
      generalize c + (if isAg t = true then 1 else 0) = c2 at el ⊢
      refine ⟨_, rfl, _, _, rfl, rfl, _, rfl, ?_⟩
      refine ite2 (fun c1 => ?_) (fun c1 => ?_)
      · have c1' : (1 : Int) < (c2 : Int) := of_decide_eq_true c1
        rw [if_pos (by omega)] at el
        rw [el] at k
        exact ⟨by show 2 ≤ sizeLine; decide, fun q hq => k q _ (s03.trans (same_upd hq)) (.tup (SqT.of upd_same) (.cons (.str _) (.cons .non .nil)))⟩
      have c1' : ¬ c2 > 1 := fun z => c1 (decide_eq_true (by omega))
      rw [if_neg c1'] at el
      exact ⟨c2, _, _, s03, el, rfl⟩
  · rintro σ H1 ⟨c, v2, v3, s1, el, rfl⟩
    rw [lx, List.drop_length, lookP] at el
    rw [el] at k
    exact ⟨by show 2 ≤ sizeLine; decide, fun q hq => k q _ (s1.trans (same_upd hq)) (.tup (SqT.of upd_same) (.cons (.str _) (.cons .non .nil)))⟩
theorem law_every_step (T : Txt K mg) (f : Nat) (G_law_every : FnOk P w K mg base CX0 (f + 1) T.a_law_every T.d_law_every ["_law_plan"] (spEvery K f)) :
    FnOk P w K mg base CX0 (f + 2) T.a_law_every T.d_law_every ["_law_plan"] (spEvery K (f + 1)) := by
  refine T.F_law_every.ok sc_law_every (fun vs H Q E h => ?_) (fun cdv A outer s H vs Q E hr h => ?_)
  · obtain ⟨v, b, G, rfl, _⟩ := h
    rfl
  obtain ⟨v, b, G, rfl, sg, db, hf, hc, k⟩ := h
  refine ⟨_, (pss_cons (ps_set (i := 1) sc_law_every.nd rfl (Or.inl rfl) (pe_lst pa_nil))
      (pss_cons (ps_for PassesOwn.never rfl (pi_tup (pv 0)) (pg_name (i := 2) sc_law_every.nd rfl (Or.inl rfl)) (pss_cons (ps_expr (pe_bm PySem.F.plainAttrs_list PySem.F.slot_list_append PySem.F.type_list_append mt_append (pv 1) (pa_cons (pv 2) pa_nil)))
      (pss_one (ps_for PassesOwn.never rfl (pi_list (pe_call (ok_law_bodies T) (hr.mono (by omega)) (by rfl) T.g_law_bodies T.F_law_bodies.kp T.b_law_bodies .nil pass0 (pa_cons (pv 2) pa_nil))) (pg_name (i := 3) sc_law_every.nd rfl (Or.inl rfl)) (pss_one (ps_set (i := 1) sc_law_every.nd rfl (Or.inl rfl) (pe_op op_cat (pv 1) (pe_call G_law_every (hr.mono (by omega)) (by rfl) T.g_law_every T.F_law_every.kp T.b_law_every .nil pass0 (pa_cons (pv 3) pa_nil)))))))))
      (pss_one (ps_ret (pv 1))))), ?_⟩
  obtain ⟨a, us, rfl, hs, hd⟩ := db.tup'
  rw [thingsD_eq] at hd
  have lu : us.length = b.length := by
    have := hd.length
    rw [List.length_map] at this
    exact this
  have small : ∀ {vs : List V} {i j : Nat} {t : Thing}, t ∈ b → DpAll K G vs ((everyP b i t j).map thingD) → vs.length ≤ 62 := fun {vs i j t} ht hv => by
    have h1 := hv.length
    rw [List.length_map] at h1
    have h2 := everyP_len i j ht
    omega
  refine ⟨by show 0 ≤ sizeLine; decide, fun L hL => ?_⟩
  refine ⟨_, rfl, a, rfl, ⟨_, same_t (sg.trans (same_upd hL)) hs⟩, for_it (walk_tup (xs := us)) (fun i σ H' => Same H H' ∧ ∃ (L : Addr) (vs : List V), H L = none ∧ H' L = some (.lst vs) ∧ DpAll K G vs ((everyL (b.take i)).map thingD) ∧ ∃ v2 v3, σ = [some (.ref a), some (.ref L), v2, v3]) ⟨same_upd hL, L, [], hL, upd_same, by simp [everyL]; exact .nil, _, _, rfl⟩ (fun i σ H _ p => same_t (sg.trans p.1) hs) ?_ ?_⟩
  · rintro i x σ H5 H6 hi ⟨s6, L, vs, hL, eL, dvs, v2, v3, rfl⟩ ⟨rfl, hx⟩
    obtain ⟨t, ht, dt⟩ := DpAll.at_ hd hx
    have tm := List.mem_of_getElem? ht
    have lv := dvs.length
    have l1 := take_C b i
    rw [List.length_map, everyL_len] at lv
    refine ⟨_, rfl, .inl ⟨rfl, _, SqL.of eL⟩, _, rfl, L, _, _, rfl, rfl, eL, small1000 (by omega), ?_⟩
    have s7 := same_put (o := .lst (vs ++ [x])) s6 hL
    have d7 : DpAll K G (vs ++ [x]) ((everyP b i t 0).map thingD) := by
      rw [everyP_zero, List.map_append]
      exact DpAll.snoc dvs dt
    refine ⟨_, rfl, x, t, G, rfl, sg.trans s7, dt, fun p ws H8 s8 np ep dw => ?_⟩
    have nLp : L ≠ p := fun z => by rw [← z, upd_same] at np; cases np
    have lw : ws.length = (bodiesL t).length := by
      have := dw.length
      rw [List.length_map] at this
      exact this
    have hp : H p = none := same_none s7 np
    refine ⟨p, rfl, ⟨_, SqL.of ep⟩, for_it (walk_list (xs := ws)) (fun j σ H' => Same H H' ∧ H' p = some (.lst ws) ∧ ∃ (L : Addr) (vs : List V), H L = none ∧ H' L = some (.lst vs) ∧ DpAll K G vs ((everyP b i t j).map thingD) ∧ ∃ v3, σ = [some (.ref a), some (.ref L), some x, v3]) ⟨s7.trans s8, ep, L, _, hL, s8 _ _ upd_same, d7, _, rfl⟩ (fun j σ H _ p => SqL.of p.2.1) ?_ ?_⟩
    · rintro j y σ H9 H10 hj ⟨s10, ep10, L, vs10, hL, eL10, d10, v3, rfl⟩ ⟨rfl, hy⟩
      obtain ⟨c, hcj, dc⟩ := DpAll.at_ dw hy
      have clt := bodies_lt (List.mem_of_getElem? hcj)
      have tle := thingC_mem tm
      refine ⟨_, rfl, _, rfl, y, c, G, rfl, sg.trans s10, dc, by omega, by omega, fun p3 us3 H11 s11 n3 e3 d3 => ?_⟩
      have eL11 := s11 _ _ eL10
      have l3 := d3.length
      rw [List.length_map, everyL_len] at l3
      have l10 := small tm d10
      try unfold tNil
      refine ⟨L, p3, _, _, rfl, rfl, eL11, e3, Nat.le_trans (m := 1000) (by omega) (by decide), fun p4 h4 => ?_⟩
      have s12 := s10.trans s11
      refine ⟨s12.trans (same_upd h4), by rw [upd_ne (fun z => by rw [← z, s11 _ _ ep10] at h4; cases h4)]; exact s11 _ _ ep10, p4, _, same_none s12 h4, upd_same, ?_, _, rfl⟩
      rw [everyP_succ hcj, List.map_append]
      exact DpAll_app d10 d3
    · rintro σ H9 ⟨s9, ep9, L, vs9, hL, eL9, d9, v3, rfl⟩
      have e : everyP b i t ws.length = everyL (b.take (i + 1)) := by
        rw [lw]
        exact everyP_end ht
      rw [e] at d9
      exact ⟨s9, L, vs9, hL, eL9, d9, _, _, rfl⟩
  · rintro σ H5 ⟨s5, L, vs, hL, eL, dvs, v2, v3, rfl⟩
    have e : b.take us.length = b := by rw [lu, List.take_length]
    rw [e] at dvs
    exact ⟨_, rfl, k L vs _ s5 hL eL dvs⟩
theorem law_every_all (T : Txt K mg) : ∀ f : Nat, FnOk P w K mg base CX0 (f + 1) T.a_law_every T.d_law_every ["_law_plan"] (spEvery K f)
  | 0 => by
    have no : ∀ vs H Q E, ¬ spEvery K 0 vs H Q E := fun vs H Q E h => by
      obtain ⟨v, b, G, _, _, _, h1, _⟩ := h
      omega
    exact ⟨fun vs H Q E h => absurd h (no vs H Q E), fun A outer s H args us vs Q E _ _ _ _ h => absurd h (no vs H Q E)⟩
  | f + 1 => law_every_step T f (law_every_all T f)
theorem ok_law_every (T : Txt K mg) : FnOk P w K mg base CX0 16 T.a_law_every T.d_law_every ["_law_plan"] (spEvery K 15) := law_every_all T 15
/-- an exception in the making: its word is set -/
def spRefI (K : PySem.W.Frag) : Sp := fun vs H Q _ => ∃ (a C : Addr) (z : Str), vs = [.ref a, .str z] ∧ H a = some (exo a C none) ∧ OexC K C ∧ PySem.W.findIn K (.ref C) "word" = some none ∧
  ∀ dx, H dx = none → dx ≠ a → Q .non (upd (upd H dx (exd dx [(Str.ofString "word", .str z)])) a (exo a C (some dx)))
theorem ok_Refused_init (T : Txt K mg) : FnOk P w K mg base CX0 1 T.a_Refused_init T.d_Refused_init ["self", "word"] (spRefI K) := by
  refine T.F_Refused_init.ok sc_Refused_init (fun vs H Q E h => ?_) (fun cdv A outer s H vs Q E hr h => ?_)
  · obtain ⟨a, C, z, rfl, _⟩ := h
    rfl
  obtain ⟨a, C, z, rfl, ea, oc, nf, k⟩ := h
  refine ⟨_, PSs.nox (pss_one (ps_ost (pv 0) (pv 1))), ?_⟩
  exact ⟨_, rfl, _, rfl, a, C, rfl, oc, nf, .inl ⟨ea, fun dx hdx ne => k dx hdx ne⟩⟩
theorem ok_Misplaced_init (T : Txt K mg) : FnOk P w K mg base CX0 2 T.a_Misplaced_init T.d_Misplaced_init ["self"] (spWordI K T.x_Misplaced "Misplaced") := by
  refine T.F_Misplaced_init.ok sc_Misplaced_init (fun vs H Q E h => ?_) (fun cdv A outer s H vs Q E hr h => ?_)
  · obtain ⟨a, rfl, _⟩ := h
    rfl
  obtain ⟨a, rfl, ea, k⟩ := h
  refine ⟨_, (pss_one (ps_expr (pe_cinit (by rfl) T.gx_Unfit T.sg_Unfit T.rd_Unfit T.fc_Unfit (ok_Refused_init T) (hr.mono (by decide)) T.F_Refused_init.kp T.b_Refused_init .nil pass0 (pa_cons (pv 0) (pa_cons pe_str pa_nil))))), ?_⟩
  refine ⟨_, rfl, a, T.x_Misplaced, _, rfl, ea, T.ox_Misplaced, T.nf_Misplaced_word, fun dx hdx ne => ?_⟩
  exact k dx _ hdx ne upd_same ((upd_ne ne).trans upd_same) fun b n1 n2 => (upd_ne n1).trans (upd_ne n2)
theorem ok_Twice_init (T : Txt K mg) : FnOk P w K mg base CX0 2 T.a_Twice_init T.d_Twice_init ["self", "name"] (spNameI K T.x_Twice "Twice") := by
  refine T.F_Twice_init.ok sc_Twice_init (fun vs H Q E h => ?_) (fun cdv A outer s H vs Q E hr h => ?_)
  · obtain ⟨a, z, rfl, _⟩ := h
    rfl
  obtain ⟨a, z, rfl, ea, k⟩ := h
  refine ⟨_, PSs.nox (pss_cons (ps_expr (pe_cinit (by rfl) T.gx_Unfit T.sg_Unfit T.rd_Unfit T.fc_Unfit (ok_Refused_init T) (hr.mono (by decide)) T.F_Refused_init.kp T.b_Refused_init .nil pass0 (pa_cons (pv 0) (pa_cons pe_str pa_nil))))
      (pss_one (ps_ost (pv 0) (pv 1)))), ?_⟩
  refine ⟨_, rfl, a, T.x_Twice, _, rfl, ea, T.ox_Twice, T.nf_Twice_word, fun dx hdx ne => ?_⟩
  exact ⟨_, rfl, _, rfl, a, T.x_Twice, rfl, T.ox_Twice, T.nf_Twice_name, .inr ⟨dx, _, upd_same, (upd_ne ne).trans upd_same, by show 1 ≤ 900; decide, k dx _ hdx ne ((upd_ne (Ne.symm ne)).trans upd_same) upd_same fun b n1 n2 => (upd_ne n2).trans ((upd_ne n1).trans (upd_ne n2))⟩⟩
theorem ok_bodies_of (T : Txt K mg) : FnOk P w K mg base CX0 1 T.a_bodies_of T.d_bodies_of ["thing"] (spBodies K) := by
  refine T.F_bodies_of.ok sc_bodies_of (fun vs H Q E h => ?_) (fun cdv A outer s H vs Q E hr h => ?_)
  · obtain ⟨v, t, G, rfl, _⟩ := h
    rfl
  obtain ⟨v, t, G, rfl, sg, dt, k⟩ := h
  refine ⟨_, (pss_cons (ps_if (pt_cmpR op_eq (pe_ix ix_tup (pv 0) pe_int (fun _ _ => rfl)) pe_str (nomark _)) (pss_one (ps_ret (pe_lst (pa_cons (pe_ix ix_tup (pv 0) pe_int (fun _ _ => rfl)) (pa_cons (pe_ix ix_tup (pv 0) pe_int (fun _ _ => rfl)) pa_nil))))) pss_nil)
      (pss_cons (ps_if (pt_cmpR op_eq (pe_ix ix_tup (pv 0) pe_int (fun _ _ => rfl)) pe_str (nomark _)) (pss_one (ps_ret (pe_lst (pa_cons (pe_ix ix_tup (pv 0) pe_int (fun _ _ => rfl)) pa_nil)))) pss_nil)
      (pss_one (ps_ret (pe_ifExp (pt_cmpR op_eq (pe_ix ix_tup (pv 0) pe_int (fun _ _ => rfl)) pe_str (nomark _)) (pe_lst (pa_cons (pe_ix ix_tup (pv 0) pe_int (fun _ _ => rfl)) pa_nil)) (pe_lst pa_nil)))))), ?_⟩
  cases t with
  | step n =>
    rw [thingD] at dt
    obtain ⟨a, xs, rfl, hs, hd⟩ := dt.tup'
    obtain ⟨x0, r0, rfl, h0, hd⟩ := hd.c
    obtain ⟨x1, r1, rfl, h1, hd⟩ := hd.c
    cases hd.n
    have hs := same_t sg hs
    cases h0.str'
    cases h1.int'
    refine ⟨_, rfl, a, _, _, _, rfl, rfl, hs, (rfl : atI [V.str "step", V.int n] 0 = some (V.str "step")), rfl, _, rfl, ?_⟩
    rw [dec_ff (by decide)]
    refine iteF ?_
    refine ⟨_, rfl, a, _, _, _, rfl, rfl, hs, (rfl : atI [V.str "step", V.int n] 0 = some (V.str "step")), rfl, _, rfl, ?_⟩
    rw [dec_ff (by decide)]
    refine iteF ?_
    refine ⟨_, rfl, a, _, _, _, rfl, rfl, hs, (rfl : atI [V.str "step", V.int n] 0 = some (V.str "step")), rfl, _, rfl, ?_⟩
    rw [dec_ff (by decide)]
    refine iteF ?_
    exact ⟨by show 0 ≤ sizeLine; decide, fun L hL => k L _ _ (same_upd hL) hL upd_same .nil⟩
  | call nm e =>
    rw [thingD] at dt
    obtain ⟨a, xs, rfl, hs, hd⟩ := dt.tup'
    obtain ⟨x0, r0, rfl, h0, hd⟩ := hd.c
    obtain ⟨x1, r1, rfl, h1, hd⟩ := hd.c
    obtain ⟨x2, r2, rfl, h2, hd⟩ := hd.c
    cases hd.n
    have hs := same_t sg hs
    cases h0.str'
    cases h1.str'
    refine ⟨_, rfl, a, _, _, _, rfl, rfl, hs, (rfl : atI [V.str "call", V.str nm, x2] 0 = some (V.str "call")), rfl, _, rfl, ?_⟩
    rw [dec_ff (by decide)]
    refine iteF ?_
    refine ⟨_, rfl, a, _, _, _, rfl, rfl, hs, (rfl : atI [V.str "call", V.str nm, x2] 0 = some (V.str "call")), rfl, _, rfl, ?_⟩
    rw [dec_ff (by decide)]
    refine iteF ?_
    refine ⟨_, rfl, a, _, _, _, rfl, rfl, hs, (rfl : atI [V.str "call", V.str nm, x2] 0 = some (V.str "call")), rfl, _, rfl, ?_⟩
    rw [dec_ff (by decide)]
    refine iteF ?_
    exact ⟨by show 0 ≤ sizeLine; decide, fun L hL => k L _ _ (same_upd hL) hL upd_same .nil⟩
  | double b =>
    rw [thingD] at dt
    obtain ⟨a, xs, rfl, hs, hd⟩ := dt.tup'
    obtain ⟨x0, r0, rfl, h0, hd⟩ := hd.c
    obtain ⟨x1, r1, rfl, h1, hd⟩ := hd.c
    cases hd.n
    have hs := same_t sg hs
    cases h0.str'
    refine ⟨_, rfl, a, _, _, _, rfl, rfl, hs, (rfl : atI [V.str "double", x1] 0 = some (V.str "double")), rfl, _, rfl, ?_⟩
    rw [dec_ff (by decide)]
    refine iteF ?_
    refine ⟨_, rfl, a, _, _, _, rfl, rfl, hs, (rfl : atI [V.str "double", x1] 0 = some (V.str "double")), rfl, _, rfl, ?_⟩
    rw [dec_ff (by decide)]
    refine iteF ?_
    refine ⟨_, rfl, a, _, _, _, rfl, rfl, hs, (rfl : atI [V.str "double", x1] 0 = some (V.str "double")), rfl, _, rfl, ?_⟩
    rw [dec_tt]
    refine iteT ?_
    exact ⟨_, rfl, a, _, _, _, rfl, rfl, hs, (rfl : atI [V.str "double", x1] 1 = some x1), by show 1 ≤ sizeLine; decide, fun L hL => k L _ _ (same_upd hL) hL upd_same (.cons h1 .nil)⟩
  | loop nm e1 e2 b =>
    rw [thingD] at dt
    obtain ⟨a, xs, rfl, hs, hd⟩ := dt.tup'
    obtain ⟨x0, r0, rfl, h0, hd⟩ := hd.c
    obtain ⟨x1, r1, rfl, h1, hd⟩ := hd.c
    obtain ⟨x2, r2, rfl, h2, hd⟩ := hd.c
    obtain ⟨x3, r3, rfl, h3, hd⟩ := hd.c
    obtain ⟨x4, r4, rfl, h4, hd⟩ := hd.c
    cases hd.n
    have hs := same_t sg hs
    cases h0.str'
    cases h1.str'
    refine ⟨_, rfl, a, _, _, _, rfl, rfl, hs, (rfl : atI [V.str "for", V.str nm, x2, x3, x4] 0 = some (V.str "for")), rfl, _, rfl, ?_⟩
    rw [dec_ff (by decide)]
    refine iteF ?_
    refine ⟨_, rfl, a, _, _, _, rfl, rfl, hs, (rfl : atI [V.str "for", V.str nm, x2, x3, x4] 0 = some (V.str "for")), rfl, _, rfl, ?_⟩
    rw [dec_tt]
    refine iteT ?_
    exact ⟨_, rfl, a, _, _, _, rfl, rfl, hs, (rfl : atI [V.str "for", V.str nm, x2, x3, x4] 4 = some x4), by show 1 ≤ sizeLine; decide, fun L hL => k L _ _ (same_upd hL) hL upd_same (.cons h4 .nil)⟩
  | test e1 e2 b1 b2 =>
    rw [thingD] at dt
    obtain ⟨a, xs, rfl, hs, hd⟩ := dt.tup'
    obtain ⟨x0, r0, rfl, h0, hd⟩ := hd.c
    obtain ⟨x1, r1, rfl, h1, hd⟩ := hd.c
    obtain ⟨x2, r2, rfl, h2, hd⟩ := hd.c
    obtain ⟨x3, r3, rfl, h3, hd⟩ := hd.c
    obtain ⟨x4, r4, rfl, h4, hd⟩ := hd.c
    cases hd.n
    have hs := same_t sg hs
    cases h0.str'
    refine ⟨_, rfl, a, _, _, _, rfl, rfl, hs, (rfl : atI [V.str "if", x1, x2, x3, x4] 0 = some (V.str "if")), rfl, _, rfl, ?_⟩
    rw [dec_tt]
    refine iteT ?_
    exact ⟨_, rfl, a, _, _, _, rfl, rfl, hs, (rfl : atI [V.str "if", x1, x2, x3, x4] 3 = some x3), _, rfl, a, _, _, _, rfl, rfl, hs, (rfl : atI [V.str "if", x1, x2, x3, x4] 4 = some x4), by show 2 ≤ sizeLine; decide, fun L hL => k L _ _ (same_upd hL) hL upd_same (.cons h3 (.cons h4 .nil))⟩
  | again n z =>
    rw [thingD] at dt
    obtain ⟨a, xs, rfl, hs, hd⟩ := dt.tup'
    obtain ⟨x0, r0, rfl, h0, hd⟩ := hd.c
    obtain ⟨x1, r1, rfl, h1, hd⟩ := hd.c
    obtain ⟨x2, r2, rfl, h2, hd⟩ := hd.c
    cases hd.n
    have hs := same_t sg hs
    cases h0.str'
    cases h2.str'
    cases h1.int'
    refine ⟨_, rfl, a, _, _, _, rfl, rfl, hs, (rfl : atI [V.str "again", V.int n, V.str z] 0 = some (V.str "again")), rfl, _, rfl, ?_⟩
    rw [dec_ff (by decide)]
    refine iteF ?_
    refine ⟨_, rfl, a, _, _, _, rfl, rfl, hs, (rfl : atI [V.str "again", V.int n, V.str z] 0 = some (V.str "again")), rfl, _, rfl, ?_⟩
    rw [dec_ff (by decide)]
    refine iteF ?_
    refine ⟨_, rfl, a, _, _, _, rfl, rfl, hs, (rfl : atI [V.str "again", V.int n, V.str z] 0 = some (V.str "again")), rfl, _, rfl, ?_⟩
    rw [dec_ff (by decide)]
    refine iteF ?_
    exact ⟨by show 0 ≤ sizeLine; decide, fun L hL => k L _ _ (same_upd hL) hL upd_same .nil⟩
theorem ok_NoName_init (T : Txt K mg) : FnOk P w K mg base CX0 2 T.a_NoName_init T.d_NoName_init ["self", "name"] (spNameI K T.x_NoName "NoName") := by
  refine T.F_NoName_init.ok sc_NoName_init (fun vs H Q E h => ?_) (fun cdv A outer s H vs Q E hr h => ?_)
  · obtain ⟨a, z, rfl, _⟩ := h
    rfl
  obtain ⟨a, z, rfl, ea, k⟩ := h
  refine ⟨_, PSs.nox (pss_cons (ps_expr (pe_cinit (by rfl) T.gx_Unfit T.sg_Unfit T.rd_Unfit T.fc_Unfit (ok_Refused_init T) (hr.mono (by decide)) T.F_Refused_init.kp T.b_Refused_init .nil pass0 (pa_cons (pv 0) (pa_cons pe_str pa_nil))))
      (pss_one (ps_ost (pv 0) (pv 1)))), ?_⟩
  refine ⟨_, rfl, a, T.x_NoName, _, rfl, ea, T.ox_NoName, T.nf_NoName_word, fun dx hdx ne => ?_⟩
  exact ⟨_, rfl, _, rfl, a, T.x_NoName, rfl, T.ox_NoName, T.nf_NoName_name, .inr ⟨dx, _, upd_same, (upd_ne ne).trans upd_same, by show 1 ≤ 900; decide, k dx _ hdx ne ((upd_ne (Ne.symm ne)).trans upd_same) upd_same fun b n1 n2 => (upd_ne n2).trans ((upd_ne n1).trans (upd_ne n2))⟩⟩
def xad (T : Txt K mg) : XAd := ⟨T.x_NoName, T.x_Twice, T.x_Misplaced⟩
theorem ok_look_end (T : Txt K mg) : FnOk P w K mg base (L2.CX P w) 4 T.a_look_end T.d_look_end ["end", "names"] (spLookEnd K (xad T)) := by
  refine T.F_look_end.okX sc_look_end (fun vs H Q E h => ?_) (fun cdv A outer s H vs Q E hr h => ?_)
  · obtain ⟨v, sa, e, sc, rfl, _⟩ := h
    rfl
  obtain ⟨v, sa, e, sc, rfl, de, es, k⟩ := h
  obtain ⟨a, x, y, rfl, hs, dx, dy⟩ := de.tup2
  cases dx.str'
  cases dy.int'
  refine ⟨_, (pss_one (ps_if (PW.pt (pw_and (pt_cmpR op_ne (pe_ix ix_tup (pv 0) pe_int (fun _ _ => rfl)) pe_str (nomark _)) (pw_and1 (pt_cmpR op_notIn_seq (pe_ix ix_tup (pv 0) pe_int (fun _ _ => rfl)) (pv 1) (by rfl))))) (pss_one (ps_raise rfl (takes_of rfl rfl rfl rfl) (pmk_oex T.ox_NoName T.in_NoName T.ti_NoName (ok_NoName_init T) (hr.mono (by omega)) T.b_NoName_init .nil pass0 (by rfl) T.gx_NoName (pa_cons (pe_ix ix_tup (pv 0) pe_int (fun _ _ => rfl)) pa_nil)))) pss_nil)), ?_⟩
  refine ⟨_, rfl, a, _, _, _, rfl, rfl, hs, (rfl : atI [V.str e.1, .int e.2] 0 = some (.str e.1)), rfl, _, rfl, ?_⟩
  unfold lookE at k
  by_cases h0 : e.1 = Str.ofString ""
  · rw [if_pos (.inl h0)] at k
    have c : decide (V.str e.1 = V.str (Str.ofString "")) = true := decide_eq_true (by rw [h0])
    rw [c]
    exact iteF (iteF (k H (Same.refl _)))
  have c : decide (V.str e.1 = V.str (Str.ofString "")) = false := decide_eq_false (by intro z; exact h0 (V.str.inj z))
  rw [c]
  refine iteT ?_
  refine ⟨_, rfl, a, _, _, _, rfl, rfl, hs, (rfl : atI [V.str e.1, .int e.2] 0 = some (.str e.1)), _, rfl, sa, _, rfl, .inl (SqL.of es), rfl, flat_strs _, _, rfl, ?_⟩
  rw [show (if true = true then !inV (V.str e.1) (sc.map V.str) else inV (V.str e.1) (sc.map V.str)) = !decide (e.1 ∈ sc) by rw [if_pos rfl, inV_strs]]
  refine ite2 (fun c2 => ?_) (fun c2 => ?_)
  · have c2' : ¬ e.1 ∈ sc := by simpa using c2
    rw [if_neg (by rintro (z | z); exact h0 z; exact c2' z)] at k
    refine ⟨_, rfl, a, _, _, _, rfl, rfl, hs, (rfl : atI [V.str e.1, .int e.2] 0 = some (.str e.1)), by show 1 ≤ 1000; decide, fun b hb => ⟨b, e.1, rfl, upd_same, fun dd H1 hdd ne q1 q2 fr => ?_⟩⟩
    obtain ⟨h1, s1⟩ := made_same (fs := errF (.noName e.1)) hb ne hdd fr
    exact ⟨rfl, dd, _, q1, q2, h1, k dd _ s1 h1 upd_same⟩
  · have c2' : e.1 ∈ sc := by simpa using c2
    rw [if_pos (.inr c2')] at k
    exact k H (Same.refl _)
theorem lEnds_of {x : XAd} {H H1 : Hp} {Q Q' : VK} {E : XK} {r r' : Option LErr} (s : Same H H1) (k : LEnds x H Q E r) (he : ∀ e, r' = some e → r = some e) (hn : r' = none → ∀ H', Same H1 H' → Q' .non H') : LEnds x H1 Q' E r' := by
  cases r' with
  | none => exact hn rfl
  | some e =>
    rw [he e rfl] at k
    exact fun dd H' s1 h1 h2 => k dd H' (s.trans s1) (same_none s h1) h2
theorem look_thing_step (T : Txt K mg) (f : Nat) (G_look_thing : FnOk P w K mg base (L2.CX P w) (f + 5) T.a_look_thing T.d_look_thing ["thing", "names", "deep"] (spLookThing K (xad T) f)) :
    FnOk P w K mg base (L2.CX P w) (f + 6) T.a_look_thing T.d_look_thing ["thing", "names", "deep"] (spLookThing K (xad T) (f + 1)) := by
  refine T.F_look_thing.okX sc_look_thing (fun vs H Q E h => ?_) (fun cdv A outer s H vs Q E hr h => ?_)
  · obtain ⟨v, sa, t, sc, deep, rfl, _⟩ := h
    rfl
  obtain ⟨v, sa, t, sc, deep, rfl, dt, es, hsz, hf, k⟩ := h
  refine ⟨_, (pss_cons (ps_asg (pv 0) (pg_star rfl (pg_name (i := 3) sc_look_thing.nd rfl (Or.inl rfl)) (pg_name (i := 4) sc_look_thing.nd rfl (Or.inl rfl))))
      (pss_cons (ps_set (i := 5) sc_look_thing.nd rfl (Or.inl rfl) (pv 1))
      (C8.pss_cut (ps_if (pt_cmpR op_eq (pv 3) pe_str (nomark _)) (pss_cons (ps_if (pt_cmpR op_in_seq (pe_ix ix_list (pv 4) pe_int (fun _ _ => rfl)) (pv 1) (by rfl)) (pss_one (ps_raise rfl (takes_of rfl rfl rfl rfl) (pmk_oex T.ox_Twice T.in_Twice T.ti_Twice (ok_Twice_init T) (hr.mono (by omega)) T.b_Twice_init .nil pass0 (by rfl) T.gx_Twice (pa_cons (pe_ix ix_list (pv 4) pe_int (fun _ _ => rfl)) pa_nil)))) pss_nil)
      (pss_cons (ps_expr (pe_call (ok_look_end T) (hr.mono (by omega)) (by rfl) T.g_look_end T.F_look_end.kp T.b_look_end .nil (passes_call (takes_of rfl rfl rfl rfl) fun _ _ _ _ h => h) (pa_cons (pe_ix ix_list (pv 4) pe_int (fun _ _ => rfl)) (pa_cons (pv 1) pa_nil))))
      (pss_cons (ps_expr (pe_call (ok_look_end T) (hr.mono (by omega)) (by rfl) T.g_look_end T.F_look_end.kp T.b_look_end .nil (passes_call (takes_of rfl rfl rfl rfl) fun _ _ _ _ h => h) (pa_cons (pe_ix ix_list (pv 4) pe_int (fun _ _ => rfl)) (pa_cons (pv 1) pa_nil))))
      (pss_one (ps_set (i := 5) sc_look_thing.nd rfl (Or.inl rfl) (pe_op op_cat (pv 1) (pe_lst (pa_cons (pe_ix ix_list (pv 4) pe_int (fun _ _ => rfl)) pa_nil)))))))) (pss_one (ps_if (pt_cmpR op_eq (pv 3) pe_str (nomark _)) (pss_cons (ps_expr (pe_call (ok_look_end T) (hr.mono (by omega)) (by rfl) T.g_look_end T.F_look_end.kp T.b_look_end .nil (passes_call (takes_of rfl rfl rfl rfl) fun _ _ _ _ h => h) (pa_cons (pe_ix ix_list (pv 4) pe_int (fun _ _ => rfl)) (pa_cons (pv 1) pa_nil))))
      (pss_one (ps_expr (pe_call (ok_look_end T) (hr.mono (by omega)) (by rfl) T.g_look_end T.F_look_end.kp T.b_look_end .nil (passes_call (takes_of rfl rfl rfl rfl) fun _ _ _ _ h => h) (pa_cons (pe_ix ix_list (pv 4) pe_int (fun _ _ => rfl)) (pa_cons (pv 1) pa_nil)))))) (pss_one (ps_if (pt_cmpR op_eq (pv 3) pe_str (nomark _)) (pss_one (ps_expr (pe_call (ok_look_end T) (hr.mono (by omega)) (by rfl) T.g_look_end T.F_look_end.kp T.b_look_end .nil (passes_call (takes_of rfl rfl rfl rfl) fun _ _ _ _ h => h) (pa_cons (pe_ix ix_list (pv 4) pe_int (fun _ _ => rfl)) (pa_cons (pv 1) pa_nil))))) (pss_one (ps_if (PW.pt (pw_and (pt_cmpR op_eq (pv 3) pe_str (nomark _)) (pw_and1 (PW.pt (pw_or (pt_cmpR op_gt (pv 2) pe_int (nomark _)) (pw_or1 (PW.pt (pw_and (pt_cmpR op_eq (pe_ix ix_list (pv 4) pe_int (fun _ _ => rfl)) pe_str (nomark _)) (pw_and1 (pt_cmpR op_gt (pe_ix ix_list (pv 4) pe_int (fun _ _ => rfl)) pe_int (nomark _))))))))))) (pss_one (ps_raise rfl (takes_of rfl rfl rfl rfl) (pmk_oex0 T.ox_Misplaced T.in_Misplaced T.ti_Misplaced (ok_Misplaced_init T) (hr.mono (by omega)) T.b_Misplaced_init .nil pass0 (by rfl) T.gx_Misplaced))) pss_nil)))))))
      (pss_one (ps_for (passes_of rfl) rfl (pi_list (pe_call (ok_bodies_of T) (hr.mono (by omega)) (by rfl) T.g_bodies_of T.F_bodies_of.kp T.b_bodies_of .nil pass0 (pa_cons (pv 0) pa_nil))) (pg_name (i := 6) sc_look_thing.nd rfl (Or.inl rfl)) (pss_one (ps_for (passes_of rfl) rfl (pi_tup (pv 6)) (pg_name (i := 7) sc_look_thing.nd rfl (Or.inl rfl)) (pss_one (ps_expr (pe_call G_look_thing (hr.mono (by omega)) (by rfl) T.g_look_thing T.F_look_thing.kp T.b_look_thing .nil (passes_call (takes_of rfl rfl rfl rfl) fun _ _ _ _ h => h) (pa_cons (pv 7) (pa_cons (pv 5) (pa_cons (pe_op op_add (pv 2) pe_int) pa_nil))))))))))))), ?_⟩
  let Md : L2.St → Hp → Prop := fun σ H' => Same H H' ∧ lookT t sc deep = lookBs (bodiesL t) (innerSc t sc) (deep + 1) ∧ ∃ (ia : Addr) (v3 v4 v6 v7 : Option V), H' ia = some (.lst ((innerSc t sc).map V.str)) ∧ σ = [some v, some (.ref sa), some (.int (deep : Nat)), v3, v4, some (.ref ia), v6, v7]
  have teq := lookT_eq t sc deep
  obtain ⟨c, r, rfl, hc, ro⟩ := thing_rest dt
  refine ⟨_, rfl, c, _, _, rfl, hc, fun L hL => ?_⟩
  have sL := same_upd (o := .lst r) hL
  have eL : (upd H L (.lst r)) L = some (.lst r) := upd_same
  have es1 := sL _ _ es
  generalize upd H L (.lst r) = H1 at sL eL es1 ⊢
  refine ⟨_, rfl, ?_⟩
  refine ⟨Md, ?_, ?_⟩
  · cases t with
    | step n =>
      refine ⟨_, rfl, rfl, _, rfl, ?_⟩
      rw [dec_ff (by simp only [wordT]; decide)]
      refine iteF ?_
      refine ⟨_, rfl, rfl, _, rfl, ?_⟩
      rw [dec_ff (by simp only [wordT]; decide)]
      refine iteF ?_
      refine ⟨_, rfl, rfl, _, rfl, ?_⟩
      rw [dec_ff (by simp only [wordT]; decide)]
      refine iteF ?_
      refine ⟨_, rfl, rfl, _, rfl, ?_⟩
      rw [dec_ff (by simp only [wordT]; decide)]
      exact iteF (iteF ⟨sL, teq, sa, _, _, _, _, es1, rfl⟩)
    | double b =>
      refine ⟨_, rfl, rfl, _, rfl, ?_⟩
      rw [dec_ff (by simp only [wordT]; decide)]
      refine iteF ?_
      refine ⟨_, rfl, rfl, _, rfl, ?_⟩
      rw [dec_ff (by simp only [wordT]; decide)]
      refine iteF ?_
      refine ⟨_, rfl, rfl, _, rfl, ?_⟩
      rw [dec_ff (by simp only [wordT]; decide)]
      refine iteF ?_
      refine ⟨_, rfl, rfl, _, rfl, ?_⟩
      rw [dec_ff (by simp only [wordT]; decide)]
      exact iteF (iteF ⟨sL, teq, sa, _, _, _, _, es1, rfl⟩)
    | call nm e =>
      obtain ⟨x, rfl, dx⟩ := ro
      refine ⟨_, rfl, rfl, _, rfl, ?_⟩
      rw [dec_ff (by simp only [wordT]; decide)]
      refine iteF ?_
      refine ⟨_, rfl, rfl, _, rfl, ?_⟩
      rw [dec_ff (by simp only [wordT]; decide)]
      refine iteF ?_
      refine ⟨_, rfl, rfl, _, rfl, ?_⟩
      simp only [wordT]
      rw [decide_true]
      refine iteT ?_
      simp only [lookH, bodiesL, lookBs, orE_right] at teq
      refine ⟨_, rfl, L, _, _, _, rfl, rfl, SqL.of eL, (rfl : atI [V.str nm, x] 1 = some x), _, rfl, x, sa, e, sc, rfl, dx.mono sL, es1, ?_⟩
      refine lEnds_of sL k (fun e' q => by rw [teq, q]) fun q H8 s8 => ?_
      exact ⟨sL.trans s8, by rw [teq, q]; rfl, sa, _, _, _, _, s8 _ _ es1, rfl⟩
    | test e1 e2 b1 b2 =>
      obtain ⟨x, y, z, u, rfl, dx, dy, dz, du⟩ := ro
      refine ⟨_, rfl, rfl, _, rfl, ?_⟩
      rw [dec_ff (by simp only [wordT]; decide)]
      refine iteF ?_
      refine ⟨_, rfl, rfl, _, rfl, ?_⟩
      simp only [wordT]
      rw [decide_true]
      refine iteT ?_
      simp only [lookH, orE_assoc] at teq
      refine ⟨_, rfl, L, _, _, _, rfl, rfl, SqL.of eL, (rfl : atI [x, y, z, u] 0 = some x), _, rfl, x, sa, e1, sc, rfl, dx.mono sL, es1, ?_⟩
      refine lEnds_of sL k (fun e' q => by rw [teq, q]; rfl) fun q H8 s8 => ?_
      have s08 := sL.trans s8
      rw [q, orE_none] at teq
      refine ⟨_, rfl, L, _, _, _, rfl, rfl, SqL.of (s8 _ _ eL), (rfl : atI [x, y, z, u] 1 = some y), _, rfl, y, sa, e2, sc, rfl, dy.mono s08, s8 _ _ es1, ?_⟩
      refine lEnds_of s08 k (fun e' q => by rw [teq, q]; rfl) fun q H9 s9 => ?_
      rw [q, orE_none] at teq
      exact ⟨s08.trans s9, teq, sa, _, _, _, _, s9 _ _ (s8 _ _ es1), rfl⟩
    | loop nm e1 e2 b =>
      obtain ⟨x, y, z, rfl, dx, dy, dz⟩ := ro
      refine ⟨_, rfl, rfl, _, rfl, ?_⟩
      simp only [wordT]
      rw [decide_true]
      refine iteT ?_
      simp only [lookH] at teq
      refine ⟨_, rfl, L, _, _, _, rfl, rfl, SqL.of eL, (rfl : atI [V.str nm, x, y, z] 0 = some (.str nm)), _, rfl, sa, _, rfl, .inl (SqL.of es1), rfl, flat_strs _, _, rfl, ?_⟩
      rw [show (if false = true then !inV (V.str nm) (sc.map V.str) else inV (V.str nm) (sc.map V.str)) = decide (nm ∈ sc) by rw [if_neg (by decide)]; exact inV_strs _ _]
      refine ite2 (fun c1 => ?_) (fun c1 => ?_)
      · have c1' : nm ∈ sc := of_decide_eq_true c1
        rw [if_pos c1'] at teq
        rw [teq] at k
        refine ⟨_, rfl, L, _, _, _, rfl, rfl, SqL.of eL, (rfl : atI [V.str nm, x, y, z] 0 = some (.str nm)), by show 1 ≤ 1000; decide, fun b hb => ⟨b, nm, rfl, upd_same, fun dd H2 hdd ne q1 q2 fr => ?_⟩⟩
        obtain ⟨h1, s1⟩ := made_same (fs := errF (.twice nm)) hb ne hdd fr
        exact ⟨rfl, dd, _, q1, q2, h1, k dd _ (sL.trans s1) (same_none sL h1) upd_same⟩
      have c1' : ¬ nm ∈ sc := fun z => c1 (decide_eq_true z)
      rw [if_neg c1', orE_assoc] at teq
      refine ⟨_, rfl, L, _, _, _, rfl, rfl, SqL.of eL, (rfl : atI [V.str nm, x, y, z] 1 = some x), _, rfl, x, sa, e1, sc, rfl, dx.mono sL, es1, ?_⟩
      refine lEnds_of sL k (fun e' q => by rw [teq, q]; rfl) fun q H8 s8 => ?_
      have s08 := sL.trans s8
      rw [q, orE_none] at teq
      refine ⟨_, rfl, L, _, _, _, rfl, rfl, SqL.of (s8 _ _ eL), (rfl : atI [V.str nm, x, y, z] 2 = some y), _, rfl, y, sa, e2, sc, rfl, dy.mono s08, s8 _ _ es1, ?_⟩
      refine lEnds_of s08 k (fun e' q => by rw [teq, q]; rfl) fun q H9 s9 => ?_
      rw [q, orE_none] at teq
      have s09 := s08.trans s9
      refine ⟨_, rfl, _, rfl, L, _, _, _, rfl, rfl, SqL.of (s9 _ _ (s8 _ _ eL)), (rfl : atI [V.str nm, x, y, z] 0 = some (.str nm)), by show 1 ≤ sizeLine; decide, fun Z hZ => ?_⟩
      have sZ := same_upd (o := .lst [.str nm]) hZ
      refine ⟨sa, Z, _, _, rfl, rfl, sZ _ _ (s9 _ _ (s8 _ _ es1)), upd_same, Nat.le_trans (m := 1000) (by rw [List.length_map]; show _ + 1 ≤ _; omega) (by decide), fun I hI => ?_⟩
      refine ⟨s09.trans (sZ.trans (same_upd hI)), teq, I, _, _, _, _, ?_, rfl⟩
      rw [upd_same]
      show _ = some (HO.lst ((sc ++ [nm]).map V.str))
      rw [List.map_append]
      rfl
    | again n y =>
      cases ro
      refine ⟨_, rfl, rfl, _, rfl, ?_⟩
      rw [dec_ff (by simp only [wordT]; decide)]
      refine iteF ?_
      refine ⟨_, rfl, rfl, _, rfl, ?_⟩
      rw [dec_ff (by simp only [wordT]; decide)]
      refine iteF ?_
      refine ⟨_, rfl, rfl, _, rfl, ?_⟩
      rw [dec_ff (by simp only [wordT]; decide)]
      refine iteF ?_
      refine ⟨_, rfl, rfl, _, rfl, ?_⟩
      simp only [wordT]
      rw [decide_true]
      have mis : (0 < deep ∨ (y = Str.ofString "less" ∧ 1 < n)) → tMkO T.x_Misplaced (spWordI K T.x_Misplaced (Str.ofString "Misplaced")) [] tNil [some (V.ref c), some (V.ref sa), some (V.int (deep : Nat)), some (V.str (Str.ofString "again")), some (V.ref L), some (V.ref sa), none, none] H1 fun cls d H' => E cls d H' := fun hm => by
        simp only [lookH] at teq
        rw [if_pos hm] at teq
        rw [teq] at k
        simp only [orE] at k
        refine ⟨by show 0 ≤ 1000; decide, fun b hb => ⟨b, rfl, upd_same, fun dd H2 hdd ne q1 q2 fr => ?_⟩⟩
        obtain ⟨h1, s1⟩ := made_same (fs := errF .misplaced) hb ne hdd fr
        exact ⟨rfl, dd, _, q1, q2, h1, k dd _ (sL.trans s1) (same_none sL h1) upd_same⟩
      have fine : ¬ (0 < deep ∨ (y = Str.ofString "less" ∧ 1 < n)) → Md [some (V.ref c), some (V.ref sa), some (V.int (deep : Nat)), some (V.str (Str.ofString "again")), some (V.ref L), some (V.ref sa), none, none] H1 := fun hm => by
        simp only [lookH] at teq
        rw [if_neg hm, orE_none] at teq
        exact ⟨sL, teq, sa, _, _, _, _, es1, rfl⟩
      rw [if_pos rfl]
      refine ⟨_, rfl, _, _, rfl, rfl, _, rfl, ?_⟩
      refine ite2 (fun c1 => ?_) (fun c1 => ?_)
      · have c1' : (0 : Int) < (deep : Int) := of_decide_eq_true c1
        exact mis (.inl (by omega))
      have c1' : ¬ 0 < deep := fun z => c1 (decide_eq_true (by omega))
      refine ⟨_, rfl, L, _, _, _, rfl, rfl, SqL.of eL, (rfl : atI [V.int n, .str y] 1 = some (.str y)), rfl, _, rfl, ?_⟩
      refine ite2 (fun c2 => ?_) (fun c2 => ?_)
      · have c2' : y = Str.ofString "less" := V.str.inj (of_decide_eq_true c2)
        refine ⟨_, rfl, L, _, _, _, rfl, rfl, SqL.of eL, (rfl : atI [V.int n, .str y] 0 = some (.int n)), _, _, rfl, rfl, _, rfl, ?_⟩
        refine ite2 (fun c3 => ?_) (fun c3 => ?_)
        · exact mis (.inr ⟨c2', of_decide_eq_true c3⟩)
        · exact fine (by rintro (z | z); exact c1' z; exact c3 (decide_eq_true z.2))
      · exact iteF (fine (by rintro (z | z); exact c1' z; exact c2 (decide_eq_true (by rw [z.1]))))
  rintro σ H2 ⟨s2, el, ia, v3, v4, v6, v7, ei, rfl⟩
  rw [el] at k
  refine ⟨_, rfl, _, t, H, rfl, s2, dt, fun p us H3 s3 np ep du => ?_⟩
  have lu : us.length = (bodiesL t).length := by
    have := du.length
    rw [List.length_map] at this
    exact this
  have s03 := s2.trans s3
  refine ⟨p, rfl, ⟨_, SqL.of ep⟩, for_it (walk_list (xs := us)) (fun j σ H' => Same H3 H' ∧ lookBs (bodiesL t) (innerSc t sc) (deep + 1) = lookBs ((bodiesL t).drop j) (innerSc t sc) (deep + 1) ∧ ∃ v3 v4 v6 v7, σ = [some (.ref c), some (.ref sa), some (.int (deep : Nat)), v3, v4, some (.ref ia), v6, v7]) ⟨Same.refl _, by rw [List.drop_zero], _, _, _, _, rfl⟩ (fun i σ H' _ p => SqL.of (p.1 _ _ ep)) ?_ ?_⟩
  · rintro j x σ H4 H5 hj ⟨s5, ej, v3, v4, v6, v7, rfl⟩ ⟨rfl, hx⟩
    obtain ⟨b, hb, db⟩ := DpAll.at_ du hx
    obtain ⟨a, zs, rfl, hz, hd⟩ := db.tup'
    rw [thingsD_eq] at hd
    have lz : zs.length = b.length := by
      have := hd.length
      rw [List.length_map] at this
      exact this
    have bm := List.mem_of_getElem? hb
    have blt := bodies_lt bm
    rw [lookBs_drop hb] at ej
    have s05 := s03.trans s5
    refine ⟨_, rfl, a, rfl, ⟨_, same_t s05 hz⟩, for_it (walk_tup (xs := zs)) (fun i σ H' => Same H3 H' ∧ lookBs (bodiesL t) (innerSc t sc) (deep + 1) = orE (lookB (b.drop i) (innerSc t sc) (deep + 1)) (lookBs ((bodiesL t).drop (j + 1)) (innerSc t sc) (deep + 1)) ∧ ∃ v3 v4 v7, σ = [some (.ref c), some (.ref sa), some (.int (deep : Nat)), v3, v4, some (.ref ia), some (.ref a), v7]) ⟨s5, by rw [List.drop_zero]; exact ej, _, _, _, rfl⟩ (fun i σ H' _ p => same_t (s03.trans p.1) hz) ?_ ?_⟩
    · rintro i y σ H6 H7 hi ⟨s7, ei', v3, v4, v7, rfl⟩ ⟨rfl, hy⟩
      obtain ⟨t', ht', dt'⟩ := DpAll.at_ hd hy
      have tm := thingC_mem (List.mem_of_getElem? ht')
      rw [lookB_drop ht', orE_assoc] at ei'
      have s07 := s03.trans s7
      refine ⟨_, rfl, _, rfl, _, rfl, _, _, rfl, rfl, y, ia, t', innerSc t sc, deep + 1, rfl, dt'.mono s07, s7 _ _ (s3 _ _ ei), ?_, by omega, ?_⟩
      · have : (innerSc t sc).length ≤ sc.length + 1 := by
          cases t <;> simp [innerSc]
        omega
      · refine lEnds_of s07 k (fun e q => by rw [ei', q]; rfl) fun q H8 s8 => ?_
        rw [q, orE_none] at ei'
        exact ⟨s7.trans s8, ei', _, _, _, rfl⟩
    · rintro σ H6 ⟨s6, ei', v3, v4, v7, rfl⟩
      rw [lz, List.drop_length, lookB, orE_none] at ei'
      exact ⟨s6, ei', _, _, _, _, rfl⟩
  · rintro σ H4 ⟨s4, ej, v3, v4, v6, v7, rfl⟩
    rw [lu, List.drop_length, lookBs] at ej
    rw [ej] at k
    exact k _ (s03.trans s4)
theorem look_thing_all (T : Txt K mg) : ∀ f : Nat, FnOk P w K mg base (L2.CX P w) (f + 5) T.a_look_thing T.d_look_thing ["thing", "names", "deep"] (spLookThing K (xad T) f)
  | 0 => by
    have no : ∀ vs H Q E, ¬ spLookThing K (xad T) 0 vs H Q E := fun vs H Q E h => by
      obtain ⟨v, sa, t, sc, deep, _, _, _, _, h1, _⟩ := h
      omega
    exact ⟨fun vs H Q E h => absurd h (no vs H Q E), fun A outer s H args us vs Q E _ _ _ _ h => absurd h (no vs H Q E)⟩
  | f + 1 => look_thing_step T f (look_thing_all T f)
theorem ok_look_thing (T : Txt K mg) : FnOk P w K mg base (L2.CX P w) 36 T.a_look_thing T.d_look_thing ["thing", "names", "deep"] (spLookThing K (xad T) 31) := look_thing_all T 31
theorem ok_look_plan (T : Txt K mg) : FnOk P w K mg base (L2.CX P w) 37 T.a_look_plan T.d_look_plan ["plan"] (spLookPlan K (xad T)) := by
  refine T.F_look_plan.okX sc_look_plan (fun vs H Q E h => ?_) (fun cdv A outer s H vs Q E hr h => ?_)
  · obtain ⟨v, b, rfl, _⟩ := h
    rfl
  obtain ⟨v, b, rfl, db, hc, k⟩ := h
  obtain ⟨a, xs, rfl, hs, hd⟩ := db.tup'
  rw [thingsD_eq] at hd
  have lx : xs.length = b.length := by
    have := hd.length
    rw [List.length_map] at this
    exact this
  refine ⟨_, (pss_cons (ps_set (i := 1) sc_look_plan.nd rfl (Or.inl rfl) pe_int)
      (pss_one (ps_for (passes_of rfl) rfl (pi_tup (pv 0)) (pg_name (i := 2) sc_look_plan.nd rfl (Or.inl rfl)) (pss_cons (ps_expr (pe_call (ok_look_thing T) (hr.mono (by decide)) (by rfl) T.g_look_thing T.F_look_thing.kp T.b_look_thing .nil (passes_call (takes_of rfl rfl rfl rfl) fun _ _ _ _ h => h) (pa_cons (pv 2) (pa_cons (pe_lst (pa_cons (pe_glob rfl T.m_SIZE T.r_SIZE) pa_nil)) (pa_cons pe_int pa_nil)))))
      (pss_cons (ps_aug (i := 1) sc_look_plan.nd rfl (Or.inl rfl) (pe_callTy call_int1 (by rfl) T.z_int (by decide +kernel) (pa_cons (pe_cmpR op_eq (pe_ix ix_tup (pv 2) pe_int (fun _ _ => rfl)) pe_str (nomark _)) pa_nil)) ip_add)
      (pss_one (ps_if (pt_cmpR op_gt (pv 1) pe_int (nomark _)) (pss_one (ps_raise rfl (takes_of rfl rfl rfl rfl) (pmk_oex0 T.ox_Misplaced T.in_Misplaced T.ti_Misplaced (ok_Misplaced_init T) (hr.mono (by omega)) T.b_Misplaced_init .nil pass0 (by rfl) T.gx_Misplaced))) pss_nil))))))), ?_⟩
  refine ⟨_, rfl, ?_⟩
  refine ⟨a, rfl, ⟨_, hs⟩, for_it (walk_tup (xs := xs)) (fun i σ H' => ∃ (c : Nat) (v3 : Option V), Same H H' ∧ lookP b 0 = lookP (b.drop i) c ∧ σ = [some (.ref a), some (.int (c : Nat)), v3]) ⟨0, none, Same.refl _, by rw [List.drop_zero], rfl⟩ (fun i σ H' _ p => by obtain ⟨_, _, s, _⟩ := p; exact same_t s hs) ?_ ?_⟩
  · rintro i x σ H1 H2 hi ⟨c, v3, s1, el, rfl⟩ ⟨rfl, hx⟩
    obtain ⟨t, ht, dt⟩ := DpAll.at_ hd hx
    have tm := thingC_mem (List.mem_of_getElem? ht)
    rw [lookP_drop ht] at el
    refine ⟨_, rfl, by show 1 ≤ sizeLine; decide, fun Z hZ => ?_⟩
    have sZ := s1.trans (same_upd (o := .lst [.str (Str.ofString "n")]) hZ)
    refine ⟨x, Z, t, [Str.ofString "n"], 0, rfl, dt.mono sZ, upd_same, ?_, by omega, ?_⟩
    · show 1 + thingC t ≤ 900
      omega
    refine lEnds_of sZ k (fun e q => by rw [el, q]; rfl) fun q H3 s3 => ?_
    rw [q, orE_none] at el
    have s03 := sZ.trans s3
    obtain ⟨ta, r, rfl, hta, _⟩ := thing_rest dt
    refine ⟨_, rfl, ?_⟩
    refine ⟨_, rfl, ta, _, _, _, rfl, rfl, same_t s03 hta, (atI_nat (j := 0) rfl : atI (V.str (wordT t) :: r) 0 = some (.str (wordT t))), rfl, .inr ⟨_, rfl, ?_⟩⟩
    rw [isAg_word]
    refine ⟨_, _, rfl, rfl, ?_⟩
    have ce : ((c : Int) + (if isAg t = true then 1 else 0)) = ((c + (if isAg t = true then 1 else 0) : Nat) : Int) := by
      split <;> simp
    simp only [ce]
    generalize c + (if isAg t = true then 1 else 0) = c2 at el ⊢
    refine ⟨_, rfl, _, _, rfl, rfl, _, rfl, ?_⟩
    refine ite2 (fun c1 => ?_) (fun c1 => ?_)
    · have c1' : (1 : Int) < (c2 : Int) := of_decide_eq_true c1
      rw [if_pos (by omega)] at el
      rw [el] at k
      refine ⟨by show 0 ≤ 1000; decide, fun b hb => ⟨b, rfl, upd_same, fun dd H4 hdd ne q1 q2 fr => ?_⟩⟩
      obtain ⟨h1, s1⟩ := made_same (fs := errF .misplaced) hb ne hdd fr
      exact ⟨rfl, dd, _, q1, q2, h1, k dd _ (s03.trans s1) (same_none s03 h1) upd_same⟩
    have c1' : ¬ c2 > 1 := fun z => c1 (decide_eq_true (by omega))
    rw [if_neg c1'] at el
    exact ⟨c2, _, s03, el, rfl⟩
  · rintro σ H1 ⟨c, v3, s1, el, rfl⟩
    rw [lx, List.drop_length, lookP] at el
    rw [el] at k
    exact k _ s1
def LV : Nat := 76
def spLaw (K : PySem.W.Frag) (Pt : Addr) : Sp := fun vs H Q _ => ∃ (a : Addr) (ns : List Int), vs = [.ref a] ∧ H Pt = some (.tbl #[]) ∧ SqL K H a (ns.map V.int) ∧ ns.length ≤ 63 ∧ ∀ H', Q (.bl true) H'
theorem ok_law (T : Txt K mg) (c Pt : Addr) (hc : T.d_law.code = .ref c) (TB : LamX.TabB base mg c Pt) : FnOk P w K mg base CX0 LV T.a_law T.d_law ["_law_script"] (spLaw K Pt) := by
  refine okC T.F_law sc_law (fun vs H Q E h => ?_) hc (fun A outer s H vs Q E hr h => ?_)
  · obtain ⟨a, ns, rfl, _⟩ := h
    rfl
  obtain ⟨a, ns, rfl, hP, hS, hl, k⟩ := h
  obtain ⟨ocT, odT, kVT, docT, pmT, anT, cdT, ctT, oslT, eT, lkT, hcT⟩ := T.F_law_tried.ex
  have hbT := T.b_law_tried
  rw [eT] at lkT hbT
  let TT : List (Addr × Str) := [(Pt, (cxOf CX0 P w K mg base N_law (Str.ofString "law") (defScope s_law) T.a_law (.ref c) A outer s H E).env.qual ++ "<lambda>")]
  have hcode : (cxOf CX0 P w K mg base N_law (Str.ofString "law") (defScope s_law) T.a_law (.ref c) A outer s H E).nox.env.code = .ref c := rfl
  have gv := tried_gives (X := (cxOf CX0 P w K mg base N_law (Str.ofString "law") (defScope s_law) T.a_law (.ref c) A outer s H E).nox) T cdT ((cxOf CX0 P w K mg base N_law (Str.ofString "law") (defScope s_law) T.a_law (.ref c) A outer s H E).env.qual ++ "<lambda>") (hr.mono (by decide))
  refine ⟨_, (pss_cons (ps_set (i := 1) sc_law.nd rfl (Or.inl rfl) (pe_call (ok_law_begin T) (hr.mono (by decide)) (by rfl) T.g_law_begin T.F_law_begin.kp T.b_law_begin .nil pass0 (pa_cons (pv 0) pa_nil)))
      (pss_cons (ps_for PassesOwn.never rfl (pi_range1 (by rfl) T.z_range (pa_cons pe_int pa_nil)) (pg_name (i := 2) sc_law.nd rfl (Or.inl rfl)) (pss_cons (ps_set (i := 6) sc_law.nd rfl (Or.inr rfl) (pe_call (ok_law_drawn T) (hr.mono (by decide)) (by rfl) T.g_law_drawn T.F_law_drawn.kp T.b_law_drawn .nil pass0 (pa_cons (pv 1) (pa_cons pe_int (pa_cons pe_bl (pa_cons pe_bl pa_nil))))))
      (pss_cons (ps_set (i := 3) sc_law.nd rfl (Or.inl rfl) (pe_op op_cat (pe_lst (pa_cons pe_str (pa_cons pe_str (pa_cons (pe_call (ok_law_fresh T) (hr.mono (by decide)) (by rfl) T.g_law_fresh T.F_law_fresh.kp T.b_law_fresh .nil pass0 (pa_cons (pv 1) (pa_cons (pe_lst pa_nil) pa_nil))) pa_nil)))) (pe_lc (own := [("_law_thing", 7)]) (g := gName 7) (tt := _) rfl sc_law.nd (pi_list (pe_call (ok_law_every T) (hr.mono (by decide)) (by rfl) T.g_law_every T.F_law_every.kp T.b_law_every .nil pass0 (pa_cons (pv 6) pa_nil))) (blkOk_by (N := N_law) (sc := defScope s_law) (by decide +kernel)) (fun _ _ _ _ _ => (pg_name (i := 7) sc_law.nd rfl (Or.inl rfl))) (fun _ _ _ _ _ => (pts_one (pt_cmpR op_eq (pe_ix (r := rIxT K) ix_tup (pv 7) pe_int (fun _ _ => rfl)) pe_str (nomark _)))) (fun _ _ _ _ _ => (pe_ix (r := rIxT K) ix_tup (pv 7) pe_int (fun _ _ => rfl))))))
      (C8.pss_cut (ps_for PassesOwn.never rfl (pi_range1 (by rfl) T.z_range (pa_cons (pe_call (ok_law_take T) (hr.mono (by decide)) (by rfl) T.g_law_take T.F_law_take.kp T.b_law_take .nil pass0 (pa_cons (pv 1) (pa_cons pe_int pa_nil))) pa_nil)) (pg_name (i := 4) sc_law.nd rfl (Or.inl rfl)) (pss_one (ps_set (i := 6) sc_law.nd rfl (Or.inr rfl) (pe_call (ok_law_unfit T) (hr.mono (by decide)) (by rfl) T.g_law_unfit T.F_law_unfit.kp T.b_law_unfit .nil pass0 (pa_cons (pv 1) (pa_cons (pv 6) (pa_cons (pv 3) pa_nil)))))))
      (C8.pss_cut (ps_if (pt_cmpR op_eq (pe_call (ok_law_take T) (hr.mono (by decide)) (by rfl) T.g_law_take T.F_law_take.kp T.b_law_take .nil pass0 (pa_cons (pv 1) (pa_cons pe_int pa_nil))) pe_int (nomark _)) (pss_cons (ps_set (i := 5) sc_law.nd rfl (Or.inl rfl) (pe_call (ok_law_take T) (hr.mono (by decide)) (by rfl) T.g_law_take T.F_law_take.kp T.b_law_take .nil pass0 (pa_cons (pv 1) (pa_cons (pe_op op_add (pe_callB call_len_seq (by rfl) T.z_len (by decide +kernel) (pa_cons (pv 6) pa_nil)) pe_int) pa_nil))))
      (pss_one (ps_set (i := 6) sc_law.nd rfl (Or.inr rfl) (pe_op op_catA (pe_op op_catA (pe_slice sl_tupA (pv 6) po_none (po_some (pv 5))) (pe_tup (pa_cons (pe_tup (pa_cons pe_str (pa_cons (pe_op op_add pe_int (pe_call (ok_law_take T) (hr.mono (by decide)) (by rfl) T.g_law_take T.F_law_take.kp T.b_law_take .nil pass0 (pa_cons (pv 1) (pa_cons pe_int pa_nil)))) (pa_cons (pe_call (ok_law_pick T) (hr.mono (by decide)) (by rfl) T.g_law_pick T.F_law_pick.kp T.b_law_pick .nil pass0 (pa_cons (pv 1) (pa_cons (pe_lst (pa_cons pe_str (pa_cons pe_str pa_nil))) pa_nil))) pa_nil)))) pa_nil))) (pe_slice sl_tupA (pv 6) (po_some (pv 5)) po_none))))) pss_nil)
      (pss_one (ps_if (pt_not (pt_val (pe_call (ok_law_same T) (hr.mono (by decide)) (by rfl) T.g_law_same T.F_law_same.kp T.b_law_same .nil pass0 (pa_cons (LamX.pe_lamcall (T := TT) (by rfl) T.g_law_tried T.F_law_tried.kp lkT hcT hbT sc_law_tried rfl (.inl rfl) gv TB hcode (List.mem_singleton.mpr rfl) (fun p hp _ => by rw [List.mem_singleton.mp hp]) (k := 37) (hr.mono (by decide)) (LamX.lamS_by (sc := defScope s_law) (by decide +kernel)) rfl (fun _ _ _ _ _ => rfl) (fun A' outer' s' H' E' f' c' hrL => (pe_call (ok_look_plan T) (hrL.mono (by decide)) (by rfl) T.g_look_plan T.F_look_plan.kp T.b_look_plan .nil (passes_call (takes_of rfl rfl rfl rfl) fun _ _ _ _ h => h) (pa_cons (pv 6) pa_nil)))) (pa_cons (pe_call (ok_law_looking T) (hr.mono (by decide)) (by rfl) T.g_law_looking T.F_law_looking.kp T.b_law_looking .nil pass0 (pa_cons (pv 6) pa_nil)) pa_nil))))) (pss_one (ps_ret pe_bl)) pss_nil)))))))
      (pss_one (ps_ret pe_bl)))), ?_⟩
  have t0 : LamX.Tabs TT H := fun p hp => by
    rw [List.mem_singleton.mp hp]
    exact LamX.TabS.nil hP
  refine ⟨_, rfl, a, ns, rfl, hS, hl, fun d l H1 nd _ s1 D1 => ?_⟩
  have t1 := t0.ext s1
  let S : Option V → Option V → Option V → Option V → Option V → Option V → L2.St := fun v2 v3 v4 v5 v6 v7 => [some (.ref a), some (.ref d), v2, v3, v4, v5, v6, v7]
  let MdA : L2.St → Hp → Prop := fun σ H' => ∃ (G : Hp) (v : V) (b : List Thing) (na : Addr) (names : List Str) (v2 v4 v5 v7 : Option V), Same G H' ∧ G d = none ∧ DrawAt H' d l ∧ LamX.Tabs TT H' ∧ Dp K G v (planD b) ∧ thingsC b ≤ 11 ∧ G na = some (.lst (names.map V.str)) ∧ 3 ≤ names.length ∧ names.length ≤ 1000 ∧ σ = S v2 (some (.ref na)) v4 v5 (some v) v7
  let MdC : L2.St → Hp → Prop := fun σ H' => ∃ (G : Hp) (v : V) (b : List Thing) (v2 v3 v4 v5 v7 : Option V), Same G H' ∧ G d = none ∧ DrawAt H' d l ∧ LamX.Tabs TT H' ∧ Dp K G v (planD b) ∧ thingsC b ≤ 12 ∧ σ = S v2 v3 v4 v5 (some v) v7
  refine ⟨8, rfl, by decide, by decide, for_it walk_range (fun _ σ H => DrawAt H d l ∧ LamX.Tabs TT H ∧ ∃ v2 v3 v4 v5 v6 v7, σ = S v2 v3 v4 v5 v6 v7) ⟨D1, t1, _, _, _, _, _, _, rfl⟩ (fun _ _ _ _ _ => trivial) ?_ ?_⟩
  · rintro i x σ H2 H3 hi ⟨D2, t2, v2, v3, v4, v5, v6, v7, rfl⟩ ⟨rfl, rfl⟩
    have sG : Same (fun _ => none) H3 := fun b o e => nomatch e
    refine ⟨_, rfl, d, l, fun _ => none, 11, true, true, rfl, sG, rfl, D2, by decide, fun v b G4 H4 g4 D4 dv ok l1 l2 lc => ?_⟩
    have t4 := tabs_but t2 D2 g4.h
    have gd4 : G4 d = none := g4.none rfl D2.cell
    refine ⟨_, rfl, by show 0 ≤ sizeLine; decide, fun L hL => ?_⟩
    have D5 := D4.upd (o := .lst []) hL
    have t5 := t4.ext (same_upd (o := .lst []) hL)
    refine ⟨d, l, L, [], rfl, D5, upd_same, by decide, fun nm H6 b6 D6 okn _ => ?_⟩
    have t6 := tabs_but t5 D5 b6
    have s6 : Same G4 H6 := fun p o e => b6 _ _ (same_upd (o := .lst []) hL _ _ (g4.gh _ _ e)) fun z => by
      rw [show p = d from z, gd4] at e
      cases e
    refine ⟨by show 3 ≤ sizeLine; decide, fun L1 hL1 => ?_⟩
    have s7 := same_upd (o := .lst [.str "n", .str "n", .str nm]) hL1
    have D7 := D6.mono s7
    have t7 := t6.ext s7
    refine ⟨_, rfl, v, b, G4, rfl, s6.trans s7, dv, by omega, by omega, fun p us H8 s8 np ep dus => ?_⟩
    have D8 := D7.mono s8
    have t8 := t7.ext s8
    have sG8 := (s6.trans s7).trans s8
    refine ⟨p, rfl, ⟨_, SqL.of ep⟩, fun R hR => ?_⟩
    have lus := dus.length
    rw [List.length_map, everyL_len] at lus
    refine lc_it (walk_list (xs := us)) (fun i H' => Same H8 H' ∧ ∃ nms : List Str, nms.length ≤ i ∧ H' R = some (.lst (nms.map V.str))) ⟨same_upd hR, [], Nat.le_refl _, upd_same⟩ (fun i H' _ q => SqL.of (q.1 _ _ ep)) ?_ ?_
    · rintro j y H9 H10 hj ⟨s9, nms, ln, eR⟩ ⟨rfl, hy⟩
      obtain ⟨t, ht, dt⟩ := DpAll.at_ dus hy
      obtain ⟨ta, r, rfl, hta, ro⟩ := thing_rest dt
      have hta10 := same_t (sG8.trans s9) hta
      refine ⟨rfl, ?_⟩
      refine ⟨_, rfl, ta, _, _, _, rfl, rfl, hta10, atI_nat (j := 0) rfl, rfl, _, rfl, ?_⟩
      refine ite2 (fun c1 => ?_) (fun c1 => ⟨s9, nms, by omega, eR⟩)
      obtain ⟨nm2, e1, e2, b2, rfl⟩ := of_for (V.str.inj (of_decide_eq_true c1))
      obtain ⟨x2, x3, x4, rfl, _⟩ := ro
      refine ⟨_, rfl, ta, _, _, _, rfl, rfl, hta10, (rfl : atI [V.str (wordT (.loop nm2 e1 e2 b2)), V.str nm2, x2, x3, x4] 1 = some (.str nm2)), _, eR, small1000 (by rw [List.length_map]; omega), same_put s9 hR, nms ++ [nm2], by rw [List.length_append]; show _ + 1 ≤ _; omega, by rw [upd_same, List.map_append]; rfl⟩
    rintro H9 ⟨s9, nms, ln, eR⟩
    have eL1 := s9 _ _ (s8 _ _ upd_same)
    refine ⟨L1, R, _, _, rfl, rfl, eL1, eR, by rw [List.length_map]; exact Nat.le_of_lt (small1000 (by show 3 + _ ≤ _; omega)), fun Z hZ => ?_⟩
    have lus2 : us.length ≤ 11 := by have := thingsC_len (everyL b); omega
    have hA : MdA (S (some (.int ((0 : Int) + (i : Int)))) (some (.ref Z)) v4 v5 (some v) v7) (upd H9 Z (.lst ([V.str "n", V.str "n", V.str nm] ++ nms.map V.str))) := by
      have D9 := D8.mono s9
      have t9 := t8.ext s9
      let names : List Str := [Str.ofString "n", Str.ofString "n", nm] ++ nms
      have en : [V.str "n", V.str "n", V.str nm] ++ nms.map V.str = names.map V.str := by simp [names]
      rw [en]
      have sG9 := sG8.trans s9
      have sZ : Same (upd G4 Z (.lst (names.map V.str))) (upd H9 Z (.lst (names.map V.str))) := fun q x e => by
        by_cases hq : q = Z
        · subst hq
          rw [upd_same] at e ⊢
          exact e
        · rw [upd_ne hq] at e ⊢
          exact sG9 _ _ e
      have sg4 : Same G4 (upd G4 Z (.lst (names.map V.str))) := same_upd (sG9.free hZ)
      have nZd := D9.ned hZ
      refine ⟨_, v, b, Z, names, _, _, _, _, sZ, ?_, D9.upd hZ, t9.ext (same_upd hZ), dv.mono sg4, by omega, upd_same, by simp [names], by simp [names]; omega, rfl⟩
      rw [upd_ne (Ne.symm nZd)]
      exact gd4
    revert hA
    generalize upd H9 Z (.lst ([V.str "n", V.str "n", V.str nm] ++ nms.map V.str)) = H10
    show MdA (S (some (.int ((0 : Int) + (i : Int)))) (some (.ref Z)) v4 v5 (some v) v7) H10 → C8.tCut _ _ _ (S (some (.int ((0 : Int) + (i : Int)))) (some (.ref Z)) v4 v5 (some v) v7) H10
    generalize S (some (.int ((0 : Int) + (i : Int)))) (some (.ref Z)) v4 v5 (some v) v7 = σ
    rintro ⟨G, v, b, na, names, v2, v4, v5, v7, sg, gd, D, tb, dv, lc, en, n3, nl, rfl⟩
    refine ⟨MdA, ?_, ?_⟩
    · refine ⟨_, rfl, d, l, 3, rfl, D, by decide, by decide, fun n H11 n0 n1 D11 b11 => ?_⟩
      have s11 : Same G H11 := fun p o e => b11 _ _ (sg _ _ e) fun z => by
        rw [show p = d from z, gd] at e
        cases e
      refine ⟨n, rfl, by omega, by omega, for_it walk_range (fun _ σ H' => MdA σ H') ⟨G, v, b, na, names, _, _, _, _, s11, gd, D11, tabs_but tb D b11, dv, lc, en, n3, nl, rfl⟩ (fun _ _ _ _ _ => trivial) ?_ (fun σ H' q => q)⟩
      rintro j y σ H12 H13 hj ⟨G, v, b, na, names, v2, v4, v5, v7, sg, gd, D, tb, dv, lc, en, n3, nl, rfl⟩ ⟨rfl, rfl⟩
      refine ⟨_, rfl, _, rfl, _, rfl, d, l, na, names, G, v, b, rfl, sg, gd, D, dv, en, n3, nl, by omega, by omega, fun v' b' G' H' g' D' dv' hC hL => ?_⟩
      exact ⟨G', v', b', na, names, _, _, _, _, g'.gh, g'.none gd D.cell, D', tabs_but tb D g'.h, dv', by omega, g'.g _ _ en, n3, nl, rfl⟩
    rintro σ H11 ⟨G, v, b, na, names, v2, v4, v5, v7, sg, gd, D, tb, dv, lc, en, n3, nl, rfl⟩
    refine ⟨MdC, ?_, ?_⟩
    · refine ⟨_, rfl, d, l, 3, rfl, D, by decide, by decide, fun n H12 n0 n1 D12 b12 => ?_⟩
      have g12 := Grow.draw sg gd b12
      have t12 := tabs_but tb D b12
      refine ⟨rfl, _, rfl, ?_⟩
      refine ite2 (fun c1 => ?_) (fun _ => ⟨G, v, b, _, _, _, _, _, g12.gh, gd, D12, t12, dv, by omega, rfl⟩)
      obtain ⟨pa, xs, rfl, hs, hd⟩ := dv.tup'
      rw [thingsD_eq] at hd
      have lx : xs.length = b.length := by
        have := hd.length
        rw [List.length_map] at this
        exact this
      have lb := thingsC_len b
      refine ⟨_, rfl, _, rfl, pa, xs, rfl, .inr (same_t g12.gh hs), _, _, rfl, rfl, ?_⟩
      rw [lx]
      refine ⟨d, l, _, rfl, D12, by omega, Int.lt_of_lt_of_le (show (b.length : Int) + 1 < 13 by omega) (by decide), fun z H13 z0 z1 D13 b13 => ?_⟩
      have g13 := g12.trans (Grow.draw g12.gh gd b13) D12.some'
      obtain ⟨j, rfl⟩ := Int.eq_ofNat_of_zero_le z0
      have hj : j ≤ b.length := by omega
      refine ⟨_, rfl, ?_⟩
      try unfold tNoPart
      refine ⟨_, rfl, _, rfl, ?_⟩
      refine sl_take j g13.gh hs fun p1 G14 H14 g14 hp1 => ?_
      have D14 := D13.mono g14.h.same
      have e14 := g13.trans (g14.mono fun _ h => h.elim) D13.some'
      refine ⟨_, rfl, d, l, 3, rfl, D14, by decide, by decide, fun y H15 y0 y1 D15 b15 => ?_⟩
      have gd14 := e14.none gd D.cell
      have g15 := e14.trans (Grow.draw e14.gh gd14 b15) D14.some'
      refine ⟨_, _, rfl, rfl, ?_⟩
      refine ⟨_, rfl, by show 2 ≤ sizeLine; decide, fun Z hZ => ?_⟩
      have D16 := D15.upd (o := .lst [.str "halves", .str "less"]) hZ
      have g16 := g15.cell (o := .lst [.str "halves", .str "less"]) hZ
      refine ⟨d, l, _, rfl, D16, .inr ⟨Z, _, rfl, D15.ned hZ, .inl (SqL.of upd_same), by show 0 < 2; decide, by show 2 ≤ 100000; decide, fun q H17 hq D17 b17 => ?_⟩⟩
      obtain ⟨wd, rfl⟩ : ∃ wd : Str, q = .str wd := by
        rcases List.mem_cons.mp hq with rfl | hq
        · exact ⟨_, rfl⟩
        rcases List.mem_cons.mp hq with rfl | hq
        · exact ⟨_, rfl⟩
        cases hq
      have g17 := g16.trans (Grow.draw g16.gh gd14 b17) D16.some'
      refine ⟨by show 3 ≤ sizeLine; decide, fun p2 hp2 => ?_⟩
      have g18 := g17.new (o := .tup [.str "again", .int (1 + y), .str wd]) hp2 D17.some'
      have D18 := D17.upd (o := .tup [.str "again", .int (1 + y), .str wd]) hp2
      have s18 := same_upd (o := .tup [.str "again", .int (1 + y), .str wd]) (g17.gh.free hp2)
      refine ⟨by show 1 ≤ sizeLine; decide, fun p3 hp3 => ?_⟩
      have g19 := g18.new (o := .tup [.ref p2]) hp3 D18.some'
      have D19 := D18.upd (o := .tup [.ref p2]) hp3
      have s19 := same_upd (o := .tup [.ref p2]) (g18.gh.free hp3)
      refine cat_G g19.gh (same_t (s18.trans s19) hp1) (SqT.of upd_same) (by rw [List.length_take]; show _ + 1 ≤ _; omega) fun p4 G20 H20 g20 hp4 => ?_
      have D20 := D19.mono g20.h.same
      have e20 := g19.trans (g20.mono fun _ h => h.elim) D19.some'
      refine ⟨_, rfl, _, rfl, _, rfl, ?_⟩
      try unfold tNoPart
      refine sl_drop j e20.gh (same_t e20.g hs) fun p5 G21 H21 g21 hp5 => ?_
      have D21 := D20.mono g21.h.same
      have e21 := e20.trans (g21.mono fun _ h => h.elim) D20.some'
      refine cat_G e21.gh (same_t g21.g hp4) hp5 (by rw [List.length_append, List.length_take, List.length_drop]; show _ + 1 + _ ≤ _; omega) fun p6 G22 H22 g22 hp6 => ?_
      have D22 := D21.mono g22.h.same
      have e22 := e21.trans (g22.mono fun _ h => h.elim) D21.some'
      refine ⟨G22, .ref p6, b.take j ++ [.again (1 + y) wd] ++ b.drop j, _, _, _, _, _, e22.gh, e22.none gd D.cell, D22, tabs_but tb D e22.h, ?_, ?_, rfl⟩
      · unfold planD
        rw [thingsD_eq, List.map_append, List.map_append, List.map_take, List.map_drop]
        refine .tup hp6 (DpAll_app (DpAll_app (DpAll_take j (hd.mono e22.g)) (.cons ?_ .nil)) (DpAll_drop j (hd.mono e22.g)))
        rw [thingD]
        have sB := s19.trans (g20.g.trans (g21.g.trans g22.g))
        exact .tup (xs := [.str "again", .int (1 + y), .str wd]) (SqT.of (sB _ _ upd_same)) (.cons (.str _) (.cons (.int _) (.cons (.str _) .nil)))
      · have h0 := thingsC_app (b.take j) (b.drop j)
        rw [List.take_append_drop] at h0
        rw [thingsC_app, thingsC_app]
        simp only [thingsC, thingC]
        omega
    rintro σ H12 ⟨G, v, b, v2, v3, v4, v5, v7, sg, gd, D, tb, dv, lc, rfl⟩
    refine ⟨tb, fun H13 x13 t13 => ?_⟩
    have dv13 := dp_ext x13 (dv.mono sg)
    have key : ∀ (Q' : VK), (∀ p H14, Same H13 H14 → Dp K H14 (.ref p) (toldD (lookP b 0)) → Q' (.ref p) H14) →
        TTried T (fun E' H' Q2 => tCall (spLookPlan K (xad T)) [] E' (tCons (tVar 6) tNil) (S v2 v3 v4 v5 (some v) v7) H' Q2) H13 Q' := by
      intro Q' kq
      refine ⟨_, rfl, v, b, rfl, dv13, by omega, ?_⟩
      cases hL : lookP b 0 with
      | none =>
        rw [hL] at kq
        intro H' s'
        refine ⟨by show 2 ≤ sizeLine; decide, fun p hp => kq p _ (s'.trans (same_upd hp)) ?_⟩
        exact .tup (SqT.of upd_same) (.cons (.str _) (.cons .non .nil))
      | some e =>
        rw [hL] at kq
        intro dd H' s' hdd edd
        cases e with
        | noName z =>
          exact ⟨T.x_NoName, dd, errF (.noName z), Str.ofString "NoName", rfl, rfl, ⟨T.ce_NoName, T.nf_NoName_word, ⟨false, T.ki_NoName_Misread, T.ki_NoName_Unfit⟩, T.ki_NoName_VE⟩, edd, rfl, T.em_NoName_BadText, T.em_NoName_BadPage, T.em_NoName_Stopped,
            .inl ⟨T.et_NoName, T.nf_NoName_name, _, rfl, fun p hp => kq p _ (s'.trans (same_upd hp)) (.tup (SqT.of upd_same) (.cons (.str _) (.cons (.str _) .nil)))⟩⟩
        | twice z =>
          exact ⟨T.x_Twice, dd, errF (.twice z), Str.ofString "Twice", rfl, rfl, ⟨T.ce_Twice, T.nf_Twice_word, ⟨false, T.ki_Twice_Misread, T.ki_Twice_Unfit⟩, T.ki_Twice_VE⟩, edd, rfl, T.em_Twice_BadText, T.em_Twice_BadPage, T.em_Twice_Stopped,
            .inl ⟨T.et_Twice, T.nf_Twice_name, _, rfl, fun p hp => kq p _ (s'.trans (same_upd hp)) (.tup (SqT.of upd_same) (.cons (.str _) (.cons (.str _) .nil)))⟩⟩
        | misplaced =>
          exact ⟨T.x_Misplaced, dd, errF .misplaced, Str.ofString "Misplaced", rfl, rfl, ⟨T.ce_Misplaced, T.nf_Misplaced_word, ⟨false, T.ki_Misplaced_Misread, T.ki_Misplaced_Unfit⟩, T.ki_Misplaced_VE⟩, edd, rfl, T.em_Misplaced_BadText, T.em_Misplaced_BadPage, T.em_Misplaced_Stopped,
            .inr ⟨T.et_Misplaced, T.em_Misplaced_Refused, fun p hp => kq p _ (s'.trans (same_upd hp)) (.tup (SqT.of upd_same) (.cons (.str _) (.cons .non .nil)))⟩⟩
    refine key _ fun p H14 s14 d14 => ?_
    have hd14 : dep (toldD (lookP b 0)) < 12 ∧ wid (toldD (lookP b 0)) ≤ 100000 := by
      cases lookP b 0 with
      | none => simp [toldD, dep, depAll, wid, widAll]
      | some e => cases e <;> simp [toldD, errD, dep, depAll, wid, widAll]
    refine ⟨_, rfl, v, b, rfl, dv13.mono s14, by omega, fun p2 H15 s15 d15 => ?_⟩
    refine ⟨_, _, _, rfl, d14.mono s15, d15, hd14.1, hd14.2, fun H16 s16 => ?_⟩
    refine ⟨_, rfl, iteF ?_⟩
    have s316 := (s14.trans s15).trans s16
    exact ⟨((D.ext x13).mono s316), t13.ext s316, _, _, _, _, _, _, rfl⟩
  · rintro σ H5 ⟨D5, t5, v2, v3, v4, v5, v6, v7, rfl⟩
    exact k _
end
theorem all_mk {l : PySem.W.OpenLaw} {w : World} {K : PySem.W.Frag} {h : Heap} {mg : Str → Option Value} {fa : Addr} (X : K.In h) (G : h.Ns mainGlobals mg) (hfa : mg "law" = some (.ref fa))
    {x_Refused : Addr} (gx_Refused : PySem.W.nsIn K mainGlobals "Refused" = some (some (.ref x_Refused)))
    {x_Misread : Addr} (gx_Misread : PySem.W.nsIn K mainGlobals "Misread" = some (some (.ref x_Misread)))
    {x_Unfit : Addr} (gx_Unfit : PySem.W.nsIn K mainGlobals "Unfit" = some (some (.ref x_Unfit)))
    {x_BadText : Addr} (gx_BadText : PySem.W.nsIn K mainGlobals "BadText" = some (some (.ref x_BadText)))
    {x_BadPage : Addr} (gx_BadPage : PySem.W.nsIn K mainGlobals "BadPage" = some (some (.ref x_BadPage)))
    {x_Stopped : Addr} (gx_Stopped : PySem.W.nsIn K mainGlobals "Stopped" = some (some (.ref x_Stopped)))
    {x_Misplaced : Addr} (gx_Misplaced : PySem.W.nsIn K mainGlobals "Misplaced" = some (some (.ref x_Misplaced)))
    {x_NoName : Addr} (gx_NoName : PySem.W.nsIn K mainGlobals "NoName" = some (some (.ref x_NoName)))
    {x_Twice : Addr} (gx_Twice : PySem.W.nsIn K mainGlobals "Twice" = some (some (.ref x_Twice)))
    {x_NoPlan : Addr} (gx_NoPlan : PySem.W.nsIn K mainGlobals "NoPlan" = some (some (.ref x_NoPlan)))
    {x_NoLabel : Addr} (gx_NoLabel : PySem.W.nsIn K mainGlobals "NoLabel" = some (some (.ref x_NoLabel)))
    {x_Taken : Addr} (gx_Taken : PySem.W.nsIn K mainGlobals "Taken" = some (some (.ref x_Taken)))
    {x_Ring : Addr} (gx_Ring : PySem.W.nsIn K mainGlobals "Ring" = some (some (.ref x_Ring)))
    {x_NotPlain : Addr} (gx_NotPlain : PySem.W.nsIn K mainGlobals "NotPlain" = some (some (.ref x_NotPlain)))
    {x_Tangled : Addr} (gx_Tangled : PySem.W.nsIn K mainGlobals "Tangled" = some (some (.ref x_Tangled)))
    {x_Breaks : Addr} (gx_Breaks : PySem.W.nsIn K mainGlobals "Breaks" = some (some (.ref x_Breaks)))
    {x_InUse : Addr} (gx_InUse : PySem.W.nsIn K mainGlobals "InUse" = some (some (.ref x_InUse)))
    {x_Uneven : Addr} (gx_Uneven : PySem.W.nsIn K mainGlobals "Uneven" = some (some (.ref x_Uneven)))
    {f0 : Addr} {od0 an0 : Option Addr} {sl0 : Array (Option Value)} {oc0 kV0 dc0 pm0 cd0 ct0 : Value}
    (a0 : PySem.W.nsIn K mainGlobals "_law_begin" = some (some (.ref f0)))
    (l0 : K.lookup f0 = some ⟨oc0, od0, .func (PySem.W.fnOf "_law_begin" "_law_begin" (defArgs s_law_begin) (defBody s_law_begin) (defScope s_law_begin) .none kV0 dc0 pm0 an0 cd0 ct0), sl0⟩) (c0 : PySem.W.codeIn K cd0 "_law_begin" = true) (k0 : PySem.W.keepIn K (.ref f0) = true)
    {f1 : Addr} {od1 an1 : Option Addr} {sl1 : Array (Option Value)} {oc1 kV1 dc1 pm1 cd1 ct1 : Value}
    (a1 : PySem.W.nsIn K mainGlobals "_law_take" = some (some (.ref f1)))
    (l1 : K.lookup f1 = some ⟨oc1, od1, .func (PySem.W.fnOf "_law_take" "_law_take" (defArgs s_law_take) (defBody s_law_take) (defScope s_law_take) .none kV1 dc1 pm1 an1 cd1 ct1), sl1⟩) (c1 : PySem.W.codeIn K cd1 "_law_take" = true) (k1 : PySem.W.keepIn K (.ref f1) = true)
    {f2 : Addr} {od2 an2 : Option Addr} {sl2 : Array (Option Value)} {oc2 kV2 dc2 pm2 cd2 ct2 : Value}
    (a2 : PySem.W.nsIn K mainGlobals "_law_pick" = some (some (.ref f2)))
    (l2 : K.lookup f2 = some ⟨oc2, od2, .func (PySem.W.fnOf "_law_pick" "_law_pick" (defArgs s_law_pick) (defBody s_law_pick) (defScope s_law_pick) .none kV2 dc2 pm2 an2 cd2 ct2), sl2⟩) (c2 : PySem.W.codeIn K cd2 "_law_pick" = true) (k2 : PySem.W.keepIn K (.ref f2) = true)
    {f3 : Addr} {od3 an3 : Option Addr} {sl3 : Array (Option Value)} {oc3 kV3 dc3 pm3 cd3 ct3 : Value}
    (a3 : PySem.W.nsIn K mainGlobals "_law_some_end" = some (some (.ref f3)))
    (l3 : K.lookup f3 = some ⟨oc3, od3, .func (PySem.W.fnOf "_law_some_end" "_law_some_end" (defArgs s_law_some_end) (defBody s_law_some_end) (defScope s_law_some_end) .none kV3 dc3 pm3 an3 cd3 ct3), sl3⟩) (c3 : PySem.W.codeIn K cd3 "_law_some_end" = true) (k3 : PySem.W.keepIn K (.ref f3) = true)
    {f4 : Addr} {od4 an4 : Option Addr} {sl4 : Array (Option Value)} {oc4 kV4 dc4 pm4 cd4 ct4 : Value}
    (a4 : PySem.W.nsIn K mainGlobals "_law_leaf" = some (some (.ref f4)))
    (l4 : K.lookup f4 = some ⟨oc4, od4, .func (PySem.W.fnOf "_law_leaf" "_law_leaf" (defArgs s_law_leaf) (defBody s_law_leaf) (defScope s_law_leaf) .none kV4 dc4 pm4 an4 cd4 ct4), sl4⟩) (c4 : PySem.W.codeIn K cd4 "_law_leaf" = true) (k4 : PySem.W.keepIn K (.ref f4) = true)
    {f5 : Addr} {od5 an5 : Option Addr} {sl5 : Array (Option Value)} {oc5 kV5 dc5 pm5 cd5 ct5 : Value}
    (a5 : PySem.W.nsIn K mainGlobals "_law_kept_words" = some (some (.ref f5)))
    (l5 : K.lookup f5 = some ⟨oc5, od5, .func (PySem.W.fnOf "_law_kept_words" "_law_kept_words" (defArgs s_law_kept_words) (defBody s_law_kept_words) (defScope s_law_kept_words) .none kV5 dc5 pm5 an5 cd5 ct5), sl5⟩) (c5 : PySem.W.codeIn K cd5 "_law_kept_words" = true) (k5 : PySem.W.keepIn K (.ref f5) = true)
    {f6 : Addr} {od6 an6 : Option Addr} {sl6 : Array (Option Value)} {oc6 kV6 dc6 pm6 cd6 ct6 : Value}
    (a6 : PySem.W.nsIn K mainGlobals "_law_fresh" = some (some (.ref f6)))
    (l6 : K.lookup f6 = some ⟨oc6, od6, .func (PySem.W.fnOf "_law_fresh" "_law_fresh" (defArgs s_law_fresh) (defBody s_law_fresh) (defScope s_law_fresh) .none kV6 dc6 pm6 an6 cd6 ct6), sl6⟩) (c6 : PySem.W.codeIn K cd6 "_law_fresh" = true) (k6 : PySem.W.keepIn K (.ref f6) = true)
    {f7 : Addr} {od7 an7 : Option Addr} {sl7 : Array (Option Value)} {oc7 kV7 dc7 pm7 cd7 ct7 : Value}
    (a7 : PySem.W.nsIn K mainGlobals "_law_drawn_thing" = some (some (.ref f7)))
    (l7 : K.lookup f7 = some ⟨oc7, od7, .func (PySem.W.fnOf "_law_drawn_thing" "_law_drawn_thing" (defArgs s_law_drawn_thing) (defBody s_law_drawn_thing) (defScope s_law_drawn_thing) .none kV7 dc7 pm7 an7 cd7 ct7), sl7⟩) (c7 : PySem.W.codeIn K cd7 "_law_drawn_thing" = true) (k7 : PySem.W.keepIn K (.ref f7) = true)
    {f8 : Addr} {od8 an8 : Option Addr} {sl8 : Array (Option Value)} {oc8 kV8 dc8 pm8 cd8 ct8 : Value}
    (a8 : PySem.W.nsIn K mainGlobals "_law_drawn_body" = some (some (.ref f8)))
    (l8 : K.lookup f8 = some ⟨oc8, od8, .func (PySem.W.fnOf "_law_drawn_body" "_law_drawn_body" (defArgs s_law_drawn_body) (defBody s_law_drawn_body) (defScope s_law_drawn_body) .none kV8 dc8 pm8 an8 cd8 ct8), sl8⟩) (c8 : PySem.W.codeIn K cd8 "_law_drawn_body" = true) (k8 : PySem.W.keepIn K (.ref f8) = true)
    {f9 : Addr} {od9 an9 : Option Addr} {sl9 : Array (Option Value)} {oc9 kV9 dc9 pm9 cd9 ct9 : Value}
    (a9 : PySem.W.nsIn K mainGlobals "_law_drawn" = some (some (.ref f9)))
    (l9 : K.lookup f9 = some ⟨oc9, od9, .func (PySem.W.fnOf "_law_drawn" "_law_drawn" (defArgs s_law_drawn) (defBody s_law_drawn) (defScope s_law_drawn) .none kV9 dc9 pm9 an9 cd9 ct9), sl9⟩) (c9 : PySem.W.codeIn K cd9 "_law_drawn" = true) (k9 : PySem.W.keepIn K (.ref f9) = true)
    {f10 : Addr} {od10 an10 : Option Addr} {sl10 : Array (Option Value)} {oc10 kV10 dc10 pm10 cd10 ct10 : Value}
    (a10 : PySem.W.nsIn K mainGlobals "_law_unfit_thing" = some (some (.ref f10)))
    (l10 : K.lookup f10 = some ⟨oc10, od10, .func (PySem.W.fnOf "_law_unfit_thing" "_law_unfit_thing" (defArgs s_law_unfit_thing) (defBody s_law_unfit_thing) (defScope s_law_unfit_thing) .none kV10 dc10 pm10 an10 cd10 ct10), sl10⟩) (c10 : PySem.W.codeIn K cd10 "_law_unfit_thing" = true) (k10 : PySem.W.keepIn K (.ref f10) = true)
    {f11 : Addr} {od11 an11 : Option Addr} {sl11 : Array (Option Value)} {oc11 kV11 dc11 pm11 cd11 ct11 : Value}
    (a11 : PySem.W.nsIn K mainGlobals "_law_unfit" = some (some (.ref f11)))
    (l11 : K.lookup f11 = some ⟨oc11, od11, .func (PySem.W.fnOf "_law_unfit" "_law_unfit" (defArgs s_law_unfit) (defBody s_law_unfit) (defScope s_law_unfit) .none kV11 dc11 pm11 an11 cd11 ct11), sl11⟩) (c11 : PySem.W.codeIn K cd11 "_law_unfit" = true) (k11 : PySem.W.keepIn K (.ref f11) = true)
    {f12 : Addr} {od12 an12 : Option Addr} {sl12 : Array (Option Value)} {oc12 kV12 dc12 pm12 cd12 ct12 : Value}
    (a12 : PySem.W.nsIn K mainGlobals "_law_same" = some (some (.ref f12)))
    (l12 : K.lookup f12 = some ⟨oc12, od12, .func (PySem.W.fnOf "_law_same" "_law_same" (defArgs s_law_same) (defBody s_law_same) (defScope s_law_same) .none kV12 dc12 pm12 an12 cd12 ct12), sl12⟩) (c12 : PySem.W.codeIn K cd12 "_law_same" = true) (k12 : PySem.W.keepIn K (.ref f12) = true)
    {f13 : Addr} {od13 an13 : Option Addr} {sl13 : Array (Option Value)} {oc13 kV13 dc13 pm13 cd13 ct13 : Value}
    (a13 : PySem.W.nsIn K mainGlobals "_law_class" = some (some (.ref f13)))
    (l13 : K.lookup f13 = some ⟨oc13, od13, .func (PySem.W.fnOf "_law_class" "_law_class" (defArgs s_law_class) (defBody s_law_class) (defScope s_law_class) .none kV13 dc13 pm13 an13 cd13 ct13), sl13⟩) (c13 : PySem.W.codeIn K cd13 "_law_class" = true) (k13 : PySem.W.keepIn K (.ref f13) = true)
    {f14 : Addr} {od14 an14 : Option Addr} {sl14 : Array (Option Value)} {oc14 kV14 dc14 pm14 cd14 ct14 : Value}
    (a14 : PySem.W.nsIn K mainGlobals "_law_tried" = some (some (.ref f14)))
    (l14 : K.lookup f14 = some ⟨oc14, od14, .func (PySem.W.fnOf "_law_tried" "_law_tried" (defArgs s_law_tried) (defBody s_law_tried) (defScope s_law_tried) .none kV14 dc14 pm14 an14 cd14 ct14), sl14⟩) (c14 : PySem.W.codeIn K cd14 "_law_tried" = true) (k14 : PySem.W.keepIn K (.ref f14) = true)
    {f15 : Addr} {od15 an15 : Option Addr} {sl15 : Array (Option Value)} {oc15 kV15 dc15 pm15 cd15 ct15 : Value}
    (a15 : PySem.W.nsIn K mainGlobals "_law_bodies" = some (some (.ref f15)))
    (l15 : K.lookup f15 = some ⟨oc15, od15, .func (PySem.W.fnOf "_law_bodies" "_law_bodies" (defArgs s_law_bodies) (defBody s_law_bodies) (defScope s_law_bodies) .none kV15 dc15 pm15 an15 cd15 ct15), sl15⟩) (c15 : PySem.W.codeIn K cd15 "_law_bodies" = true) (k15 : PySem.W.keepIn K (.ref f15) = true)
    {f16 : Addr} {od16 an16 : Option Addr} {sl16 : Array (Option Value)} {oc16 kV16 dc16 pm16 cd16 ct16 : Value}
    (a16 : PySem.W.nsIn K mainGlobals "_law_look_thing" = some (some (.ref f16)))
    (l16 : K.lookup f16 = some ⟨oc16, od16, .func (PySem.W.fnOf "_law_look_thing" "_law_look_thing" (defArgs s_law_look_thing) (defBody s_law_look_thing) (defScope s_law_look_thing) .none kV16 dc16 pm16 an16 cd16 ct16), sl16⟩) (c16 : PySem.W.codeIn K cd16 "_law_look_thing" = true) (k16 : PySem.W.keepIn K (.ref f16) = true)
    {f17 : Addr} {od17 an17 : Option Addr} {sl17 : Array (Option Value)} {oc17 kV17 dc17 pm17 cd17 ct17 : Value}
    (a17 : PySem.W.nsIn K mainGlobals "_law_looking" = some (some (.ref f17)))
    (l17 : K.lookup f17 = some ⟨oc17, od17, .func (PySem.W.fnOf "_law_looking" "_law_looking" (defArgs s_law_looking) (defBody s_law_looking) (defScope s_law_looking) .none kV17 dc17 pm17 an17 cd17 ct17), sl17⟩) (c17 : PySem.W.codeIn K cd17 "_law_looking" = true) (k17 : PySem.W.keepIn K (.ref f17) = true)
    {f18 : Addr} {od18 an18 : Option Addr} {sl18 : Array (Option Value)} {oc18 kV18 dc18 pm18 cd18 ct18 : Value}
    (a18 : PySem.W.nsIn K mainGlobals "_law_every" = some (some (.ref f18)))
    (l18 : K.lookup f18 = some ⟨oc18, od18, .func (PySem.W.fnOf "_law_every" "_law_every" (defArgs s_law_every) (defBody s_law_every) (defScope s_law_every) .none kV18 dc18 pm18 an18 cd18 ct18), sl18⟩) (c18 : PySem.W.codeIn K cd18 "_law_every" = true) (k18 : PySem.W.keepIn K (.ref f18) = true)
    {f19 : Addr} {od19 an19 : Option Addr} {sl19 : Array (Option Value)} {oc19 kV19 dc19 pm19 cd19 ct19 : Value}
    (a19 : PySem.W.findIn K (.ref x_Refused) "__init__" = some (some (.ref f19)))
    {Td19 : Addr}    (l19 : K.lookup f19 = some ⟨oc19, od19, .func (PySem.W.fnOf "__init__" "Refused.__init__" (defArgs s_Refused_init) (defBody s_Refused_init) (defScope s_Refused_init) (.ref Td19) kV19 dc19 pm19 an19 cd19 ct19), sl19⟩) (c19 : PySem.W.codeIn K cd19 "Refused.__init__" = true) (k19 : PySem.W.keepIn K (.ref f19) = true)
    {oe19 : Option Addr} {nd19 : Nat} {sd19 : Array (Option Value)} {td19 : PySem.Tok} (q19 : K.lookup Td19 = some ⟨.type "tuple", oe19, .seq #[Value.str "Refused" td19] nd19, sd19⟩)
    {f20 : Addr} {od20 an20 : Option Addr} {sl20 : Array (Option Value)} {oc20 kV20 dc20 pm20 cd20 ct20 : Value}
    (a20 : PySem.W.findIn K (.ref x_Misplaced) "__init__" = some (some (.ref f20)))
    (l20 : K.lookup f20 = some ⟨oc20, od20, .func (PySem.W.fnOf "__init__" "Misplaced.__init__" (defArgs s_Misplaced_init) (defBody s_Misplaced_init) (defScope s_Misplaced_init) .none kV20 dc20 pm20 an20 cd20 ct20), sl20⟩) (c20 : PySem.W.codeIn K cd20 "Misplaced.__init__" = true) (k20 : PySem.W.keepIn K (.ref f20) = true)
    {f21 : Addr} {od21 an21 : Option Addr} {sl21 : Array (Option Value)} {oc21 kV21 dc21 pm21 cd21 ct21 : Value}
    (a21 : PySem.W.findIn K (.ref x_Twice) "__init__" = some (some (.ref f21)))
    {Td21 : Addr}    (l21 : K.lookup f21 = some ⟨oc21, od21, .func (PySem.W.fnOf "__init__" "Twice.__init__" (defArgs s_Twice_init) (defBody s_Twice_init) (defScope s_Twice_init) (.ref Td21) kV21 dc21 pm21 an21 cd21 ct21), sl21⟩) (c21 : PySem.W.codeIn K cd21 "Twice.__init__" = true) (k21 : PySem.W.keepIn K (.ref f21) = true)
    {oe21 : Option Addr} {nd21 : Nat} {sd21 : Array (Option Value)} {td21 : PySem.Tok} (q21 : K.lookup Td21 = some ⟨.type "tuple", oe21, .seq #[Value.str "" td21] nd21, sd21⟩)
    {f22 : Addr} {od22 an22 : Option Addr} {sl22 : Array (Option Value)} {oc22 kV22 dc22 pm22 cd22 ct22 : Value}
    (a22 : PySem.W.nsIn K mainGlobals "bodies_of" = some (some (.ref f22)))
    (l22 : K.lookup f22 = some ⟨oc22, od22, .func (PySem.W.fnOf "bodies_of" "bodies_of" (defArgs s_bodies_of) (defBody s_bodies_of) (defScope s_bodies_of) .none kV22 dc22 pm22 an22 cd22 ct22), sl22⟩) (c22 : PySem.W.codeIn K cd22 "bodies_of" = true) (k22 : PySem.W.keepIn K (.ref f22) = true)
    {f23 : Addr} {od23 an23 : Option Addr} {sl23 : Array (Option Value)} {oc23 kV23 dc23 pm23 cd23 ct23 : Value}
    (a23 : PySem.W.findIn K (.ref x_NoName) "__init__" = some (some (.ref f23)))
    {Td23 : Addr}    (l23 : K.lookup f23 = some ⟨oc23, od23, .func (PySem.W.fnOf "__init__" "NoName.__init__" (defArgs s_NoName_init) (defBody s_NoName_init) (defScope s_NoName_init) (.ref Td23) kV23 dc23 pm23 an23 cd23 ct23), sl23⟩) (c23 : PySem.W.codeIn K cd23 "NoName.__init__" = true) (k23 : PySem.W.keepIn K (.ref f23) = true)
    {oe23 : Option Addr} {nd23 : Nat} {sd23 : Array (Option Value)} {td23 : PySem.Tok} (q23 : K.lookup Td23 = some ⟨.type "tuple", oe23, .seq #[Value.str "" td23] nd23, sd23⟩)
    {f24 : Addr} {od24 an24 : Option Addr} {sl24 : Array (Option Value)} {oc24 kV24 dc24 pm24 cd24 ct24 : Value}
    (a24 : PySem.W.nsIn K mainGlobals "look_end" = some (some (.ref f24)))
    (l24 : K.lookup f24 = some ⟨oc24, od24, .func (PySem.W.fnOf "look_end" "look_end" (defArgs s_look_end) (defBody s_look_end) (defScope s_look_end) .none kV24 dc24 pm24 an24 cd24 ct24), sl24⟩) (c24 : PySem.W.codeIn K cd24 "look_end" = true) (k24 : PySem.W.keepIn K (.ref f24) = true)
    {f25 : Addr} {od25 an25 : Option Addr} {sl25 : Array (Option Value)} {oc25 kV25 dc25 pm25 cd25 ct25 : Value}
    (a25 : PySem.W.nsIn K mainGlobals "look_thing" = some (some (.ref f25)))
    (l25 : K.lookup f25 = some ⟨oc25, od25, .func (PySem.W.fnOf "look_thing" "look_thing" (defArgs s_look_thing) (defBody s_look_thing) (defScope s_look_thing) .none kV25 dc25 pm25 an25 cd25 ct25), sl25⟩) (c25 : PySem.W.codeIn K cd25 "look_thing" = true) (k25 : PySem.W.keepIn K (.ref f25) = true)
    {f26 : Addr} {od26 an26 : Option Addr} {sl26 : Array (Option Value)} {oc26 kV26 dc26 pm26 cd26 ct26 : Value}
    (a26 : PySem.W.nsIn K mainGlobals "look_plan" = some (some (.ref f26)))
    (l26 : K.lookup f26 = some ⟨oc26, od26, .func (PySem.W.fnOf "look_plan" "look_plan" (defArgs s_look_plan) (defBody s_look_plan) (defScope s_look_plan) .none kV26 dc26 pm26 an26 cd26 ct26), sl26⟩) (c26 : PySem.W.codeIn K cd26 "look_plan" = true) (k26 : PySem.W.keepIn K (.ref f26) = true)
    {f27 : Addr} {od27 an27 : Option Addr} {sl27 : Array (Option Value)} {oc27 kV27 dc27 pm27 cd27 ct27 : Value}
    (a27 : PySem.W.nsIn K mainGlobals "law" = some (some (.ref f27)))
    (l27 : K.lookup f27 = some ⟨oc27, od27, .func (PySem.W.fnOf "law" "law" (defArgs s_law) (defBody s_law) (defScope s_law) .none kV27 dc27 pm27 an27 cd27 ct27), sl27⟩) (c27 : PySem.W.codeIn K cd27 "law" = true) (k27 : PySem.W.keepIn K (.ref f27) = true)
    {nm_NoName qq_NoName : Str} {N_NoName : Addr} {bs_NoName bm_NoName : List Value} {sn_NoName : List Str} {sub_NoName : List Value} {ab_NoName : Bool} {col_NoName : Option Bool} {dd_NoName : Option Addr} {m0_NoName m1_NoName m2_NoName m3_NoName m5_NoName : Option Value}
    (xl_NoName : K.lookup x_NoName = some (PySem.excClassObj nm_NoName qq_NoName x_NoName N_NoName bs_NoName bm_NoName true sn_NoName sub_NoName ab_NoName col_NoName dd_NoName m0_NoName m1_NoName m2_NoName m3_NoName m5_NoName "ValueError.__new__"))
    (rv_NoName : PySem.HandSPX.refsVE bm_NoName = true)
    (sa_NoName : PySem.W.findIn K (.ref x_NoName) "__setattr__" = some (some (.builtin "object.__setattr__")))
    (sb_NoName : PySem.W.subIn K (.ref x_NoName) (.type "BaseException") = some true)
    (tc_NoName : PySem.W.typeIn K (.ref x_NoName) = some (.type "type"))
    (kc_NoName : PySem.W.keepIn K (.ref x_NoName) = true)
    (ti_NoName : PySem.W.typeIn K (.ref f23) = some (.type "function"))
    (cl_NoName : PySem.W.isClsIn K x_NoName = true)
    (ga_NoName : PySem.W.findIn K (.ref x_NoName) "__getattribute__" = some (some (.builtin "BaseException.__getattribute__")))
    (gg_NoName : PySem.W.findIn K (.ref x_NoName) "__getattr__" = some none)
    (hd_NoName : PySem.W.hasDictIn K x_NoName = true)
    (ca_NoName : PySem.W.findIn K (.ref x_NoName) "__class__" = some (some (.builtin "object.__class__")))
    (mr_NoName : PySem.W.mroIn K x_NoName (.type "object") = some true)
    (nf_NoName_word : PySem.W.findIn K (.ref x_NoName) "word" = some none)
    (nf_NoName_name : PySem.W.findIn K (.ref x_NoName) "name" = some none)
    (em_NoName_BadText : PySem.W.exmOne K (.ref x_NoName) (.ref x_BadText) = some false)
    (em_NoName_BadPage : PySem.W.exmOne K (.ref x_NoName) (.ref x_BadPage) = some false)
    (em_NoName_Stopped : PySem.W.exmOne K (.ref x_NoName) (.ref x_Stopped) = some false)
    (em_NoName_Refused : PySem.W.exmOne K (.ref x_NoName) (.ref x_Refused) = some true)
    (et_NoName : PySem.W.exmAny K (.ref x_NoName) [.ref x_NoName, .ref x_Twice, .ref x_NoPlan, .ref x_NoLabel, .ref x_Taken, .ref x_Ring, .ref x_NotPlain, .ref x_Tangled, .ref x_Breaks, .ref x_InUse, .ref x_Uneven] = some true)
    (ki_NoName_Misread : PySem.W.kitOne K (.ref x_NoName) (.ref x_Misread) = some false)
    (ki_NoName_Unfit : PySem.W.kitOne K (.ref x_NoName) (.ref x_Unfit) = some true)
    (kv_NoName : PySem.W.kitOne K (.ref x_NoName) (.type "ValueError") = some true)
    {nm_Twice qq_Twice : Str} {N_Twice : Addr} {bs_Twice bm_Twice : List Value} {sn_Twice : List Str} {sub_Twice : List Value} {ab_Twice : Bool} {col_Twice : Option Bool} {dd_Twice : Option Addr} {m0_Twice m1_Twice m2_Twice m3_Twice m5_Twice : Option Value}
    (xl_Twice : K.lookup x_Twice = some (PySem.excClassObj nm_Twice qq_Twice x_Twice N_Twice bs_Twice bm_Twice true sn_Twice sub_Twice ab_Twice col_Twice dd_Twice m0_Twice m1_Twice m2_Twice m3_Twice m5_Twice "ValueError.__new__"))
    (rv_Twice : PySem.HandSPX.refsVE bm_Twice = true)
    (sa_Twice : PySem.W.findIn K (.ref x_Twice) "__setattr__" = some (some (.builtin "object.__setattr__")))
    (sb_Twice : PySem.W.subIn K (.ref x_Twice) (.type "BaseException") = some true)
    (tc_Twice : PySem.W.typeIn K (.ref x_Twice) = some (.type "type"))
    (kc_Twice : PySem.W.keepIn K (.ref x_Twice) = true)
    (ti_Twice : PySem.W.typeIn K (.ref f21) = some (.type "function"))
    (cl_Twice : PySem.W.isClsIn K x_Twice = true)
    (ga_Twice : PySem.W.findIn K (.ref x_Twice) "__getattribute__" = some (some (.builtin "BaseException.__getattribute__")))
    (gg_Twice : PySem.W.findIn K (.ref x_Twice) "__getattr__" = some none)
    (hd_Twice : PySem.W.hasDictIn K x_Twice = true)
    (ca_Twice : PySem.W.findIn K (.ref x_Twice) "__class__" = some (some (.builtin "object.__class__")))
    (mr_Twice : PySem.W.mroIn K x_Twice (.type "object") = some true)
    (nf_Twice_word : PySem.W.findIn K (.ref x_Twice) "word" = some none)
    (nf_Twice_name : PySem.W.findIn K (.ref x_Twice) "name" = some none)
    (em_Twice_BadText : PySem.W.exmOne K (.ref x_Twice) (.ref x_BadText) = some false)
    (em_Twice_BadPage : PySem.W.exmOne K (.ref x_Twice) (.ref x_BadPage) = some false)
    (em_Twice_Stopped : PySem.W.exmOne K (.ref x_Twice) (.ref x_Stopped) = some false)
    (em_Twice_Refused : PySem.W.exmOne K (.ref x_Twice) (.ref x_Refused) = some true)
    (et_Twice : PySem.W.exmAny K (.ref x_Twice) [.ref x_NoName, .ref x_Twice, .ref x_NoPlan, .ref x_NoLabel, .ref x_Taken, .ref x_Ring, .ref x_NotPlain, .ref x_Tangled, .ref x_Breaks, .ref x_InUse, .ref x_Uneven] = some true)
    (ki_Twice_Misread : PySem.W.kitOne K (.ref x_Twice) (.ref x_Misread) = some false)
    (ki_Twice_Unfit : PySem.W.kitOne K (.ref x_Twice) (.ref x_Unfit) = some true)
    (kv_Twice : PySem.W.kitOne K (.ref x_Twice) (.type "ValueError") = some true)
    {nm_Misplaced qq_Misplaced : Str} {N_Misplaced : Addr} {bs_Misplaced bm_Misplaced : List Value} {sn_Misplaced : List Str} {sub_Misplaced : List Value} {ab_Misplaced : Bool} {col_Misplaced : Option Bool} {dd_Misplaced : Option Addr} {m0_Misplaced m1_Misplaced m2_Misplaced m3_Misplaced m5_Misplaced : Option Value}
    (xl_Misplaced : K.lookup x_Misplaced = some (PySem.excClassObj nm_Misplaced qq_Misplaced x_Misplaced N_Misplaced bs_Misplaced bm_Misplaced true sn_Misplaced sub_Misplaced ab_Misplaced col_Misplaced dd_Misplaced m0_Misplaced m1_Misplaced m2_Misplaced m3_Misplaced m5_Misplaced "ValueError.__new__"))
    (rv_Misplaced : PySem.HandSPX.refsVE bm_Misplaced = true)
    (sa_Misplaced : PySem.W.findIn K (.ref x_Misplaced) "__setattr__" = some (some (.builtin "object.__setattr__")))
    (sb_Misplaced : PySem.W.subIn K (.ref x_Misplaced) (.type "BaseException") = some true)
    (tc_Misplaced : PySem.W.typeIn K (.ref x_Misplaced) = some (.type "type"))
    (kc_Misplaced : PySem.W.keepIn K (.ref x_Misplaced) = true)
    (ti_Misplaced : PySem.W.typeIn K (.ref f20) = some (.type "function"))
    (cl_Misplaced : PySem.W.isClsIn K x_Misplaced = true)
    (ga_Misplaced : PySem.W.findIn K (.ref x_Misplaced) "__getattribute__" = some (some (.builtin "BaseException.__getattribute__")))
    (gg_Misplaced : PySem.W.findIn K (.ref x_Misplaced) "__getattr__" = some none)
    (hd_Misplaced : PySem.W.hasDictIn K x_Misplaced = true)
    (ca_Misplaced : PySem.W.findIn K (.ref x_Misplaced) "__class__" = some (some (.builtin "object.__class__")))
    (mr_Misplaced : PySem.W.mroIn K x_Misplaced (.type "object") = some true)
    (nf_Misplaced_word : PySem.W.findIn K (.ref x_Misplaced) "word" = some none)
    (em_Misplaced_BadText : PySem.W.exmOne K (.ref x_Misplaced) (.ref x_BadText) = some false)
    (em_Misplaced_BadPage : PySem.W.exmOne K (.ref x_Misplaced) (.ref x_BadPage) = some false)
    (em_Misplaced_Stopped : PySem.W.exmOne K (.ref x_Misplaced) (.ref x_Stopped) = some false)
    (em_Misplaced_Refused : PySem.W.exmOne K (.ref x_Misplaced) (.ref x_Refused) = some true)
    (et_Misplaced : PySem.W.exmAny K (.ref x_Misplaced) [.ref x_NoName, .ref x_Twice, .ref x_NoPlan, .ref x_NoLabel, .ref x_Taken, .ref x_Ring, .ref x_NotPlain, .ref x_Tangled, .ref x_Breaks, .ref x_InUse, .ref x_Uneven] = some false)
    (ki_Misplaced_Misread : PySem.W.kitOne K (.ref x_Misplaced) (.ref x_Misread) = some false)
    (ki_Misplaced_Unfit : PySem.W.kitOne K (.ref x_Misplaced) (.ref x_Unfit) = some true)
    (kv_Misplaced : PySem.W.kitOne K (.ref x_Misplaced) (.type "ValueError") = some true)
    (gt_cls : PySem.W.specialIn K (.builtin "object.__class__") "__get__" = some (some (.builtin "getset_descriptor.__get__")))
    (tk_cls : PySem.W.takesIn K (.builtin "object.__class__") = some true)
    (sg_Unfit : PySem.W.specialIn K (.ref x_Unfit) "__getattribute__" = some (some (.builtin "type.__getattribute__")))
    (rd_Unfit : PySem.W.readsIn K x_Unfit (.type "type") = true)
    (fc_Unfit : PySem.W.findCls K (.ref x_Unfit) (.type "type") "__init__" = some (.val (.ref f19)))
    (z_ValueError : PySem.W.nsIn K mainGlobals "ValueError" = some none)
    (z_abs : PySem.W.nsIn K mainGlobals "abs" = some none)
    (z_all : PySem.W.nsIn K mainGlobals "all" = some none)
    (z_bool : PySem.W.nsIn K mainGlobals "bool" = some none)
    (z_int : PySem.W.nsIn K mainGlobals "int" = some none)
    (z_isinstance : PySem.W.nsIn K mainGlobals "isinstance" = some none)
    (z_len : PySem.W.nsIn K mainGlobals "len" = some none)
    (z_list : PySem.W.nsIn K mainGlobals "list" = some none)
    (z_range : PySem.W.nsIn K mainGlobals "range" = some none)
    (z_sorted : PySem.W.nsIn K mainGlobals "sorted" = some none)
    (z_str : PySem.W.nsIn K mainGlobals "str" = some none)
    (z_tuple : PySem.W.nsIn K mainGlobals "tuple" = some none)
    (z_zip : PySem.W.nsIn K mainGlobals "zip" = some none)
    {t_SIZE : PySem.Tok} (m_SIZE : PySem.W.nsIn K mainGlobals "SIZE" = some (some (Value.str "n" t_SIZE)))
    {cL Pt : Addr} (hPt : h.get? Pt = some (PySem.W.tabObj #[])) (ec : cd27 = .ref cL) (hcL : PySem.W.codeHdIn K cL Pt = true) (nPt : K.lookup Pt = none)
    : LamX.LawAtS l w K CX0 LV 63 "_law_script" mg fa h := by
  have e := hfa.symm.trans (PySem.W.mg_of X G a27)
  cases e
  have F0 := fun_mk (st := s_law_begin) l0 c0 k0
  have b0 := F0.binds (ps := ["_law_script"]) fun _ _ _ _ _ _ us hl => match us, hl with | [_], _ => rfl
  have F1 := fun_mk (st := s_law_take) l1 c1 k1
  have b1 := F1.binds (ps := ["_law_draw", "_law_sides"]) fun _ _ _ _ _ _ us hl => match us, hl with | [_, _], _ => rfl
  have F2 := fun_mk (st := s_law_pick) l2 c2 k2
  have b2 := F2.binds (ps := ["_law_draw", "_law_row"]) fun _ _ _ _ _ _ us hl => match us, hl with | [_, _], _ => rfl
  have F3 := fun_mk (st := s_law_some_end) l3 c3 k3
  have b3 := F3.binds (ps := ["_law_draw", "_law_scope", "_law_wide"]) fun _ _ _ _ _ _ us hl => match us, hl with | [_, _, _], _ => rfl
  have F4 := fun_mk (st := s_law_leaf) l4 c4 k4
  have b4 := F4.binds (ps := ["_law_draw", "_law_kit", "_law_scope", "_law_deep"]) fun _ _ _ _ _ _ us hl => match us, hl with | [_, _, _, _], _ => rfl
  have F5 := fun_mk (st := s_law_kept_words) l5 c5 k5
  have b5 := F5.binds (ps := []) fun _ _ _ _ _ _ us hl => match us, hl with | [], _ => rfl
  have F6 := fun_mk (st := s_law_fresh) l6 c6 k6
  have b6 := F6.binds (ps := ["_law_draw", "_law_taken"]) fun _ _ _ _ _ _ us hl => match us, hl with | [_, _], _ => rfl
  have F7 := fun_mk (st := s_law_drawn_thing) l7 c7 k7
  have b7 := F7.binds (ps := ["_law_draw", "_law_kit", "_law_scope", "_law_deep"]) fun _ _ _ _ _ _ us hl => match us, hl with | [_, _, _, _], _ => rfl
  have F8 := fun_mk (st := s_law_drawn_body) l8 c8 k8
  have b8 := F8.binds (ps := ["_law_draw", "_law_kit", "_law_scope", "_law_deep"]) fun _ _ _ _ _ _ us hl => match us, hl with | [_, _, _, _], _ => rfl
  have F9 := fun_mk (st := s_law_drawn) l9 c9 k9
  have b9 := F9.binds (ps := ["_law_draw", "_law_room", "_law_figures", "_law_wide"]) fun _ _ _ _ _ _ us hl => match us, hl with | [_, _, _, _], _ => rfl
  have F10 := fun_mk (st := s_law_unfit_thing) l10 c10 k10
  have b10 := F10.binds (ps := ["_law_draw", "_law_thing", "_law_names"]) fun _ _ _ _ _ _ us hl => match us, hl with | [_, _, _], _ => rfl
  have F11 := fun_mk (st := s_law_unfit) l11 c11 k11
  have b11 := F11.binds (ps := ["_law_draw", "_law_plan", "_law_names"]) fun _ _ _ _ _ _ us hl => match us, hl with | [_, _, _], _ => rfl
  have F12 := fun_mk (st := s_law_same) l12 c12 k12
  have b12 := F12.binds (ps := ["_law_found", "_law_due"]) fun _ _ _ _ _ _ us hl => match us, hl with | [_, _], _ => rfl
  have F13 := fun_mk (st := s_law_class) l13 c13 k13
  have b13 := F13.binds (ps := ["_law_e"]) fun _ _ _ _ _ _ us hl => match us, hl with | [_], _ => rfl
  have F14 := fun_mk (st := s_law_tried) l14 c14 k14
  have b14 := F14.binds (ps := ["_law_ask"]) fun _ _ _ _ _ _ us hl => match us, hl with | [_], _ => rfl
  have F15 := fun_mk (st := s_law_bodies) l15 c15 k15
  have b15 := F15.binds (ps := ["_law_thing"]) fun _ _ _ _ _ _ us hl => match us, hl with | [_], _ => rfl
  have F16 := fun_mk (st := s_law_look_thing) l16 c16 k16
  have b16 := F16.binds (ps := ["_law_thing", "_law_scope", "_law_deep"]) fun _ _ _ _ _ _ us hl => match us, hl with | [_, _, _], _ => rfl
  have F17 := fun_mk (st := s_law_looking) l17 c17 k17
  have b17 := F17.binds (ps := ["_law_plan"]) fun _ _ _ _ _ _ us hl => match us, hl with | [_], _ => rfl
  have F18 := fun_mk (st := s_law_every) l18 c18 k18
  have b18 := F18.binds (ps := ["_law_plan"]) fun _ _ _ _ _ _ us hl => match us, hl with | [_], _ => rfl
  have F19 : FunD K "__init__" "Refused.__init__" (defArgs s_Refused_init) (defBody s_Refused_init) (defScope s_Refused_init) [V.str "Refused"] [] f19 _ := ⟨⟨_, _, _, _, _, _, _, _, _, _, rfl, l19, c19, .inr ⟨by simp, Td19, _, [Value.str "Refused" td19], _, rfl, q19, rfl, .cons ⟨_, rfl⟩ .nil⟩, .inl rfl⟩, k19⟩
  obtain ⟨ds19, dv19, b19⟩ := F19.binds1 (ps := ["self", "word"]) 2 1 (by simp) rfl fun _ _ _ _ _ _ _ us its h1 h2 => match us, its, h1, h2 with | [_, _], [_], _, _ => ⟨_, rfl, rfl⟩
  cases dv19
  have F20 := fun_mk (st := s_Misplaced_init) l20 c20 k20
  have b20 := F20.binds (ps := ["self"]) fun _ _ _ _ _ _ us hl => match us, hl with | [_], _ => rfl
  have F21 : FunD K "__init__" "Twice.__init__" (defArgs s_Twice_init) (defBody s_Twice_init) (defScope s_Twice_init) [V.str ""] [] f21 _ := ⟨⟨_, _, _, _, _, _, _, _, _, _, rfl, l21, c21, .inr ⟨by simp, Td21, _, [Value.str "" td21], _, rfl, q21, rfl, .cons ⟨_, rfl⟩ .nil⟩, .inl rfl⟩, k21⟩
  obtain ⟨ds21, dv21, b21⟩ := F21.binds1 (ps := ["self", "name"]) 2 1 (by simp) rfl fun _ _ _ _ _ _ _ us its h1 h2 => match us, its, h1, h2 with | [_, _], [_], _, _ => ⟨_, rfl, rfl⟩
  cases dv21
  have F22 := fun_mk (st := s_bodies_of) l22 c22 k22
  have b22 := F22.binds (ps := ["thing"]) fun _ _ _ _ _ _ us hl => match us, hl with | [_], _ => rfl
  have F23 : FunD K "__init__" "NoName.__init__" (defArgs s_NoName_init) (defBody s_NoName_init) (defScope s_NoName_init) [V.str ""] [] f23 _ := ⟨⟨_, _, _, _, _, _, _, _, _, _, rfl, l23, c23, .inr ⟨by simp, Td23, _, [Value.str "" td23], _, rfl, q23, rfl, .cons ⟨_, rfl⟩ .nil⟩, .inl rfl⟩, k23⟩
  obtain ⟨ds23, dv23, b23⟩ := F23.binds1 (ps := ["self", "name"]) 2 1 (by simp) rfl fun _ _ _ _ _ _ _ us its h1 h2 => match us, its, h1, h2 with | [_, _], [_], _, _ => ⟨_, rfl, rfl⟩
  cases dv23
  have F24 := fun_mk (st := s_look_end) l24 c24 k24
  have b24 := F24.binds (ps := ["end", "names"]) fun _ _ _ _ _ _ us hl => match us, hl with | [_, _], _ => rfl
  have F25 := fun_mk (st := s_look_thing) l25 c25 k25
  have b25 := F25.binds (ps := ["thing", "names", "deep"]) fun _ _ _ _ _ _ us hl => match us, hl with | [_, _, _], _ => rfl
  have F26 := fun_mk (st := s_look_plan) l26 c26 k26
  have b26 := F26.binds (ps := ["plan"]) fun _ _ _ _ _ _ us hl => match us, hl with | [_], _ => rfl
  have F27 := fun_mk (st := s_law) l27 c27 k27
  have b27 := F27.binds (ps := ["_law_script"]) fun _ _ _ _ _ _ us hl => match us, hl with | [_], _ => rfl
  let T : Txt K mg := ⟨f0, _, F0, b0, PySem.W.mg_of X G a0,
    f1, _, F1, b1, PySem.W.mg_of X G a1,
    f2, _, F2, b2, PySem.W.mg_of X G a2,
    f3, _, F3, b3, PySem.W.mg_of X G a3,
    f4, _, F4, b4, PySem.W.mg_of X G a4,
    f5, _, F5, b5, PySem.W.mg_of X G a5,
    f6, _, F6, b6, PySem.W.mg_of X G a6,
    f7, _, F7, b7, PySem.W.mg_of X G a7,
    f8, _, F8, b8, PySem.W.mg_of X G a8,
    f9, _, F9, b9, PySem.W.mg_of X G a9,
    f10, _, F10, b10, PySem.W.mg_of X G a10,
    f11, _, F11, b11, PySem.W.mg_of X G a11,
    f12, _, F12, b12, PySem.W.mg_of X G a12,
    f13, _, F13, b13, PySem.W.mg_of X G a13,
    f14, _, F14, b14, PySem.W.mg_of X G a14,
    f15, _, F15, b15, PySem.W.mg_of X G a15,
    f16, _, F16, b16, PySem.W.mg_of X G a16,
    f17, _, F17, b17, PySem.W.mg_of X G a17,
    f18, _, F18, b18, PySem.W.mg_of X G a18,
    f19, _, F19, b19,
    f20, _, F20, b20,
    f21, _, F21, b21,
    f22, _, F22, b22, PySem.W.mg_of X G a22,
    f23, _, F23, b23,
    f24, _, F24, b24, PySem.W.mg_of X G a24,
    f25, _, F25, b25, PySem.W.mg_of X G a25,
    f26, _, F26, b26, PySem.W.mg_of X G a26,
    fa, _, F27, b27, PySem.W.mg_of X G a27,
    x_Refused, PySem.W.mg_of X G gx_Refused,
    x_Misread, PySem.W.mg_of X G gx_Misread,
    x_Unfit, PySem.W.mg_of X G gx_Unfit,
    x_BadText, PySem.W.mg_of X G gx_BadText,
    x_BadPage, PySem.W.mg_of X G gx_BadPage,
    x_Stopped, PySem.W.mg_of X G gx_Stopped,
    x_Misplaced, PySem.W.mg_of X G gx_Misplaced,
    x_NoName, PySem.W.mg_of X G gx_NoName,
    x_Twice, PySem.W.mg_of X G gx_Twice,
    x_NoPlan, PySem.W.mg_of X G gx_NoPlan,
    x_NoLabel, PySem.W.mg_of X G gx_NoLabel,
    x_Taken, PySem.W.mg_of X G gx_Taken,
    x_Ring, PySem.W.mg_of X G gx_Ring,
    x_NotPlain, PySem.W.mg_of X G gx_NotPlain,
    x_Tangled, PySem.W.mg_of X G gx_Tangled,
    x_Breaks, PySem.W.mg_of X G gx_Breaks,
    x_InUse, PySem.W.mg_of X G gx_InUse,
    x_Uneven, PySem.W.mg_of X G gx_Uneven,
    ⟨⟨_, _, _, _, _, _, _, _, _, _, _, _, _, _, _, xl_NoName, rv_NoName⟩, sa_NoName, sb_NoName, tc_NoName, kc_NoName⟩, a23, ti_NoName, ⟨cl_NoName, ga_NoName, gg_NoName, sb_NoName, hd_NoName, ca_NoName, gt_cls, tk_cls, mr_NoName⟩,
    nf_NoName_word,
    nf_NoName_name,
    em_NoName_BadText,
    em_NoName_BadPage,
    em_NoName_Stopped,
    em_NoName_Refused,
    et_NoName,
    ki_NoName_Misread,
    ki_NoName_Unfit,
    kv_NoName,
    ⟨⟨_, _, _, _, _, _, _, _, _, _, _, _, _, _, _, xl_Twice, rv_Twice⟩, sa_Twice, sb_Twice, tc_Twice, kc_Twice⟩, a21, ti_Twice, ⟨cl_Twice, ga_Twice, gg_Twice, sb_Twice, hd_Twice, ca_Twice, gt_cls, tk_cls, mr_Twice⟩,
    nf_Twice_word,
    nf_Twice_name,
    em_Twice_BadText,
    em_Twice_BadPage,
    em_Twice_Stopped,
    em_Twice_Refused,
    et_Twice,
    ki_Twice_Misread,
    ki_Twice_Unfit,
    kv_Twice,
    ⟨⟨_, _, _, _, _, _, _, _, _, _, _, _, _, _, _, xl_Misplaced, rv_Misplaced⟩, sa_Misplaced, sb_Misplaced, tc_Misplaced, kc_Misplaced⟩, a20, ti_Misplaced, ⟨cl_Misplaced, ga_Misplaced, gg_Misplaced, sb_Misplaced, hd_Misplaced, ca_Misplaced, gt_cls, tk_cls, mr_Misplaced⟩,
    nf_Misplaced_word,
    em_Misplaced_BadText,
    em_Misplaced_BadPage,
    em_Misplaced_Stopped,
    em_Misplaced_Refused,
    et_Misplaced,
    ki_Misplaced_Misread,
    ki_Misplaced_Unfit,
    kv_Misplaced,
    sg_Unfit, rd_Unfit, fc_Unfit,
    PySem.W.mg_none_of X G z_ValueError,
    PySem.W.mg_none_of X G z_abs,
    PySem.W.mg_none_of X G z_all,
    PySem.W.mg_none_of X G z_bool,
    PySem.W.mg_none_of X G z_int,
    PySem.W.mg_none_of X G z_isinstance,
    PySem.W.mg_none_of X G z_len,
    PySem.W.mg_none_of X G z_list,
    PySem.W.mg_none_of X G z_range,
    PySem.W.mg_none_of X G z_sorted,
    PySem.W.mg_none_of X G z_str,
    PySem.W.mg_none_of X G z_tuple,
    PySem.W.mg_none_of X G z_zip,
    _, PySem.W.mg_of X G m_SIZE, ⟨_, rfl⟩⟩
  subst ec
  exact ⟨T.d_law, [(cL, Pt)], spLaw K Pt, fun p hp => by rw [List.mem_singleton.mp hp]; exact hPt, fun p hp => by rw [List.mem_singleton.mp hp]; exact nPt, fun p hp => by rw [List.mem_singleton.mp hp]; exact PySem.W.codeHd_of_K X hcL, fun s v => .of_eq rfl,
    fun H a ns hl _ hH hS => ⟨a, ns, rfl, hH _ List.mem_cons_self, hS, hl, fun _ => rfl⟩, fun base _ _ hT => ok_law T cL Pt rfl (hT _ List.mem_cons_self)⟩
end My
open PySem PySem.W PyProof.Rows
set_option maxHeartbeats 0 in
theorem PySem.Challenge.cw_outgrow_k06_plans_that_do_not_fit_holds : PySem.Challenge.rw_outgrow_k06_plans_that_do_not_fit.Holds := by
  w_on; o_law; k_head; (case hw => w_witness2)
  k_fill
  refine LamX.walk_ofTs (l := PySem.Challenge.rw_outgrow_k06_plans_that_do_not_fit) (n := 63) (k := My.LV) (x := "_law_script") (CX := fun _ => L2.CX0) rfl (by decide) rfl ⟨rfl, by decide, by decide⟩ (fun w h Y => PySem.W.km_in_of Y) ?F (fun _ _ _ _ _ h => h)
  case F =>
    intro w mg fa h Y KX G hmg
    refine' My.all_mk KX G hmg ?gx_Refused ?gx_Misread ?gx_Unfit ?gx_BadText ?gx_BadPage ?gx_Stopped ?gx_Misplaced ?gx_NoName ?gx_Twice ?gx_NoPlan ?gx_NoLabel ?gx_Taken ?gx_Ring ?gx_NotPlain ?gx_Tangled ?gx_Breaks ?gx_InUse ?gx_Uneven ?a0 ?l0 ?c0 ?k0 ?a1 ?l1 ?c1 ?k1 ?a2 ?l2 ?c2 ?k2 ?a3 ?l3 ?c3 ?k3 ?a4 ?l4 ?c4 ?k4 ?a5 ?l5 ?c5 ?k5 ?a6 ?l6 ?c6 ?k6 ?a7 ?l7 ?c7 ?k7 ?a8 ?l8 ?c8 ?k8 ?a9 ?l9 ?c9 ?k9 ?a10 ?l10 ?c10 ?k10 ?a11 ?l11 ?c11 ?k11 ?a12 ?l12 ?c12 ?k12 ?a13 ?l13 ?c13 ?k13 ?a14 ?l14 ?c14 ?k14 ?a15 ?l15 ?c15 ?k15 ?a16 ?l16 ?c16 ?k16 ?a17 ?l17 ?c17 ?k17 ?a18 ?l18 ?c18 ?k18 ?a19 ?l19 ?c19 ?k19 ?q19 ?a20 ?l20 ?c20 ?k20 ?a21 ?l21 ?c21 ?k21 ?q21 ?a22 ?l22 ?c22 ?k22 ?a23 ?l23 ?c23 ?k23 ?q23 ?a24 ?l24 ?c24 ?k24 ?a25 ?l25 ?c25 ?k25 ?a26 ?l26 ?c26 ?k26 ?a27 ?l27 ?c27 ?k27 ?xl_NoName ?rv_NoName ?sa_NoName ?sb_NoName ?tc_NoName ?kc_NoName ?ti_NoName ?cl_NoName ?ga_NoName ?gg_NoName ?hd_NoName ?ca_NoName ?mr_NoName ?nf_NoName_word ?nf_NoName_name ?em_NoName_BadText ?em_NoName_BadPage ?em_NoName_Stopped ?em_NoName_Refused ?et_NoName ?ki_NoName_Misread ?ki_NoName_Unfit ?kv_NoName ?xl_Twice ?rv_Twice ?sa_Twice ?sb_Twice ?tc_Twice ?kc_Twice ?ti_Twice ?cl_Twice ?ga_Twice ?gg_Twice ?hd_Twice ?ca_Twice ?mr_Twice ?nf_Twice_word ?nf_Twice_name ?em_Twice_BadText ?em_Twice_BadPage ?em_Twice_Stopped ?em_Twice_Refused ?et_Twice ?ki_Twice_Misread ?ki_Twice_Unfit ?kv_Twice ?xl_Misplaced ?rv_Misplaced ?sa_Misplaced ?sb_Misplaced ?tc_Misplaced ?kc_Misplaced ?ti_Misplaced ?cl_Misplaced ?ga_Misplaced ?gg_Misplaced ?hd_Misplaced ?ca_Misplaced ?mr_Misplaced ?nf_Misplaced_word ?em_Misplaced_BadText ?em_Misplaced_BadPage ?em_Misplaced_Stopped ?em_Misplaced_Refused ?et_Misplaced ?ki_Misplaced_Misread ?ki_Misplaced_Unfit ?kv_Misplaced ?gt_cls ?tk_cls ?sg_Unfit ?rd_Unfit ?fc_Unfit ?z_ValueError ?z_abs ?z_all ?z_bool ?z_int ?z_isinstance ?z_len ?z_list ?z_range ?z_sorted ?z_str ?z_tuple ?z_zip ?m_SIZE ?hPt ?ec ?hcL ?nPt
    (case gx_Refused => k_is)
    (case gx_Misread => k_is)
    (case gx_Unfit => k_is)
    (case gx_BadText => k_is)
    (case gx_BadPage => k_is)
    (case gx_Stopped => k_is)
    (case gx_Misplaced => k_is)
    (case gx_NoName => k_is)
    (case gx_Twice => k_is)
    (case gx_NoPlan => k_is)
    (case gx_NoLabel => k_is)
    (case gx_Taken => k_is)
    (case gx_Ring => k_is)
    (case gx_NotPlain => k_is)
    (case gx_Tangled => k_is)
    (case gx_Breaks => k_is)
    (case gx_InUse => k_is)
    (case gx_Uneven => k_is)
    (case a0 => k_is)
    (case l0 => k_is)
    (case c0 => k_is)
    (case k0 => k_is)
    (case a1 => k_is)
    (case l1 => k_is)
    (case c1 => k_is)
    (case k1 => k_is)
    (case a2 => k_is)
    (case l2 => k_is)
    (case c2 => k_is)
    (case k2 => k_is)
    (case a3 => k_is)
    (case l3 => k_is)
    (case c3 => k_is)
    (case k3 => k_is)
    (case a4 => k_is)
    (case l4 => k_is)
    (case c4 => k_is)
    (case k4 => k_is)
    (case a5 => k_is)
    (case l5 => k_is)
    (case c5 => k_is)
    (case k5 => k_is)
    (case a6 => k_is)
    (case l6 => k_is)
    (case c6 => k_is)
    (case k6 => k_is)
    (case a7 => k_is)
    (case l7 => k_is)
    (case c7 => k_is)
    (case k7 => k_is)
    (case a8 => k_is)
    (case l8 => k_is)
    (case c8 => k_is)
    (case k8 => k_is)
    (case a9 => k_is)
    (case l9 => k_is)
    (case c9 => k_is)
    (case k9 => k_is)
    (case a10 => k_is)
    (case l10 => k_is)
    (case c10 => k_is)
    (case k10 => k_is)
    (case a11 => k_is)
    (case l11 => k_is)
    (case c11 => k_is)
    (case k11 => k_is)
    (case a12 => k_is)
    (case l12 => k_is)
    (case c12 => k_is)
    (case k12 => k_is)
    (case a13 => k_is)
    (case l13 => k_is)
    (case c13 => k_is)
    (case k13 => k_is)
    (case a14 => k_is)
    (case l14 => k_is)
    (case c14 => k_is)
    (case k14 => k_is)
    (case a15 => k_is)
    (case l15 => k_is)
    (case c15 => k_is)
    (case k15 => k_is)
    (case a16 => k_is)
    (case l16 => k_is)
    (case c16 => k_is)
    (case k16 => k_is)
    (case a17 => k_is)
    (case l17 => k_is)
    (case c17 => k_is)
    (case k17 => k_is)
    (case a18 => k_is)
    (case l18 => k_is)
    (case c18 => k_is)
    (case k18 => k_is)
    (case a19 => k_is)
    (case l19 => k_is)
    (case c19 => k_is)
    (case k19 => k_is)
    (case q19 => k_is)
    (case a20 => k_is)
    (case l20 => k_is)
    (case c20 => k_is)
    (case k20 => k_is)
    (case a21 => k_is)
    (case l21 => k_is)
    (case c21 => k_is)
    (case k21 => k_is)
    (case q21 => k_is)
    (case a22 => k_is)
    (case l22 => k_is)
    (case c22 => k_is)
    (case k22 => k_is)
    (case a23 => k_is)
    (case l23 => k_is)
    (case c23 => k_is)
    (case k23 => k_is)
    (case q23 => k_is)
    (case a24 => k_is)
    (case l24 => k_is)
    (case c24 => k_is)
    (case k24 => k_is)
    (case a25 => k_is)
    (case l25 => k_is)
    (case c25 => k_is)
    (case k25 => k_is)
    (case a26 => k_is)
    (case l26 => k_is)
    (case c26 => k_is)
    (case k26 => k_is)
    (case a27 => k_is)
    (case l27 => k_is)
    (case c27 => k_is)
    (case k27 => k_is)
    (case xl_NoName => k_is)
    (case rv_NoName => rfl)
    (case sa_NoName => k_is)
    (case sb_NoName => k_is)
    (case tc_NoName => k_is)
    (case kc_NoName => k_is)
    (case ti_NoName => k_is)
    (case cl_NoName => k_is)
    (case ga_NoName => k_is)
    (case gg_NoName => k_is)
    (case hd_NoName => k_is)
    (case ca_NoName => k_is)
    (case mr_NoName => k_is)
    (case nf_NoName_word => k_is)
    (case nf_NoName_name => k_is)
    (case em_NoName_BadText => kts_exm)
    (case em_NoName_BadPage => kts_exm)
    (case em_NoName_Stopped => kts_exm)
    (case em_NoName_Refused => kts_exm)
    (case et_NoName => kts_exm)
    (case ki_NoName_Misread => kit_is)
    (case ki_NoName_Unfit => kit_is)
    (case kv_NoName => kit_is)
    (case xl_Twice => k_is)
    (case rv_Twice => rfl)
    (case sa_Twice => k_is)
    (case sb_Twice => k_is)
    (case tc_Twice => k_is)
    (case kc_Twice => k_is)
    (case ti_Twice => k_is)
    (case cl_Twice => k_is)
    (case ga_Twice => k_is)
    (case gg_Twice => k_is)
    (case hd_Twice => k_is)
    (case ca_Twice => k_is)
    (case mr_Twice => k_is)
    (case nf_Twice_word => k_is)
    (case nf_Twice_name => k_is)
    (case em_Twice_BadText => kts_exm)
    (case em_Twice_BadPage => kts_exm)
    (case em_Twice_Stopped => kts_exm)
    (case em_Twice_Refused => kts_exm)
    (case et_Twice => kts_exm)
    (case ki_Twice_Misread => kit_is)
    (case ki_Twice_Unfit => kit_is)
    (case kv_Twice => kit_is)
    (case xl_Misplaced => k_is)
    (case rv_Misplaced => rfl)
    (case sa_Misplaced => k_is)
    (case sb_Misplaced => k_is)
    (case tc_Misplaced => k_is)
    (case kc_Misplaced => k_is)
    (case ti_Misplaced => k_is)
    (case cl_Misplaced => k_is)
    (case ga_Misplaced => k_is)
    (case gg_Misplaced => k_is)
    (case hd_Misplaced => k_is)
    (case ca_Misplaced => k_is)
    (case mr_Misplaced => k_is)
    (case nf_Misplaced_word => k_is)
    (case em_Misplaced_BadText => kts_exm)
    (case em_Misplaced_BadPage => kts_exm)
    (case em_Misplaced_Stopped => kts_exm)
    (case em_Misplaced_Refused => kts_exm)
    (case et_Misplaced => kts_exm)
    (case ki_Misplaced_Misread => kit_is)
    (case ki_Misplaced_Unfit => kit_is)
    (case kv_Misplaced => kit_is)
    (case gt_cls => k_is)
    (case tk_cls => k_is)
    (case sg_Unfit => k_is)
    (case rd_Unfit => k_is)
    (case fc_Unfit => k_is)
    (case z_ValueError => k_is)
    (case z_abs => k_is)
    (case z_all => k_is)
    (case z_bool => k_is)
    (case z_int => k_is)
    (case z_isinstance => k_is)
    (case z_len => k_is)
    (case z_list => k_is)
    (case z_range => k_is)
    (case z_sorted => k_is)
    (case z_str => k_is)
    (case z_tuple => k_is)
    (case z_zip => k_is)
    (case m_SIZE => k_is)
    (case hPt => exact PySem.W.km_tabs_of Y _ List.mem_cons_self)
    (case ec => rfl)
    (case hcL => kernel_rfl)
    (case nPt => kernel_rfl)
#print axioms PySem.Challenge.cw_outgrow_k06_plans_that_do_not_fit_holds
