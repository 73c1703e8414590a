import PyProof.Rows.All
import Wide.All
import OpenK.AllK
import Wide.FinOn
import HandS.ForMost
import HandS.Wide
import HandS.WideMore
import HandS.IsInst
import HandS.Style
import HandS.Codes
import HandS.Walk
import HandS.Zip
import HandS.SortRule
import HandS.Conv
import HandS.FStr
import HandS.More
import HandS.TupAny
import PySem.Challenge.RW_outgrow_k07_names_that_plans_call
set_option linter.unusedVariables false
set_option Elab.async false
set_option maxRecDepth 100000
set_option maxHeartbeats 4000000
namespace My
open PySem L2
/-! ### heaps: a frozen part G, a working part H; M: what may change of what stood -/
def NoM : Addr → Prop := fun _ => False
def Only1 (d : Addr) : Addr → Prop := fun b => b = d
def But (M : Addr → Prop) (H H' : Hp) : Prop := ∀ b o, H b = some o → ¬ M b → H' b = some o
/-- something that stands there and is no tuple -/
structure Cell (o : Option HO) : Prop where
  some : o ≠ none
  tup : ∀ xs, o ≠ Option.some (.tup xs)
structure Grow (M : Addr → Prop) (G H G' H' : Hp) : Prop where
  g : Same G G'
  gh : Same G' H'
  h : But M H H'
  old : ∀ b, Cell (H b) → G' b = G b
theorem cell_lst {H : Hp} {a : Addr} {xs : List V} (h : H a = some (.lst xs)) : Cell (H a) := ⟨fun e => (by rw [h] at e; cases e), fun ys e => (by rw [h] at e; cases e)⟩
theorem cell_dK {H : Hp} {a : Addr} {xs : List (L2.Key × V)} (h : H a = some (.dK xs)) : Cell (H a) := ⟨fun e => (by rw [h] at e; cases e), fun ys e => (by rw [h] at e; cases e)⟩
theorem cell_dT {H : Hp} {a : Addr} {xs : List (List L2.Key × V)} (h : H a = some (.dT xs)) : Cell (H a) := ⟨fun e => (by rw [h] at e; cases e), fun ys e => (by rw [h] at e; cases e)⟩
theorem cell_ins {H : Hp} {a C dx : Addr} {fs : List (Str × V)} (h : H a = some (.ins C dx fs)) : Cell (H a) := ⟨fun e => (by rw [h] at e; cases e), fun ys e => (by rw [h] at e; cases e)⟩
theorem But.refl (M : Addr → Prop) (H : Hp) : But M H H := fun _ _ e _ => e
theorem But.trans {M : Addr → Prop} {H H1 H2 : Hp} (a : But M H H1) (b : But M H1 H2) : But M H H2 := fun c o e n => b c o (a c o e n) n
theorem But.mono {M M' : Addr → Prop} {H H1 : Hp} (h : ∀ b, M b → M' b) (a : But M H H1) : But M' H H1 := fun c o e n => a c o e fun z => n (h c z)
theorem But.same {H H1 : Hp} (a : But NoM H H1) : Same H H1 := fun c o e => a c o e fun z => z
theorem same_but {M : Addr → Prop} {H H1 : Hp} (a : Same H H1) : But M H H1 := fun c o e _ => a c o e
theorem same_upd {H : Hp} {p : Addr} {o : HO} (h : H p = none) : Same H (upd H p o) := fun b x e => by
  rw [upd_ne (ne_of_none e h)]
  exact e
theorem But.new {M : Addr → Prop} {H : Hp} {p : Addr} {o : HO} (h : H p = none) : But M H (upd H p o) := same_but (same_upd h)
theorem But.put {M : Addr → Prop} {H H1 : Hp} {p : Addr} {o : HO} (a : But M H H1) (h : M p) : But M H (upd H1 p o) := fun b x e n => by
  rw [upd_ne (fun z => n (by rw [z]; exact h))]
  exact a b x e n
theorem But.put0 {M : Addr → Prop} {H H1 : Hp} {p : Addr} {o : HO} (a : But M H H1) (h : H p = none) : But M H (upd H1 p o) := fun b x e n => by
  rw [upd_ne (ne_of_none e h)]
  exact a b x e n
theorem But.cell {M : Addr → Prop} {H H1 : Hp} (a : But M H H1) (hm : ∀ b, M b → Cell (H1 b)) {b : Addr} (h : Cell (H b)) : Cell (H1 b) := by
  by_cases n : M b
  · exact hm b n
  · cases e : H b with
    | none => exact absurd e h.some
    | some o =>
      rw [a b o e n]
      rw [e] at h
      exact h
theorem But.none {M : Addr → Prop} {H H1 : Hp} (a : But M H H1) (hm : ∀ b, M b → Cell (H1 b)) {b : Addr} (h : H1 b = none) : H b = none := by
  cases e : H b with
  | none => rfl
  | some o =>
    by_cases n : M b
    · exact absurd h (hm b n).some
    · rw [a b o e n] at h
      cases h
theorem Grow.refl {M : Addr → Prop} {G H : Hp} (h : Same G H) : Grow M G H G H := ⟨Same.refl _, h, But.refl _ _, fun _ _ => rfl⟩
theorem Grow.trans {M : Addr → Prop} {G H G1 H1 G2 H2 : Hp} (a : Grow M G H G1 H1) (b : Grow M G1 H1 G2 H2) (hm : ∀ c, M c → Cell (H1 c)) : Grow M G H G2 H2 :=
  ⟨a.g.trans b.g, b.gh, a.h.trans b.h, fun c hc => (b.old c (a.h.cell hm hc)).trans (a.old c hc)⟩
theorem Grow.mono {M M' : Addr → Prop} {G H G1 H1 : Hp} (h : ∀ b, M b → M' b) (a : Grow M G H G1 H1) : Grow M' G H G1 H1 := ⟨a.g, a.gh, a.h.mono h, a.old⟩
/-- a new cell -/
theorem Grow.cell {M : Addr → Prop} {G H G1 H1 : Hp} {p : Addr} {o : HO} (a : Grow M G H G1 H1) (h : H1 p = none) : Grow M G H G1 (upd H1 p o) :=
  ⟨a.g, a.gh.trans (same_upd h), a.h.trans (But.new h), a.old⟩
/-- a cell of one's own, or one of M, is written -/
theorem Grow.put {M : Addr → Prop} {G H G1 H1 : Hp} {p : Addr} {o : HO} (a : Grow M G H G1 H1) (hg : G1 p = none) (h : H p = none ∨ M p) : Grow M G H G1 (upd H1 p o) :=
  ⟨a.g, fun b x e => by rw [upd_ne (ne_of_none e hg)]; exact a.gh b x e, by rcases h with h | h; exact a.h.put0 h; exact a.h.put h, a.old⟩
/-- a cell of one's own is frozen -/
theorem Grow.pub {M : Addr → Prop} {G H G1 H1 : Hp} {p : Addr} {o : HO} (a : Grow M G H G1 H1) (h1 : H1 p = some o) (hg : G1 p = none) (h : H p = none) : Grow M G H (upd G1 p o) H1 :=
  ⟨a.g.trans (same_upd hg), fun b x e => by
    by_cases q : b = p
    · subst q
      rw [upd_same] at e
      rw [← e]
      exact h1
    · rw [upd_ne q] at e
      exact a.gh b x e, a.h, fun b hb => by
    have q : b ≠ p := fun z => hb.some (by rw [z]; exact h)
    rw [upd_ne q]
    exact a.old b hb⟩
/-- a tuple is frozen at any time -/
theorem Grow.pubT {M : Addr → Prop} {G H G1 H1 : Hp} {p : Addr} {xs : List V} (a : Grow M G H G1 H1) (h1 : H1 p = some (.tup xs)) (hm : ∀ c, M c → Cell (H1 c)) : Grow M G H (upd G1 p (.tup xs)) H1 :=
  ⟨a.g.trans (fun b x e => by
    by_cases q : b = p
    · subst q
      rw [a.gh b x e] at h1
      rw [upd_same, h1]
    · rw [upd_ne q]
      exact e), fun b x e => by
    by_cases q : b = p
    · subst q
      rw [upd_same] at e
      rw [← e]
      exact h1
    · rw [upd_ne q] at e
      exact a.gh b x e, a.h, fun b hb => by
    have q : b ≠ p := fun z => (a.h.cell hm hb).tup xs (by rw [z]; exact h1)
    rw [upd_ne q]
    exact a.old b hb⟩
theorem pub_same {G H : Hp} {p : Addr} {o : HO} (g : Same G H) (h : H p = some o) : Same G (upd G p o) := fun b x e => by
  by_cases q : b = p
  · subst q
    rw [g b x e] at h
    rw [upd_same, h]
  · rw [upd_ne q]
    exact e
/-- a new thing, frozen at once -/
theorem Grow.new {M : Addr → Prop} {G H G1 H1 : Hp} {p : Addr} {o : HO} (a : Grow M G H G1 H1) (h : H1 p = none) (hm : ∀ c, M c → Cell (H1 c)) : Grow M G H (upd G1 p o) (upd H1 p o) :=
  (a.cell h).pub upd_same (a.gh.free h) (a.h.none hm h)
theorem Grow.none {M : Addr → Prop} {G H G1 H1 : Hp} {p : Addr} (a : Grow M G H G1 H1) (hg : G p = .none) (h : Cell (H p)) : G1 p = .none := by
  rw [a.old p h]
  exact hg
/-- a cell of one's own at the heap behind -/
theorem Grow.at_ {M : Addr → Prop} {G H G1 H1 : Hp} {p : Addr} {o : HO} (a : Grow M G H G1 H1) (h : H p = some o) (n : ¬ M p) : H1 p = some o := a.h p o h n
theorem noM {P : Addr → Prop} : ∀ c, NoM c → P c := fun _ h => h.elim
theorem noMC {H : Hp} : ∀ c, NoM c → Cell (H c) := fun _ h => h.elim
theorem only1 {d : Addr} : Only1 d d := rfl

end My
namespace L2
open PySem
/-! ### data -/
theorem same_rd {H H' : Hp} {a : Addr} {u : HO} (e : Same H H') (h : Rd H a u) : Rd H' a u := by
  rcases h with h | ⟨o, h⟩
  · exact Or.inl (e a _ h)
  · exact Or.inr ⟨o, e a _ h⟩
theorem same_l {K : PySem.W.Frag} {H H' : Hp} {a : Addr} {xs : List V} (e : Same H H') (h : SqL K H a xs) : SqL K H' a xs := by
  rcases h with h | h
  · exact Or.inl (same_rd e h)
  · exact Or.inr h
theorem same_t {K : PySem.W.Frag} {H H' : Hp} {a : Addr} {xs : List V} (e : Same H H') (h : SqT K H a xs) : SqT K H' a xs := by
  rcases h with h | h
  · exact Or.inl (same_rd e h)
  · exact Or.inr h
mutual
theorem Dp.mono {K : PySem.W.Frag} {H H' : Hp} (e : Same H H') : ∀ {d : PyData} {v : V}, Dp K H v d → Dp K H' v d
  | _, _, .non => .non
  | _, _, .bl b => .bl b
  | _, _, .int i => .int i
  | _, _, .str x => .str x
  | _, _, .lst h a => .lst (same_l e h) (DpAll.mono e a)
  | _, _, .tup h a => .tup (same_t e h) (DpAll.mono e a)
theorem DpAll.mono {K : PySem.W.Frag} {H H' : Hp} (e : Same H H') : ∀ {ds : List PyData} {vs : List V}, DpAll K H vs ds → DpAll K H' vs ds
  | _, _, .nil => .nil
  | _, _, .cons a b => .cons (Dp.mono e a) (DpAll.mono e b)
end
theorem DpAll.length {K : PySem.W.Frag} {H : Hp} : ∀ {ds : List PyData} {vs : List V}, DpAll K H vs ds → vs.length = ds.length
  | _, _, .nil => rfl
  | _, _, .cons _ b => by
    rw [List.length_cons, List.length_cons, DpAll.length b]
theorem DpAll.snoc {K : PySem.W.Frag} {H : Hp} {d : PyData} {v : V} : ∀ {ds : List PyData} {vs : List V}, DpAll K H vs ds → Dp K H v d → DpAll K H (vs ++ [v]) (ds ++ [d])
  | _, _, .nil, h => .cons h .nil
  | _, _, .cons a b, h => .cons a (DpAll.snoc b h)
theorem DpAll.get {K : PySem.W.Frag} {H : Hp} : ∀ {ds : List PyData} {vs : List V} {i : Nat} {v : V}, DpAll K H vs ds → vs[i]? = some v → ∃ d, ds[i]? = some d ∧ Dp K H v d
  | _, _, _, _, .nil, h => by simp at h
  | _, _, 0, _, .cons a _, h => by
    simp at h
    subst h
    exact ⟨_, rfl, a⟩
  | _, _, i + 1, _, .cons _ b, h => by
    obtain ⟨d, e, q⟩ := DpAll.get (i := i) b (by simpa using h)
    exact ⟨d, by simpa using e, q⟩
theorem DpAll.get' {K : PySem.W.Frag} {H : Hp} : ∀ {ds : List PyData} {vs : List V} {i : Nat} {d : PyData}, DpAll K H vs ds → ds[i]? = some d → ∃ v, vs[i]? = some v ∧ Dp K H v d
  | _, _, _, _, .nil, h => by simp at h
  | _, _, 0, _, .cons a _, h => by
    simp at h
    subst h
    exact ⟨_, rfl, a⟩
  | _, _, i + 1, _, .cons _ b, h => by
    obtain ⟨d, e, q⟩ := DpAll.get' (i := i) b (by simpa using h)
    exact ⟨d, by simpa using e, q⟩

end L2
namespace My
open PySem L2
/-! ### the draw -/
structure DrawAt (H : Hp) (d l : Addr) : Prop where
  ex : ∃ (ns : List Int) (p g s : Int), H d = some (.lst [.ref l, .int p, .int g, .int s]) ∧ H l = some (.lst (ns.map V.int)) ∧ 0 ≤ p ∧ 0 ≤ g ∧ 0 ≤ s ∧ s < 2147483647 ∧ ns.length ≤ 63
theorem DrawAt.some {H : Hp} {d l : Addr} (h : DrawAt H d l) : H d ≠ none := by
  obtain ⟨ns, p, g, s, e, _⟩ := h.ex
  rw [e]
  simp
theorem DrawAt.cell {H : Hp} {d l : Addr} (h : DrawAt H d l) : Cell (H d) := by
  obtain ⟨ns, p, g, s, e, _⟩ := h.ex
  exact cell_lst e
theorem DrawAt.some' {H : Hp} {d l : Addr} (h : DrawAt H d l) : ∀ c, Only1 d c → Cell (H c) := fun c e => by
  rw [show c = d from e]
  exact h.cell
theorem DrawAt.ned {H : Hp} {d l p : Addr} (h : DrawAt H d l) (e : H p = none) : p ≠ d := fun q => h.some (by rw [← q]; exact e)
theorem DrawAt.nel {H : Hp} {d l p : Addr} (h : DrawAt H d l) (e : H p = none) : p ≠ l := fun q => by
  obtain ⟨ns, p, g, s, _, e2, _⟩ := h.ex
  rw [← q, e] at e2
  cases e2
theorem DrawAt.mono {H H' : Hp} {d l : Addr} (h : DrawAt H d l) (e : Same H H') : DrawAt H' d l := by
  obtain ⟨ns, p, g, s, e1, e2, r⟩ := h.ex
  exact ⟨⟨ns, p, g, s, e _ _ e1, e _ _ e2, r⟩⟩
theorem DrawAt.upd {H : Hp} {d l p : Addr} {o : HO} (h : DrawAt H d l) (e : H p = none) : DrawAt (upd H p o) d l := h.mono (same_upd e)
theorem DrawAt.put {H : Hp} {d l p : Addr} {o : HO} (h : DrawAt H d l) (hd : p ≠ d) (hl : p ≠ l) : DrawAt (L2.upd H p o) d l := by
  obtain ⟨ns, p', g, s, e1, e2, r⟩ := h.ex
  exact ⟨⟨ns, p', g, s, by rw [upd_ne hd.symm]; exact e1, by rw [upd_ne hl.symm]; exact e2, r⟩⟩
theorem log_small {n : Int} {k : Nat} (h0 : 0 < n) (h : n < 2 ^ k) (hk : k ≤ 9000) (k0 : 0 < k) : CDivW 0 n := by
  refine wide_div (i := 0) h0 (b := k) ?_ k0 hk
  have : ((n.natAbs : Nat) : Int) < ((2 ^ k : Nat) : Int) := by
    rw [Int.natAbs_of_nonneg (by omega)]
    simpa using h
  exact_mod_cast this
end My
namespace My
open PySem L2
/-! ### types and depth of data -/
def tyN : PyData → String
  | .none => "NoneType"
  | .bool _ => "bool"
  | .int _ => "int"
  | .str _ => "str"
  | .list _ => "list"
  | .tuple _ => "tuple"
  | .dict _ => "dict"
abbrev tyD (d : PyData) : Value := .type (tyN d)
theorem sql_ty {K : PySem.W.Frag} {H : Hp} {a : Addr} {xs : List V} (h : SqL K H a xs) : TyX K H (.ref a) (.type "list") := by
  rcases h with (h | ⟨o, h⟩) | ⟨o, its, n, h, c, _⟩
  · exact .base (.lst h)
  · exact .base (.frz h)
  · exact .kList h c
theorem sqt_ty {K : PySem.W.Frag} {H : Hp} {a : Addr} {xs : List V} (h : SqT K H a xs) : TyX K H (.ref a) (.type "tuple") := by
  rcases h with (h | ⟨o, h⟩) | ⟨o, its, n, h, c, _⟩
  · exact .base (.tup h)
  · exact .fTuple h
  · exact .kTuple h c
theorem dp_ty {K : PySem.W.Frag} {H : Hp} {v : V} {d : PyData} (h : Dp K H v d) : TyX K H v (tyD d) := by
  cases h with
  | non => exact .base .non
  | bl b => exact .base (.bl b)
  | int i => exact .base (.int i)
  | str x => exact .base (.str x)
  | lst h _ => exact sql_ty h
  | tup h _ => exact sqt_ty h
mutual
def dep : PyData → Nat
  | .list ds => depAll ds + 1
  | .tuple ds => depAll ds + 1
  | _ => 0
def depAll : List PyData → Nat
  | [] => 0
  | d :: ds => max (dep d) (depAll ds)
end
theorem dep_get : ∀ {ds : List PyData} {i : Nat} {d : PyData}, ds[i]? = some d → dep d ≤ depAll ds
  | [], _, _, h => by simp at h
  | x :: r, 0, d, h => by
    have e : x = d := by simpa using h
    rw [e, depAll]
    omega
  | x :: r, i + 1, d, h => by
    have q := dep_get (ds := r) (i := i) (d := d) (by simpa using h)
    rw [depAll]
    omega
mutual
def wid : PyData → Nat
  | .list ds => max ds.length (widAll ds)
  | .tuple ds => max ds.length (widAll ds)
  | _ => 0
def widAll : List PyData → Nat
  | [] => 0
  | d :: ds => max (wid d) (widAll ds)
end
theorem wid_get : ∀ {ds : List PyData} {i : Nat} {d : PyData}, ds[i]? = some d → wid d ≤ widAll ds
  | [], _, _, h => by simp at h
  | x :: r, 0, d, h => by
    have e : x = d := by simpa using h
    rw [e, widAll]
    omega
  | x :: r, i + 1, d, h => by
    have q := wid_get (ds := r) (i := i) (d := d) (by simpa using h)
    rw [widAll]
    omega
theorem kit2 {K : PySem.W.Frag} {t : Value} {a b : String} {r s : Bool} (h1 : PySem.W.kitOne K t (.type a) = some r) (h2 : PySem.W.kitOne K t (.type b) = some s) : PySem.W.kitAny K t [.type a, .type b] = some (r || s) := by
  refine kitAny_cons h1 (fun e => ?_) (fun e => by rw [e]; rfl)
  rw [e]
  refine kitAny_cons h2 (fun e => ?_) (fun e => by rw [e]; rfl)
  rw [e]
  exact kitAny_nil
/-- is a list, is a tuple, .. -/
def isTn (s t : String) : Bool := t == s || (t == "bool" && s == "int")
abbrev isTy (s : String) (d : PyData) : Bool := isTn s (tyN d)
theorem kit_n {K : PySem.W.Frag} (a b : String) (h : kitB a b = some (isTn b a)) : PySem.W.kitOne K (.type a) (.type b) = some (isTn b a) := kit_ty h
theorem kit_d {K : PySem.W.Frag} (d : PyData) : PySem.W.kitOne K (tyD d) (.type "list") = some (isTy "list" d) ∧ PySem.W.kitOne K (tyD d) (.type "tuple") = some (isTy "tuple" d) ∧
    PySem.W.kitOne K (tyD d) (.type "bool") = some (isTy "bool" d) ∧ PySem.W.kitOne K (tyD d) (.type "int") = some (isTy "int" d) ∧ PySem.W.kitOne K (tyD d) (.type "str") = some (isTy "str" d) := by
  cases d with
  | none => exact ⟨kit_n "NoneType" "list" (by decide +kernel), kit_n "NoneType" "tuple" (by decide +kernel), kit_n "NoneType" "bool" (by decide +kernel), kit_n "NoneType" "int" (by decide +kernel), kit_n "NoneType" "str" (by decide +kernel)⟩
  | bool _ => exact ⟨kit_n "bool" "list" (by decide +kernel), kit_n "bool" "tuple" (by decide +kernel), kit_n "bool" "bool" (by decide +kernel), kit_n "bool" "int" (by decide +kernel), kit_n "bool" "str" (by decide +kernel)⟩
  | int _ => exact ⟨kit_n "int" "list" (by decide +kernel), kit_n "int" "tuple" (by decide +kernel), kit_n "int" "bool" (by decide +kernel), kit_n "int" "int" (by decide +kernel), kit_n "int" "str" (by decide +kernel)⟩
  | str _ => exact ⟨kit_n "str" "list" (by decide +kernel), kit_n "str" "tuple" (by decide +kernel), kit_n "str" "bool" (by decide +kernel), kit_n "str" "int" (by decide +kernel), kit_n "str" "str" (by decide +kernel)⟩
  | list _ => exact ⟨kit_n "list" "list" (by decide +kernel), kit_n "list" "tuple" (by decide +kernel), kit_n "list" "bool" (by decide +kernel), kit_n "list" "int" (by decide +kernel), kit_n "list" "str" (by decide +kernel)⟩
  | tuple _ => exact ⟨kit_n "tuple" "list" (by decide +kernel), kit_n "tuple" "tuple" (by decide +kernel), kit_n "tuple" "bool" (by decide +kernel), kit_n "tuple" "int" (by decide +kernel), kit_n "tuple" "str" (by decide +kernel)⟩
  | dict _ => exact ⟨kit_n "dict" "list" (by decide +kernel), kit_n "dict" "tuple" (by decide +kernel), kit_n "dict" "bool" (by decide +kernel), kit_n "dict" "int" (by decide +kernel), kit_n "dict" "str" (by decide +kernel)⟩
abbrev clsLT : List V := [.ty "list", .ty "tuple"]
theorem pairLT : Paired ClsV clsLT [.type "list", .type "tuple"] := .cons (.ty _) (.cons (.ty _) .nil)
theorem walk_zipT {K : PySem.W.Frag} {a b : Addr} {xs ys : List V} {n : Nat} (hn : n = min xs.length ys.length) : Walk (RZ.ItzT K a b) n (fun H => SqT K H a xs ∧ SqT K H b ys) (YPair (fun i => xs[i]?) (fun i => ys[i]?)) := by
  subst hn
  refine ⟨fun i _ hi q => ?_, fun _ q => ⟨xs, ys, q.1, q.2, by omega⟩, fun i H v H' _ q y => ?_⟩
  · have h1 : i < xs.length := by omega
    have h2 : i < ys.length := by omega
    exact ⟨xs, ys, xs[i], ys[i], q.1, q.2, by simp [h1], by simp [h2]⟩
  · obtain ⟨T, x, z, h1, h2, h3, h4, h5⟩ := y
    exact ⟨T, x, z, h1, h2, h3, h4 xs q.1, h5 ys q.2⟩
theorem but_l {K : PySem.W.Frag} {M : Addr → Prop} {H H' : Hp} {a : Addr} {xs : List V} (e : But M H H') (n : ¬ M a) (h : SqL K H a xs) : SqL K H' a xs := by
  rcases h with (h | ⟨o, h⟩) | h
  · exact Or.inl (Or.inl (e a _ h n))
  · exact Or.inl (Or.inr ⟨o, e a _ h n⟩)
  · exact Or.inr h
theorem but_t {K : PySem.W.Frag} {M : Addr → Prop} {H H' : Hp} {a : Addr} {xs : List V} (e : But M H H') (n : ¬ M a) (h : SqT K H a xs) : SqT K H' a xs := by
  rcases h with (h | ⟨o, h⟩) | h
  · exact Or.inl (Or.inl (e a _ h n))
  · exact Or.inl (Or.inr ⟨o, e a _ h n⟩)
  · exact Or.inr h
end My
namespace My
open PySem L2
/-- [f sign for sign in text] -/
theorem lc_sign {te tz : TE} {σ : L2.St} {H : Hp} {Q : VK} {j : Nat} (z : Str) (f : Nat → Bool) (hz : z.length ≤ 100000) (hv : ∀ Q' : VK, Q' (.str z) H → tz σ H Q')
    (hw : ∀ x : V, wipe ((wipe σ [j]).set j (some x)) [j] = wipe σ [j]) (hs : ∀ (c : Nat) (H' : Hp) (Q' : VK), Q' (.bl (f c)) H' → te ((wipe σ [j]).set j (some (.str ⟨#[c]⟩))) H' Q')
    (k : ∀ (D : Addr) (H' : Hp), Same H H' → H D = none → H' D = some (.lst ((z.cps.toList.map f).map V.bl)) → Q (.ref D) H') : tLc (iStr tz) (gName j) tYes te [j] σ H Q := by
  refine hv _ ⟨z, rfl, fun D hD => ?_⟩
  refine lc_it walk_str (fun i H' => Same H H' ∧ H' D = some (.lst (((z.cps.toList.take i).map f).map V.bl))) ⟨same_upd hD, upd_same⟩ (fun _ _ _ _ => trivial) ?_ ?_
  · rintro i x H1 H2 hi ⟨sm, eD⟩ ⟨rfl, c, hc, rfl⟩
    refine ⟨hw _, ?_⟩
    refine hs c H2 _ ⟨_, eD, ?_, ?_, ?_⟩
    · rw [List.length_map, List.length_map, List.length_take]
      have : i < 100000 := Nat.lt_of_lt_of_le hi hz
      exact Nat.lt_of_le_of_lt (Nat.min_le_left _ _) (Nat.lt_of_lt_of_le this (by decide))
    · intro b o e
      rw [upd_ne (ne_of_none e hD)]
      exact sm b o e
    · rw [upd_same, List.take_add_one]
      have e : z.cps.toList[i]? = some c := by
        rw [Array.getElem?_toList]
        exact hc
      rw [e]
      simp
  · rintro H' ⟨sm, eD⟩
    refine k D H' sm hD ?_
    rw [eD, List.take_of_length_le (by rw [Array.length_toList]; exact Nat.le_refl _)]
theorem list_all_map {α : Type} (f : α → Bool) (l : List α) : (l.map f).all id = l.all f := by
  rw [List.all_map]
  rfl
end My
namespace My
open PySem L2
section
variable {X : Cx}
theorem iop_mulW : OpR X (inplaceOp .Mult) (rI CMulW fun i j => .int (i * j)) := opI fun _ _ _ _ _ _ _ hc q => PyProof.Rows.imul_int q hc.ok
theorem ip_mulW : PIp X .Mult (rI CMulW fun i j => .int (i * j)) := fun pins s σ H x y v u Q I rx ry h => iop_mulW pins s σ H x y v u Q I rx ry h
theorem ip_fdivW : PIp X .FloorDiv (rI CDivW fun i j => .int (i / j)) := fun pins s σ H x y v u Q I rx ry h => iop_fdivW pins s σ H x y v u Q I rx ry h
end
theorem pow_lt {b : Int} {m : Nat} (h : b.natAbs < 2 ^ m) : ∀ i : Nat, (b ^ i).natAbs < 2 ^ (m * i + 1)
  | 0 => by
    rw [Int.pow_zero, Nat.mul_zero]
    decide
  | i + 1 => by
    have q := pow_lt h i
    rw [Int.pow_succ]
    have e : m * (i + 1) + 1 = (m * i + 1) + m := by rw [Nat.mul_succ]; omega
    rw [e]
    exact wide_lt q h
/-- base, power: the power, by a product for each turn -/
def spRaised : Sp := fun vs H Q _ => ∃ (b : Int) (p m : Nat), vs = [.int b, .int p] ∧ b.natAbs < 2 ^ m ∧ 0 < m ∧ m * (p + 1) ≤ 900000 ∧ Q (.int (b ^ p)) H
theorem raised_ok {b : Int} {m p i : Nat} (h : b.natAbs < 2 ^ m) (h0 : 0 < m) (h1 : m * (p + 1) ≤ 900000) (hi : i < p) : CMulW (b ^ i) b := by
  have e1 : m * i + m ≤ m * (p + 1) := by
    rw [← Nat.mul_succ]
    exact Nat.mul_le_mul_left _ (by omega)
  exact wide_mul (pow_lt h i) h (by omega) h0 (by omega)
theorem raised_small {m p : Nat} (h0 : 0 < m) (h1 : m * (p + 1) ≤ 900000) : p < 900000 := by
  have : 1 * (p + 1) ≤ m * (p + 1) := Nat.mul_le_mul_right _ h0
  omega
end My
namespace My
open PySem L2
/-- a comprehension whose turns leave all that stood as it was: the values f i -/
theorem lc_pure {J : It} {n : Nat} {G : Hp → Prop} {Y : Nat → Hp → V → Hp → Prop} (w : Walk J n G Y) {g : TG} {te : TE} {vs : List Nat} {σ : L2.St} {H : Hp} {D : Addr} {Qd : Hp → Prop} (f : Nat → V) (hn : n ≤ 100000) (hD : H D = none) (hG : ∀ H', Same H H' → G H')
    (hs : ∀ (i : Nat) (x : V) (H1 H2 : Hp) (Q' : VK), i < n → Same H H1 → Y i H1 x H2 → (∀ H4, Same H1 H4 → Q' (f i) H4) → g x (wipe σ vs) H2 fun σ2 H3 => wipe σ2 vs = wipe σ vs ∧ te σ2 H3 Q')
    (k : ∀ H', Same H H' → H' D = some (.lst ((List.range n).map f)) → Qd H') :
    ∃ W : Nat → Nat → Hp → Prop, (∃ m, W 0 m (upd H D (.lst []))) ∧ ∀ i m H, W i m H →
      (J.stop i H ∧ Qd H) ∨ (J.go i H ∧ ∃ Nx : Hp → Prop, (∀ H', Nx H' → ∃ m', m' < m ∧ W (i + 1) m' H') ∧ ∀ x H', J.yld i H x H' → g x (wipe σ vs) H' fun σ2 H2 => wipe σ2 vs = wipe σ vs ∧ tYes σ2 H2 fun b H3 =>
        if b = true then te σ2 H3 fun y H4 => ∃ acc, H4 D = some (.lst acc) ∧ acc.length < sizeLine ∧ Nx (upd H4 D (.lst (acc ++ [y]))) else Nx H3) := by
  refine lc_it w (fun i H' => Same H H' ∧ H' D = some (.lst ((List.range i).map f))) ⟨same_upd hD, upd_same⟩ (fun i H' _ p => hG H' p.1) ?_ (fun H' p => k H' p.1 p.2)
  rintro i x H1 H2 hi ⟨sm, eD⟩ y
  refine hs i x H1 H2 _ hi sm y fun H4 s4 => ?_
  refine ⟨_, s4 _ _ eD, ?_, ?_, ?_⟩
  · rw [List.length_map, List.length_range]
    exact Nat.lt_of_lt_of_le hi (Nat.le_trans hn (by decide))
  · intro b o e
    rw [upd_ne (ne_of_none e hD)]
    exact s4 _ _ (sm b o e)
  · rw [upd_same, List.range_succ, List.map_append]
    rfl
/-- the draw's list and what was frozen -/
theorem Grow.draw {G H H' : Hp} {d : Addr} (sg : Same G H) (gd : G d = .none) (b : But (Only1 d) H H') : Grow (Only1 d) G H G H' :=
  ⟨Same.refl _, fun c o e => b c o (sg c o e) (fun q => by
    rw [show c = d from q, gd] at e
    cases e), b, fun _ _ => rfl⟩
end My
namespace My
open PySem L2
abbrev keptL : List Str := ["step", "for", "from", "to", "if", "else", "double", "call", "with", "again", "on", "halves", "thirds", "less", "n"]
end My
namespace My
open PySem L2
/-! ### texts -/
def num (i : Int) : Str := Str.ofString (toString i)
theorem str_assoc (a b c : Str) : a ++ b ++ c = a ++ (b ++ c) := congrArg Str.mk (Array.append_assoc (xs := a.cps) (ys := b.cps) (zs := c.cps))
theorem str_nil (a : Str) : Str.empty ++ a = a := congrArg Str.mk (Array.empty_append (xs := a.cps))
theorem str_nil_r (a : Str) : a ++ Str.empty = a := congrArg Str.mk (Array.append_empty (xs := a.cps))
theorem str_len (a b : Str) : (a ++ b).length = a.length + b.length := Array.size_append
theorem join_one (s x : Str) : Txt.join s [x] = x := by rw [TL.join_eq]; rfl
theorem join_nil (s : Str) : Txt.join s [] = Str.empty := by rw [TL.join_eq]; rfl
theorem join_cons {s x : Str} {l : List Str} (h : l ≠ []) : Txt.join s (x :: l) = x ++ s ++ Txt.join s l := by
  cases l with
  | nil => exact absurd rfl h
  | cons y r => rw [TL.join_eq, TL.join_eq]; rfl
theorem join_snoc {s x : Str} : ∀ {l : List Str}, l ≠ [] → Txt.join s (l ++ [x]) = Txt.join s l ++ s ++ x
  | [], h => absurd rfl h
  | [y], _ => by rw [List.singleton_append, join_cons (by simp), join_one, join_one]
  | y :: z :: r, _ => by
    have ih := join_snoc (s := s) (x := x) (l := z :: r) (by simp)
    rw [List.cons_append, join_cons (by simp), ih, join_cons (l := z :: r) (by simp)]
    simp only [str_assoc]
theorem join_len (s : Str) : ∀ l : List Str, (Txt.join s l).length ≤ (l.map (·.length)).sum + l.length * s.length
  | [] => by rw [join_nil]; exact Nat.zero_le _
  | [x] => by rw [join_one]; simp
  | x :: y :: r => by
    have ih := join_len s (y :: r)
    rw [join_cons (by simp), str_len, str_len]
    simp only [List.map_cons, List.sum_cons, List.length_cons, Nat.add_mul, Nat.one_mul] at ih ⊢
    omega
theorem sum_le {B : Nat} : ∀ {l : List Str}, (∀ x ∈ l, x.length ≤ B) → (l.map (·.length)).sum ≤ l.length * B
  | [], _ => by simp
  | x :: r, h => by
    have ih := sum_le (l := r) fun y hy => h y (List.mem_cons_of_mem _ hy)
    have h1 := h x (List.mem_cons_self ..)
    simp only [List.map_cons, List.sum_cons, List.length_cons, Nat.add_mul, Nat.one_mul]
    omega
theorem num_len {i : Int} {k : Nat} (hk : 0 < k) (h : i.natAbs.log2 < k) : (num i).length ≤ k + 1 := by
  have e := int_text_length_le hk h
  have e2 : (num i).length = (toString i).length := by
    unfold num
    rw [Str.ofString_eq_toList]
    show ((toString i).toList.map Char.toNat).toArray.size = _
    rw [List.size_toArray, List.length_map]
    rfl
  omega
theorem log_lt {i : Int} {k : Nat} (h0 : i.natAbs < 2 ^ k) (hk : 0 < k) : i.natAbs.log2 < k := by
  by_cases h : i.natAbs = 0
  · rw [h]; exact hk
  · exact (Nat.log2_lt h).mpr h0
end My
namespace L2
open PySem
theorem Dp.tup2 {K : PySem.W.Frag} {H : Hp} {v : V} {d e : PyData} (h : Dp K H v (.tuple [d, e])) : ∃ a x y, v = .ref a ∧ SqT K H a [x, y] ∧ Dp K H x d ∧ Dp K H y e := by
  cases h with
  | tup hs hr =>
    cases hr with
    | cons h1 hr =>
      cases hr with
      | cons h2 hr =>
        cases hr
        exact ⟨_, _, _, rfl, hs, h1, h2⟩
theorem Dp.lst' {K : PySem.W.Frag} {H : Hp} {v : V} {ds : List PyData} (h : Dp K H v (.list ds)) : ∃ a xs, v = .ref a ∧ SqL K H a xs ∧ DpAll K H xs ds := by
  cases h with
  | lst hs hr => exact ⟨_, _, rfl, hs, hr⟩
theorem Dp.int' {K : PySem.W.Frag} {H : Hp} {v : V} {i : Int} (h : Dp K H v (.int i)) : v = .int i := by
  cases h
  rfl
theorem Dp.str' {K : PySem.W.Frag} {H : Hp} {v : V} {x : Str} (h : Dp K H v (.str x)) : v = .str x := by
  cases h
  rfl
end L2
namespace My
open PySem L2
theorem canLay_map {α : Type} {f : α → PyData} : ∀ {l : List α}, (∀ x ∈ l, (f x).canLay0 = true) → PyData.canLayAll0 (l.map f) = true
  | [], _ => rfl
  | x :: r, h => by
    have h1 := h x (List.mem_cons_self ..)
    have h2 := canLay_map (f := f) (l := r) fun y hy => h y (List.mem_cons_of_mem _ hy)
    simp only [List.map_cons, PyData.canLayAll0, h1, h2, Bool.and_self]
theorem depth_map {α : Type} {f : α → PyData} {n : Nat} : ∀ {l : List α}, (∀ x ∈ l, (f x).depth ≤ n) → PyData.depthAll (l.map f) ≤ n
  | [], _ => Nat.zero_le _
  | x :: r, h => by
    have h1 := h x (List.mem_cons_self ..)
    have h2 := depth_map (f := f) (l := r) fun y hy => h y (List.mem_cons_of_mem _ hy)
    simp only [List.map_cons, PyData.depthAll]
    omega
theorem shaped_list {α : Type} {f : α → PyData} {l : List α} (h : ∀ x ∈ l, (f x).canLay0 = true ∧ (f x).depth ≤ 63) : SeqAt.shaped (.list (l.map f)) = true := by
  unfold SeqAt.shaped
  rw [Bool.and_eq_true, decide_eq_true_eq]
  refine ⟨?_, ?_⟩
  · unfold PyData.canLay0
    exact canLay_map fun x hx => (h x hx).1
  · unfold PyData.depth
    have := depth_map (f := f) (n := 63) (l := l) fun x hx => (h x hx).2
    omega
theorem shaped_nil : SeqAt.shaped (.list []) = true := shaped_list (α := Int) (f := PyData.int) (l := []) (by simp)
theorem eqv_nil {α : Type} (f : α → PyData) (l : List α) : PyData.eqv (.list (l.map f)) (.list []) = l.isEmpty := by
  cases l with
  | nil => rfl
  | cons x r => rfl
theorem strOk_of (s : String) : PyData.strOk (Str.ofString s) = true := by
  unfold PyData.strOk
  rw [Str.ofString_eq_toList]
  show ((s.toList.map Char.toNat).toArray).all (fun x => decide (x < 1114112)) = true
  rw [List.all_toArray]
  rw [List.all_eq_true]
  intro c hc
  obtain ⟨ch, _, rfl⟩ := List.mem_map.mp hc
  have h := ch.valid
  have : ch.toNat < 1114112 := by
    rcases h with h | h
    · exact Nat.lt_trans h (by decide)
    · exact h.2
  exact decide_eq_true this
theorem strOk_app {a b : Str} (h1 : PyData.strOk a = true) (h2 : PyData.strOk b = true) : PyData.strOk (a ++ b) = true := by
  unfold PyData.strOk at *
  show (a.cps ++ b.cps).all _ = true
  rw [Array.all_append, h1, h2]
  rfl
theorem same_put {H H1 : Hp} {p : Addr} {o : HO} (a : Same H H1) (h : H p = none) : Same H (upd H1 p o) := fun b x e => by
  rw [upd_ne (ne_of_none e h)]
  exact a b x e
theorem DpAll.at_ {K : PySem.W.Frag} {H : Hp} {α : Type} {f : α → PyData} {us : List V} {l : List α} {i : Nat} {x : V} (h : DpAll K H us (l.map f)) (hx : us[i]? = some x) : ∃ r, l[i]? = some r ∧ Dp K H x (f r) := by
  obtain ⟨d, e, q⟩ := DpAll.get h hx
  rw [List.getElem?_map] at e
  cases hr : l[i]? with
  | none => rw [hr] at e; cases e
  | some r =>
    rw [hr] at e
    exact ⟨r, rfl, by rw [Option.some.inj e]; exact q⟩
theorem take_snoc {α : Type} {l : List α} {i : Nat} {r : α} (h : l[i]? = some r) : l.take (i + 1) = l.take i ++ [r] := by
  rw [List.take_add_one, h]
  rfl
theorem range_getD {α : Type} (l : List α) (d : α) : (List.range l.length).map (fun i => l.getD i d) = l := by
  apply List.ext_getElem?
  intro i
  rw [List.getElem?_map]
  by_cases h : i < l.length
  · rw [List.getElem?_range h, List.getElem?_eq_getElem h]
    show some (l.getD i d) = some l[i]
    rw [List.getD_eq_getElem?_getD, List.getElem?_eq_getElem h]
    rfl
  · rw [List.getElem?_eq_none (by simpa using h), List.getElem?_eq_none (by omega)]
    rfl
theorem getD_of' {α : Type} {l : List α} {d r : α} {i : Nat} (h : l[i]? = some r) : l.getD i d = r := by
  rw [List.getD_eq_getElem?_getD, h]
  rfl
end My
namespace L2
open PySem
theorem Dp.tup' {K : PySem.W.Frag} {H : Hp} {v : V} {ds : List PyData} (h : Dp K H v (.tuple ds)) : ∃ a xs, v = .ref a ∧ SqT K H a xs ∧ DpAll K H xs ds := by
  cases h with
  | tup hs hr => exact ⟨_, _, rfl, hs, hr⟩
theorem DpAll.c {K : PySem.W.Frag} {H : Hp} {vs : List V} {d : PyData} {ds : List PyData} (h : DpAll K H vs (d :: ds)) : ∃ x r, vs = x :: r ∧ Dp K H x d ∧ DpAll K H r ds := by
  cases h with
  | cons a b => exact ⟨_, _, rfl, a, b⟩
theorem DpAll.n {K : PySem.W.Frag} {H : Hp} {vs : List V} (h : DpAll K H vs []) : vs = [] := by
  cases h
  rfl
end L2
namespace My
open PySem L2
theorem inV_strs (x : Str) (l : List Str) : inV (.str x) (l.map V.str) = decide (x ∈ l) := by
  induction l with
  | nil => rfl
  | cons y r ih =>
    rw [List.map_cons]
    show (eqV (.str y) (.str x) || inV (.str x) (r.map V.str)) = _
    rw [ih]
    have e : eqV (.str y) (.str x) = decide (y = x) := by
      unfold eqV
      by_cases h : y = x
      · simp [h]
      · simp [h]
    rw [e]
    by_cases h : x = y
    · subst h
      simp
    · have h2 : ¬ y = x := fun q => h q.symm
      simp [h, h2]
theorem flat_strs (l : List Str) : (l.map V.str).all flatV = true := by
  rw [List.all_map, List.all_eq_true]
  intro x _
  rfl
end My
namespace My
open PySem PySem.Spec PyProof.Rows L2
section
variable {prog : Program} {w : World} {A : Around} {E : Value → Shared → Prop} {s : Shared}
theorem walks_tupleFrom {A : Around} (hh : A.handled = none) (I ax : Addr) (hne : ax ≠ I) (items : Array Value) (k : Nat) (hk : k ≤ items.size) :
    Walks prog w A I [I, ax] [I] (items.size - k) (fun i v => items[k + i]? = some v) (fun i h => h.IsTupleIter I ax (k + i) ∧ h.IsTuple ax items) where
  sub := fun b hb => by simp at hb; simp [hb]
  frame := fun _ _ _ st hk => ⟨st.1.at fun o e => hk I (by simp) o e, st.2.at fun o e => hk ax (by simp) o e⟩
  item := fun i s Q E hi st hQ => by
    have hi' : k + i < items.size := by omega
    refine wpAny_pyNext_tuple_item st.1 st.2 (x := items[k + i]) (by simp [hi']) fun h' hit' hs' => ?_
    exact hQ _ h' s.toks (by simp [hi']) ⟨hit', st.2.extBut hs'.extBut hne⟩ fun b o hb e => hs'.extBut b o (fun h => hb (by simp [h])) e
  done := fun s Q E st hQ => wpAny_pyNext_tuple_end hh st.1 st.2 (by simp; omega) fun h' he' => hQ h' s.toks fun b o hb e => he' b o (fun h => hb (by simp [h])) e
  self := fun _ _ _ _ st hQ => wpAny_pyIter_tupleiter st.1 hQ
theorem itemsOf_eq {items acc : Array Value} {x : Value} {r : List Value} (e : items = (x :: r).toArray) (h : ItemsOf (fun i v => items[1 + i]? = some v) acc (items.size - 1)) : acc.toList = r := by
  subst e
  obtain ⟨h1, h2⟩ := h
  have hs : acc.size = r.length := by rw [h1]; simp
  apply List.ext_getElem?
  intro i
  by_cases hi : i < r.length
  · have e1 : acc[i]? = some acc[i] := Array.getElem?_eq_getElem (by omega)
    have e2 := h2 i _ e1
    rw [Array.getElem?_toList, e1]
    have e2 : (x :: r).toArray[1 + i]? = some acc[i] := e2
    rw [Nat.add_comm] at e2
    simpa using e2.symm
  · rw [Array.getElem?_toList, Array.getElem?_eq_none (by omega), List.getElem?_eq_none (by omega)]
theorem unpackItems_star1 {t : Addr} {x : Value} {r : List Value} {Q : List Value → Shared → Prop} (hh : A.handled = none) (ht : s.heap.IsTuple t (x :: r).toArray) (hz : r.length ≤ sizeLine)
    (hQ : ∀ (h' : Heap) (tk : Nat), (∀ b o, s.heap.get? b = some o → h'.get? b = some o) → Q [x, .ref h'.objs.size] { s with heap := h'.push { cls := .type "list", data := .seq r.toArray }, toks := tk }) :
    wpAny (model prog w) A (unpackItems (.ref t) 2 (some 1)) Q E s := by
  have hlt : t ≠ s.heap.objs.size := by obtain ⟨o, ho, _⟩ := ht; exact Nat.ne_of_lt (Heap.lt_size ho)
  unfold unpackItems
  refine wpAny_bind ?_
  · unfold notIterableAtAll
    refine wpAny_bind (wpAny_specialOf ht.typeIs F.slot_tuple_iter.lookup ?_)
    refine wpAny_pure ?_
    simp only [Bool.false_eq_true, if_false]
    refine wpAny_bind (wpAny_holding (wpAny_pyIter_tuple ht ?_))
    refine wpAny_bind (wpAny_holding (wpAny_draw_tuple hlt 1 0 _ _ ⟨_, Heap.get?_push_size _ rfl, rfl, rfl⟩ (ht.push _) (by simp) fun h₁ hit₁ hs₁ => ?_))
    rw [if_neg (by simp)]
    have ht₁ : h₁.IsTuple t (x :: r).toArray := (ht.push _).extBut hs₁.extBut hlt
    have W := (walks_tupleFrom (prog := prog) (w := w) (A := A.in1) hh s.heap.objs.size t hlt (x :: r).toArray 1 (by simp)).toS
    refine wpAny_bind (wpAny_holding (wpAny_collect_iter (T := "tuple_iterator") (.inr (.inr (.inr rfl))) W (fun i s st => st.1.typeIs) ⟨by simpa using hit₁, ht₁⟩ ?_ (by simp) (fun s' acc hm hi => ?_) (by simpa using hz)))
    · intro b hb
      have h1 := hit₁
      obtain ⟨o, ho, _⟩ := hit₁
      obtain ⟨o2, ho2, _⟩ := ht₁
      simp only [List.mem_cons, List.not_mem_nil, or_false] at hb
      rcases hb with rfl | rfl
      · exact Heap.lt_size ho
      · exact Heap.lt_size ho2
    · have ea := itemsOf_eq rfl hi
      rw [ea]
      rw [Moved.eq_with hm]
      rw [if_neg (by simp)]
      have e1 : List.take (r.length - (2 - 1 - 1)) r = r := List.take_of_length_le (by omega)
      have e2 : List.drop (r.length - (2 - 1 - 1)) r = [] := List.drop_of_length_le (by omega)
      rw [e1, e2]
      refine wpAny_bind (wpAny_newObj_type ?_)
      refine wpAny_pure ?_
      have kk : ∀ b o, s.heap.get? b = some o → s'.heap.get? b = some o := fun b o e => by
        have nb : b ≠ s.heap.objs.size := Nat.ne_of_lt (Heap.lt_size e)
        exact hm.heap b o (by simpa using nb) (hs₁.extBut b o nb (Heap.get?_push_of_some _ e))
      exact hQ _ _ kk
theorem assign_star1 {env : Env} {elts : List Expr} {x1} {pos : Pos} {t : Addr} {x : Value} {r : List Value} {Q : Unit → Shared → Prop} (hh : A.handled = none) (ht : s.heap.IsTuple t (x :: r).toArray) (hz : r.length ≤ sizeLine)
    (hn : (assignEach elts env).length = 2) (hstar : (assignEach elts env).findIdx? (·.1) = some 1)
    (h : ∀ (h' : Heap) (tk : Nat), (∀ b o, s.heap.get? b = some o → h'.get? b = some o) →
      wpAny (model prog w) A (assignInOrder ((assignEach elts env).map (·.2)) [x, .ref h'.objs.size]) Q E { s with heap := h'.push { cls := .type "list", data := .seq r.toArray }, toks := tk }) :
    wpAny (model prog w) A (assign (.Tuple elts x1 pos) env (.ref t)) Q E s := by
  rw [assign_Tuple]
  refine wpAny_bind (wpAny_standAt ?_)
  unfold unpack
  rw [hn, hstar]
  exact wpAny_bind (wpAny_holding (unpackItems_star1 hh ht hz h))
end
section
variable {X : Cx} {pos : Pos}
/-- x, *r = a tuple -/
def gStar (K : PySem.W.Frag) (g0 g1 : TG) : TG := fun v σ H Q => ∃ a x xs, v = .ref a ∧ SqT K H a (x :: xs) ∧ ∀ p, H p = none → g0 x σ (upd H p (.lst xs)) fun σ1 H1 => g1 (.ref p) σ1 H1 Q
theorem pg_star {e0 e1 : Expr} {p1 : Pos} {k : Nat} {g0 g1 : TG} (hc : X.calm = true) (h0 : PG X e0 g0) (h1 : PG X e1 g1)
    (hn : (assignEach [e0, .Starred e1 p1] X.env).length = 2 := by rfl) (hst : (assignEach [e0, .Starred e1 p1] X.env).findIdx? (·.1) = some 1 := by rfl)
    (hm : (assignEach [e0, .Starred e1 p1] X.env).map (·.2) = [assign e0 X.env, assign e1 X.env] := by rfl) : PG X (.Tuple [e0, .Starred e1 p1] k pos) (gStar X.K g0 g1) := by
  refine ⟨fun pins s σ H v u Q I r hw => ?_⟩
  obtain ⟨a, x, xs, e1', hq, hw⟩ := hw
  subst e1'
  cases r
  obtain ⟨its, rv, ht, hz⟩ := I.tuple hq
  cases rv with
  | @cons _ y _ ys rx rr =>
    have hl := rr.length
    refine assign_star1 (I.ok.hd hc) ht (by simp at hz; omega) hn hst fun h' tk kk => ?_
    have I1 : Inv X pins σ H { s with heap := h', toks := tk } := I.kept kk
    have I2 := I1.lnew (t' := tk) rr (by simp at hz; omega)
    rw [hm]
    refine assignInOrder_cons (thn (h0.run pins _ σ _ x _ _ I2 rx (hw h'.objs.size I1.fresh)) fun _ s1 ⟨σ1, H1, I3, q1⟩ => ?_)
    refine assignInOrder_cons (thn (h1.run pins s1 σ1 H1 (.ref h'.objs.size) _ _ I3 rfl q1) fun _ s2 ⟨σ2, H2, I4, q2⟩ => ?_)
    exact assignInOrder_nil ⟨σ2, H2, I4, q2⟩
/-- a text, many times -/
def repS (x : Str) (k : Nat) : Str := ⟨(List.replicate k x.cps).foldl (· ++ ·) #[]⟩
theorem op_repS : OpR X (binaryOp .Mult) (fun x y H Q => ∃ (i : Str) (k : Int), x = .str i ∧ y = .int k ∧ 2 ≤ k ∧ k < 2 ^ 20 ∧ 0 < i.length ∧ i.length * k.toNat ≤ 2 ^ 20 ∧ (repS i k.toNat).length ≤ sizeLine ∧ Q (.str (repS i k.toNat)) H) := by
  intro pins s σ H x y v u Q I rx ry h
  obtain ⟨i, k, rfl, rfl, h1, h2, h3, h4, h5, q⟩ := h
  obtain ⟨t, rfl⟩ := rx
  obtain ⟨t', rfl⟩ := ry
  have n1 : ¬ k < 1 := by omega
  have n2 : (k == 1 || i.length == 0) = false := by
    rw [Bool.or_eq_false_iff]
    exact ⟨beq_false_of_ne (by omega), beq_false_of_ne (by omega)⟩
  refine PySem.P.mul_str ?_ (fun _ _ => ?_) (fun _ _ => ?_) ?_
  · rw [decide_eq_false (by omega), decide_eq_false (by omega)]
    rfl
  · have e : (i.length : Int) ≤ 2 ^ 20 := by
      have := Nat.le_mul_of_pos_right i.length (show 0 < k.toNat by omega)
      omega
    have : (2 ^ 63 - 1 : Int) / 2 ^ 20 ≤ (2 ^ 63 - 1) / k := by
      rw [Int.le_ediv_iff_mul_le (by omega)]
      have e3 : (2 ^ 63 - 1 : Int) / 2 ^ 20 * k ≤ (2 ^ 63 - 1) / 2 ^ 20 * 2 ^ 20 := Int.mul_le_mul_of_nonneg_left (by omega) (by decide)
      exact Int.le_trans e3 (by decide)
    have e2 : (2 ^ 20 : Int) ≤ (2 ^ 63 - 1) / 2 ^ 20 := by decide
    omega
  · unfold Builtin.Str.tooLong
    rw [decide_eq_false]
    exact Nat.not_lt.mpr (Nat.le_trans h4 (by decide))
  · rw [if_neg n1, if_neg (by rw [n2]; decide)]
    exact ⟨h5, ⟨.str (repS i k.toNat), H, I.tok _, ⟨_, rfl⟩, q⟩⟩
end
end My
namespace My
open PySem L2
/-! ### plans as data -/
abbrev En := Str × Int
inductive Thing where
  | step (n : Int)
  | call (nm : Str) (e : En)
  | double (b : List Thing)
  | loop (nm : Str) (e1 e2 : En) (b : List Thing)
  | test (e1 e2 : En) (b1 b2 : List Thing)
  | again (n : Int) (w : Str)
def endD (e : En) : PyData := .tuple [.str e.1, .int e.2]
mutual
def thingD : Thing → PyData
  | .step n => .tuple [.str "step", .int n]
  | .call nm e => .tuple [.str "call", .str nm, endD e]
  | .double b => .tuple [.str "double", .tuple (thingsD b)]
  | .loop nm e1 e2 b => .tuple [.str "for", .str nm, endD e1, endD e2, .tuple (thingsD b)]
  | .test e1 e2 b1 b2 => .tuple [.str "if", endD e1, endD e2, .tuple (thingsD b1), .tuple (thingsD b2)]
  | .again n w => .tuple [.str "again", .int n, .str w]
def thingsD : List Thing → List PyData
  | [] => []
  | t :: r => thingD t :: thingsD r
end
def planD (b : List Thing) : PyData := .tuple (thingsD b)
theorem thingsD_eq : ∀ b : List Thing, thingsD b = b.map thingD
  | [] => by simp [thingsD]
  | t :: r => by simp [thingsD, thingsD_eq r]
mutual
/-- how many things -/
def thingC : Thing → Nat
  | .double b => thingsC b + 1
  | .loop _ _ _ b => thingsC b + 1
  | .test _ _ b1 b2 => thingsC b1 + thingsC b2 + 1
  | _ => 1
def thingsC : List Thing → Nat
  | [] => 0
  | t :: r => thingC t + thingsC r
end
structure Kit where
  kn : List (Str × (Bool × Int × Int))
  fig : Bool
  wide : Bool
def NameOk (nm : Str) : Prop := 1 ≤ nm.length ∧ nm.length ≤ 8 ∧ (∀ c ∈ nm.cps.toList, 97 ≤ c ∧ c ≤ 122) ∧ nm ∉ keptL
def EndOk (wide : Bool) (sc : List Str) (e : En) : Prop := e.2.natAbs < (if wide then 100 else 5) ∧ ((e.1 = "" ∧ 0 ≤ e.2) ∨ e.1 ∈ sc)
mutual
def ThOk (k : Kit) : Thing → List Str → Nat → Prop
  | .step n => fun _ _ => 0 ≤ n ∧ n < 100
  | .call nm e => fun sc deep => ∃ en : Bool × Int × Int, (nm, en) ∈ k.kn ∧ en.2.1 + deep < 9 ∧ en.2.2 < 4 ∧ EndOk k.wide sc e ∧ (en.1 = true → e.1 = "" ∨ e = ((Str.ofString "n", 0) : En))
  | .double b => fun sc deep => deep ≤ 3 ∧ k.fig = true ∧ 1 ≤ b.length ∧ b.length ≤ 3 ∧ BdOk k b sc (deep + 1)
  | .loop nm e1 e2 b => fun sc deep => deep ≤ 3 ∧ NameOk nm ∧ nm ∉ sc ∧ EndOk k.wide sc e1 ∧ EndOk k.wide sc e2 ∧ 1 ≤ b.length ∧ b.length ≤ 3 ∧ BdOk k b (sc ++ [nm]) (deep + 1)
  | .test e1 e2 b1 b2 => fun sc deep => deep ≤ 3 ∧ EndOk k.wide sc e1 ∧ EndOk k.wide sc e2 ∧ 1 ≤ b1.length ∧ b1.length ≤ 3 ∧ b2.length ≤ 3 ∧ BdOk k b1 sc (deep + 1) ∧ BdOk k b2 sc (deep + 1)
  | .again _ _ => fun _ _ => False
def BdOk (k : Kit) : List Thing → List Str → Nat → Prop
  | [] => fun _ _ => True
  | t :: r => fun sc deep => ThOk k t sc deep ∧ BdOk k r sc deep
end
theorem BdOk.nil {k : Kit} {sc : List Str} {deep : Nat} : BdOk k [] sc deep := by simp [BdOk]
theorem BdOk.snoc {k : Kit} {sc : List Str} {deep : Nat} {t : Thing} (h : ThOk k t sc deep) : ∀ {b : List Thing}, BdOk k b sc deep → BdOk k (b ++ [t]) sc deep
  | [], _ => by
    rw [List.nil_append, BdOk]
    exact ⟨h, .nil⟩
  | x :: r, q => by
    rw [BdOk] at q
    rw [List.cons_append, BdOk]
    exact ⟨q.1, BdOk.snoc h q.2⟩
theorem BdOk.mem {k : Kit} {sc : List Str} {deep : Nat} {t : Thing} : ∀ {b : List Thing}, BdOk k b sc deep → t ∈ b → ThOk k t sc deep
  | [], _, h => nomatch h
  | x :: r, q, h => by
    rw [BdOk] at q
    rcases List.mem_cons.mp h with rfl | h
    · exact q.1
    · exact BdOk.mem q.2 h
theorem thingsC_snoc (t : Thing) : ∀ b : List Thing, thingsC (b ++ [t]) = thingsC b + thingC t
  | [] => by simp [thingsC]
  | x :: r => by
    rw [List.cons_append, thingsC, thingsC_snoc t r, thingsC]
    omega
theorem thingC_pos (t : Thing) : 1 ≤ thingC t := by
  cases t <;> simp [thingC]
theorem thingsC_len : ∀ b : List Thing, b.length ≤ thingsC b
  | [] => Nat.zero_le _
  | t :: r => by
    have := thingsC_len r
    have := thingC_pos t
    rw [thingsC, List.length_cons]
    omega
def letters : Str := "abcdefghijklmnopqrstuvwxyz"
theorem letters_ok : ∀ c ∈ letters.cps.toList, 97 ≤ c ∧ c ≤ 122 := by decide +kernel
theorem join_signs (cs : List Nat) : Txt.join "" (cs.map fun c => (⟨#[c]⟩ : Str)) = ⟨cs.toArray⟩ := by
  induction cs with
  | nil => rw [List.map_nil, join_nil]; rfl
  | cons c r ih =>
    cases r with
    | nil => rw [List.map_singleton, join_one]
    | cons x l =>
      rw [List.map_cons, join_cons (by simp), ih]
      show (⟨#[c]⟩ : Str) ++ Str.empty ++ ⟨(x :: l).toArray⟩ = _
      rw [str_nil_r]
      show (⟨#[c] ++ (x :: l).toArray⟩ : Str) = _
      simp
def spares : List Str := letters.cps.toList.map fun c => repS ⟨#[c]⟩ 2
theorem spares_ok : ∀ x ∈ spares, x.length = 2 ∧ (∀ c ∈ x.cps.toList, 97 ≤ c ∧ c ≤ 122) ∧ x ∉ keptL := by decide +kernel
theorem spares_nd : spares.Nodup := by decide +kernel
theorem spares_len : spares.length = 26 := by decide +kernel
theorem nodup_len {α : Type} [DecidableEq α] : ∀ {l m : List α}, l.Nodup → (∀ x ∈ l, x ∈ m) → l.length ≤ m.length
  | [], _, _, _ => Nat.zero_le _
  | x :: r, m, nd, h => by
    rw [List.nodup_cons] at nd
    have hx := h x (List.mem_cons_self ..)
    have ih := nodup_len (l := r) (m := m.erase x) nd.2 fun y hy => (List.mem_erase_of_ne (fun e => nd.1 (by rw [← e]; exact hy))).mpr (h y (List.mem_cons_of_mem _ hy))
    rw [List.length_erase_of_mem hx] at ih
    have := List.length_pos_of_mem hx
    rw [List.length_cons]
    omega
theorem spare_free {taken : List Str} (h : taken.length ≤ 25) : ∃ x, x ∈ spares ∧ x ∉ taken := by
  by_cases c : ∃ x, x ∈ spares ∧ x ∉ taken
  · exact c
  · exfalso
    have sub : ∀ x ∈ spares, x ∈ taken := fun x hx => by
      by_cases q : x ∈ taken
      · exact q
      · exact absurd ⟨x, hx, q⟩ c
    have := nodup_len spares_nd sub
    rw [spares_len] at this
    omega
end My
namespace My
open PySem L2
/-- the kit of a drawing: what is left, the plans that may be called, figures, wide -/
def KitAt (H : Hp) (kc dk : Addr) (r : Int) (k : Kit) : Prop := H kc = some (.lst [.int r, .ref dk, .bl k.fig, .bl k.wide])
structure KnAt (G : Hp) (dk : Addr) (kn : List (Str × (Bool × Int × Int))) : Prop where
  len : kn.length < 60
  ok : ∀ e ∈ kn, NameOk e.1
  ex : ∃ kvs : List (L2.Key × V), G dk = some (.dK kvs) ∧ kvs.map (·.1) = (kn.map (·.1)).map Sum.inr ∧
    ∀ nm, nm ∈ kn.map (·.1) → ∃ (en : Bool × Int × Int) (p : Addr), (nm, en) ∈ kn ∧ valV kvs (Sum.inr nm) = some (.ref p) ∧ G p = some (.tup [.bl en.1, .int en.2.1, .int en.2.2])
theorem KnAt.mono {G G' : Hp} {dk : Addr} {kn : List (Str × (Bool × Int × Int))} (h : KnAt G dk kn) (s : Same G G') : KnAt G' dk kn := by
  obtain ⟨kvs, e1, e2, e3⟩ := h.ex
  refine ⟨h.len, h.ok, kvs, s _ _ e1, e2, fun nm hn => ?_⟩
  obtain ⟨en, p, q1, q2, q3⟩ := e3 nm hn
  exact ⟨en, p, q1, q2, s _ _ q3⟩
theorem KitAt.ne {H : Hp} {kc dk d l : Addr} {r : Int} {k : Kit} (h : KitAt H kc dk r k) (D : DrawAt H d l) : kc ≠ d := by
  rintro rfl
  obtain ⟨ns, p, z, s, e, _⟩ := D.ex
  rw [h] at e
  cases e
theorem strOk_name {nm : Str} (h : NameOk nm) : PyData.strOk nm = true := by
  unfold PyData.strOk
  rw [← Array.all_toList, List.all_eq_true]
  intro c hc
  have := (h.2.2.1 c hc).2
  exact decide_eq_true (by omega)
end My
namespace My
open PySem L2
def Two (d c : Addr) : Addr → Prop := fun b => b = d ∨ b = c
theorem two_cell {H : Hp} {d l kc dk : Addr} {r : Int} {k : Kit} (D : DrawAt H d l) (kit : KitAt H kc dk r k) : ∀ c, Two d kc c → Cell (H c) := by
  rintro c (rfl | rfl)
  · exact D.cell
  · exact cell_lst kit
theorem KitAt.nel {H : Hp} {kc dk d l : Addr} {r : Int} {k : Kit} (h : KitAt H kc dk r k) (D : DrawAt H d l) : kc ≠ l := by
  rintro rfl
  obtain ⟨ns, p, z, s, _, e, _⟩ := D.ex
  rw [h] at e
  cases ns with
  | nil => cases e
  | cons a ns =>
    cases ns with
    | nil => cases e
    | cons b ns => cases e
theorem Grow.one {d c : Addr} {G H G' H' : Hp} (g : Grow (Only1 d) G H G' H') : Grow (Two d c) G H G' H' := g.mono fun _ e => .inl e
theorem KitAt.but {H H' : Hp} {kc dk d : Addr} {r : Int} {k : Kit} (h : KitAt H kc dk r k) (n : kc ≠ d) (b : But (Only1 d) H H') : KitAt H' kc dk r k := b _ _ h n
/-- thing and body promises -/
def spThing (K : PySem.W.Frag) (f : Nat) : Sp := fun vs H Q _ => ∃ (d l kc dk sa : Addr) (sc : List Str) (k : Kit) (r : Int) (deep : Nat) (G : Hp), vs = [.ref d, .ref kc, .ref sa, .int (deep : Nat)] ∧ Same G H ∧ G d = none ∧ G kc = none ∧ DrawAt H d l ∧ KitAt H kc dk r k ∧ KnAt G dk k.kn ∧
  G sa = some (.lst (sc.map V.str)) ∧ (Str.ofString "n") ∈ sc ∧ sc.length ≤ deep + 10 ∧ 1 ≤ r ∧ deep ≤ 4 ∧ 5 ≤ deep + f ∧
  ∀ (v : V) (t : Thing) (G' H' : Hp), Grow (Two d kc) G H G' H' → DrawAt H' d l → KitAt H' kc dk (r - thingC t) k → (thingC t : Int) ≤ r → Dp K G' v (thingD t) → ThOk k t sc deep → Q v H'
def spBody (K : PySem.W.Frag) (f : Nat) : Sp := fun vs H Q _ => ∃ (d l kc dk sa : Addr) (sc : List Str) (k : Kit) (r : Int) (deep : Nat) (G : Hp), vs = [.ref d, .ref kc, .ref sa, .int (deep : Nat)] ∧ Same G H ∧ G d = none ∧ G kc = none ∧ DrawAt H d l ∧ KitAt H kc dk r k ∧ KnAt G dk k.kn ∧
  G sa = some (.lst (sc.map V.str)) ∧ (Str.ofString "n") ∈ sc ∧ sc.length ≤ deep + 10 ∧ 1 ≤ r ∧ deep ≤ 4 ∧ 5 ≤ deep + f ∧
  ∀ (v : V) (b : List Thing) (G' H' : Hp), Grow (Two d kc) G H G' H' → DrawAt H' d l → KitAt H' kc dk (r - thingsC b) k → (thingsC b : Int) ≤ r → Dp K G' v (planD b) → BdOk k b sc deep → 1 ≤ b.length → b.length ≤ 3 → Q v H'
end My
namespace My
open PySem L2
/-! ### plans as texts -/
def endT (e : En) : Str := if e.1 = "" then num e.2 else if e.2 = 0 then e.1 else if 0 < e.2 then e.1 ++ " + " ++ num e.2 else e.1 ++ " - " ++ num (0 - e.2)
mutual
def thingT : Thing → Str
  | .step n => "step " ++ num n
  | .call nm e => "call " ++ nm ++ " with " ++ endT e
  | .double b => "double (" ++ planT b ++ ")"
  | .loop nm e1 e2 b => "for " ++ nm ++ " from " ++ endT e1 ++ " to " ++ endT e2 ++ " (" ++ planT b ++ ")"
  | .test e1 e2 b1 b2 => if b2.isEmpty then "if " ++ endT e1 ++ " <= " ++ endT e2 ++ " (" ++ planT b1 ++ ")" else "if " ++ endT e1 ++ " <= " ++ endT e2 ++ " (" ++ planT b1 ++ ")" ++ " else (" ++ planT b2 ++ ")"
  | .again n w => "again " ++ num n ++ " on " ++ w
def planT : List Thing → Str
  | [] => ""
  | [t] => thingT t
  | t :: u :: r => thingT t ++ "; " ++ planT (u :: r)
end
theorem planT_eq : ∀ b : List Thing, planT b = Txt.join "; " (b.map thingT)
  | [] => by
    rw [planT, List.map_nil, join_nil]
    rfl
  | [t] => by
    rw [planT, List.map_singleton, join_one]
  | t :: u :: r => by
    rw [planT, planT_eq (u :: r), List.map_cons (a := t), join_cons (l := (u :: r).map thingT) (by simp)]
/-- small names and numbers -/
def NmS (x : Str) : Prop := x.length ≤ 100 ∧ PyData.strOk x = true
def EnS (e : En) : Prop := NmS e.1 ∧ e.2.natAbs.log2 < 400
mutual
def ThS : Thing → Prop
  | .step n => n.natAbs.log2 < 400
  | .call nm e => NmS nm ∧ EnS e
  | .double b => BdS b
  | .loop nm e1 e2 b => NmS nm ∧ EnS e1 ∧ EnS e2 ∧ BdS b
  | .test e1 e2 b1 b2 => EnS e1 ∧ EnS e2 ∧ BdS b1 ∧ BdS b2
  | .again n w => n.natAbs.log2 < 400 ∧ NmS w
def BdS : List Thing → Prop
  | [] => True
  | t :: r => ThS t ∧ BdS r
end
theorem BdS.mem {t : Thing} : ∀ {b : List Thing}, BdS b → t ∈ b → ThS t
  | [], _, h => nomatch h
  | x :: r, q, h => by
    rw [BdS] at q
    rcases List.mem_cons.mp h with rfl | h
    · exact q.1
    · exact BdS.mem q.2 h
theorem BdS.of : ∀ {b : List Thing}, (∀ t ∈ b, ThS t) → BdS b
  | [], _ => by simp [BdS]
  | x :: r, q => by
    rw [BdS]
    exact ⟨q x (List.mem_cons_self ..), BdS.of fun t h => q t (List.mem_cons_of_mem _ h)⟩
theorem neg_log {i : Int} : (0 - i).natAbs = i.natAbs := by omega
theorem endT_len {e : En} (h : EnS e) : (endT e).length ≤ 504 := by
  have h1 := num_len (by decide) h.2
  have h2 := num_len (i := 0 - e.2) (k := 400) (by decide) (by rw [neg_log]; exact h.2)
  have h3 := h.1.1
  have e1 : (Str.ofString " + ").length = 3 := by decide
  have e2 : (Str.ofString " - ").length = 3 := by decide
  unfold endT
  split
  · omega
  · split
    · omega
    · split
      · rw [str_len, str_len, e1]; omega
      · rw [str_len, str_len, e2]; omega
theorem s_len1 : (Str.ofString "step ").length = 5 ∧ (Str.ofString "call ").length = 5 ∧ (Str.ofString " with ").length = 6 ∧ (Str.ofString "double (").length = 8 ∧ (Str.ofString ")").length = 1 ∧ (Str.ofString "for ").length = 4 ∧ (Str.ofString " from ").length = 6 ∧ (Str.ofString " to ").length = 4 ∧ (Str.ofString " (").length = 2 ∧
  (Str.ofString "if ").length = 3 ∧ (Str.ofString " <= ").length = 4 ∧ (Str.ofString " else (").length = 7 ∧ (Str.ofString "again ").length = 6 ∧ (Str.ofString " on ").length = 4 ∧ (Str.ofString "; ").length = 2 := by decide +kernel
mutual
theorem thingT_len : ∀ {t : Thing}, ThS t → (thingT t).length + 2 ≤ 3000 * thingC t
  | .step n, h => by
    rw [ThS] at h
    have := num_len (by decide) h
    have q := s_len1
    rw [thingT, thingC, str_len]
    · omega
    all_goals simp
  | .call nm e, h => by
    rw [ThS] at h
    have := endT_len h.2
    have h1 := h.1.1
    have q := s_len1
    rw [thingT, thingC, str_len, str_len, str_len]
    · omega
    all_goals simp
  | .double b, h => by
    rw [ThS] at h
    have := planT_len h
    have q := s_len1
    rw [thingT, thingC, str_len, str_len]
    omega
  | .loop nm e1 e2 b, h => by
    rw [ThS] at h
    have := planT_len h.2.2.2
    have h1 := h.1.1
    have h2 := endT_len h.2.1
    have h3 := endT_len h.2.2.1
    have q := s_len1
    rw [thingT, thingC]
    simp only [str_len]
    omega
  | .test e1 e2 b1 b2, h => by
    rw [ThS] at h
    have := planT_len h.2.2.1
    have := planT_len h.2.2.2
    have h2 := endT_len h.1
    have h3 := endT_len h.2.1
    have q := s_len1
    rw [thingT, thingC]
    split
    · simp only [str_len]
      omega
    · simp only [str_len]
      omega
  | .again n w, h => by
    rw [ThS] at h
    have := num_len (by decide) h.1
    have h1 := h.2.1
    have q := s_len1
    rw [thingT, thingC, str_len, str_len, str_len]
    · omega
    all_goals simp
theorem planT_len : ∀ {b : List Thing}, BdS b → (planT b).length ≤ 3000 * thingsC b
  | [], _ => by
    rw [planT]
    exact Nat.zero_le _
  | [t], h => by
    rw [BdS] at h
    have := thingT_len h.1
    rw [planT, thingsC]
    omega
  | t :: u :: r, h => by
    rw [BdS] at h
    have h1 := thingT_len h.1
    have h2 := planT_len h.2
    have q := s_len1
    rw [planT, thingsC, str_len, str_len]
    omega
end
theorem endD_lay {e : En} (h : EnS e) : (endD e).canLay0 = true ∧ (endD e).depth ≤ 1 := by
  have := h.1.2
  simp [endD, PyData.canLay0, PyData.canLayAll0, PyData.depth, PyData.depthAll, this]
theorem strOk_lit (s : String) : PyData.strOk (Str.ofString s) = true := strOk_of s
mutual
theorem thingD_lay : ∀ {t : Thing}, ThS t → (thingD t).canLay0 = true ∧ (thingD t).depth ≤ 2 * thingC t
  | .step n, h => by
    simp [thingD, thingC, PyData.canLay0, PyData.canLayAll0, PyData.depth, PyData.depthAll, strOk_lit]
  | .call nm e, h => by
    rw [ThS] at h
    have h1 := endD_lay h.2
    have h2 := h.1.2
    simp [thingD, thingC, PyData.canLay0, PyData.canLayAll0, PyData.depth, PyData.depthAll, strOk_lit, h1.1, h2]
    omega
  | .double b, h => by
    rw [ThS] at h
    have h1 := thingsD_lay h
    simp [thingD, thingC, PyData.canLay0, PyData.canLayAll0, PyData.depth, PyData.depthAll, strOk_lit, h1.1]
    omega
  | .loop nm e1 e2 b, h => by
    rw [ThS] at h
    have h1 := thingsD_lay h.2.2.2
    have h2 := h.1.2
    have h3 := endD_lay h.2.1
    have h4 := endD_lay h.2.2.1
    simp [thingD, thingC, PyData.canLay0, PyData.canLayAll0, PyData.depth, PyData.depthAll, strOk_lit, h1.1, h2, h3.1, h4.1]
    omega
  | .test e1 e2 b1 b2, h => by
    rw [ThS] at h
    have h1 := thingsD_lay h.2.2.1
    have h2 := thingsD_lay h.2.2.2
    have h3 := endD_lay h.1
    have h4 := endD_lay h.2.1
    simp [thingD, thingC, PyData.canLay0, PyData.canLayAll0, PyData.depth, PyData.depthAll, strOk_lit, h1.1, h2.1, h3.1, h4.1]
    omega
  | .again n w, h => by
    rw [ThS] at h
    have h2 := h.2.2
    simp [thingD, thingC, PyData.canLay0, PyData.canLayAll0, PyData.depth, PyData.depthAll, strOk_lit, h2]
theorem thingsD_lay : ∀ {b : List Thing}, BdS b → PyData.canLayAll0 (thingsD b) = true ∧ PyData.depthAll (thingsD b) ≤ 2 * thingsC b
  | [], _ => by simp [thingsD, PyData.canLayAll0, PyData.depthAll]
  | t :: r, h => by
    rw [BdS] at h
    have h1 := thingD_lay h.1
    have h2 := thingsD_lay h.2
    simp [thingsD, thingsC, PyData.canLayAll0, PyData.depthAll, h1.1, h2.1]
    omega
end
theorem shaped_plan {b : List Thing} (h : BdS b) (c : thingsC b ≤ 31) : SeqAt.shaped (planD b) = true := by
  have h1 := thingsD_lay h
  unfold SeqAt.shaped planD
  rw [Bool.and_eq_true, decide_eq_true_eq]
  unfold PyData.canLay0 PyData.depth
  exact ⟨h1.1, by omega⟩
theorem eqv_plan (b : List Thing) : PyData.eqv (planD b) (.tuple []) = b.isEmpty := by
  cases b with
  | nil => simp [planD, thingsD, PyData.eqv, PyData.eqvAll]
  | cons t r => simp [planD, thingsD, PyData.eqv, PyData.eqvAll]
end My
namespace My
open PySem L2
theorem str_e0 : Str.empty.length = 0 := rfl
theorem dec_ff {x y : Str} (h : x ≠ y) : decide (V.str x = V.str y) = false := decide_eq_false fun e => h (V.str.inj e)
theorem dec_tt (x : Str) : decide (V.str x = V.str x) = true := decide_eq_true rfl
theorem num_len' {i : Int} (h : i.natAbs.log2 < 400) : (Str.ofString (toString i)).length ≤ 401 := num_len (k := 400) (by decide) h
end My
namespace My
open PySem L2
theorem thingC_mem {t : Thing} : ∀ {b : List Thing}, t ∈ b → thingC t ≤ thingsC b
  | [], h => nomatch h
  | x :: r, h => by
    rw [thingsC]
    rcases List.mem_cons.mp h with rfl | h
    · omega
    · have := thingC_mem h
      omega
theorem planSum : ∀ {b : List Thing}, BdS b → ((b.map thingT).map (·.length)).sum + b.length * 2 ≤ 3000 * thingsC b
  | [], _ => by simp
  | t :: r, h => by
    rw [BdS] at h
    have h1 := thingT_len h.1
    have h2 := planSum h.2
    rw [thingsC, List.map_cons, List.map_cons, List.sum_cons, List.length_cons]
    omega
end My
namespace My
open PySem L2
theorem nmS_of {nm : Str} (h : NameOk nm) : NmS nm := ⟨by have := h.2.1; omega, strOk_name h⟩
theorem nmS_n : NmS "n" := ⟨by decide, strOk_of _⟩
theorem enS_of {wide : Bool} {sc : List Str} {e : En} (hs : ∀ x ∈ sc, NmS x) (h : EndOk wide sc e) : EnS e := by
  obtain ⟨h1, h2⟩ := h
  have h3 : e.2.natAbs < 100 := by
    cases wide
    · have : e.2.natAbs < 5 := h1
      omega
    · exact h1
  refine ⟨?_, log_lt (k := 400) (Nat.lt_trans h3 (by decide)) (by decide)⟩
  rcases h2 with ⟨h2, _⟩ | h2
  · rw [h2]
    exact ⟨by decide, strOk_of _⟩
  · exact hs _ h2
mutual
theorem thS_of {k : Kit} (hk : ∀ e ∈ k.kn, NameOk e.1) : ∀ {t : Thing} {sc : List Str} {deep : Nat}, (∀ x ∈ sc, NmS x) → ThOk k t sc deep → ThS t
  | .step n, sc, deep, hs, h => by
    rw [ThOk] at h
    rw [ThS]
    exact log_lt (k := 400) (Nat.lt_trans (m := 100) (by omega) (by decide)) (by decide)
  | .call nm e, sc, deep, hs, h => by
    rw [ThOk] at h
    obtain ⟨en, h1, _, _, h2, _⟩ := h
    rw [ThS]
    exact ⟨nmS_of (hk _ h1), enS_of hs h2⟩
  | .double b, sc, deep, hs, h => by
    rw [ThOk] at h
    rw [ThS]
    exact bdS_of hk hs h.2.2.2.2
  | .loop nm e1 e2 b, sc, deep, hs, h => by
    rw [ThOk] at h
    obtain ⟨_, h1, _, h2, h3, _, _, h4⟩ := h
    rw [ThS]
    refine ⟨nmS_of h1, enS_of hs h2, enS_of hs h3, bdS_of hk (fun x hx => ?_) h4⟩
    rcases List.mem_append.mp hx with hx | hx
    · exact hs x hx
    · rw [List.mem_singleton.mp hx]
      exact nmS_of h1
  | .test e1 e2 b1 b2, sc, deep, hs, h => by
    rw [ThOk] at h
    obtain ⟨_, h2, h3, _, _, _, h4, h5⟩ := h
    rw [ThS]
    exact ⟨enS_of hs h2, enS_of hs h3, bdS_of hk hs h4, bdS_of hk hs h5⟩
  | .again _ _, _, _, _, h => by
    rw [ThOk] at h
    exact h.elim
theorem bdS_of {k : Kit} (hk : ∀ e ∈ k.kn, NameOk e.1) : ∀ {b : List Thing} {sc : List Str} {deep : Nat}, (∀ x ∈ sc, NmS x) → BdOk k b sc deep → BdS b
  | [], _, _, _, _ => by simp [BdS]
  | t :: r, sc, deep, hs, h => by
    rw [BdOk] at h
    rw [BdS]
    exact ⟨thS_of hk hs h.1, bdS_of hk hs h.2⟩
end
theorem bdS_drawn {fig wide : Bool} {b : List Thing} (h : BdOk ⟨[], fig, wide⟩ b [Str.ofString "n"] 0) : BdS b :=
  bdS_of (fun e (h : e ∈ []) => nomatch h) (fun x hx => by rw [List.mem_singleton.mp hx]; exact nmS_n) h
/-! ### tuples cut and put together, frozen -/
theorem cat_G {K : PySem.W.Frag} {G H : Hp} {a b : Addr} {xs ys : List V} {Q : VK} (sg : Same G H) (ha : SqT K G a xs) (hb : SqT K G b ys) (hl : xs.length + ys.length ≤ 1000)
    (k : ∀ (p : Addr) (G' H' : Hp), Grow NoM G H G' H' → SqT K G' p (xs ++ ys) → Q (.ref p) H') : rCatA K (.ref a) (.ref b) H Q := by
  refine ⟨a, b, xs, ys, rfl, rfl, same_t sg ha, same_t sg hb, Nat.le_trans hl (by decide), fun e => ?_, fun e1 e => ?_, fun _ _ p hp => ?_⟩
  · subst e
    exact k b G H (Grow.refl sg) hb
  · subst e
    exact k a G H (Grow.refl sg) (by rw [List.append_nil]; exact ha)
  · exact k p _ _ ((Grow.refl sg).new (o := .tup (xs ++ ys)) hp (fun _ h => h.elim)) (SqT.of upd_same)
theorem sl_G {K : PySem.W.Frag} {G H : Hp} {a : Addr} {xs ys : List V} {lo hi : Option Int} {Q : VK} (sg : Same G H) (ha : SqT K G a xs) (hw : HT.sIx xs.length 0 lo = 0 ∧ HT.sIx xs.length xs.length hi = xs.length → ys = xs) (hc : cutV xs lo hi = ys)
    (k : ∀ (p : Addr) (G' H' : Hp), Grow NoM G H G' H' → SqT K G' p ys → Q (.ref p) H') : rSlA K (.ref a) lo hi H Q := by
  refine ⟨a, xs, rfl, same_t sg ha, fun e => ?_, fun _ p hp => ?_⟩
  · have := hw e
    subst this
    exact k a G H (Grow.refl sg) ha
  · rw [hc]
    exact k p _ _ ((Grow.refl sg).new (o := .tup ys) hp (fun _ h => h.elim)) (SqT.of upd_same)
theorem cut_head (xs : List V) : cutV xs none (some 1) = xs.take 1 := by
  unfold cutV
  rw [HT.sIx_none, List.drop_zero, Nat.sub_zero]
  show xs.take (HT.sIx xs.length xs.length (some ((1 : Nat) : Int))) = _
  rw [HT.sIx_nat]
  cases xs with
  | nil => rfl
  | cons x r => simp
theorem cut_tail (xs : List V) : cutV xs (some 2) none = xs.drop 2 := by
  unfold cutV
  rw [HT.sIx_none]
  show (xs.drop (HT.sIx xs.length 0 (some ((2 : Nat) : Int)))).take (xs.length - HT.sIx xs.length 0 (some ((2 : Nat) : Int))) = _
  rw [HT.sIx_nat]
  rw [List.take_of_length_le (by rw [List.length_drop]; exact Nat.le_refl _)]
  by_cases h : 2 ≤ xs.length
  · rw [Nat.min_eq_left h]
  · rw [Nat.min_eq_right (by omega), List.drop_of_length_le (Nat.le_refl _), List.drop_of_length_le (by omega)]
theorem DpAll_app {K : PySem.W.Frag} {H : Hp} {us vs : List V} {ds es : List PyData} (h1 : DpAll K H us ds) (h2 : DpAll K H vs es) : DpAll K H (us ++ vs) (ds ++ es) := by
  induction ds generalizing us with
  | nil =>
    rw [h1.n]
    exact h2
  | cons d r ih =>
    obtain ⟨x, u, rfl, hx, hr⟩ := h1.c
    exact .cons hx (ih hr)
theorem DpAll_take {K : PySem.W.Frag} {H : Hp} : ∀ {us : List V} {ds : List PyData} (n : Nat), DpAll K H us ds → DpAll K H (us.take n) (ds.take n)
  | _, _, 0, _ => .nil
  | _, [], n + 1, h => by
    rw [h.n]
    exact .nil
  | _, d :: ds, n + 1, h => by
    obtain ⟨x, u, rfl, hx, hr⟩ := h.c
    exact .cons hx (DpAll_take n hr)
theorem DpAll_drop {K : PySem.W.Frag} {H : Hp} : ∀ {us : List V} {ds : List PyData} (n : Nat), DpAll K H us ds → DpAll K H (us.drop n) (ds.drop n)
  | _, _, 0, h => h
  | _, [], n + 1, h => by
    rw [h.n]
    exact .nil
  | _, d :: ds, n + 1, h => by
    obtain ⟨x, u, rfl, hx, hr⟩ := h.c
    exact DpAll_drop n hr
theorem same_single {H : Hp} {a : Addr} {o : HO} (h : H a = some o) : Same (upd (fun _ => none) a o) H := fun b x e => by
  by_cases q : b = a
  · rw [q, upd_same] at e
    rw [q, h, e]
  · rw [upd_ne q] at e
    cases e
theorem thingsC_app : ∀ (a b : List Thing), thingsC (a ++ b) = thingsC a + thingsC b
  | [], b => by simp [thingsC]
  | t :: r, b => by
    rw [List.cons_append, thingsC, thingsC, thingsC_app r b]
    omega
end My
namespace My
open PySem L2
/-! ### what stands in a plan -/
def bodiesL : Thing → List (List Thing)
  | .double b => [b]
  | .loop _ _ _ b => [b]
  | .test _ _ b1 b2 => [b1, b2]
  | .step _ => []
  | .call _ _ => []
  | .again _ _ => []
mutual
def everyT : Thing → List Thing
  | .double b => .double b :: everyL b
  | .loop nm e1 e2 b => .loop nm e1 e2 b :: everyL b
  | .test e1 e2 b1 b2 => .test e1 e2 b1 b2 :: (everyL b1 ++ everyL b2)
  | .step n => [.step n]
  | .call nm e => [.call nm e]
  | .again n w => [.again n w]
def everyL : List Thing → List Thing
  | [] => []
  | t :: r => everyT t ++ everyL r
end
theorem everyT_eq (t : Thing) : everyT t = t :: (bodiesL t).flatMap everyL := by
  cases t <;> simp [everyT, bodiesL]
mutual
theorem everyT_len : ∀ t : Thing, (everyT t).length = thingC t
  | .step _ => by simp [everyT, thingC]
  | .call _ _ => by simp [everyT, thingC]
  | .again _ _ => by simp [everyT, thingC]
  | .double b => by simp [everyT, thingC, everyL_len b]
  | .loop _ _ _ b => by simp [everyT, thingC, everyL_len b]
  | .test _ _ b1 b2 => by simp [everyT, thingC, everyL_len b1, everyL_len b2]
theorem everyL_len : ∀ b : List Thing, (everyL b).length = thingsC b
  | [] => by simp [everyL, thingsC]
  | t :: r => by simp [everyL, thingsC, everyT_len t, everyL_len r]
end
theorem everyL_app : ∀ a b : List Thing, everyL (a ++ b) = everyL a ++ everyL b
  | [], b => by simp [everyL]
  | t :: r, b => by simp [everyL, everyL_app r b]
theorem bodies_lt {t : Thing} {b : List Thing} (h : b ∈ bodiesL t) : thingsC b < thingC t := by
  cases t <;> simp only [bodiesL, List.mem_cons, List.not_mem_nil, or_false] at h
  · subst h; simp [thingC]
  · subst h; simp [thingC]
  · rcases h with rfl | rfl <;> simp [thingC] <;> omega
def callStep (acc : List Str) : Thing → List Str
  | .call nm _ => if nm ∈ acc then acc else acc ++ [nm]
  | _ => acc
def callsL (b : List Thing) : List Str := (everyL b).foldl callStep []
theorem callStep_len (acc : List Str) (t : Thing) : (callStep acc t).length ≤ acc.length + 1 := by
  unfold callStep
  split
  · split <;> simp
  · omega
theorem calls_len : ∀ (l : List Thing) (acc : List Str), (l.foldl callStep acc).length ≤ acc.length + l.length
  | [], acc => Nat.le_refl _
  | t :: r, acc => by
    have h1 := callStep_len acc t
    have h2 := calls_len r (callStep acc t)
    rw [List.foldl_cons, List.length_cons]
    omega
end My
namespace My
open PySem L2
theorem same_none {H H' : Hp} {p : Addr} (s : Same H H') (h : H' p = none) : H p = none := by
  cases e : H p with
  | none => rfl
  | some o =>
    rw [s _ _ e] at h
    cases h
theorem take_C (b : List Thing) (i : Nat) : thingsC (b.take i) ≤ thingsC b := by
  have : thingsC b = thingsC (b.take i) + thingsC (b.drop i) := by rw [← thingsC_app, List.take_append_drop]
  omega
def everyP (b : List Thing) (i : Nat) (t : Thing) (j : Nat) : List Thing := everyL (b.take i) ++ (t :: ((bodiesL t).take j).flatMap everyL)
theorem flat_len : ∀ (l : List (List Thing)) (j : Nat), ((l.take j).flatMap everyL).length ≤ (l.flatMap everyL).length
  | [], j => by simp
  | x :: r, 0 => by simp
  | x :: r, j + 1 => by
    have := flat_len r j
    rw [List.take_succ_cons, List.flatMap_cons, List.flatMap_cons, List.length_append, List.length_append]
    omega
theorem everyP_len {b : List Thing} {t : Thing} (i j : Nat) (ht : t ∈ b) : (everyP b i t j).length ≤ 2 * thingsC b := by
  have h1 := take_C b i
  have h2 := thingC_mem ht
  have h3 := everyT_len t
  rw [everyT_eq, List.length_cons] at h3
  have h4 := flat_len (bodiesL t) j
  unfold everyP
  rw [List.length_append, List.length_cons, everyL_len]
  omega
theorem everyP_zero (b : List Thing) (i : Nat) (t : Thing) : everyP b i t 0 = everyL (b.take i) ++ [t] := by simp [everyP]
theorem everyP_succ {b : List Thing} {i j : Nat} {t : Thing} {c : List Thing} (h : (bodiesL t)[j]? = some c) : everyP b i t (j + 1) = everyP b i t j ++ everyL c := by
  unfold everyP
  rw [take_snoc h, List.flatMap_append]
  simp
theorem everyP_end {b : List Thing} {i : Nat} {t : Thing} (h : b[i]? = some t) : everyP b i t (bodiesL t).length = everyL (b.take (i + 1)) := by
  unfold everyP
  rw [take_snoc h, everyL_app, List.take_length]
  simp [everyL, everyT_eq t]
end My
namespace My
open PySem L2
def wordT : Thing → Str
  | .step _ => "step"
  | .call _ _ => "call"
  | .double _ => "double"
  | .loop _ _ _ _ => "for"
  | .test _ _ _ _ => "if"
  | .again _ _ => "again"
theorem thing_head {K : PySem.W.Frag} {G : Hp} {v : V} {t : Thing} (h : Dp K G v (thingD t)) : ∃ a r, v = .ref a ∧ SqT K G a (.str (wordT t) :: r) := by
  have e : ∃ ds, thingD t = .tuple (.str (wordT t) :: ds) := by
    cases t <;> (rw [thingD]; exact ⟨_, rfl⟩)
  obtain ⟨ds, e⟩ := e
  rw [e] at h
  obtain ⟨a, xs, rfl, hs, hd⟩ := h.tup'
  obtain ⟨x, r, rfl, hx, _⟩ := hd.c
  cases hx.str'
  exact ⟨a, r, rfl, hs⟩
theorem thing_call {K : PySem.W.Frag} {G : Hp} {v : V} {nm : Str} {e : En} (h : Dp K G v (thingD (.call nm e))) : ∃ a x, v = .ref a ∧ SqT K G a [.str "call", .str nm, x] ∧ Dp K G x (endD e) := by
  rw [thingD] at h
  obtain ⟨a, xs, rfl, hs, hd⟩ := h.tup'
  obtain ⟨x0, r0, rfl, h0, hd⟩ := hd.c
  obtain ⟨x1, r1, rfl, h1, hd⟩ := hd.c
  obtain ⟨x2, r2, rfl, h2, hd⟩ := hd.c
  cases hd.n
  cases h0.str'
  cases h1.str'
  exact ⟨a, x2, rfl, hs, h2⟩
theorem word_no_call {t : Thing} (h : ∀ nm e, t ≠ .call nm e) : wordT t ≠ "call" ∧ ∀ acc, callStep acc t = acc := by
  cases t with
  | call nm e => exact absurd rfl (h nm e)
  | _ => exact ⟨by simp only [wordT]; decide, fun acc => rfl⟩
end My
namespace My
open PySem L2
def topS (i : Nat) : Stmt := PySem.Challenge.pw_outgrow_k07_names_that_plans_call.main.body.getD i (.Pass ⟨0, 0, 0, 0⟩)
abbrev s_law_begin : Stmt := topS 5
abbrev N_law_begin : List Str := ["_law_script"]
theorem sc_law_begin : FnScope N_law_begin ["_law_script"] (defScope s_law_begin) := ⟨rfl, rfl, rfl, by decide +kernel, rfl, by decide +kernel, by decide +kernel⟩
abbrev s_law_take : Stmt := topS 6
abbrev N_law_take : List Str := ["_law_draw", "_law_sides", "_law_cell", "_law_got"]
theorem sc_law_take : FnScope N_law_take ["_law_draw", "_law_sides"] (defScope s_law_take) := ⟨rfl, rfl, rfl, by decide +kernel, rfl, by decide +kernel, by decide +kernel⟩
abbrev s_law_pick : Stmt := topS 7
abbrev N_law_pick : List Str := ["_law_draw", "_law_row"]
theorem sc_law_pick : FnScope N_law_pick ["_law_draw", "_law_row"] (defScope s_law_pick) := ⟨rfl, rfl, rfl, by decide +kernel, rfl, by decide +kernel, by decide +kernel⟩
abbrev s_law_with_calls : Stmt := topS 10
abbrev N_law_with_calls : List Str := ["_law_draw", "_law_plan", "_law_names", "_law_found", "_law_thing"]
theorem sc_law_with_calls : FnScope N_law_with_calls ["_law_draw", "_law_plan", "_law_names"] (defScope s_law_with_calls) := ⟨rfl, rfl, rfl, by decide +kernel, rfl, by decide +kernel, by decide +kernel⟩
abbrev s_law_kept_words : Stmt := topS 8
abbrev N_law_kept_words : List Str := []
theorem sc_law_kept_words : FnScope N_law_kept_words [] (defScope s_law_kept_words) := ⟨rfl, rfl, rfl, by decide +kernel, rfl, by decide +kernel, by decide +kernel⟩
abbrev s_law_fresh : Stmt := topS 9
abbrev N_law_fresh : List Str := ["_law_draw", "_law_taken", "_law_size", "_law_name", "_law_spare", "_law_sign", "_law_k", "_law_one"]
theorem sc_law_fresh : FnScope N_law_fresh ["_law_draw", "_law_taken"] (defScope s_law_fresh) := ⟨rfl, rfl, rfl, by decide +kernel, rfl, by decide +kernel, by decide +kernel⟩
abbrev s_law_some_end : Stmt := topS 11
abbrev N_law_some_end : List Str := ["_law_draw", "_law_scope", "_law_wide", "_law_more"]
theorem sc_law_some_end : FnScope N_law_some_end ["_law_draw", "_law_scope", "_law_wide"] (defScope s_law_some_end) := ⟨rfl, rfl, rfl, by decide +kernel, rfl, by decide +kernel, by decide +kernel⟩
abbrev s_law_leaf : Stmt := topS 12
abbrev N_law_leaf : List Str := ["_law_draw", "_law_kit", "_law_scope", "_law_deep", "_law_name", "_law_fit", "_law_end"]
theorem sc_law_leaf : FnScope N_law_leaf ["_law_draw", "_law_kit", "_law_scope", "_law_deep"] (defScope s_law_leaf) := ⟨rfl, rfl, rfl, by decide +kernel, rfl, by decide +kernel, by decide +kernel⟩
abbrev s_law_drawn_thing : Stmt := topS 13
abbrev N_law_drawn_thing : List Str := ["_law_draw", "_law_kit", "_law_scope", "_law_deep", "_law_fork", "_law_one", "_law_other", "_law_name", "_law_body", "_law_rest"]
theorem sc_law_drawn_thing : FnScope N_law_drawn_thing ["_law_draw", "_law_kit", "_law_scope", "_law_deep"] (defScope s_law_drawn_thing) := ⟨rfl, rfl, rfl, by decide +kernel, rfl, by decide +kernel, by decide +kernel⟩
abbrev s_law_drawn_body : Stmt := topS 14
abbrev N_law_drawn_body : List Str := ["_law_draw", "_law_kit", "_law_scope", "_law_deep", "_law_found", "_law_k"]
theorem sc_law_drawn_body : FnScope N_law_drawn_body ["_law_draw", "_law_kit", "_law_scope", "_law_deep"] (defScope s_law_drawn_body) := ⟨rfl, rfl, rfl, by decide +kernel, rfl, by decide +kernel, by decide +kernel⟩
abbrev s_law_drawn : Stmt := topS 15
abbrev N_law_drawn : List Str := ["_law_draw", "_law_room", "_law_figures", "_law_wide"]
theorem sc_law_drawn : FnScope N_law_drawn ["_law_draw", "_law_room", "_law_figures", "_law_wide"] (defScope s_law_drawn) := ⟨rfl, rfl, rfl, by decide +kernel, rfl, by decide +kernel, by decide +kernel⟩
abbrev s_bodies_of : Stmt := topS 1
abbrev N_bodies_of : List Str := ["thing"]
theorem sc_bodies_of : FnScope N_bodies_of ["thing"] (defScope s_bodies_of) := ⟨rfl, rfl, rfl, by decide +kernel, rfl, by decide +kernel, by decide +kernel⟩
abbrev s_all_things : Stmt := topS 2
abbrev N_all_things : List Str := ["body", "found", "thing", "inner"]
theorem sc_all_things : FnScope N_all_things ["body"] (defScope s_all_things) := ⟨rfl, rfl, rfl, by decide +kernel, rfl, by decide +kernel, by decide +kernel⟩
abbrev s_calls_of : Stmt := topS 3
abbrev N_calls_of : List Str := ["plan", "found", "thing"]
theorem sc_calls_of : FnScope N_calls_of ["plan"] (defScope s_calls_of) := ⟨rfl, rfl, rfl, by decide +kernel, rfl, by decide +kernel, by decide +kernel⟩
abbrev s_law_same : Stmt := topS 16
abbrev N_law_same : List Str := ["_law_found", "_law_due", "_law_one", "_law_other"]
theorem sc_law_same : FnScope N_law_same ["_law_found", "_law_due"] (defScope s_law_same) := ⟨rfl, rfl, rfl, by decide +kernel, rfl, by decide +kernel, by decide +kernel⟩
abbrev s_law_bodies : Stmt := topS 17
abbrev N_law_bodies : List Str := ["_law_thing"]
theorem sc_law_bodies : FnScope N_law_bodies ["_law_thing"] (defScope s_law_bodies) := ⟨rfl, rfl, rfl, by decide +kernel, rfl, by decide +kernel, by decide +kernel⟩
abbrev s_law_every : Stmt := topS 18
abbrev N_law_every : List Str := ["_law_plan", "_law_found", "_law_thing", "_law_body"]
theorem sc_law_every : FnScope N_law_every ["_law_plan"] (defScope s_law_every) := ⟨rfl, rfl, rfl, by decide +kernel, rfl, by decide +kernel, by decide +kernel⟩
abbrev s_law_calls : Stmt := topS 19
abbrev N_law_calls : List Str := ["_law_plan", "_law_found", "_law_thing"]
theorem sc_law_calls : FnScope N_law_calls ["_law_plan"] (defScope s_law_calls) := ⟨rfl, rfl, rfl, by decide +kernel, rfl, by decide +kernel, by decide +kernel⟩
abbrev s_law : Stmt := topS 20
abbrev N_law : List Str := ["_law_script", "_law_draw", "_law_turn", "_law_names", "_law_plan", "_law_again", "_law_found", "_law_k"]
theorem sc_law : FnScope N_law ["_law_script"] (defScope s_law) := ⟨rfl, rfl, rfl, by decide +kernel, rfl, by decide +kernel, by decide +kernel⟩
structure Txt (K : PySem.W.Frag) (mg : Str → Option Value) : Type where
  a_law_begin : Addr
  d_law_begin : FuncData
  F_law_begin : Fun K "_law_begin" "_law_begin" s_law_begin a_law_begin d_law_begin
  b_law_begin : Binds K d_law_begin ["_law_script"] []
  g_law_begin : mg "_law_begin" = some (.ref a_law_begin)
  a_law_take : Addr
  d_law_take : FuncData
  F_law_take : Fun K "_law_take" "_law_take" s_law_take a_law_take d_law_take
  b_law_take : Binds K d_law_take ["_law_draw", "_law_sides"] []
  g_law_take : mg "_law_take" = some (.ref a_law_take)
  a_law_pick : Addr
  d_law_pick : FuncData
  F_law_pick : Fun K "_law_pick" "_law_pick" s_law_pick a_law_pick d_law_pick
  b_law_pick : Binds K d_law_pick ["_law_draw", "_law_row"] []
  g_law_pick : mg "_law_pick" = some (.ref a_law_pick)
  a_law_with_calls : Addr
  d_law_with_calls : FuncData
  F_law_with_calls : Fun K "_law_with_calls" "_law_with_calls" s_law_with_calls a_law_with_calls d_law_with_calls
  b_law_with_calls : Binds K d_law_with_calls ["_law_draw", "_law_plan", "_law_names"] []
  g_law_with_calls : mg "_law_with_calls" = some (.ref a_law_with_calls)
  a_law_kept_words : Addr
  d_law_kept_words : FuncData
  F_law_kept_words : Fun K "_law_kept_words" "_law_kept_words" s_law_kept_words a_law_kept_words d_law_kept_words
  b_law_kept_words : Binds K d_law_kept_words [] []
  g_law_kept_words : mg "_law_kept_words" = some (.ref a_law_kept_words)
  a_law_fresh : Addr
  d_law_fresh : FuncData
  F_law_fresh : Fun K "_law_fresh" "_law_fresh" s_law_fresh a_law_fresh d_law_fresh
  b_law_fresh : Binds K d_law_fresh ["_law_draw", "_law_taken"] []
  g_law_fresh : mg "_law_fresh" = some (.ref a_law_fresh)
  a_law_some_end : Addr
  d_law_some_end : FuncData
  F_law_some_end : Fun K "_law_some_end" "_law_some_end" s_law_some_end a_law_some_end d_law_some_end
  b_law_some_end : Binds K d_law_some_end ["_law_draw", "_law_scope", "_law_wide"] []
  g_law_some_end : mg "_law_some_end" = some (.ref a_law_some_end)
  a_law_leaf : Addr
  d_law_leaf : FuncData
  F_law_leaf : Fun K "_law_leaf" "_law_leaf" s_law_leaf a_law_leaf d_law_leaf
  b_law_leaf : Binds K d_law_leaf ["_law_draw", "_law_kit", "_law_scope", "_law_deep"] []
  g_law_leaf : mg "_law_leaf" = some (.ref a_law_leaf)
  a_law_drawn_thing : Addr
  d_law_drawn_thing : FuncData
  F_law_drawn_thing : Fun K "_law_drawn_thing" "_law_drawn_thing" s_law_drawn_thing a_law_drawn_thing d_law_drawn_thing
  b_law_drawn_thing : Binds K d_law_drawn_thing ["_law_draw", "_law_kit", "_law_scope", "_law_deep"] []
  g_law_drawn_thing : mg "_law_drawn_thing" = some (.ref a_law_drawn_thing)
  a_law_drawn_body : Addr
  d_law_drawn_body : FuncData
  F_law_drawn_body : Fun K "_law_drawn_body" "_law_drawn_body" s_law_drawn_body a_law_drawn_body d_law_drawn_body
  b_law_drawn_body : Binds K d_law_drawn_body ["_law_draw", "_law_kit", "_law_scope", "_law_deep"] []
  g_law_drawn_body : mg "_law_drawn_body" = some (.ref a_law_drawn_body)
  a_law_drawn : Addr
  d_law_drawn : FuncData
  F_law_drawn : Fun K "_law_drawn" "_law_drawn" s_law_drawn a_law_drawn d_law_drawn
  b_law_drawn : Binds K d_law_drawn ["_law_draw", "_law_room", "_law_figures", "_law_wide"] []
  g_law_drawn : mg "_law_drawn" = some (.ref a_law_drawn)
  a_bodies_of : Addr
  d_bodies_of : FuncData
  F_bodies_of : Fun K "bodies_of" "bodies_of" s_bodies_of a_bodies_of d_bodies_of
  b_bodies_of : Binds K d_bodies_of ["thing"] []
  g_bodies_of : mg "bodies_of" = some (.ref a_bodies_of)
  a_all_things : Addr
  d_all_things : FuncData
  F_all_things : Fun K "all_things" "all_things" s_all_things a_all_things d_all_things
  b_all_things : Binds K d_all_things ["body"] []
  g_all_things : mg "all_things" = some (.ref a_all_things)
  a_calls_of : Addr
  d_calls_of : FuncData
  F_calls_of : Fun K "calls_of" "calls_of" s_calls_of a_calls_of d_calls_of
  b_calls_of : Binds K d_calls_of ["plan"] []
  g_calls_of : mg "calls_of" = some (.ref a_calls_of)
  a_law_same : Addr
  d_law_same : FuncData
  F_law_same : Fun K "_law_same" "_law_same" s_law_same a_law_same d_law_same
  b_law_same : Binds K d_law_same ["_law_found", "_law_due"] []
  g_law_same : mg "_law_same" = some (.ref a_law_same)
  a_law_bodies : Addr
  d_law_bodies : FuncData
  F_law_bodies : Fun K "_law_bodies" "_law_bodies" s_law_bodies a_law_bodies d_law_bodies
  b_law_bodies : Binds K d_law_bodies ["_law_thing"] []
  g_law_bodies : mg "_law_bodies" = some (.ref a_law_bodies)
  a_law_every : Addr
  d_law_every : FuncData
  F_law_every : Fun K "_law_every" "_law_every" s_law_every a_law_every d_law_every
  b_law_every : Binds K d_law_every ["_law_plan"] []
  g_law_every : mg "_law_every" = some (.ref a_law_every)
  a_law_calls : Addr
  d_law_calls : FuncData
  F_law_calls : Fun K "_law_calls" "_law_calls" s_law_calls a_law_calls d_law_calls
  b_law_calls : Binds K d_law_calls ["_law_plan"] []
  g_law_calls : mg "_law_calls" = some (.ref a_law_calls)
  a_law : Addr
  d_law : FuncData
  F_law : Fun K "law" "law" s_law a_law d_law
  b_law : Binds K d_law ["_law_script"] []
  g_law : mg "law" = some (.ref a_law)
  z_abs : mg "abs" = none
  z_all : mg "all" = none
  z_bool : mg "bool" = none
  z_int : mg "int" = none
  z_isinstance : mg "isinstance" = none
  z_len : mg "len" = none
  z_list : mg "list" = none
  z_range : mg "range" = none
  z_sorted : mg "sorted" = none
  z_str : mg "str" = none
  z_tuple : mg "tuple" = none
  z_zip : mg "zip" = none
section
variable {P : Program} {w : World} {K : PySem.W.Frag} {mg : Str → Option Value} {base : Heap}
/-- a fresh draw -/
def spBegin (K : PySem.W.Frag) : Sp := fun vs H Q _ => ∃ (a : Addr) (ns : List Int), vs = [.ref a] ∧ SqL K H a (ns.map V.int) ∧ ns.length ≤ 63 ∧
  ∀ d l H', H d = none → H l = none → Same H H' → DrawAt H' d l → Q (.ref d) H'
theorem ok_law_begin (T : Txt K mg) : FnOk P w K mg base CX0 1 T.a_law_begin T.d_law_begin ["_law_script"] (spBegin K) := by
  refine T.F_law_begin.ok sc_law_begin (fun vs H Q E h => ?_) (fun cdv A outer s H vs Q E hr h => ?_)
  · obtain ⟨a, ns, rfl, _⟩ := h
    rfl
  obtain ⟨a, ns, rfl, hS, hl, k⟩ := h
  refine ⟨_, (pss_one (ps_ret (pe_lst (pa_cons (pe_callTy call_list_of (by rfl) T.z_list (by decide +kernel) (pa_cons (pe_slice sl_list (pv 0) po_none (po_some pe_int)) pa_nil)) (pa_cons pe_int (pa_cons pe_int (pa_cons pe_int pa_nil))))))), ?_⟩
  refine ⟨.ref a, rfl, 63, rfl, a, _, rfl, hS, fun p hp => ?_⟩
  refine ⟨p, _, rfl, .inl (SqL.of upd_same), fun l hl2 => ?_⟩
  refine ⟨by show 4 ≤ sizeLine; decide, fun d hd => ?_⟩
  have s1 : Same H _ := (same_upd (o := .lst (cutV (ns.map V.int) none (some 63))) hp)
  have s2 := s1.trans (same_upd (o := .lst (cutV (ns.map V.int) none (some 63))) hl2)
  have s3 := s2.trans (same_upd (o := .lst [.ref l, .int 0, .int 0, .int 37]) hd)
  have nld : l ≠ d := fun e => by
    rw [← e, upd_same] at hd
    cases hd
  refine k d l _ (s2.free hd) (s1.free hl2) s3 ⟨⟨ns.take 63, 0, 0, 37, upd_same, ?_, by decide, by decide, by decide, by decide, ?_⟩⟩
  · rw [upd_ne nld, upd_same]
    have e : cutV (ns.map V.int) none (some 63) = (ns.take 63).map V.int := by
      unfold cutV
      rw [HT.sIx_none, show HT.sIx (ns.map V.int).length (ns.map V.int).length (some 63) = min 63 (ns.map V.int).length from HT.sIx_nat _ _ 63, List.drop_zero, Nat.sub_zero]
      rw [List.map_take, List.length_map, List.take_eq_take_iff]
      simp
    rw [e]
  · rw [List.length_take]
    omega
/-- a draw below n -/
def spTake : Sp := fun vs H Q _ => ∃ (d l : Addr) (n : Int), vs = [.ref d, .int n] ∧ DrawAt H d l ∧ 0 < n ∧ n < 2 ^ 200 ∧
  ∀ (r : Int) H', 0 ≤ r → r < n → DrawAt H' d l → But (Only1 d) H H' → Q (.int r) H'
theorem ok_law_take (T : Txt K mg) : FnOk P w K mg base CX0 1 T.a_law_take T.d_law_take ["_law_draw", "_law_sides"] spTake := by
  refine T.F_law_take.ok sc_law_take (fun vs H Q E h => ?_) (fun cdv A outer s H vs Q E hr h => ?_)
  · obtain ⟨d, l, n, rfl, _⟩ := h
    rfl
  obtain ⟨d, l, n, rfl, D, hn0, hn, k⟩ := h
  refine ⟨_, (C8.pss_cut (ps_if (PW.pt (pw_and (pt_cmpR op_lt (pe_ix ix_list (pv 0) pe_int (fun _ _ => rfl)) (pv 1) (nomark _)) (pw_and1 (pt_cmpR op_lt (pe_ix ix_list (pv 0) pe_int (fun _ _ => rfl)) (pe_callB call_len_seq (by rfl) T.z_len (by decide +kernel) (pa_cons (pe_ix ix_list (pv 0) pe_int (fun _ _ => rfl)) pa_nil)) (nomark _))))) (pss_cons (ps_set (i := 2) sc_law_take.nd rfl (Or.inl rfl) (pe_ix ix_list (pe_ix ix_list (pv 0) pe_int (fun _ _ => rfl)) (pe_ix ix_list (pv 0) pe_int (fun _ _ => rfl)) (fun _ _ => rfl)))
      (pss_cons (ps_asg (pe_op op_add (pe_ix ix_list (pv 0) pe_int (fun _ _ => rfl)) pe_int) (pg_sub (pv 0) pe_int set_list))
      (pss_cons (ps_asg pe_int (pg_sub (pv 0) pe_int set_list))
      (pss_one (ps_if (pt_cmpR op_ge (pe_callB call_abs (by rfl) T.z_abs (by decide +kernel) (pa_cons (pv 2) pa_nil)) (pe_op op_pow pe_int pe_int) (nomark _)) (pss_one (ps_asg (pe_callB call_abs (by rfl) T.z_abs (by decide +kernel) (pa_cons (pv 2) pa_nil)) (pg_sub (pv 0) pe_int set_list))) (pss_one (ps_asg (pe_op op_mod (pe_op op_add (pe_op op_add (pe_op op_mul (pe_ix ix_list (pv 0) pe_int (fun _ _ => rfl)) pe_int) (pe_op op_mul (pe_op op_mod (pv 2) pe_int) pe_int)) pe_int) pe_int) (pg_sub (pv 0) pe_int set_list)))))))) pss_nil)
      (pss_cons (ps_if (pt_cmpR op_ge (pe_ix ix_list (pv 0) pe_int (fun _ _ => rfl)) (pv 1) (nomark _)) (pss_cons (ps_set (i := 3) sc_law_take.nd rfl (Or.inl rfl) (pe_op op_mod (pe_ix ix_list (pv 0) pe_int (fun _ _ => rfl)) (pv 1)))
      (pss_cons (ps_asg (pe_op op_fdivW (pe_ix ix_list (pv 0) pe_int (fun _ _ => rfl)) (pv 1)) (pg_sub (pv 0) pe_int set_list))
      (pss_one (ps_ret (pv 3))))) pss_nil)
      (pss_cons (ps_asg (pe_op op_mod (pe_op op_add (pe_op op_add (pe_op op_mul (pe_op op_mod (pe_op op_mul (pe_ix ix_list (pv 0) pe_int (fun _ _ => rfl)) (pe_ix ix_list (pv 0) pe_int (fun _ _ => rfl))) pe_int) pe_int) (pe_op op_mul (pe_ix ix_list (pv 0) pe_int (fun _ _ => rfl)) pe_int)) pe_int) pe_int) (pg_sub (pv 0) pe_int set_list))
      (pss_one (ps_ret (pe_op op_mod (pe_op op_add (pe_op op_fdivW (pe_ix ix_list (pv 0) pe_int (fun _ _ => rfl)) pe_int) (pe_op op_mul (pe_op op_mod (pe_ix ix_list (pv 0) pe_int (fun _ _ => rfl)) pe_int) pe_int)) (pv 1))))))), ?_⟩
  obtain ⟨ns, p, g, s, e1, e2, p0, g0, s0, s1, hl⟩ := D.ex
  have nld : l ≠ d := fun e => by
    rw [e, e1] at e2
    cases ns with
    | nil => cases e2
    | cons x r => cases e2
  have cw : CDivW 0 n := log_small hn0 hn (by decide) (by decide)
  refine ⟨fun σ' H' => ∃ c p g s, σ' = [some (.ref d), some (.int n), c, none] ∧ H' d = some (.lst [.ref l, .int p, .int g, .int s]) ∧ H' l = some (.lst (ns.map V.int)) ∧ 0 ≤ p ∧ 0 ≤ g ∧ 0 ≤ s ∧ s < 2147483647 ∧ But (Only1 d) H H', ?_, ?_⟩
  · refine ⟨_, rfl, d, _, 2, .int g, rfl, rfl, SqL.of e1, rfl, _, rfl, g, n, rfl, rfl, _, rfl, ?_⟩
    refine ite2 (fun c1 => ?_) (fun _ => ⟨_, p, g, s, rfl, e1, e2, p0, g0, s0, s1, But.refl _ _⟩)
    refine ⟨_, rfl, d, _, 1, .int p, rfl, rfl, SqL.of e1, rfl, _, rfl, d, _, 0, .ref l, rfl, rfl, SqL.of e1, rfl, l, _, rfl, .inl (SqL.of e2), p, _, rfl, rfl, _, rfl, ?_⟩
    refine ite2 (fun c2 => ?_) (fun _ => ⟨_, p, g, s, rfl, e1, e2, p0, g0, s0, s1, But.refl _ _⟩)
    have c2' : p < (((ns.map V.int).length : Nat) : Int) := of_decide_eq_true c2
    rw [List.length_map] at c2'
    obtain ⟨j, ej⟩ : ∃ j : Nat, p = (j : Int) := ⟨p.toNat, by omega⟩
    have hj : j < ns.length := by omega
    have ha : atI (ns.map V.int) p = some (.int ns[j]) := by
      rw [ej]
      exact atI_nat (by rw [List.getElem?_map, List.getElem?_eq_getElem hj]; rfl)
    -- cell = draw[0][draw[1]]
    refine ⟨_, rfl, d, _, 0, .ref l, rfl, rfl, SqL.of e1, rfl, _, rfl, d, _, 1, .int p, rfl, rfl, SqL.of e1, rfl, l, _, p, _, rfl, rfl, SqL.of e2, ha, ?_⟩
    generalize ns[j] = x
    -- draw[1] = draw[1] + 1; draw[2] = 0
    refine ⟨_, rfl, d, _, 1, .int p, rfl, rfl, SqL.of e1, rfl, p, 1, rfl, rfl, _, rfl, d, _, 1, 1, rfl, rfl, e1, rfl, ?_⟩
    refine ⟨_, rfl, d, _, 2, 2, rfl, rfl, upd_same, rfl, ?_⟩
    have b2 : ∀ o, But (Only1 d) H (upd (upd H d (.lst [.ref l, .int (p + 1), .int g, .int s])) d o) := fun o => ((But.refl _ _).put only1).put only1
    have e2' : ∀ o o', upd (upd H d o) d o' l = some (.lst (ns.map V.int)) := fun o o' => by
      rw [upd_ne nld, upd_ne nld]
      exact e2
    -- abs(cell) >= 10 ** 18
    refine ⟨_, rfl, x, rfl, 10, 18, rfl, rfl, ⟨by decide, by decide, by decide⟩, _, _, rfl, rfl, _, rfl, ?_⟩
    refine ite2 (fun _ => ?_) (fun _ => ?_)
    · refine ⟨_, rfl, x, rfl, _, rfl, d, _, 2, 2, rfl, rfl, upd_same, rfl, ?_⟩
      refine ⟨_, p + 1, _, s, rfl, upd_same, ?_, by omega, ?_, s0, s1, ((b2 _).put only1)⟩
      · rw [upd_ne nld]
        exact e2' _ _
      · split <;> omega
    · refine ⟨_, rfl, d, _, 3, .int s, rfl, rfl, SqL.of upd_same, rfl, s, 48271, rfl, rfl, .inr ⟨by decide, by decide⟩, _, rfl, x, 2147483629, rfl, rfl, (by show (0 : Int) < 2147483629; decide), _, 69621, rfl, rfl, .inr ⟨by decide, by decide⟩, _, _, rfl, rfl, _, 12345, rfl, rfl, _, 2147483647, rfl, rfl, (by show (0 : Int) < 2147483647; decide), _, rfl, d, _, 3, 3, rfl, rfl, upd_same, rfl, ?_⟩
      refine ⟨_, p + 1, 0, _, rfl, upd_same, ?_, by omega, by omega, Int.emod_nonneg _ (by decide), Int.emod_lt_of_pos _ (by decide), ((b2 _).put only1)⟩
      rw [upd_ne nld]
      exact e2' _ _
  · rintro σ' H1 ⟨c, p, g, s, rfl, e1, e2, p0, g0, s0, s1, b⟩
    refine ⟨_, rfl, d, _, 2, .int g, rfl, rfl, SqL.of e1, rfl, _, rfl, g, n, rfl, rfl, _, rfl, ?_⟩
    refine ite2 (fun c1 => ?_) (fun _ => ?_)
    · refine ⟨_, rfl, d, _, 2, .int g, rfl, rfl, SqL.of e1, rfl, _, rfl, g, n, rfl, rfl, hn0, ?_⟩
      refine ⟨_, rfl, d, _, 2, .int g, rfl, rfl, SqL.of e1, rfl, _, rfl, g, n, rfl, rfl, cw, _, rfl, d, _, 2, 2, rfl, rfl, e1, rfl, ?_⟩
      refine ⟨_, rfl, k _ _ (Int.emod_nonneg _ (by omega)) (Int.emod_lt_of_pos _ hn0) ⟨⟨ns, p, _, s, upd_same, by rw [upd_ne nld]; exact e2, p0, Int.ediv_nonneg g0 (by omega), s0, s1, hl⟩⟩ (b.put only1)⟩
    · refine ⟨_, rfl, d, _, 3, .int s, rfl, rfl, SqL.of e1, rfl, _, rfl, d, _, 3, .int s, rfl, rfl, SqL.of e1, rfl, s, s, rfl, rfl, .inl ⟨by omega, by omega⟩, _, 2147483629, rfl, rfl, (by show (0 : Int) < 2147483629; decide), _, 5, rfl, rfl, .inr ⟨by decide, by decide⟩, _, rfl, d, _, 3, .int s, rfl, rfl, SqL.of e1, rfl, s, 16811, rfl, rfl, .inr ⟨by decide, by decide⟩, _, _, rfl, rfl, _, 2531011, rfl, rfl, _, 2147483647, rfl, rfl, (by show (0 : Int) < 2147483647; decide), _, rfl, d, _, 3, 3, rfl, rfl, e1, rfl, ?_⟩
      have z0 : ∀ x : Int, 0 ≤ x % 2147483647 := fun x => Int.emod_nonneg _ (by decide)
      have z1 : ∀ x : Int, x % 2147483647 < 2147483647 := fun x => Int.emod_lt_of_pos _ (by decide)
      refine ⟨_, rfl, d, _, 3, _, rfl, rfl, SqL.of upd_same, rfl, _, 61, rfl, rfl, log_small (k := 10) (by decide) (by decide) (by decide) (by decide), _, rfl, d, _, 3, _, rfl, rfl, SqL.of upd_same, rfl, _, 8191, rfl, rfl, (by show (0 : Int) < 8191; decide), _, 31, rfl, rfl, .inr ⟨by decide, by decide⟩, _, _, rfl, rfl, _, rfl, _, n, rfl, rfl, hn0, ?_⟩
      exact k _ _ (Int.emod_nonneg _ (by omega)) (Int.emod_lt_of_pos _ hn0) ⟨⟨ns, p, g, _, upd_same, by rw [upd_ne nld]; exact e2, p0, g0, z0 _, z1 _, hl⟩⟩ (b.put only1)
/-- one of a row: a text's sign, a list's or tuple's item -/
def spPick (K : PySem.W.Frag) : Sp := fun vs H Q _ => ∃ (d l : Addr) (x : V), vs = [.ref d, x] ∧ DrawAt H d l ∧
  ((∃ z : Str, x = .str z ∧ 0 < z.length ∧ z.length ≤ 100000 ∧ ∀ (c : Nat) H', c ∈ z.cps.toList → DrawAt H' d l → But (Only1 d) H H' → Q (.str ⟨#[c]⟩) H') ∨
   ∃ (a : Addr) (xs : List V), x = .ref a ∧ a ≠ d ∧ (SqL K H a xs ∨ SqT K H a xs) ∧ 0 < xs.length ∧ xs.length ≤ 100000 ∧ ∀ (v : V) H', v ∈ xs → DrawAt H' d l → But (Only1 d) H H' → Q v H')
theorem ok_law_pick (T : Txt K mg) : FnOk P w K mg base CX0 2 T.a_law_pick T.d_law_pick ["_law_draw", "_law_row"] (spPick K) := by
  refine T.F_law_pick.ok sc_law_pick (fun vs H Q E h => ?_) (fun cdv A outer s H vs Q E hr h => ?_)
  · obtain ⟨d, l, x, rfl, _⟩ := h
    rfl
  obtain ⟨d, l, x, rfl, D, h⟩ := h
  refine ⟨_, (pss_one (ps_ret (pe_ix ix_seq (pv 1) (pe_call (ok_law_take T) (hr.mono (by decide)) (by rfl) T.g_law_take T.F_law_take.kp T.b_law_take .nil pass0 (pa_cons (pv 0) (pa_cons (pe_callB call_len (by rfl) T.z_len (by decide +kernel) (pa_cons (pv 1) pa_nil)) pa_nil))) (fun _ _ => rfl)))), ?_⟩
  have big : (100000 : Int) < 2 ^ 200 := by decide
  rcases h with ⟨z, rfl, h0, h1, k⟩ | ⟨a, xs, rfl, na, hs, h0, h1, k⟩
  · refine ⟨_, rfl, _, rfl, _, rfl, _, z.length, rfl, ⟨Nat.le_trans h1 (by decide), rfl⟩, d, l, _, rfl, D, by omega, by omega, fun r H' r0 r1 D' b => ?_⟩
    obtain ⟨j, rfl⟩ : ∃ j : Nat, r = (j : Int) := ⟨r.toNat, by omega⟩
    have hj : j < z.cps.toList.length := by
      rw [Array.length_toList]
      show j < z.length
      omega
    exact .inr (.inr ⟨z, _, _, rfl, rfl, Nat.le_trans h1 (by decide), atI_nat (List.getElem?_eq_getElem hj), k _ H' (List.getElem_mem hj) D' b⟩)
  · have hl : LenV K (.ref a) H xs.length := by
      rcases hs with hs | hs
      · exact .inl ⟨xs, hs, rfl⟩
      · exact .inr ⟨xs, hs, rfl⟩
    refine ⟨_, rfl, _, rfl, _, rfl, _, xs.length, rfl, hl, d, l, _, rfl, D, by omega, by omega, fun r H' r0 r1 D' b => ?_⟩
    obtain ⟨j, rfl⟩ : ∃ j : Nat, r = (j : Int) := ⟨r.toNat, by omega⟩
    have hj : j < xs.length := by omega
    rcases hs with hs | hs
    · exact .inl ⟨a, xs, _, _, rfl, rfl, but_l b na hs, atI_nat (List.getElem?_eq_getElem hj), k _ H' (List.getElem_mem hj) D' b⟩
    · exact .inr (.inl ⟨a, xs, _, _, rfl, rfl, but_t b na hs, atI_nat (List.getElem?_eq_getElem hj), k _ H' (List.getElem_mem hj) D' b⟩)
def spWithC (K : PySem.W.Frag) (f : Nat) : Sp := fun vs H Q _ => ∃ (d l na : Addr) (names : List Str) (G : Hp) (v : V) (b : List Thing), vs = [.ref d, v, .ref na] ∧ Same G H ∧ G d = none ∧ DrawAt H d l ∧ Dp K G v (planD b) ∧ G na = some (.lst (names.map V.str)) ∧ names ≠ [] ∧ names.length ≤ 1000 ∧ thingsC b < f ∧ thingsC b ≤ 31 ∧
  ∀ (v' : V) (b' : List Thing) (G' H' : Hp), Grow (Only1 d) G H G' H' → DrawAt H' d l → Dp K G' v' (planD b') → thingsC b' = thingsC b → Q v' H'
theorem with_calls_step (T : Txt K mg) (f : Nat) (G_law_with_calls : FnOk P w K mg base CX0 (f + 4) T.a_law_with_calls T.d_law_with_calls ["_law_draw", "_law_plan", "_law_names"] (spWithC K f)) :
    FnOk P w K mg base CX0 (f + 5) T.a_law_with_calls T.d_law_with_calls ["_law_draw", "_law_plan", "_law_names"] (spWithC K (f + 1)) := by
  refine T.F_law_with_calls.ok sc_law_with_calls (fun vs H Q E h => ?_) (fun cdv A outer s H vs Q E hr h => ?_)
  · obtain ⟨d, l, na, names, G, v, b, rfl, _⟩ := h
    rfl
  obtain ⟨d, l, na, names, G, v, b, rfl, sg, gd, D, db, en, nn, nl, hf, hc, k⟩ := h
  refine ⟨_, (pss_cons (ps_set (i := 3) sc_law_with_calls.nd rfl (Or.inl rfl) (pe_tup pa_nil))
      (pss_cons (ps_for PassesOwn.never rfl (pi_tup (pv 1)) (pg_name (i := 4) sc_law_with_calls.nd rfl (Or.inl rfl)) (C8.pss_cut (ps_if (PW.pt (pw_and (pt_cmpR op_eq (pe_ix ix_tup (pv 4) pe_int (fun _ _ => rfl)) pe_str (nomark _)) (pw_and1 (pt_cmpR op_gt (pe_call (ok_law_take T) (hr.mono (by omega)) (by rfl) T.g_law_take T.F_law_take.kp T.b_law_take .nil pass0 (pa_cons (pv 0) (pa_cons pe_int pa_nil))) pe_int (nomark _))))) (pss_one (ps_set (i := 4) sc_law_with_calls.nd rfl (Or.inl rfl) (pe_tup (pa_cons pe_str (pa_cons (pe_call (ok_law_pick T) (hr.mono (by omega)) (by rfl) T.g_law_pick T.F_law_pick.kp T.b_law_pick .nil pass0 (pa_cons (pv 0) (pa_cons (pv 2) pa_nil))) (pa_cons (pe_tup (pa_cons pe_str (pa_cons pe_int pa_nil))) pa_nil)))))) pss_nil)
      (C8.pss_cut (ps_if (pt_cmpR op_in_seq (pe_ix ix_tup (pv 4) pe_int (fun _ _ => rfl)) (pe_lst (pa_cons pe_str (pa_cons pe_str pa_nil))) (by rfl)) (pss_one (ps_set (i := 4) sc_law_with_calls.nd rfl (Or.inl rfl) (pe_op op_catA (pe_slice sl_tupA (pv 4) po_none (po_some (pe_un un_neg pe_int))) (pe_tup (pa_cons (pe_call G_law_with_calls (hr.mono (by omega)) (by rfl) T.g_law_with_calls T.F_law_with_calls.kp T.b_law_with_calls .nil pass0 (pa_cons (pv 0) (pa_cons (pe_ix ix_tup (pv 4) (pe_un un_neg pe_int) (fun _ _ => rfl)) (pa_cons (pv 2) pa_nil)))) pa_nil))))) pss_nil)
      (C8.pss_cut (ps_if (pt_cmpR op_eq (pe_ix ix_tup (pv 4) pe_int (fun _ _ => rfl)) pe_str (nomark _)) (pss_one (ps_set (i := 4) sc_law_with_calls.nd rfl (Or.inl rfl) (pe_op op_catA (pe_slice sl_tupA (pv 4) po_none (po_some pe_int)) (pe_tup (pa_cons (pe_call G_law_with_calls (hr.mono (by omega)) (by rfl) T.g_law_with_calls T.F_law_with_calls.kp T.b_law_with_calls .nil pass0 (pa_cons (pv 0) (pa_cons (pe_ix ix_tup (pv 4) pe_int (fun _ _ => rfl)) (pa_cons (pv 2) pa_nil)))) (pa_cons (pe_call G_law_with_calls (hr.mono (by omega)) (by rfl) T.g_law_with_calls T.F_law_with_calls.kp T.b_law_with_calls .nil pass0 (pa_cons (pv 0) (pa_cons (pe_ix ix_tup (pv 4) pe_int (fun _ _ => rfl)) (pa_cons (pv 2) pa_nil)))) pa_nil)))))) pss_nil)
      (pss_one (ps_set (i := 3) sc_law_with_calls.nd rfl (Or.inl rfl) (pe_op op_catA (pv 3) (pe_tup (pa_cons (pv 4) pa_nil)))))))))
      (pss_one (ps_ret (pv 3))))), ?_⟩
  obtain ⟨a, us, rfl, hus, hds⟩ := db.tup'
  rw [thingsD_eq] at hds
  have lu : us.length = b.length := by
    have := hds.length
    rw [List.length_map] at this
    exact this
  have cl := thingsC_len b
  refine ⟨by show 0 ≤ sizeLine; decide, fun p0 hp0 => ?_⟩
  have g1 := (Grow.refl (M := Only1 d) sg).new (o := .tup []) hp0 D.some'
  have d0 : Dp K (upd G p0 (.tup [])) (.ref p0) (planD []) := by
    unfold planD thingsD
    exact .tup (xs := []) (SqT.of upd_same) .nil
  -- a call below
  have below : ∀ (G5 H5 : Hp) (x : V) (c : List Thing) (Q' : VK), Grow (Only1 d) G H G5 H5 → DrawAt H5 d l → Dp K G5 x (planD c) → thingsC c < f → thingsC c ≤ 31 → (∀ (v' : V) (b' : List Thing) (G' H' : Hp), Grow (Only1 d) G H G' H' → Same G5 G' → DrawAt H' d l → Dp K G' v' (planD b') → thingsC b' = thingsC c → Q' v' H') →
      spWithC K f [.ref d, x, .ref na] H5 Q' E0 := fun G5 H5 x c Q' g5 D5 dx hcf h31 hq =>
    ⟨d, l, na, names, G5, x, c, rfl, g5.gh, g5.none gd D.cell, D5, dx, g5.g _ _ en, nn, nl, hcf, h31, fun v' b' G6 H6 g6 D6 dv' hb => hq v' b' G6 H6 (g5.trans g6 D5.some') g6.g D6 dv' hb⟩
  refine ⟨_, rfl, a, rfl, ⟨_, same_t g1.gh (same_t g1.g hus)⟩, for_it (walk_tup (xs := us)) (fun i σ H' => ∃ (G' : Hp) (vf : V) (b' : List Thing), Grow (Only1 d) G H G' H' ∧ DrawAt H' d l ∧ Dp K G' vf (planD b') ∧ thingsC b' = thingsC (b.take i) ∧ ∃ v4, σ = [some (.ref d), some (.ref a), some (.ref na), some vf, v4])
    ⟨_, _, [], g1, D.upd hp0, d0, by simp, _, rfl⟩ (fun i σ H' _ p => by obtain ⟨G', vf, b', g, _⟩ := p; exact same_t g.gh (same_t g.g hus)) ?_ ?_⟩
  · rintro i x σ H5 H6 hi ⟨G5, vf, b5, g5, D5, df, cb5, v4, rfl⟩ ⟨rfl, hx⟩
    obtain ⟨t, ht, dt⟩ := DpAll.at_ hds hx
    have tm := List.mem_of_getElem? ht
    have tc := thingC_mem tm
    let Md : L2.St → Hp → Prop := fun σ H' => ∃ (G' : Hp) (vf vt : V) (b' : List Thing) (t' : Thing), Grow (Only1 d) G H G' H' ∧ DrawAt H' d l ∧ Dp K G' vf (planD b') ∧ thingsC b' = thingsC (b.take i) ∧ Dp K G' vt (thingD t') ∧ thingC t' = thingC t ∧ σ = [some (.ref d), some (.ref a), some (.ref na), some vf, some vt]
    refine ⟨Md, ?_, ?_⟩
    · obtain ⟨at_, r, rfl, hs⟩ := thing_head dt
      have hs := same_t g5.gh (same_t g5.g hs)
      have m0 : Md _ _ := ⟨G5, vf, .ref at_, b5, t, g5, D5, df, cb5, dt.mono g5.g, rfl, rfl⟩
      refine ⟨_, rfl, at_, _, _, _, rfl, rfl, hs, atI_nat (j := 0) rfl, rfl, _, rfl, ?_⟩
      refine ite2 (fun c1 => ?_) (fun _ => iteF m0)
      have w1 : wordT t = "step" := V.str.inj (of_decide_eq_true c1)
      have ct : thingC t = 1 := by
        cases t with
        | step n => simp [thingC]
        | call _ _ => exact absurd w1 (by simp only [wordT]; decide)
        | double _ => exact absurd w1 (by simp only [wordT]; decide)
        | loop _ _ _ _ => exact absurd w1 (by simp only [wordT]; decide)
        | test _ _ _ _ => exact absurd w1 (by simp only [wordT]; decide)
        | again _ _ => exact absurd w1 (by simp only [wordT]; decide)
      refine ⟨_, rfl, d, l, 3, rfl, D5, by decide, by decide, fun z H7 z0 z1 D7 b7 => ?_⟩
      have g7 := g5.trans (Grow.draw g5.gh (g5.none gd D.cell) b7) D5.some'
      refine ⟨_, _, rfl, rfl, _, rfl, ?_⟩
      refine ite2 (fun _ => ?_) (fun _ => ⟨G5, vf, .ref at_, b5, t, g7, D7, df, cb5, dt.mono g5.g, rfl, rfl⟩)
      have en7 := g7.gh _ _ (g5.g _ _ en)
      have nad : na ≠ d := fun e => by rw [e, gd] at en; cases en
      refine ⟨_, rfl, _, rfl, d, l, _, rfl, D7, .inr ⟨na, _, rfl, nad, .inl (SqL.of en7), by rw [List.length_map]; exact List.length_pos_iff.mpr nn, by rw [List.length_map]; omega, fun q H8 hq D8 b8 => ?_⟩⟩
      obtain ⟨nm, _, rfl⟩ := List.mem_map.mp hq
      have g8 := g7.trans (Grow.draw g7.gh (g7.none gd D.cell) b8) D7.some'
      refine ⟨by show 2 ≤ sizeLine; decide, fun p1 hp1 => ?_⟩
      have g9 := g8.new (o := .tup [.str "n", .int 0]) hp1 D8.some'
      have D9 := D8.upd (o := .tup [.str "n", .int 0]) hp1
      have s9 := same_upd (o := .tup [.str "n", .int 0]) (g8.gh.free hp1)
      refine ⟨by show 3 ≤ sizeLine; decide, fun p2 hp2 => ?_⟩
      have g10 := g9.new (o := .tup [.str "call", .str nm, .ref p1]) hp2 D9.some'
      have s10 := same_upd (o := .tup [.str "call", .str nm, .ref p1]) (g9.gh.free hp2)
      refine ⟨_, vf, .ref p2, b5, .call nm ("n", 0), g10, D9.upd hp2, df.mono (s9.trans s10), cb5, ?_, by rw [ct]; simp [thingC], rfl⟩
      rw [thingD]
      exact .tup (xs := [.str "call", .str nm, .ref p1]) (SqT.of upd_same) (.cons (.str _) (.cons (.str _) (.cons (.tup (xs := [.str "n", .int 0]) (SqT.of (s10 _ _ upd_same)) (.cons (.str _) (.cons (.int _) .nil))) .nil)))
    rintro σ H7 ⟨G7, vf7, vt, b7, t7, g7, D7, df7, cb7, dt7, ct7, rfl⟩
    refine ⟨Md, ?_, ?_⟩
    · obtain ⟨at_, r, rfl, hs⟩ := thing_head dt7
      have hs' := same_t g7.gh hs
      refine ⟨_, rfl, at_, _, _, _, rfl, rfl, hs', atI_nat (j := 0) rfl, by show 2 ≤ sizeLine; decide, fun L hL => ?_⟩
      have g8 := g7.cell (o := .lst [.str "for", .str "double"]) hL
      have D8 := D7.upd (o := .lst [.str "for", .str "double"]) hL
      refine ⟨L, _, rfl, .inl (SqL.of upd_same), rfl, rfl, _, rfl, ?_⟩
      rw [show (if false = true then !inV (V.str (wordT t7)) [V.str "for", V.str "double"] else inV (V.str (wordT t7)) [V.str "for", V.str "double"]) = decide (wordT t7 ∈ [Str.ofString "for", Str.ofString "double"]) by rw [if_neg (by decide)]; exact inV_strs _ [Str.ofString "for", Str.ofString "double"]]
      refine ite2 (fun c => ?_) (fun _ => ⟨G7, vf7, .ref at_, b7, t7, g8, D8, df7, cb7, dt7, ct7, rfl⟩)
      have c' : wordT t7 ∈ [Str.ofString "for", Str.ofString "double"] := of_decide_eq_true c
      cases t7 with
      | step _ => exact absurd c' (by simp only [wordT]; decide)
      | call _ _ => exact absurd c' (by simp only [wordT]; decide)
      | again _ _ => exact absurd c' (by simp only [wordT]; decide)
      | test _ _ _ _ => exact absurd c' (by simp only [wordT]; decide)
      | double c0 =>
        rw [thingD] at dt7
        obtain ⟨a', xs, e, hs, hd⟩ := dt7.tup'
        cases e
        obtain ⟨x0, r0, rfl, h0, hd⟩ := hd.c
        obtain ⟨x1, r1, rfl, h1, hd⟩ := hd.c
        cases hd.n
        cases h0.str'
        rw [thingC] at ct7
        refine ⟨_, rfl, 1, rfl, -1, rfl, ?_⟩
        refine sl_G (ys := [V.str "double"]) g8.gh hs (fun h => absurd h.2 (by show ¬ HT.sIx 2 2 (some (-1)) = 2; decide)) rfl fun p1 G9 H9 g9 hp1 => ?_
        have D9 := D8.mono g9.h.same
        have e9 := g8.trans (g9.mono fun _ h => h.elim) D8.some'
        have hs9 := same_t e9.gh (same_t g9.g hs)
        refine ⟨_, rfl, _, rfl, _, rfl, at_, _, _, _, rfl, rfl, hs9, (rfl : atI [V.str "double", x1] (-1) = some x1), _, rfl, ?_⟩
        refine below G9 H9 x1 c0 _ e9 D9 (h1.mono g9.g) (by omega) (by omega) fun v' c' G10 H10 g10 s10 D10 dv hc' => ?_
        refine ⟨by show 1 ≤ sizeLine; decide, fun p2 hp2 => ?_⟩
        have g11 := g10.new (o := .tup [v']) hp2 D10.some'
        have D11 := D10.upd (o := .tup [v']) hp2
        have s11 := same_upd (o := .tup [v']) (g10.gh.free hp2)
        refine cat_G g11.gh (same_t (s10.trans s11) hp1) (SqT.of upd_same) (by show 2 ≤ 1000; decide) fun p3 G12 H12 g12 hp3 => ?_
        have e12 := g11.trans (g12.mono fun _ h => h.elim) D11.some'
        refine ⟨G12, vf7, .ref p3, b7, .double c', e12, D11.mono g12.h.same, df7.mono (g9.g.trans (s10.trans (s11.trans g12.g))), cb7, ?_, by rw [thingC]; omega, rfl⟩
        rw [thingD]
        exact .tup hp3 (.cons (.str _) (.cons (dv.mono (s11.trans g12.g)) .nil))
      | loop nm e1 e2 c0 =>
        rw [thingD] at dt7
        obtain ⟨a', xs, e, hs, hd⟩ := dt7.tup'
        cases e
        obtain ⟨x0, r0, rfl, h0, hd⟩ := hd.c
        obtain ⟨x1, r1, rfl, h1, hd⟩ := hd.c
        obtain ⟨x2, r2, rfl, h2, hd⟩ := hd.c
        obtain ⟨x3, r3, rfl, h3, hd⟩ := hd.c
        obtain ⟨x4, r4, rfl, h4, hd⟩ := hd.c
        cases hd.n
        cases h0.str'
        rw [thingC] at ct7
        refine ⟨_, rfl, 1, rfl, -1, rfl, ?_⟩
        refine sl_G (ys := [V.str "for", x1, x2, x3]) g8.gh hs (fun h => absurd h.2 (by show ¬ HT.sIx 5 5 (some (-1)) = 5; decide)) rfl fun p1 G9 H9 g9 hp1 => ?_
        have D9 := D8.mono g9.h.same
        have e9 := g8.trans (g9.mono fun _ h => h.elim) D8.some'
        have hs9 := same_t e9.gh (same_t g9.g hs)
        refine ⟨_, rfl, _, rfl, _, rfl, at_, _, _, _, rfl, rfl, hs9, (rfl : atI [V.str "for", x1, x2, x3, x4] (-1) = some x4), _, rfl, ?_⟩
        refine below G9 H9 x4 c0 _ e9 D9 (h4.mono g9.g) (by omega) (by omega) fun v' c' G10 H10 g10 s10 D10 dv hc' => ?_
        refine ⟨by show 1 ≤ sizeLine; decide, fun p2 hp2 => ?_⟩
        have g11 := g10.new (o := .tup [v']) hp2 D10.some'
        have D11 := D10.upd (o := .tup [v']) hp2
        have s11 := same_upd (o := .tup [v']) (g10.gh.free hp2)
        refine cat_G g11.gh (same_t (s10.trans s11) hp1) (SqT.of upd_same) (by show 5 ≤ 1000; decide) fun p3 G12 H12 g12 hp3 => ?_
        have e12 := g11.trans (g12.mono fun _ h => h.elim) D11.some'
        have sA := g9.g.trans (s10.trans (s11.trans g12.g))
        refine ⟨G12, vf7, .ref p3, b7, .loop nm e1 e2 c', e12, D11.mono g12.h.same, df7.mono sA, cb7, ?_, by rw [thingC]; omega, rfl⟩
        rw [thingD]
        exact .tup hp3 (.cons (.str _) (.cons (h1.mono sA) (.cons (h2.mono sA) (.cons (h3.mono sA) (.cons (dv.mono (s11.trans g12.g)) .nil)))))
    rintro σ H8 ⟨G8, vf8, vt8, b8, t8, g8, D8, df8, cb8, dt8, ct8, rfl⟩
    refine ⟨Md, ?_, ?_⟩
    · obtain ⟨at_, r, rfl, hs⟩ := thing_head dt8
      have hs' := same_t g8.gh hs
      refine ⟨_, rfl, at_, _, _, _, rfl, rfl, hs', atI_nat (j := 0) rfl, rfl, _, rfl, ?_⟩
      refine ite2 (fun c => ?_) (fun _ => ⟨G8, vf8, .ref at_, b8, t8, g8, D8, df8, cb8, dt8, ct8, rfl⟩)
      have c' : wordT t8 = "if" := V.str.inj (of_decide_eq_true c)
      cases t8 with
      | step _ => exact absurd c' (by simp only [wordT]; decide)
      | call _ _ => exact absurd c' (by simp only [wordT]; decide)
      | again _ _ => exact absurd c' (by simp only [wordT]; decide)
      | double _ => exact absurd c' (by simp only [wordT]; decide)
      | loop _ _ _ _ => exact absurd c' (by simp only [wordT]; decide)
      | test e1 e2 c3 c4 =>
        rw [thingD] at dt8
        obtain ⟨a', xs, e, hs, hd⟩ := dt8.tup'
        cases e
        obtain ⟨x0, r0, rfl, h0, hd⟩ := hd.c
        obtain ⟨x1, r1, rfl, h1, hd⟩ := hd.c
        obtain ⟨x2, r2, rfl, h2, hd⟩ := hd.c
        obtain ⟨x3, r3, rfl, h3, hd⟩ := hd.c
        obtain ⟨x4, r4, rfl, h4, hd⟩ := hd.c
        cases hd.n
        cases h0.str'
        rw [thingC] at ct8
        refine ⟨_, rfl, 3, rfl, ?_⟩
        refine sl_G (ys := [V.str "if", x1, x2]) g8.gh hs (fun h => absurd h.2 (by show ¬ HT.sIx 5 5 (some 3) = 5; decide)) rfl fun p1 G9 H9 g9 hp1 => ?_
        have D9 := D8.mono g9.h.same
        have e9 := g8.trans (g9.mono fun _ h => h.elim) D8.some'
        have hs9 := same_t e9.gh (same_t g9.g hs)
        refine ⟨_, rfl, _, rfl, at_, _, _, _, rfl, rfl, hs9, (rfl : atI [V.str "if", x1, x2, x3, x4] 3 = some x3), _, rfl, ?_⟩
        refine below G9 H9 x3 c3 _ e9 D9 (h3.mono g9.g) (by omega) (by omega) fun v3 c3' G10 H10 g10 s10 D10 dv3 hc3 => ?_
        have hs10 := same_t g10.gh (same_t (g9.g.trans s10) hs)
        refine ⟨_, rfl, _, rfl, at_, _, _, _, rfl, rfl, hs10, (rfl : atI [V.str "if", x1, x2, x3, x4] 4 = some x4), _, rfl, ?_⟩
        refine below G10 H10 x4 c4 _ g10 D10 (h4.mono (g9.g.trans s10)) (by omega) (by omega) fun v4' c4' G11 H11 g11 s11 D11 dv4 hc4 => ?_
        refine ⟨by show 2 ≤ sizeLine; decide, fun p2 hp2 => ?_⟩
        have g12 := g11.new (o := .tup [v3, v4']) hp2 D11.some'
        have D12 := D11.upd (o := .tup [v3, v4']) hp2
        have s12 := same_upd (o := .tup [v3, v4']) (g11.gh.free hp2)
        refine cat_G g12.gh (same_t (s10.trans (s11.trans s12)) hp1) (SqT.of upd_same) (by show 5 ≤ 1000; decide) fun p3 G13 H13 g13 hp3 => ?_
        have e13 := g12.trans (g13.mono fun _ h => h.elim) D12.some'
        have sA := g9.g.trans (s10.trans (s11.trans (s12.trans g13.g)))
        refine ⟨G13, vf8, .ref p3, b8, .test e1 e2 c3' c4', e13, D12.mono g13.h.same, df8.mono sA, cb8, ?_, by rw [thingC]; omega, rfl⟩
        rw [thingD]
        exact .tup hp3 (.cons (.str _) (.cons (h1.mono sA) (.cons (h2.mono sA) (.cons (dv3.mono (s11.trans (s12.trans g13.g))) (.cons (dv4.mono (s12.trans g13.g)) .nil)))))
    rintro σ H9 ⟨G9, vf9, vt9, b9, t9, g9, D9, df9, cb9, dt9, ct9, rfl⟩
    refine ⟨_, rfl, _, rfl, by show 1 ≤ sizeLine; decide, fun p2 hp2 => ?_⟩
    have g10 := g9.new (o := .tup [vt9]) hp2 D9.some'
    have D10 := D9.upd (o := .tup [vt9]) hp2
    have s10 := same_upd (o := .tup [vt9]) (g9.gh.free hp2)
    obtain ⟨af, fs, rfl, hfs, hdf⟩ := df9.tup'
    have lf : fs.length = b9.length := by
      have := hdf.length
      rw [thingsD_eq, List.length_map] at this
      exact this
    have cl9 := thingsC_len b9
    have ctk := take_C b i
    refine cat_G g10.gh (same_t s10 hfs) (SqT.of upd_same) (by simp; omega) fun p3 G11 H11 g11 hp3 => ?_
    have e11 := g10.trans (g11.mono fun _ h => h.elim) D10.some'
    refine ⟨G11, .ref p3, b9 ++ [t9], e11, D10.mono g11.h.same, ?_, ?_, _, rfl⟩
    · unfold planD
      rw [thingsD_eq, List.map_append, ← thingsD_eq]
      exact .tup hp3 (DpAll_app (hdf.mono (s10.trans g11.g)) (.cons (dt9.mono (s10.trans g11.g)) .nil))
    · rw [thingsC_snoc, cb9, ct9, take_snoc ht, thingsC_snoc]
  · rintro σ H5 ⟨G5, vf, b5, g5, D5, df, cb5, v4, rfl⟩
    refine ⟨_, rfl, k vf b5 G5 H5 g5 D5 df ?_⟩
    rw [cb5, lu, List.take_length]
theorem with_calls_all (T : Txt K mg) : ∀ f : Nat, FnOk P w K mg base CX0 (f + 4) T.a_law_with_calls T.d_law_with_calls ["_law_draw", "_law_plan", "_law_names"] (spWithC K f)
  | 0 => by
    have no : ∀ vs H Q E, ¬ spWithC K 0 vs H Q E := fun vs H Q E h => by
      obtain ⟨d, l, na, names, G, v, b, _, _, _, _, _, _, _, _, h1, _⟩ := h
      omega
    exact ⟨fun vs H Q E h => absurd h (no vs H Q E), fun A outer s H args us vs Q E _ _ _ _ h => absurd h (no vs H Q E)⟩
  | f + 1 => with_calls_step T f (with_calls_all T f)
theorem ok_law_with_calls (T : Txt K mg) : FnOk P w K mg base CX0 19 T.a_law_with_calls T.d_law_with_calls ["_law_draw", "_law_plan", "_law_names"] (spWithC K 15) := with_calls_all T 15
theorem kept_split : Txt.split "step for from to if else double call with again on halves thirds less n" " " = keptL := by decide +kernel
/-- the kept words, a new list -/
def spKept : Sp := fun vs H Q _ => vs = [] ∧ ∀ p, H p = none → Q (.ref p) (upd H p (.lst (keptL.map V.str)))
theorem ok_law_kept_words (T : Txt K mg) : FnOk P w K mg base CX0 1 T.a_law_kept_words T.d_law_kept_words [] spKept := by
  refine T.F_law_kept_words.ok sc_law_kept_words (fun vs H Q E h => ?_) (fun cdv A outer s H vs Q E hr h => ?_)
  · obtain ⟨rfl, _⟩ := h
    rfl
  obtain ⟨rfl, k⟩ := h
  refine ⟨_, (pss_one (ps_ret (pe_split pe_str pe_str))), ?_⟩
  refine ⟨⟨_, rfl⟩, _, _, rfl, rfl, by decide +kernel, by decide +kernel, fun p hp => ?_⟩
  rw [kept_split]
  exact k p hp
/-- a name that is free -/
def spFresh (K : PySem.W.Frag) : Sp := fun vs H Q _ => ∃ (d l ta : Addr) (taken : List Str), vs = [.ref d, .ref ta] ∧ DrawAt H d l ∧ H ta = some (.lst (taken.map V.str)) ∧ taken.length ≤ 25 ∧
  ∀ (nm : Str) (H' : Hp), But (Only1 d) H H' → DrawAt H' d l → NameOk nm → nm ∉ taken → Q (.str nm) H'
theorem signs_sum : ∀ cs : List Nat, ((cs.map fun c => (⟨#[c]⟩ : Str)).map (·.length)).sum = cs.length
  | [] => rfl
  | c :: r => by
    rw [List.map_cons, List.map_cons, List.sum_cons, signs_sum r, List.length_cons]
    show 1 + _ = _
    omega
theorem ok_law_fresh (T : Txt K mg) : FnOk P w K mg base CX0 3 T.a_law_fresh T.d_law_fresh ["_law_draw", "_law_taken"] (spFresh K) := by
  refine T.F_law_fresh.ok sc_law_fresh (fun vs H Q E h => ?_) (fun cdv A outer s H vs Q E hr h => ?_)
  · obtain ⟨d, l, ta, taken, rfl, _⟩ := h
    rfl
  obtain ⟨d, l, ta, taken, rfl, D, et, tl, k⟩ := h
  refine ⟨_, (pss_cons (ps_set (i := 2) sc_law_fresh.nd rfl (Or.inl rfl) (pe_ix ix_list (pe_lst (pa_cons pe_int (pa_cons pe_int (pa_cons pe_int (pa_cons pe_int (pa_cons pe_int (pa_cons (pe_op op_add pe_int (pe_call (ok_law_take T) (hr.mono (by decide)) (by rfl) T.g_law_take T.F_law_take.kp T.b_law_take .nil pass0 (pa_cons (pv 0) (pa_cons pe_int pa_nil)))) pa_nil))))))) (pe_call (ok_law_take T) (hr.mono (by decide)) (by rfl) T.g_law_take T.F_law_take.kp T.b_law_take .nil pass0 (pa_cons (pv 0) (pa_cons pe_int pa_nil))) (fun _ _ => rfl)))
      (pss_cons (ps_set (i := 3) sc_law_fresh.nd rfl (Or.inl rfl) (pe_join pe_str (pe_lc (own := [("_law_k", 6)]) (g := gName 6) (tt := tYes) rfl sc_law_fresh.nd (pi_range1 (by rfl) T.z_range (pa_cons (pv 2) pa_nil)) (blkOk_by (N := N_law_fresh) (sc := defScope s_law_fresh) (by decide +kernel)) (fun _ _ _ _ _ => (pg_name (i := 6) sc_law_fresh.nd rfl (Or.inl rfl))) (fun _ _ _ _ _ => pts_nil) (fun _ _ _ _ _ => (pe_call (ok_law_pick T) (hr.mono (by decide)) (by rfl) T.g_law_pick T.F_law_pick.kp T.b_law_pick .nil pass0 (pa_cons (pv 0) (pa_cons pe_str pa_nil)))))))
      (C8.pss_cut (ps_if (PW.pt (pw_and (pt_cmpR op_notIn_seq (pv 3) (pv 1) (by rfl)) (pw_and1 (pt_cmpR op_notIn_seq (pv 3) (pe_call0 (ok_law_kept_words T) (hr.mono (by decide)) (by rfl) T.g_law_kept_words T.F_law_kept_words.kp T.b_law_kept_words .nil pass0) (by rfl))))) (pss_one (ps_ret (pv 3))) pss_nil)
      (pss_cons (ps_setLc (i := 4) (own := [("_law_sign", 5)]) (g := gName 5) (tt := tYes) rfl sc_law_fresh.nd rfl rfl (sw_true rfl rfl rfl (by decide +kernel)) (pi_str pe_str) (blkOk_by (N := N_law_fresh) (sc := defScope s_law_fresh) (by decide +kernel)) (fun _ _ _ _ _ => (pg_name (i := 5) sc_law_fresh.nd rfl (Or.inl rfl))) (fun _ _ _ _ _ => pts_nil) (fun _ _ _ _ _ => (pe_op op_repS (pv 5) pe_int)))
      (pss_one (ps_ret (pe_ix ix_list (pe_lc (own := [("_law_one", 7)]) (g := gName 7) (tt := _) rfl sc_law_fresh.nd (pi_list (pv 4)) (blkOk_by (N := N_law_fresh) (sc := defScope s_law_fresh) (by decide +kernel)) (fun _ _ _ _ _ => (pg_name (i := 7) sc_law_fresh.nd rfl (Or.inl rfl))) (fun _ _ _ _ _ => (pts_one (pt_cmpR (r := rIn K true) op_notIn_seq (pv 7) (pv 1) (by rfl)))) (fun _ _ _ _ _ => (pv 7))) pe_int (fun _ _ => rfl)))))))), ?_⟩
  have ntd : ta ≠ d := by
    rintro rfl
    obtain ⟨ns, p, z, s, e, _⟩ := D.ex
    rw [et] at e
    cases taken with
    | nil => cases e
    | cons x r => cases e
  refine ⟨_, rfl, d, l, 8, rfl, D, by decide, by decide, fun m1 H1 a0 a1 D1 b1 => ?_⟩
  refine ⟨_, _, rfl, rfl, by show 6 ≤ sizeLine; decide, fun L1 hL1 => ?_⟩
  have D2 := D1.upd (o := .lst [.int 1, .int 1, .int 2, .int 3, .int 8, .int (1 + m1)]) hL1
  refine ⟨_, rfl, d, l, 6, rfl, D2, by decide, by decide, fun j H3 j0 j1 D3 b3 => ?_⟩
  obtain ⟨m, hm, hm0, hm1⟩ : ∃ m : Nat, atI [V.int 1, .int 1, .int 2, .int 3, .int 8, .int (1 + m1)] j = some (.int (m : Nat)) ∧ 1 ≤ m ∧ m ≤ 8 := by
    obtain ⟨n, rfl⟩ : ∃ n : Nat, j = (n : Int) := ⟨j.toNat, by omega⟩
    match n, j1 with
    | 0, _ => exact ⟨1, rfl, by decide, by decide⟩
    | 1, _ => exact ⟨1, rfl, by decide, by decide⟩
    | 2, _ => exact ⟨2, rfl, by decide, by decide⟩
    | 3, _ => exact ⟨3, rfl, by decide, by decide⟩
    | 4, _ => exact ⟨8, rfl, by decide, by decide⟩
    | 5, _ => exact ⟨(1 + m1).toNat, by rw [show (((1 + m1).toNat : Nat) : Int) = 1 + m1 by omega]; rfl, by omega, by omega⟩
    | n + 6, e => omega
  have b03 : But (Only1 d) H H3 := (b1.trans (But.new hL1)).trans b3
  refine ⟨L1, _, _, _, rfl, rfl, SqL.of (b3 _ _ upd_same (D1.ned hL1)), hm, ?_⟩
  refine ⟨⟨_, rfl⟩, ?_⟩
  refine ⟨_, rfl, (m : Int), rfl, by omega, by omega, fun R hR => ?_⟩
  have nRd := D3.ned hR
  refine lc_it walk_range (fun i H' => But (Only1 d) H3 H' ∧ DrawAt H' d l ∧ ∃ cs : List Nat, cs.length = i ∧ (∀ c ∈ cs, 97 ≤ c ∧ c ≤ 122) ∧ H' R = some (.lst (cs.map fun c => V.str ⟨#[c]⟩))) ⟨But.new hR, D3.upd hR, [], rfl, (fun _ h => nomatch h), upd_same⟩ (fun _ _ _ _ => trivial) ?_ ?_
  · rintro i x H5 H6 hi ⟨b5, D5, cs, lc, cl, eR⟩ ⟨rfl, rfl⟩
    have hi : i < m := by
      have hi : i < ((m : Int) - 0).toNat := hi
      omega
    refine ⟨rfl, ?_⟩
    refine ⟨_, rfl, d, l, _, rfl, D5, .inl ⟨letters, rfl, by decide +kernel, by decide +kernel, fun c H7 hc D7 b7 => ?_⟩⟩
    have eR7 := b7 _ _ eR nRd
    refine ⟨_, eR7, by rw [List.length_map, lc]; exact Nat.lt_of_lt_of_le hi (Nat.le_trans hm1 (by decide)), ?_⟩
    refine ⟨(b5.trans b7).put0 hR, D7.put nRd (D3.nel hR), cs ++ [c], by rw [List.length_append, lc]; rfl, fun c' h => ?_, by rw [upd_same, List.map_append]; rfl⟩
    rcases List.mem_append.mp h with h | h
    · exact cl c' h
    · rw [List.mem_singleton.mp h]
      exact letters_ok c hc
  rintro H5 ⟨b5, D5, cs, lc, cl, eR⟩
  have lc : cs.length = m := by
    have lc : cs.length = ((m : Int) - 0).toNat := lc
    omega
  refine ⟨_, R, cs.map fun c => (⟨#[c]⟩ : Str), rfl, rfl, .inl (SqL.of (by rw [eR, List.map_map]; rfl)), ?_, ?_⟩
  · rw [List.length_map, signs_sum]
    have e0 : (Str.ofString "").length = 0 := by decide
    rw [e0]
    omega
  rw [join_signs]
  have b05 := b03.trans b5
  have et5 := b05 _ _ et ntd
  have nl : (⟨cs.toArray⟩ : Str).length = m := by
    show cs.toArray.size = m
    rw [List.size_toArray]
    exact lc
  have kn : ∀ H8, But (Only1 d) H H8 → DrawAt H8 d l → ¬ (⟨cs.toArray⟩ : Str) ∈ taken → ¬ (⟨cs.toArray⟩ : Str) ∈ keptL → Q (.str ⟨cs.toArray⟩) H8 := fun H8 b8 D8 h1 h2 =>
    k _ H8 b8 D8 ⟨by rw [nl]; exact hm0, by rw [nl]; exact hm1, cl, h2⟩ h1
  refine ⟨fun σ H' => But (Only1 d) H H' ∧ DrawAt H' d l ∧ ∃ v2 v3 v4 v5 v6 v7, σ = [some (.ref d), some (.ref ta), v2, v3, v4, v5, v6, v7], ?_, ?_⟩
  · refine ⟨_, rfl, _, rfl, ta, _, rfl, .inl (SqL.of et5), rfl, flat_strs _, _, rfl, ?_⟩
    rw [show (if true = true then !inV (V.str ⟨cs.toArray⟩) (taken.map V.str) else inV (V.str ⟨cs.toArray⟩) (taken.map V.str)) = !decide ((⟨cs.toArray⟩ : Str) ∈ taken) by rw [if_pos rfl, inV_strs]]
    refine ite2 (fun c1 => ?_) (fun c1 => ?_)
    · have c1' : ¬ (⟨cs.toArray⟩ : Str) ∈ taken := by simpa using c1
      refine ⟨_, rfl, rfl, fun p hp => ⟨p, _, rfl, .inl (SqL.of upd_same), rfl, flat_strs _, _, rfl, ?_⟩⟩
      rw [show (if true = true then !inV (V.str ⟨cs.toArray⟩) (keptL.map V.str) else inV (V.str ⟨cs.toArray⟩) (keptL.map V.str)) = !decide ((⟨cs.toArray⟩ : Str) ∈ keptL) by rw [if_pos rfl, inV_strs]]
      have b6 := b05.trans (But.new (o := .lst (keptL.map V.str)) hp)
      have D6 := D5.upd (o := .lst (keptL.map V.str)) hp
      refine ite2 (fun c2 => ?_) (fun c2 => ?_)
      · have c2' : ¬ (⟨cs.toArray⟩ : Str) ∈ keptL := by simpa using c2
        exact ⟨_, rfl, kn _ b6 D6 c1' c2'⟩
      · exact ⟨b6, D6, _, _, _, _, _, _, rfl⟩
    · exact iteF ⟨b05, D5, _, _, _, _, _, _, rfl⟩
  · rintro σ H6 ⟨b6, D6, v2, v3, v4, v5, v6, v7, rfl⟩
    refine ⟨letters, rfl, fun S hS => ?_⟩
    have n26 : letters.cps.size = 26 := by decide +kernel
    have sp26 : spares.length = 26 := spares_len
    have rep_ok : ∀ c : Nat, (repS (⟨#[c]⟩ : Str) 2).length = 2 := fun c => rfl
    refine lc_pure walk_str (fun j => .str (spares.getD j Str.empty)) (by rw [n26]; decide) hS (fun _ _ => trivial) ?_ ?_
    · rintro j x H7 H8 Q' hj s7 ⟨rfl, c, hc, rfl⟩ kq
      have e : spares.getD j Str.empty = repS (⟨#[c]⟩ : Str) 2 := by
        refine getD_of' ?_
        unfold spares
        rw [List.getElem?_map, Array.getElem?_toList, hc]
        rfl
      refine ⟨rfl, ?_⟩
      refine ⟨_, rfl, _, 2, rfl, rfl, by decide, by decide, (by show 0 < 1; decide), (by show 1 * 2 ≤ 2 ^ 20; decide), (by show 2 ≤ sizeLine; decide), ?_⟩
      have q := kq _ (Same.refl _)
      rw [e] at q
      exact q
    intro H7 s7 eS
    have eS : H7 S = some (.lst (spares.map V.str)) := by
      rw [eS, n26, ← sp26]
      show some (HO.lst ((List.range _).map (V.str ∘ fun j => spares.getD j Str.empty))) = _
      rw [← List.map_map, range_getD]
    have b7 := b6.trans (same_but s7)
    have et7 := b7 _ _ et ntd
    refine ⟨_, rfl, S, rfl, ⟨_, SqL.of eS⟩, fun R2 hR2 => ?_⟩
    refine lc_it (walk_list (xs := spares.map V.str)) (fun i H' => Same H7 H' ∧ H' R2 = some (.lst (((spares.take i).filter fun x => !decide (x ∈ taken)).map V.str))) ⟨same_upd hR2, upd_same⟩ (fun i H' _ p => SqL.of (p.1 _ _ eS)) ?_ ?_
    · rintro i x H8 H9 hi ⟨s8, eR2⟩ ⟨rfl, hx⟩
      rw [List.getElem?_map] at hx
      obtain ⟨y, hy, rfl⟩ : ∃ y, spares[i]? = some y ∧ x = .str y := by
        cases h : spares[i]? with
        | none => rw [h] at hx; cases hx
        | some y => rw [h] at hx; exact ⟨y, rfl, (Option.some.inj hx).symm⟩
      refine ⟨rfl, ?_⟩
      refine ⟨_, rfl, _, rfl, ta, _, rfl, .inl (SqL.of (s8 _ _ et7)), rfl, flat_strs _, _, rfl, ?_⟩
      rw [show (if true = true then !inV (V.str y) (taken.map V.str) else inV (V.str y) (taken.map V.str)) = !decide (y ∈ taken) by rw [if_pos rfl, inV_strs]]
      have e : (spares.take (i + 1)).filter (fun x => !decide (x ∈ taken)) = (spares.take i).filter (fun x => !decide (x ∈ taken)) ++ (if (!decide (y ∈ taken)) = true then [y] else []) := by
        rw [take_snoc hy, List.filter_append, List.filter_cons, List.filter_nil]
      refine ite2 (fun c => ?_) (fun c => ?_)
      · rw [if_pos c] at e
        refine ⟨_, rfl, _, eR2, ?_, same_put s8 hR2, ?_⟩
        · rw [List.length_map]
          refine Nat.lt_of_le_of_lt (List.length_filter_le ..) ?_
          rw [List.length_take, sp26]
          exact Nat.lt_of_le_of_lt (Nat.min_le_right ..) (by decide)
        · rw [upd_same, e, List.map_append]
          rfl
      · rw [if_neg c, List.append_nil] at e
        rw [e]
        exact ⟨s8, eR2⟩
    rintro H8 ⟨s8, eR2⟩
    have ef : (spares.take (spares.map V.str).length).filter (fun x => !decide (x ∈ taken)) = spares.filter fun x => !decide (x ∈ taken) := by
      rw [List.length_map, List.take_length]
    rw [ef] at eR2
    obtain ⟨x, hx1, hx2⟩ := spare_free tl
    cases hz : spares.filter (fun x => !decide (x ∈ taken)) with
    | nil =>
      have : x ∈ spares.filter (fun x => !decide (x ∈ taken)) := List.mem_filter.mpr ⟨hx1, by simpa using hx2⟩
      rw [hz] at this
      cases this
    | cons y r =>
      rw [hz] at eR2
      have hy : y ∈ spares.filter (fun x => !decide (x ∈ taken)) := by rw [hz]; exact List.mem_cons_self ..
      obtain ⟨hy1, hy2⟩ := List.mem_filter.mp hy
      obtain ⟨o1, o2, o3⟩ := spares_ok y hy1
      refine ⟨R2, _, _, _, rfl, rfl, SqL.of eR2, atI_nat (j := 0) (xs := V.str y :: r.map V.str) rfl, ?_⟩
      exact k y _ (b7.trans (same_but s8)) ((D6.mono s7).mono s8) ⟨by omega, by omega, o2, o3⟩ (by simpa using hy2)
/-- an end, frozen -/
def spSomeEnd (K : PySem.W.Frag) : Sp := fun vs H Q _ => ∃ (d l sa : Addr) (sc : List Str) (wide : Bool) (G : Hp), vs = [.ref d, .ref sa, .bl wide] ∧ Same G H ∧ G d = none ∧ DrawAt H d l ∧ G sa = some (.lst (sc.map V.str)) ∧ sc ≠ [] ∧ sc.length ≤ 1000 ∧
  ∀ (v : V) (e : En) (G' H' : Hp), Grow (Only1 d) G H G' H' → DrawAt H' d l → Dp K G' v (endD e) → EndOk wide sc e → Q v H'
theorem ok_law_some_end (T : Txt K mg) : FnOk P w K mg base CX0 3 T.a_law_some_end T.d_law_some_end ["_law_draw", "_law_scope", "_law_wide"] (spSomeEnd K) := by
  refine T.F_law_some_end.ok sc_law_some_end (fun vs H Q E h => ?_) (fun cdv A outer s H vs Q E hr h => ?_)
  · obtain ⟨d, l, sa, sc, wide, G, rfl, _⟩ := h
    rfl
  obtain ⟨d, l, sa, sc, wide, G, rfl, sg, gd, D, es, sne, sl, k⟩ := h
  refine ⟨_, (pss_cons (ps_set (i := 3) sc_law_some_end.nd rfl (Or.inl rfl) (pe_ix ix_list (pe_lst (pa_cons pe_int (pa_cons (pe_call (ok_law_take T) (hr.mono (by decide)) (by rfl) T.g_law_take T.F_law_take.kp T.b_law_take .nil pass0 (pa_cons (pv 0) (pa_cons pe_int pa_nil))) (pa_cons (pe_call (ok_law_take T) (hr.mono (by decide)) (by rfl) T.g_law_take T.F_law_take.kp T.b_law_take .nil pass0 (pa_cons (pv 0) (pa_cons (pe_ix ix_list (pe_lst (pa_cons pe_int (pa_cons pe_int pa_nil))) (pe_callTy call_int1 (by rfl) T.z_int (by decide +kernel) (pa_cons (pv 2) pa_nil)) (fun _ _ => rfl)) pa_nil))) pa_nil)))) (pe_call (ok_law_take T) (hr.mono (by decide)) (by rfl) T.g_law_take T.F_law_take.kp T.b_law_take .nil pass0 (pa_cons (pv 0) (pa_cons pe_int pa_nil))) (fun _ _ => rfl)))
      (pss_cons (ps_if (pt_cmpR op_eq (pe_call (ok_law_take T) (hr.mono (by decide)) (by rfl) T.g_law_take T.F_law_take.kp T.b_law_take .nil pass0 (pa_cons (pv 0) (pa_cons pe_int pa_nil))) pe_int (nomark _)) (pss_one (ps_ret (pe_tup (pa_cons pe_str (pa_cons (pv 3) pa_nil))))) pss_nil)
      (pss_one (ps_ret (pe_tup (pa_cons (pe_call (ok_law_pick T) (hr.mono (by decide)) (by rfl) T.g_law_pick T.F_law_pick.kp T.b_law_pick .nil pass0 (pa_cons (pv 0) (pa_cons (pv 1) pa_nil))) (pa_cons (pe_op op_mul (pv 3) (pe_ix ix_list (pe_lst (pa_cons pe_int (pa_cons (pe_un un_neg pe_int) pa_nil))) (pe_call (ok_law_take T) (hr.mono (by decide)) (by rfl) T.g_law_take T.F_law_take.kp T.b_law_take .nil pass0 (pa_cons (pv 0) (pa_cons pe_int pa_nil))) (fun _ _ => rfl))) pa_nil))))))), ?_⟩
  have nsd : sa ≠ d := fun e => by rw [e, gd] at es; cases es
  have gr0 : Grow (Only1 d) G H G H := Grow.refl sg
  refine ⟨_, rfl, d, l, 5, rfl, D, by decide, by decide, fun m1 H1 a0 a1 D1 b1 => ?_⟩
  have gr1 := gr0.trans (Grow.draw gr0.gh gd b1) D.some'
  refine ⟨_, rfl, by show 2 ≤ sizeLine; decide, fun L1 hL1 => ?_⟩
  have gr2 := gr1.cell (o := .lst [.int 5, .int 100]) hL1
  have D2 := D1.upd (o := .lst [.int 5, .int 100]) hL1
  have at5 : atI [V.int 5, V.int 100] (if wide then 1 else 0) = some (.int (if wide then 100 else 5)) := by cases wide <;> rfl
  have w5 : (0 : Int) < (if wide then 100 else 5) ∧ (if wide then (100 : Int) else 5) ≤ 100 := by cases wide <;> decide
  have w6 : (5 : Int) ≤ (if wide then 100 else 5) := by cases wide <;> decide
  refine ⟨_, rfl, .inr ⟨wide, rfl, ?_⟩⟩
  refine ⟨L1, _, _, _, rfl, rfl, SqL.of upd_same, at5, d, l, _, rfl, D2, w5.1, Int.lt_of_le_of_lt w5.2 (by decide), fun m2 H3 c0 c1 D3 b3 => ?_⟩
  have gr3 := gr2.trans (Grow.draw gr2.gh gd b3) D2.some'
  refine ⟨by show 3 ≤ sizeLine; decide, fun L2 hL2 => ?_⟩
  have gr4 := gr3.cell (o := .lst [.int 0, .int m1, .int m2]) hL2
  have D4 := D3.upd (o := .lst [.int 0, .int m1, .int m2]) hL2
  refine ⟨_, rfl, d, l, 3, rfl, D4, by decide, by decide, fun j H5 j0 j1 D5 b5 => ?_⟩
  have gr5 := gr4.trans (Grow.draw gr4.gh gd b5) D4.some'
  obtain ⟨m, hm, hm0, hm1⟩ : ∃ m : Int, atI [V.int 0, V.int m1, V.int m2] j = some (.int m) ∧ 0 ≤ m ∧ m < (if wide then 100 else 5) := by
    obtain ⟨n, rfl⟩ : ∃ n : Nat, j = (n : Int) := ⟨j.toNat, by omega⟩
    match n, j1 with
    | 0, _ => exact ⟨0, rfl, by decide, w5.1⟩
    | 1, _ => exact ⟨m1, rfl, a0, by omega⟩
    | 2, _ => exact ⟨m2, rfl, c0, c1⟩
    | n + 3, e => omega
  refine ⟨L2, _, _, _, rfl, rfl, SqL.of (b5 _ _ upd_same (D3.ned hL2)), hm, ?_⟩
  have hmn : m.natAbs < (if wide then 100 else 5) := by cases wide <;> simp at hm1 ⊢ <;> omega
  refine ⟨_, rfl, d, l, 3, rfl, D5, by decide, by decide, fun q H6 q0 q1 D6 b6 => ?_⟩
  have gr6 := gr5.trans (Grow.draw gr5.gh gd b6) D5.some'
  have tupOk : ∀ (H7 : Hp) (x : Str) (i : Int) (p : Addr), Grow (Only1 d) G H G H7 → DrawAt H7 d l → H7 p = none → EndOk wide sc (x, i) → Q (.ref p) (upd H7 p (.tup [.str x, .int i])) := fun H7 x i p g7 D7 hp eo => by
    have g8 := g7.new (o := .tup [.str x, .int i]) hp D7.some'
    exact k _ (x, i) _ _ g8 (D7.upd hp) (.tup (xs := [.str x, .int i]) (SqT.of upd_same) (.cons (.str _) (.cons (.int _) .nil))) eo
  refine ⟨rfl, _, rfl, ite2 (fun _ => ?_) (fun _ => ?_)⟩
  · refine ⟨_, rfl, by show 2 ≤ sizeLine; decide, fun p hp => ?_⟩
    exact tupOk _ "" m p gr6 D6 hp ⟨hmn, .inl ⟨rfl, hm0⟩⟩
  · have es6 : H6 sa = some (.lst (sc.map V.str)) := gr6.gh _ _ es
    have sp : 0 < sc.length := List.length_pos_iff.mpr sne
    refine ⟨_, rfl, _, rfl, d, l, _, rfl, D6, .inr ⟨sa, _, rfl, nsd, .inl (SqL.of es6), by rw [List.length_map]; exact sp, by rw [List.length_map]; omega, fun v H7 hv D7 b7 => ?_⟩⟩
    obtain ⟨x, hx, rfl⟩ := List.mem_map.mp hv
    have gr7 := gr6.trans (Grow.draw gr6.gh gd b7) D6.some'
    refine ⟨_, rfl, _, rfl, by show 2 ≤ sizeLine; decide, fun L3 hL3 => ?_⟩
    have gr8 := gr7.cell (o := .lst [.int 1, .int (-1)]) hL3
    have D8 := D7.upd (o := .lst [.int 1, .int (-1)]) hL3
    refine ⟨_, rfl, d, l, 2, rfl, D8, by decide, by decide, fun z H9 z0 z1 D9 b9 => ?_⟩
    have gr9 := gr8.trans (Grow.draw gr8.gh gd b9) D8.some'
    obtain ⟨y, hy, hy2⟩ : ∃ y : Int, atI [V.int 1, V.int (-1)] z = some (.int y) ∧ (y = 1 ∨ y = -1) := by
      obtain ⟨n, rfl⟩ : ∃ n : Nat, z = (n : Int) := ⟨z.toNat, by omega⟩
      match n, z1 with
      | 0, _ => exact ⟨1, rfl, .inl rfl⟩
      | 1, _ => exact ⟨-1, rfl, .inr rfl⟩
      | n + 2, e => omega
    have yn : (m * y).natAbs < (if wide then 100 else 5) := by
      rcases hy2 with rfl | rfl
      · rw [Int.mul_one]; exact hmn
      · rw [Int.mul_neg, Int.mul_one, Int.natAbs_neg]; exact hmn
    refine ⟨L3, _, _, _, rfl, rfl, SqL.of (b9 _ _ upd_same (D7.ned hL3)), hy, _, _, rfl, rfl, .inr (by rcases hy2 with rfl | rfl <;> decide), by show 2 ≤ sizeLine; decide, fun p hp => ?_⟩
    exact tupOk _ x (m * y) p gr9 D9 hp ⟨yn, .inr hx⟩
def spLeaf (K : PySem.W.Frag) : Sp := fun vs H Q _ => ∃ (d l kc dk sa : Addr) (sc : List Str) (k : Kit) (r : Int) (deep : Nat) (G : Hp), vs = [.ref d, .ref kc, .ref sa, .int (deep : Nat)] ∧ Same G H ∧ G d = none ∧ DrawAt H d l ∧ KitAt H kc dk r k ∧ KnAt G dk k.kn ∧
  G sa = some (.lst (sc.map V.str)) ∧ (Str.ofString "n") ∈ sc ∧ sc.length ≤ 25 ∧
  ∀ (v : V) (t : Thing) (G' H' : Hp), Grow (Only1 d) G H G' H' → DrawAt H' d l → Dp K G' v (thingD t) → ThOk k t sc deep → thingC t = 1 → Q v H'
theorem ok_law_leaf (T : Txt K mg) : FnOk P w K mg base CX0 4 T.a_law_leaf T.d_law_leaf ["_law_draw", "_law_kit", "_law_scope", "_law_deep"] (spLeaf K) := by
  refine T.F_law_leaf.ok sc_law_leaf (fun vs H Q E h => ?_) (fun cdv A outer s H vs Q E hr h => ?_)
  · obtain ⟨d, l, kc, dk, sa, sc, k, r, deep, G, rfl, _⟩ := h
    rfl
  obtain ⟨d, l, kc, dk, sa, sc, k, r, deep, G, rfl, sg, gd, D, kit, kn, es, hn, sl, q⟩ := h
  refine ⟨_, (pss_cons (ps_setLc (i := 5) (own := [("_law_name", 4)]) (g := gName 4) (tt := _) rfl sc_law_leaf.nd rfl rfl (sw_true rfl rfl rfl (by decide +kernel)) (pi_list (pe_callB (call_sortedD rfl) (by rfl) T.z_sorted (by decide +kernel) (pa_cons (pe_ix ix_list (pv 1) pe_int (fun _ _ => rfl)) pa_nil))) (blkOk_by (N := N_law_leaf) (sc := defScope s_law_leaf) (by decide +kernel)) (fun _ _ _ _ _ => (pg_name (i := 4) sc_law_leaf.nd rfl (Or.inl rfl))) (fun _ _ _ _ _ => (pts_one (PW.pt (pw_and (pt_cmpR op_lt (pe_op op_add (pe_ix (r := rIxT K) ix_tup (pe_dget (hu_of hr) (pe_ix (r := rIxL K) ix_list (pv 1) pe_int (fun _ _ => rfl)) (pv 4) (fun _ _ => rfl)) pe_int (fun _ _ => rfl)) (pv 3)) pe_int (nomark _)) (pw_and1 (pt_cmpR op_lt (pe_ix (r := rIxT K) ix_tup (pe_dget (hu_of hr) (pe_ix (r := rIxL K) ix_list (pv 1) pe_int (fun _ _ => rfl)) (pv 4) (fun _ _ => rfl)) pe_int (fun _ _ => rfl)) pe_int (nomark _))))))) (fun _ _ _ _ _ => (pv 4)))
      (C8.pss_cut (ps_if (PW.pt (pw_and (pt_cmpR (op_neD hr.units) (pv 5) (pe_lst pa_nil) (nomark _)) (pw_and1 (pt_cmpR op_eq (pe_call (ok_law_take T) (hr.mono (by decide)) (by rfl) T.g_law_take T.F_law_take.kp T.b_law_take .nil pass0 (pa_cons (pv 0) (pa_cons pe_int pa_nil))) pe_int (nomark _))))) (pss_cons (ps_set (i := 4) sc_law_leaf.nd rfl (Or.inl rfl) (pe_call (ok_law_pick T) (hr.mono (by decide)) (by rfl) T.g_law_pick T.F_law_pick.kp T.b_law_pick .nil pass0 (pa_cons (pv 0) (pa_cons (pv 5) pa_nil))))
      (pss_cons (ps_set (i := 6) sc_law_leaf.nd rfl (Or.inl rfl) (pe_call (ok_law_some_end T) (hr.mono (by decide)) (by rfl) T.g_law_some_end T.F_law_some_end.kp T.b_law_some_end .nil pass0 (pa_cons (pv 0) (pa_cons (pv 2) (pa_cons (pe_ix ix_list (pv 1) pe_int (fun _ _ => rfl)) pa_nil)))))
      (pss_one (ps_ret (pe_tup (pa_cons pe_str (pa_cons (pv 4) (pa_cons (pe_ifExp (PW.pt (pw_and (pt_val (pe_ix ix_tup (pe_dget (hu_of hr) (pe_ix ix_list (pv 1) pe_int (fun _ _ => rfl)) (pv 4) (fun _ _ => rfl)) pe_int (fun _ _ => rfl))) (pw_and1 (pt_cmpR op_ne (pe_ix ix_tup (pv 6) pe_int (fun _ _ => rfl)) pe_str (nomark _))))) (pe_tup (pa_cons pe_str (pa_cons pe_int pa_nil))) (pv 6)) pa_nil)))))))) pss_nil)
      (pss_one (ps_ret (pe_tup (pa_cons pe_str (pa_cons (pe_ix ix_list (pe_lst (pa_cons (pe_call (ok_law_take T) (hr.mono (by decide)) (by rfl) T.g_law_take T.F_law_take.kp T.b_law_take .nil pass0 (pa_cons (pv 0) (pa_cons pe_int pa_nil))) (pa_cons (pe_call (ok_law_take T) (hr.mono (by decide)) (by rfl) T.g_law_take T.F_law_take.kp T.b_law_take .nil pass0 (pa_cons (pv 0) (pa_cons pe_int pa_nil))) pa_nil))) (pe_call (ok_law_take T) (hr.mono (by decide)) (by rfl) T.g_law_take T.F_law_take.kp T.b_law_take .nil pass0 (pa_cons (pv 0) (pa_cons pe_int pa_nil))) (fun _ _ => rfl)) pa_nil))))))), ?_⟩
  obtain ⟨kvs, e1, e2, e3⟩ := kn.ex
  have ki : ∀ {H'}, Same H H' → SqL K H' kc [.int r, .ref dk, .bl k.fig, .bl k.wide] := fun s => SqL.of (s _ _ kit)
  refine ⟨_, rfl, kc, _, _, _, rfl, rfl, SqL.of kit, (rfl : atI [V.int r, .ref dk, .bl k.fig, .bl k.wide] 1 = some (.ref dk)), dk, kvs, k.kn.map (·.1), rfl, .inl (sg _ _ e1), e2, by rw [List.length_map]; have := kn.len; omega, fun ys p hperm _ hp => ?_⟩
  have s1 : Same H _ := same_upd (o := .lst (ys.map V.str)) hp
  refine ⟨p, rfl, ⟨_, SqL.of upd_same⟩, fun R hR => ?_⟩
  have yl : ys.length < 60 := by
    rw [hperm.length_eq, List.length_map]
    exact kn.len
  let ok1 : Str → Prop := fun x => ∃ en : Bool × Int × Int, ((x, en) ∈ k.kn ∧ en.2.1 + deep < 9 ∧ en.2.2 < 4) ∧ ∃ p, valV kvs (Sum.inr x) = some (.ref p) ∧ G p = some (.tup [.bl en.1, .int en.2.1, .int en.2.2])
  refine lc_it (walk_list (xs := ys.map V.str)) (fun i H' => Same (upd H p (.lst (ys.map V.str))) H' ∧ ∃ fs : List Str, fs.length ≤ i ∧ (∀ x ∈ fs, ok1 x) ∧ H' R = some (.lst (fs.map V.str))) ⟨same_upd hR, [], Nat.le_refl _, (fun _ h => nomatch h), upd_same⟩ (fun i H' _ p => SqL.of (p.1 _ _ upd_same)) ?_ ?_
  · rintro i x H1 H2 hi ⟨sm, fs, fl, fo, eR⟩ ⟨rfl, hx⟩
    have hi : i < ys.length := by simpa using hi
    rw [List.getElem?_map] at hx
    obtain ⟨y, hy, rfl⟩ : ∃ y, ys[i]? = some y ∧ x = .str y := by
      cases h : ys[i]? with
      | none => rw [h] at hx; cases hx
      | some y => rw [h] at hx; exact ⟨y, rfl, (Option.some.inj hx).symm⟩
    have ym : y ∈ k.kn.map (·.1) := hperm.mem_iff.mp (List.mem_of_getElem? hy)
    obtain ⟨en, p2, q1, q2, q3⟩ := e3 y ym
    have s2 := s1.trans sm
    have dg : DGet H2 dk (.str y) (some (.ref p2)) := by
      have := DGet.k (k := Sum.inr y) (s2 _ _ (sg _ _ e1))
      rw [q2] at this
      exact this
    have st : SqT K H2 p2 [.bl en.1, .int en.2.1, .int en.2.2] := SqT.of (s2 _ _ (sg _ _ q3))
    have ak : ∀ {H' : Hp} (s : Same H H'), SqL K H' kc [.int r, .ref dk, .bl k.fig, .bl k.wide] := fun s => ki s
    refine ⟨rfl, ?_⟩
    refine ⟨_, rfl, kc, _, _, _, rfl, rfl, ki s2, (rfl : atI [V.int r, .ref dk, .bl k.fig, .bl k.wide] 1 = some (.ref dk)), _, rfl, dk, _, rfl, dg, p2, _, _, _, rfl, rfl, st, (rfl : atI [V.bl en.1, .int en.2.1, .int en.2.2] 1 = some (.int en.2.1)), _, rfl, _, _, rfl, rfl, _, _, rfl, rfl, _, rfl, ?_⟩
    refine ite2 (fun c1 => ?_) (fun c1 => ?_)
    · have c1' : en.2.1 + deep < 9 := of_decide_eq_true c1
      refine ⟨_, rfl, kc, _, _, _, rfl, rfl, ki s2, (rfl : atI [V.int r, .ref dk, .bl k.fig, .bl k.wide] 1 = some (.ref dk)), _, rfl, dk, _, rfl, dg, p2, _, _, _, rfl, rfl, st, (rfl : atI [V.bl en.1, .int en.2.1, .int en.2.2] 2 = some (.int en.2.2)), _, _, rfl, rfl, _, rfl, ?_⟩
      refine ite2 (fun c2 => ?_) (fun c2 => ?_)
      · have c2' : en.2.2 < 4 := of_decide_eq_true c2
        refine ⟨_, rfl, _, eR, ?_, same_put sm hR, fs ++ [y], ?_, ?_, ?_⟩
        · rw [List.length_map]
          exact small1000 (by omega)
        · rw [List.length_append, List.length_singleton]
          omega
        · intro z hz
          rcases List.mem_append.mp hz with hz | hz
          · exact fo z hz
          · rw [List.mem_singleton.mp hz]
            exact ⟨en, ⟨q1, c1', c2'⟩, p2, q2, q3⟩
        · rw [upd_same, List.map_append]
          rfl
      · exact ⟨sm, fs, by omega, fo, eR⟩
    · exact iteF ⟨sm, fs, by omega, fo, eR⟩
  rintro H1 ⟨sm, fs, fl, fo, eR⟩
  have fl : fs.length < 60 := by
    have : fs.length ≤ (ys.map V.str).length := fl
    rw [List.length_map] at this
    omega
  have s2 := s1.trans sm
  have gr1 : Grow (Only1 d) G H G H1 := ⟨Same.refl _, sg.trans s2, same_but s2, fun _ _ => rfl⟩
  have D1 := (D.mono s1).mono sm
  have dF : ∀ {H' : Hp} {l : List Str}, DpAll K H' (l.map V.str) (l.map PyData.str) := fun {H' l} => by
    induction l with
    | nil => exact .nil
    | cons x l ih => exact .cons (.str _) ih
  have nmOk : ∀ x, ok1 x → NameOk x := fun x ⟨en, h, _⟩ => kn.ok _ h.1
  have stepP : ∀ (H5 : Hp), Grow (Only1 d) G H G H5 → DrawAt H5 d l → ∀ (n : Int), 0 ≤ n → n < 100 → ∀ p, H5 p = none → Q (.ref p) (upd H5 p (.tup [.str "step", .int n])) := fun H5 g5 D5 n h0 h1 p hp => by
    have g6 := g5.new (o := .tup [.str "step", .int n]) hp D5.some'
    refine q _ (.step n) _ _ g6 (D5.upd hp) ?_ ?_ ?_
    · rw [thingD]
      exact .tup (xs := [.str "step", .int n]) (SqT.of upd_same) (.cons (.str _) (.cons (.int _) .nil))
    · rw [ThOk]
      exact ⟨h0, h1⟩
    · simp [thingC]
  refine ⟨fun σ H' => Grow (Only1 d) G H G H' ∧ DrawAt H' d l ∧ ∃ v4 v5 v6, σ = [some (.ref d), some (.ref kc), some (.ref sa), some (.int (deep : Nat)), v4, v5, v6], ?_, ?_⟩
  · refine ⟨_, rfl, by show 0 ≤ sizeLine; decide, fun N hN => ?_⟩
    have sN := same_upd (o := .lst []) hN
    have gr2 := gr1.cell (o := .lst []) hN
    have D2 := D1.upd (o := .lst []) hN
    refine ⟨.list (fs.map PyData.str), .list [], .lst (SqL.of (sN _ _ eR)) dF, .lst (SqL.of upd_same) .nil, shaped_list fun x hx => ⟨strOk_name (nmOk x (fo x hx)), Nat.zero_le _⟩, shaped_nil, _, rfl, ?_⟩
    rw [eqv_nil]
    refine ite2 (fun c1 => ?_) (fun c1 => iteF ⟨gr2, D2, _, _, _, rfl⟩)
    have fne : fs ≠ [] := by
      rintro rfl
      exact absurd c1 (by decide)
    refine ⟨_, rfl, d, l, 2, rfl, D2, by decide, by decide, fun z H3 z0 z1 D3 b3 => ?_⟩
    have gr3 := gr2.trans (Grow.draw gr2.gh gd b3) D2.some'
    refine ⟨rfl, _, rfl, ite2 (fun c2 => ?_) (fun c2 => ⟨gr3, D3, _, _, _, rfl⟩)⟩
    have nRd : R ≠ d := (D.mono s1).ned hR
    have eR3 := b3 _ _ (sN _ _ eR) nRd
    refine ⟨_, rfl, _, rfl, d, l, _, rfl, D3, .inr ⟨R, _, rfl, nRd, .inl (SqL.of eR3), ?_, ?_, fun v H4 hv D4 b4 => ?_⟩⟩
    · rw [List.length_map]
      exact List.length_pos_iff.mpr fne
    · rw [List.length_map]
      omega
    obtain ⟨nm, hnm, rfl⟩ := List.mem_map.mp hv
    have gr4 := gr3.trans (Grow.draw gr3.gh gd b4) D3.some'
    have nkd := kit.ne D
    have kit4 : KitAt H4 kc dk r k := gr4.h _ _ kit nkd
    have sg4 := gr4.gh
    refine ⟨_, rfl, _, rfl, _, rfl, kc, _, _, _, rfl, rfl, SqL.of kit4, (rfl : atI [V.int r, .ref dk, .bl k.fig, .bl k.wide] 3 = some (.bl k.wide)), ?_⟩
    refine ⟨d, l, sa, sc, k.wide, G, rfl, sg4, gd, D4, es, List.ne_nil_of_mem hn, by omega, fun v e G5 H5 g5 D5 de eo => ?_⟩
    have gr5 := gr4.trans g5 D4.some'
    obtain ⟨pe, x, y, rfl, he, hx, hy⟩ := de.tup2
    cases hx.str'
    cases hy.int'
    obtain ⟨en, ⟨hen, hw, hc⟩, p2, q2, q3⟩ := fo nm hnm
    have sg5 := gr5.gh
    have kit5 : KitAt H5 kc dk r k := gr5.h _ _ kit nkd
    have dg : DGet H5 dk (.str nm) (some (.ref p2)) := by
      have := DGet.k (k := Sum.inr nm) (sg5 _ _ (gr5.g _ _ e1))
      rw [q2] at this
      exact this
    have st : SqT K H5 p2 [.bl en.1, .int en.2.1, .int en.2.2] := SqT.of (sg5 _ _ (gr5.g _ _ q3))
    have he5 : SqT K H5 pe [.str e.1, .int e.2] := same_t sg5 he
    have fin : ∀ (H6 : Hp) (G6 : Hp) (e' : En) (v : V) (p : Addr), Grow (Only1 d) G H G6 H6 → DrawAt H6 d l → Dp K G6 v (endD e') → EndOk k.wide sc e' → (en.1 = true → e'.1 = "" ∨ e' = ((Str.ofString "n", 0) : En)) → H6 p = none → Q (.ref p) (upd H6 p (.tup [.str "call", .str nm, v])) := fun H6 G6 e' v p g6 D6 dv eo ef hp => by
      have g7 := g6.new (o := .tup [.str "call", .str nm, v]) hp D6.some'
      have s7 : Same G6 _ := same_upd (o := .tup [.str "call", .str nm, v]) (g6.gh.free hp)
      refine q _ (.call nm e') _ _ g7 (D6.upd hp) ?_ ?_ ?_
      · rw [thingD]
        exact .tup (xs := [.str "call", .str nm, v]) (SqT.of upd_same) (.cons (.str _) (.cons (.str _) (.cons (dv.mono s7) .nil)))
      · rw [ThOk]
        exact ⟨en, hen, hw, hc, eo, ef⟩
      · simp [thingC]
    have dE : Dp K G5 (.ref pe) (endD e) := .tup he (.cons (.str _) (.cons (.int _) .nil))
    refine ⟨_, rfl, ?_⟩
    refine ⟨_, rfl, kc, _, _, _, rfl, rfl, SqL.of kit5, (rfl : atI [V.int r, .ref dk, .bl k.fig, .bl k.wide] 1 = some (.ref dk)), _, rfl, dk, _, rfl, dg, p2, _, _, _, rfl, rfl, st, (rfl : atI [V.bl en.1, .int en.2.1, .int en.2.2] 0 = some (.bl en.1)), _, rfl, ?_⟩
    have useE : (en.1 = true → e.1 = "" ∨ e = ((Str.ofString "n", 0) : En)) → ∃ v, [some (V.ref d), some (V.ref kc), some (V.ref sa), some (V.int (deep : Nat)), some (V.str nm), some (V.ref R), some (V.ref pe)][6]? = some (some v) ∧ 3 ≤ sizeLine ∧ ∀ p, H5 p = none → Q (.ref p) (upd H5 p (.tup [.str "call", .str nm, v])) := fun hf =>
      ⟨_, rfl, by decide, fun p hp => fin H5 G5 e _ p gr5 D5 dE eo hf hp⟩
    refine ite2 (fun c3 => ?_) (fun c3 => iteF (useE (fun h => absurd h c3)))
    refine ⟨_, rfl, pe, _, _, _, rfl, rfl, he5, (rfl : atI [V.str e.1, .int e.2] 0 = some (.str e.1)), rfl, _, rfl, ?_⟩
    refine ite2 (fun c4 => ?_) (fun c4 => useE (fun _ => .inl ?_))
    · refine ⟨by show 2 ≤ sizeLine; decide, fun p hp => ?_⟩
      have g6 := gr5.new (o := .tup [.str "n", .int 0]) hp D5.some'
      refine ⟨by show 3 ≤ sizeLine; decide, fun p' hp' => ?_⟩
      exact fin _ _ ("n", 0) _ p' g6 (D5.upd hp) (.tup (xs := [.str "n", .int 0]) (SqT.of upd_same) (.cons (.str _) (.cons (.int _) .nil))) ⟨by show (0 : Int).natAbs < _; split <;> decide, .inr hn⟩ (fun _ => .inr rfl) hp'
    · have : ¬ (!decide (V.str e.1 = V.str "")) = true := c4
      simp at this
      exact this
  · rintro σ H3 ⟨gr3, D3, v4, v5, v6, rfl⟩
    refine ⟨_, rfl, d, l, 5, rfl, D3, by decide, by decide, fun x1 H4 a0 a1 D4 b4 => ?_⟩
    have gr4 := gr3.trans (Grow.draw gr3.gh gd b4) D3.some'
    refine ⟨_, rfl, d, l, 100, rfl, D4, by decide, by decide, fun x2 H5 c0 c1 D5 b5 => ?_⟩
    have gr5 := gr4.trans (Grow.draw gr4.gh gd b5) D4.some'
    refine ⟨by show 2 ≤ sizeLine; decide, fun L hL => ?_⟩
    have gr6 := gr5.cell (o := .lst [.int x1, .int x2]) hL
    have D6 := D5.upd (o := .lst [.int x1, .int x2]) hL
    refine ⟨_, rfl, d, l, 2, rfl, D6, by decide, by decide, fun x3 H7 e0 e1 D7 b7 => ?_⟩
    have gr7 := gr6.trans (Grow.draw gr6.gh gd b7) D6.some'
    obtain ⟨n, hn, n0, n1⟩ : ∃ n : Int, atI [V.int x1, V.int x2] x3 = some (.int n) ∧ 0 ≤ n ∧ n < 100 := by
      obtain ⟨j, rfl⟩ : ∃ j : Nat, x3 = (j : Int) := ⟨x3.toNat, by omega⟩
      match j, e1 with
      | 0, _ => exact ⟨x1, rfl, a0, by omega⟩
      | 1, _ => exact ⟨x2, rfl, c0, c1⟩
      | j + 2, e => omega
    refine ⟨L, _, _, _, rfl, rfl, SqL.of (b7 _ _ upd_same (D5.ned hL)), hn, by show 2 ≤ sizeLine; decide, fun p hp => ?_⟩
    exact stepP _ gr7 D7 n n0 n1 p hp
theorem thing_step (T : Txt K mg) (f : Nat) (G_law_drawn_body : FnOk P w K mg base CX0 (2 * f + 11) T.a_law_drawn_body T.d_law_drawn_body ["_law_draw", "_law_kit", "_law_scope", "_law_deep"] (spBody K f)) :
    FnOk P w K mg base CX0 (2 * f + 12) T.a_law_drawn_thing T.d_law_drawn_thing ["_law_draw", "_law_kit", "_law_scope", "_law_deep"] (spThing K (f + 1)) := by
  refine T.F_law_drawn_thing.ok sc_law_drawn_thing (fun vs H Q E h => ?_) (fun cdv A outer s H vs Q E hr h => ?_)
  · obtain ⟨d, l, kc, dk, sa, sc, k, r, deep, G, rfl, _⟩ := h
    rfl
  obtain ⟨d, l, kc, dk, sa, sc, k, r, deep, G, rfl, sg, gd, gk, D, kit, kn, es, hn, sl, r1, dp4, hf, q⟩ := h
  refine ⟨_, (pss_cons (ps_asg (pe_op op_sub (pe_ix ix_list (pv 1) pe_int (fun _ _ => rfl)) pe_int) (pg_sub (pv 1) pe_int set_list))
      (pss_cons (ps_set (i := 4) sc_law_drawn_thing.nd rfl (Or.inl rfl) (pe_call (ok_law_take T) (hr.mono (by omega)) (by rfl) T.g_law_take T.F_law_take.kp T.b_law_take .nil pass0 (pa_cons (pv 0) (pa_cons pe_int pa_nil))))
      (C8.pss_cut (ps_if (PW.pt (pw_or (pt_cmpR op_lt (pe_ix ix_list (pv 1) pe_int (fun _ _ => rfl)) pe_int (nomark _)) (pw_or (pt_cmpR op_gt (pv 3) pe_int (nomark _)) (pw_or1 (pt_cmpR op_lt (pv 4) pe_int (nomark _)))))) (pss_one (ps_ret (pe_call (ok_law_leaf T) (hr.mono (by omega)) (by rfl) T.g_law_leaf T.F_law_leaf.kp T.b_law_leaf .nil pass0 (pa_cons (pv 0) (pa_cons (pv 1) (pa_cons (pv 2) (pa_cons (pv 3) pa_nil))))))) pss_nil)
      (C8.pss_cut (ps_if (PW.pt (pw_and (pt_cmpR op_eq (pv 4) pe_int (nomark _)) (pw_and1 (pt_val (pe_ix ix_list (pv 1) pe_int (fun _ _ => rfl)))))) (pss_one (ps_ret (pe_tup (pa_cons pe_str (pa_cons (pe_call G_law_drawn_body (hr.mono (by omega)) (by rfl) T.g_law_drawn_body T.F_law_drawn_body.kp T.b_law_drawn_body .nil pass0 (pa_cons (pv 0) (pa_cons (pv 1) (pa_cons (pv 2) (pa_cons (pe_op op_add (pv 3) pe_int) pa_nil))))) pa_nil))))) pss_nil)
      (pss_cons (ps_par (i := 5) (j := 6) (by rfl) sc_law_drawn_thing.nd rfl rfl (by decide) rfl rfl (pa_cons (pe_call (ok_law_some_end T) (hr.mono (by omega)) (by rfl) T.g_law_some_end T.F_law_some_end.kp T.b_law_some_end .nil pass0 (pa_cons (pv 0) (pa_cons (pv 2) (pa_cons (pe_ix ix_list (pv 1) pe_int (fun _ _ => rfl)) pa_nil)))) (pa_cons (pe_call (ok_law_some_end T) (hr.mono (by omega)) (by rfl) T.g_law_some_end T.F_law_some_end.kp T.b_law_some_end .nil pass0 (pa_cons (pv 0) (pa_cons (pv 2) (pa_cons (pe_ix ix_list (pv 1) pe_int (fun _ _ => rfl)) pa_nil)))) pa_nil)) (by rfl))
      (pss_cons (ps_if (pt_cmpR op_lt (pv 4) pe_int (nomark _)) (pss_cons (ps_set (i := 7) sc_law_drawn_thing.nd rfl (Or.inl rfl) (pe_call (ok_law_fresh T) (hr.mono (by omega)) (by rfl) T.g_law_fresh T.F_law_fresh.kp T.b_law_fresh .nil pass0 (pa_cons (pv 0) (pa_cons (pv 2) pa_nil))))
      (pss_one (ps_ret (pe_tup (pa_cons pe_str (pa_cons (pv 7) (pa_cons (pv 5) (pa_cons (pv 6) (pa_cons (pe_call G_law_drawn_body (hr.mono (by omega)) (by rfl) T.g_law_drawn_body T.F_law_drawn_body.kp T.b_law_drawn_body .nil pass0 (pa_cons (pv 0) (pa_cons (pv 1) (pa_cons (pe_op op_cat (pv 2) (pe_lst (pa_cons (pv 7) pa_nil))) (pa_cons (pe_op op_add (pv 3) pe_int) pa_nil))))) pa_nil))))))))) pss_nil)
      (pss_cons (ps_asg (pe_op op_sub (pe_ix ix_list (pv 1) pe_int (fun _ _ => rfl)) pe_int) (pg_sub (pv 1) pe_int set_list))
      (pss_cons (ps_set (i := 8) sc_law_drawn_thing.nd rfl (Or.inl rfl) (pe_call G_law_drawn_body (hr.mono (by omega)) (by rfl) T.g_law_drawn_body T.F_law_drawn_body.kp T.b_law_drawn_body .nil pass0 (pa_cons (pv 0) (pa_cons (pv 1) (pa_cons (pv 2) (pa_cons (pe_op op_add (pv 3) pe_int) pa_nil))))))
      (pss_cons (ps_asg (pe_op op_add (pe_ix ix_list (pv 1) pe_int (fun _ _ => rfl)) pe_int) (pg_sub (pv 1) pe_int set_list))
      (pss_cons (ps_set (i := 9) sc_law_drawn_thing.nd rfl (Or.inl rfl) (pe_ifExp (pt_cmpR op_eq (pe_call (ok_law_take T) (hr.mono (by omega)) (by rfl) T.g_law_take T.F_law_take.kp T.b_law_take .nil pass0 (pa_cons (pv 0) (pa_cons pe_int pa_nil))) pe_int (nomark _)) (pe_tup pa_nil) (pe_call G_law_drawn_body (hr.mono (by omega)) (by rfl) T.g_law_drawn_body T.F_law_drawn_body.kp T.b_law_drawn_body .nil pass0 (pa_cons (pv 0) (pa_cons (pv 1) (pa_cons (pv 2) (pa_cons (pe_op op_add (pv 3) pe_int) pa_nil)))))))
      (pss_one (ps_ret (pe_tup (pa_cons pe_str (pa_cons (pv 5) (pa_cons (pv 6) (pa_cons (pv 8) (pa_cons (pv 9) pa_nil)))))))))))))))))), ?_⟩
  have nkd := kit.ne D
  have nkl := kit.nel D
  refine ⟨_, rfl, kc, _, 0, .int r, rfl, rfl, SqL.of kit, rfl, r, 1, rfl, rfl, _, rfl, kc, _, 0, 0, rfl, rfl, kit, rfl, ?_⟩
  have kit1 : KitAt (upd H kc (.lst [.int (r - 1), .ref dk, .bl k.fig, .bl k.wide])) kc dk (r - 1) k := upd_same
  have D1 : DrawAt (upd H kc (.lst [.int (r - 1), .ref dk, .bl k.fig, .bl k.wide])) d l := D.put nkd nkl
  have g1 : Grow (Two d kc) G H G (upd H kc (.lst [.int (r - 1), .ref dk, .bl k.fig, .bl k.wide])) := (Grow.refl sg).put gk (.inr (.inr rfl))
  refine ⟨_, rfl, d, l, 9, rfl, D1, by decide, by decide, fun fk H2 f0 f1 D2 b2 => ?_⟩
  have g2 := g1.trans (Grow.one (Grow.draw g1.gh gd b2)) (two_cell D1 kit1)
  have kit2 := kit1.but nkd b2
  clear b2 g1 D1 kit1
  -- a leaf?
  have lf : ∀ Q' : VK, (∀ v H', Q v H' → Q' v H') → spLeaf K [.ref d, .ref kc, .ref sa, .int (deep : Nat)] H2 Q' E0 := fun Q' hq =>
    ⟨d, l, kc, dk, sa, sc, k, _, deep, G, rfl, g2.gh, gd, D2, kit2, kn, es, hn, by omega, fun v t G3 H3 g3 D3 dv ok c1 => hq _ _ (q v t G3 H3 (g2.trans (Grow.one g3) (two_cell D2 kit2)) D3 (by rw [c1]; exact g3.h _ _ kit2 nkd) (by rw [c1]; exact r1) dv ok)⟩
  refine ⟨fun σ H' => H2 = H' ∧ 2 ≤ r - 1 ∧ deep ≤ 3 ∧ σ = [some (.ref d), some (.ref kc), some (.ref sa), some (.int (deep : Nat)), some (.int fk), none, none, none, none, none], ?_, ?_⟩
  · refine ⟨_, rfl, kc, _, 0, .int (r - 1), rfl, rfl, SqL.of kit2, rfl, _, _, rfl, rfl, _, rfl, ?_⟩
    refine ite2 (fun _ => ⟨_, rfl, _, rfl, _, rfl, _, rfl, lf _ (fun _ _ h => h)⟩) (fun c1 => ?_)
    have c1' : ¬ (r - 1 < 2) := fun e => c1 (decide_eq_true e)
    refine ⟨_, rfl, _, _, rfl, rfl, _, rfl, ?_⟩
    refine ite2 (fun _ => ⟨_, rfl, _, rfl, _, rfl, _, rfl, lf _ (fun _ _ h => h)⟩) (fun c2 => ?_)
    have c2' : ¬ ((deep : Int) > 3) := fun e => c2 (decide_eq_true e)
    refine ⟨_, rfl, _, _, rfl, rfl, _, rfl, ?_⟩
    refine ite2 (fun _ => ⟨_, rfl, _, rfl, _, rfl, _, rfl, lf _ (fun _ _ h => h)⟩) (fun c3 => ?_)
    exact ⟨rfl, by omega, by omega, rfl⟩
  rintro σ H' ⟨rfl, r3, d3, rfl⟩
  clear lf
  -- a body below
  have bd : ∀ (G3 H3 : Hp) (sb : Addr) (sc' : List Str) (r' : Int) (Q' : VK), Grow (Two d kc) G H G3 H3 → DrawAt H3 d l → KitAt H3 kc dk r' k → G3 sb = some (.lst (sc'.map V.str)) → (Str.ofString "n") ∈ sc' → sc'.length ≤ deep + 11 → 1 ≤ r' →
      (∀ (v : V) (b : List Thing) (G4 H4 : Hp), Grow (Two d kc) G H G4 H4 → Same G3 G4 → DrawAt H4 d l → KitAt H4 kc dk (r' - thingsC b) k → (thingsC b : Int) ≤ r' → Dp K G4 v (planD b) → BdOk k b sc' (deep + 1) → 1 ≤ b.length → b.length ≤ 3 → Q' v H4) →
      spBody K f [.ref d, .ref kc, .ref sb, .int ((deep : Int) + 1)] H3 Q' E0 := fun G3 H3 sb sc' r' Q' g3 D3 kit3 es' hn' sl' hr' hq => by
    refine ⟨d, l, kc, dk, sb, sc', k, r', deep + 1, G3, rfl, g3.gh, g3.none gd D.cell, g3.none gk (cell_lst kit), D3, kit3, kn.mono g3.g, es', hn', by omega, hr', by omega, by omega, fun v b G4 H4 g4 D4 kit4 cb dv ok l1 l2 => ?_⟩
    exact hq v b G4 H4 (g3.trans g4 (two_cell D3 kit3)) g4.g D4 kit4 cb dv ok l1 l2
  have fin : ∀ (G6 H6 : Hp) (xs : List V) (t : Thing) (ds : List PyData) (p : Addr), Grow (Two d kc) G H G6 H6 → DrawAt H6 d l → KitAt H6 kc dk (r - thingC t) k → (thingC t : Int) ≤ r → thingD t = .tuple ds → DpAll K G6 xs ds → ThOk k t sc deep → H6 p = none → Q (.ref p) (upd H6 p (.tup xs)) := fun G6 H6 xs t ds p g6 D6 kit6 hc ht hd ho hp => by
    have g7 := g6.new (o := .tup xs) hp (two_cell D6 kit6)
    have s7 : Same G6 _ := same_upd (o := .tup xs) (g6.gh.free hp)
    refine q _ t _ _ g7 (D6.upd hp) ((same_upd hp) _ _ kit6) hc ?_ ho
    rw [ht]
    exact .tup (SqT.of upd_same) (hd.mono s7)
  refine ⟨fun σ H' => H2 = H' ∧ σ = [some (.ref d), some (.ref kc), some (.ref sa), some (.int (deep : Nat)), some (.int fk), none, none, none, none, none], ?_, ?_⟩
  · refine ⟨_, rfl, rfl, _, rfl, ?_⟩
    refine ite2 (fun _ => ?_) (fun _ => iteF ⟨rfl, rfl⟩)
    refine ⟨_, rfl, kc, _, 2, .bl k.fig, rfl, rfl, SqL.of kit2, rfl, _, rfl, ?_⟩
    refine ite2 (fun c => ?_) (fun _ => ⟨rfl, rfl⟩)
    refine ⟨_, rfl, _, rfl, _, rfl, _, rfl, _, _, rfl, rfl, ?_⟩
    refine bd G H2 sa sc (r - 1) _ g2 D2 kit2 es hn (by omega) (by omega) fun v b G4 H4 g4 _ D4 kit4 cb dv ok l1 l2 => ?_
    refine ⟨by show 2 ≤ sizeLine; decide, fun p hp => ?_⟩
    refine fin G4 H4 [.str "double", v] (.double b) [.str "double", planD b] p g4 D4 ?_ ?_ (by rw [thingD]; rfl) (.cons (.str _) (.cons dv .nil)) ?_ hp
    · rw [thingC]
      rw [show r - ((thingsC b + 1 : Nat) : Int) = r - 1 - thingsC b by omega]
      exact kit4
    · rw [thingC]
      omega
    · rw [ThOk]
      exact ⟨d3, c, l1, l2, ok⟩
  rintro σ H' ⟨rfl, rfl⟩
  -- the two ends
  refine ⟨_, rfl, _, rfl, _, rfl, kc, _, 3, .bl k.wide, rfl, rfl, SqL.of kit2, rfl, ?_⟩
  refine ⟨d, l, sa, sc, k.wide, G, rfl, g2.gh, gd, D2, es, List.ne_nil_of_mem hn, by omega, fun v1 e1 G3 H3 g3 D3 dv1 eo1 => ?_⟩
  have g23 := g2.trans (Grow.one g3) (two_cell D2 kit2)
  have kit3 := kit2.but nkd g3.h
  refine ⟨_, rfl, _, rfl, _, rfl, kc, _, 3, .bl k.wide, rfl, rfl, SqL.of kit3, rfl, ?_⟩
  refine ⟨d, l, sa, sc, k.wide, G3, rfl, g23.gh, g23.none gd D.cell, D3, g23.g _ _ es, List.ne_nil_of_mem hn, by omega, fun v2 e2 G4 H4 g4 D4 dv2 eo2 => ?_⟩
  have g24 := g23.trans (Grow.one g4) (two_cell D3 kit3)
  have kit4 := kit3.but nkd g4.h
  have dv1' := dv1.mono g4.g
  try unfold tNil
  refine ⟨_, _, rfl, _, rfl, _, _, rfl, rfl, _, rfl, ?_⟩
  have lm : ((sc ++ [(Str.ofString "")]).map V.str).length ≤ 1000 := by
    rw [List.length_map, List.length_append, List.length_singleton]
    omega
  refine ite2 (fun _ => ?_) (fun _ => ?_)
  · refine ⟨_, rfl, _, rfl, d, l, sa, sc, rfl, D4, g24.gh _ _ (g24.g _ _ es), by omega, fun nm H5 b5 D5 no ns => ?_⟩
    have g5 := g24.trans (Grow.one (Grow.draw g24.gh (g24.none gd D.cell) b5)) (two_cell D4 kit4)
    have kit5 := kit4.but nkd b5
    refine ⟨_, rfl, _, rfl, _, rfl, _, rfl, _, rfl, _, rfl, _, rfl, by show 1 ≤ sizeLine; decide, fun L hL => ?_⟩
    have g6 := g5.cell (o := .lst [.str nm]) hL
    have D6 := D5.upd (o := .lst [.str nm]) hL
    have kit6 : KitAt (upd H5 L (.lst [.str nm])) kc dk (r - 1) k := (same_upd hL) _ _ kit5
    have es6 : (upd H5 L (.lst [.str nm])) sa = some (.lst (sc.map V.str)) := g6.gh _ _ (g5.g _ _ es)
    refine ⟨sa, L, _, _, rfl, rfl, es6, upd_same, ?_, fun S hS => ?_⟩
    · rw [List.length_map, List.length_singleton]
      exact Nat.le_trans (m := 1000) (by omega) (by decide)
    have g7 := g6.new (o := .lst (sc.map V.str ++ [.str nm])) hS (two_cell D6 kit6)
    have s7 : Same G4 _ := same_upd (o := .lst (sc.map V.str ++ [.str nm])) (g6.gh.free hS)
    refine ⟨_, rfl, _, _, rfl, rfl, ?_⟩
    refine bd _ _ S (sc ++ [nm]) (r - 1) _ g7 (D6.upd hS) ((same_upd hS) _ _ kit6) (by rw [upd_same, List.map_append]; rfl) (List.mem_append_left _ hn) (by rw [List.length_append, List.length_singleton]; omega) (by omega) fun v b G8 H8 g8 s8 D8 kit8 cb dv ok l1 l2 => ?_
    refine ⟨by show 5 ≤ sizeLine; decide, fun p hp => ?_⟩
    have s48 := s7.trans s8
    refine fin G8 H8 [.str "for", .str nm, v1, v2, v] (.loop nm e1 e2 b) [.str "for", .str nm, endD e1, endD e2, planD b] p g8 D8 ?_ ?_ (by rw [thingD]; rfl) (.cons (.str _) (.cons (.str _) (.cons (dv1'.mono s48) (.cons (dv2.mono s48) (.cons dv .nil))))) ?_ hp
    · rw [thingC]
      rw [show r - ((thingsC b + 1 : Nat) : Int) = r - 1 - thingsC b by omega]
      exact kit8
    · rw [thingC]
      omega
    · rw [ThOk]
      exact ⟨d3, no, ns, eo1, eo2, l1, l2, ok⟩
  · -- a test
    refine ⟨_, rfl, kc, _, 0, .int (r - 1), rfl, rfl, SqL.of kit4, rfl, _, 1, rfl, rfl, _, rfl, kc, _, 0, 0, rfl, rfl, kit4, rfl, ?_⟩
    have kit5 : KitAt (upd H4 kc (.lst [.int (r - 1 - 1), .ref dk, .bl k.fig, .bl k.wide])) kc dk (r - 1 - 1) k := upd_same
    have D5 : DrawAt (upd H4 kc (.lst [.int (r - 1 - 1), .ref dk, .bl k.fig, .bl k.wide])) d l := D4.put nkd (kit4.nel D4)
    have gk4 := g24.none gk (cell_lst kit)
    have g5 : Grow (Two d kc) G H G4 (upd H4 kc (.lst [.int (r - 1 - 1), .ref dk, .bl k.fig, .bl k.wide])) := g24.put gk4 (.inr (.inr rfl))
    refine ⟨_, rfl, _, rfl, _, rfl, _, rfl, _, _, rfl, rfl, ?_⟩
    refine bd _ _ sa sc (r - 1 - 1) _ g5 D5 kit5 (g24.g _ _ es) hn (by omega) (by omega) fun v3 b3 G6 H6 g6 s6 D6 kit6 cb3 dv3 ok3 l31 l32 => ?_
    have gk6 := g6.none gk (cell_lst kit)
    refine ⟨_, rfl, kc, _, 0, .int (r - 1 - 1 - thingsC b3), rfl, rfl, SqL.of kit6, rfl, _, 1, rfl, rfl, _, rfl, kc, _, 0, 0, rfl, rfl, kit6, rfl, ?_⟩
    have kit7 : KitAt (upd H6 kc (.lst [.int (r - 1 - 1 - thingsC b3 + 1), .ref dk, .bl k.fig, .bl k.wide])) kc dk (r - 1 - 1 - thingsC b3 + 1) k := upd_same
    have D7 : DrawAt (upd H6 kc (.lst [.int (r - 1 - 1 - thingsC b3 + 1), .ref dk, .bl k.fig, .bl k.wide])) d l := D6.put nkd (kit6.nel D6)
    have g7 : Grow (Two d kc) G H G6 (upd H6 kc (.lst [.int (r - 1 - 1 - thingsC b3 + 1), .ref dk, .bl k.fig, .bl k.wide])) := g6.put gk6 (.inr (.inr rfl))
    refine ⟨_, rfl, d, l, 2, rfl, D7, by decide, by decide, fun z H8 z0 z1 D8 b8 => ?_⟩
    have g8 := g7.trans (Grow.one (Grow.draw g7.gh (g7.none gd D.cell) b8)) (two_cell D7 kit7)
    have kit8 := kit7.but nkd b8
    refine ⟨rfl, _, rfl, ite2 (fun _ => ?_) (fun _ => ?_)⟩
    · refine ⟨by show 0 ≤ sizeLine; decide, fun R hR => ?_⟩
      have g9 := g8.new (o := .tup []) hR (two_cell D8 kit8)
      have s9 : Same G6 _ := same_upd (o := .tup []) (g8.gh.free hR)
      refine ⟨_, rfl, _, rfl, _, rfl, _, rfl, by show 5 ≤ sizeLine; decide, fun p hp => ?_⟩
      have s49 := s6.trans s9
      refine fin _ _ [.str "if", v1, v2, v3, .ref R] (.test e1 e2 b3 []) [.str "if", endD e1, endD e2, planD b3, planD []] p g9 (D8.upd hR) ?_ ?_ (by rw [thingD]; rfl) (.cons (.str _) (.cons (dv1'.mono s49) (.cons (dv2.mono s49) (.cons (dv3.mono s9) (.cons ?_ .nil))))) ?_ hp
      · rw [thingC, thingsC]
        rw [show r - ((thingsC b3 + 0 + 1 : Nat) : Int) = r - 1 - 1 - thingsC b3 + 1 by omega]
        exact (same_upd hR) _ _ kit8
      · rw [thingC, thingsC]
        omega
      · unfold planD thingsD
        exact .tup (xs := []) (SqT.of upd_same) .nil
      · rw [ThOk]
        exact ⟨d3, eo1, eo2, l31, l32, by decide, ok3, .nil⟩
    · refine ⟨_, rfl, _, rfl, _, rfl, _, rfl, _, _, rfl, rfl, ?_⟩
      refine bd _ _ sa sc _ _ g8 D8 kit8 (s6 _ _ (g24.g _ _ es)) hn (by omega) (by omega) fun v4 b4 G9 H9 g9 s9 D9 kit9 cb4 dv4 ok4 l41 l42 => ?_
      refine ⟨_, rfl, _, rfl, _, rfl, _, rfl, by show 5 ≤ sizeLine; decide, fun p hp => ?_⟩
      have s49 := s6.trans s9
      refine fin _ _ [.str "if", v1, v2, v3, v4] (.test e1 e2 b3 b4) [.str "if", endD e1, endD e2, planD b3, planD b4] p g9 D9 ?_ ?_ (by rw [thingD]; rfl) (.cons (.str _) (.cons (dv1'.mono s49) (.cons (dv2.mono s49) (.cons (dv3.mono s9) (.cons dv4 .nil))))) ?_ hp
      · rw [thingC]
        rw [show r - ((thingsC b3 + thingsC b4 + 1 : Nat) : Int) = r - 1 - 1 - thingsC b3 + 1 - thingsC b4 by omega]
        exact kit9
      · rw [thingC]
        omega
      · rw [ThOk]
        exact ⟨d3, eo1, eo2, l31, l32, l42, ok3, ok4⟩
theorem body_step (T : Txt K mg) (f : Nat) (G_law_drawn_thing : FnOk P w K mg base CX0 (2 * f + 10) T.a_law_drawn_thing T.d_law_drawn_thing ["_law_draw", "_law_kit", "_law_scope", "_law_deep"] (spThing K f)) :
    FnOk P w K mg base CX0 (2 * f + 11) T.a_law_drawn_body T.d_law_drawn_body ["_law_draw", "_law_kit", "_law_scope", "_law_deep"] (spBody K f) := by
  refine T.F_law_drawn_body.ok sc_law_drawn_body (fun vs H Q E h => ?_) (fun cdv A outer s H vs Q E hr h => ?_)
  · obtain ⟨d, l, kc, dk, sa, sc, k, r, deep, G, rfl, _⟩ := h
    rfl
  obtain ⟨d, l, kc, dk, sa, sc, k, r, deep, G, rfl, sg, gd, gk, D, kit, kn, es, hn, sl, r1, dp4, hf, q⟩ := h
  refine ⟨_, (pss_cons (ps_set (i := 4) sc_law_drawn_body.nd rfl (Or.inl rfl) (pe_lst (pa_cons (pe_call G_law_drawn_thing (hr.mono (by omega)) (by rfl) T.g_law_drawn_thing T.F_law_drawn_thing.kp T.b_law_drawn_thing .nil pass0 (pa_cons (pv 0) (pa_cons (pv 1) (pa_cons (pv 2) (pa_cons (pv 3) pa_nil))))) pa_nil)))
      (pss_cons (ps_for PassesOwn.never rfl (pi_range1 (by rfl) T.z_range (pa_cons (pe_call (ok_law_take T) (hr.mono (by omega)) (by rfl) T.g_law_take T.F_law_take.kp T.b_law_take .nil pass0 (pa_cons (pv 0) (pa_cons pe_int pa_nil))) pa_nil)) (pg_name (i := 5) sc_law_drawn_body.nd rfl (Or.inl rfl)) (pss_one (ps_if (pt_cmpR op_gt (pe_ix ix_list (pv 1) pe_int (fun _ _ => rfl)) pe_int (nomark _)) (pss_one (ps_expr (pe_bm PySem.F.plainAttrs_list PySem.F.slot_list_append PySem.F.type_list_append mt_append (pv 4) (pa_cons (pe_call G_law_drawn_thing (hr.mono (by omega)) (by rfl) T.g_law_drawn_thing T.F_law_drawn_thing.kp T.b_law_drawn_thing .nil pass0 (pa_cons (pv 0) (pa_cons (pv 1) (pa_cons (pv 2) (pa_cons (pv 3) pa_nil))))) pa_nil)))) pss_nil)))
      (pss_one (ps_ret (pe_callTy call_tuple_of (by rfl) T.z_tuple (by decide +kernel) (pa_cons (pv 4) pa_nil)))))), ?_⟩
  have nkd := kit.ne D
  refine ⟨_, rfl, _, rfl, _, rfl, _, rfl, d, l, kc, dk, sa, sc, k, r, deep, G, rfl, sg, gd, gk, D, kit, kn, es, hn, sl, r1, dp4, hf, fun v t G1 H1 g1 D1 kit1 c1 dv ok => ?_⟩
  refine ⟨by show 1 ≤ sizeLine; decide, fun L hL => ?_⟩
  have g2 := g1.cell (o := .lst [v]) hL
  have D2 := D1.upd (o := .lst [v]) hL
  have kit2 : KitAt (upd H1 L (.lst [v])) kc dk (r - thingC t) k := (same_upd hL) _ _ kit1
  have nLd := D1.ned hL
  have nLk : L ≠ kc := by
    rintro rfl
    rw [kit1] at hL
    cases hL
  have hLH : H L = none := g1.h.none (two_cell D1 kit1) hL
  have gL := g1.gh.free hL
  refine ⟨_, rfl, d, l, 3, rfl, D2, by decide, by decide, fun n H3 n0 n1 D3 b3 => ?_⟩
  have g3 := g2.trans (Grow.one (Grow.draw g2.gh (g2.none gd D.cell) b3)) (two_cell D2 kit2)
  have kit3 := kit2.but nkd b3
  refine ⟨n, rfl, by omega, by omega, for_it walk_range (fun i σ H' => ∃ (vs : List V) (b : List Thing) (G' : Hp), Grow (Two d kc) G H G' H' ∧ DrawAt H' d l ∧ KitAt H' kc dk (r - thingsC b) k ∧ (thingsC b : Int) ≤ r ∧ H' L = some (.lst vs) ∧ G' L = none ∧ DpAll K G' vs (thingsD b) ∧ BdOk k b sc deep ∧ 1 ≤ b.length ∧ b.length ≤ i + 1 ∧
    ∃ v5, σ = [some (.ref d), some (.ref kc), some (.ref sa), some (.int (deep : Nat)), some (.ref L), v5]) ?_ (fun _ _ _ _ _ => trivial) ?_ ?_⟩
  · refine ⟨[v], [t], G1, g3, D3, ?_, ?_, b3 _ _ upd_same nLd, gL, ?_, ?_, Nat.le_refl _, Nat.le_refl _, _, rfl⟩
    · rw [thingsC, thingsC]
      exact kit3
    · rw [thingsC, thingsC]
      exact c1
    · rw [thingsD, thingsD]
      exact .cons dv .nil
    · rw [BdOk]
      exact ⟨ok, .nil⟩
  · rintro i x σ H4 H5 hi ⟨vs, b, G4, g4, D4, kit4, c4, eL, gL4, dvs, okb, l1, l2, v5, rfl⟩ ⟨rfl, rfl⟩
    have hi : i < n.toNat := hi
    refine ⟨_, rfl, kc, _, 0, .int (r - thingsC b), rfl, rfl, SqL.of kit4, rfl, _, 0, rfl, rfl, _, rfl, ?_⟩
    refine ite2 (fun c => ?_) (fun _ => ⟨vs, b, G4, g4, D4, kit4, c4, eL, gL4, dvs, okb, l1, by omega, _, rfl⟩)
    have c' : 0 < r - (thingsC b : Int) := of_decide_eq_true c
    refine ⟨_, rfl, .inl ⟨rfl, _, SqL.of eL⟩, ?_⟩
    refine ⟨_, rfl, _, rfl, _, rfl, _, rfl, d, l, kc, dk, sa, sc, k, r - thingsC b, deep, G4, rfl, g4.gh, g4.none gd D.cell, g4.none gk (cell_lst kit), D4, kit4, kn.mono g4.g, g4.g _ _ es, hn, sl, by omega, dp4, hf, fun v6 t6 G6 H6 g6 D6 kit6 c6 dv6 ok6 => ?_⟩
    have eL6 : H6 L = some (.lst vs) := g6.h _ _ eL (by rintro (e | e); exact nLd e; exact nLk e)
    have g46 := g4.trans g6 (two_cell D4 kit4)
    have gL6 := g6.none gL4 (cell_lst eL)
    have lv := dvs.length
    rw [thingsD_eq, List.length_map] at lv
    try unfold tNil
    refine ⟨L, _, _, rfl, rfl, eL6, small1000 (by omega), ?_⟩
    refine ⟨vs ++ [v6], b ++ [t6], G6, g46.put gL6 (.inl hLH), D6.put nLd (D1.nel hL), ?_, ?_, upd_same, gL6, ?_, okb.snoc ok6, by simp, by simp; omega, _, rfl⟩
    · unfold KitAt
      rw [upd_ne (Ne.symm nLk), thingsC_snoc, show r - ((thingsC b + thingC t6 : Nat) : Int) = r - thingsC b - thingC t6 by omega]
      exact kit6
    · rw [thingsC_snoc]
      omega
    · rw [thingsD_eq, List.map_append, ← thingsD_eq]
      exact DpAll.snoc (dvs.mono g6.g) dv6
  · rintro σ H4 ⟨vs, b, G4, g4, D4, kit4, c4, eL, gL4, dvs, okb, l1, l2, v5, rfl⟩
    have l2 : b.length ≤ n.toNat + 1 := l2
    refine ⟨_, rfl, L, vs, rfl, .inl ⟨SqL.of eL, fun p hp => ?_⟩⟩
    have g5 := g4.new (o := .tup vs) hp (two_cell D4 kit4)
    have s5 : Same G4 _ := same_upd (o := .tup vs) (g4.gh.free hp)
    refine q _ b _ _ g5 (D4.upd hp) ((same_upd hp) _ _ kit4) c4 ?_ okb l1 (by omega)
    exact .tup (SqT.of upd_same) (dvs.mono s5)
theorem thing_all (T : Txt K mg) : ∀ f : Nat, FnOk P w K mg base CX0 (2 * f + 10) T.a_law_drawn_thing T.d_law_drawn_thing ["_law_draw", "_law_kit", "_law_scope", "_law_deep"] (spThing K f)
  | 0 => by
    have no : ∀ vs H Q E, ¬ spThing K 0 vs H Q E := fun vs H Q E h => by
      obtain ⟨d, l, kc, dk, sa, sc, k, r, deep, G, _, _, _, _, _, _, _, _, _, _, _, h1, h2, _⟩ := h
      omega
    exact ⟨fun vs H Q E h => absurd h (no vs H Q E), fun A outer s H args us vs Q E _ _ _ _ h => absurd h (no vs H Q E)⟩
  | f + 1 => thing_step T f (body_step T f (thing_all T f))
theorem ok_law_drawn_body (T : Txt K mg) : FnOk P w K mg base CX0 21 T.a_law_drawn_body T.d_law_drawn_body ["_law_draw", "_law_kit", "_law_scope", "_law_deep"] (spBody K 5) := body_step T 5 (thing_all T 5)
theorem grow_drop {d kc : Addr} {G H G1 H1 G2 H2 : Hp} (a : Grow (Only1 d) G H G1 H1) (b : Grow (Two d kc) G1 H1 G2 H2) (hk : H kc = none) (hm : ∀ c, Only1 d c → Cell (H1 c)) : Grow (Only1 d) G H G2 H2 :=
  ⟨a.g.trans b.g, b.gh, fun x o e n => b.h x o (a.h x o e n) (by
    rintro (z | z)
    · exact n z
    · rw [z, hk] at e
      cases e), fun c hc => (b.old c (a.h.cell hm hc)).trans (a.old c hc)⟩
/-- a plan, frozen -/
def spDrawn (K : PySem.W.Frag) : Sp := fun vs H Q _ => ∃ (d l : Addr) (G : Hp) (room : Int) (fig wide : Bool), vs = [.ref d, .int room, .bl fig, .bl wide] ∧ Same G H ∧ G d = none ∧ DrawAt H d l ∧ 1 ≤ room ∧
  ∀ (v : V) (b : List Thing) (G' H' : Hp), Grow (Only1 d) G H G' H' → DrawAt H' d l → Dp K G' v (planD b) → BdOk ⟨[], fig, wide⟩ b [Str.ofString "n"] 0 → 1 ≤ b.length → b.length ≤ 3 → (thingsC b : Int) ≤ room → Q v H'
theorem ok_law_drawn (T : Txt K mg) : FnOk P w K mg base CX0 22 T.a_law_drawn T.d_law_drawn ["_law_draw", "_law_room", "_law_figures", "_law_wide"] (spDrawn K) := by
  refine T.F_law_drawn.ok sc_law_drawn (fun vs H Q E h => ?_) (fun cdv A outer s H vs Q E hr h => ?_)
  · obtain ⟨d, l, G, room, fig, wide, rfl, _⟩ := h
    rfl
  obtain ⟨d, l, G, room, fig, wide, rfl, sg, gd, D, r1, q⟩ := h
  refine ⟨_, (pss_one (ps_ret (pe_call (ok_law_drawn_body T) (hr.mono (by decide)) (by rfl) T.g_law_drawn_body T.F_law_drawn_body.kp T.b_law_drawn_body .nil pass0 (pa_cons (pv 0) (pa_cons (pe_lst (pa_cons (pv 1) (pa_cons pe_dnewK (pa_cons (pv 2) (pa_cons (pv 3) pa_nil))))) (pa_cons (pe_lst (pa_cons pe_str pa_nil)) (pa_cons pe_int pa_nil))))))), ?_⟩
  refine ⟨_, rfl, _, rfl, fun dk hdk => ⟨_, rfl, _, rfl, by show 4 ≤ sizeLine; decide, fun kc hkc => ⟨by show 1 ≤ sizeLine; decide, fun sa hsa => ?_⟩⟩⟩
  have g1 := (Grow.refl (M := Only1 d) sg).new (o := .dK []) hdk D.some'
  have D1 := D.upd (o := .dK []) hdk
  have hk : H kc = none := by
    cases e : H kc with
    | none => rfl
    | some o =>
      rw [(same_upd hdk) _ _ e] at hkc
      cases hkc
  have g2 := g1.cell (o := .lst [.int room, .ref dk, .bl fig, .bl wide]) hkc
  have D2 := D1.upd (o := .lst [.int room, .ref dk, .bl fig, .bl wide]) hkc
  have g3 := g2.new (o := .lst [.str "n"]) hsa D2.some'
  have D3 := D2.upd (o := .lst [.str "n"]) hsa
  have s3 : Same _ _ := same_upd (o := .lst [.str "n"]) (g2.gh.free hsa)
  have gk : (upd (upd G dk (.dK [])) sa (.lst [.str "n"])) kc = none := by
    have n1 : kc ≠ sa := fun z => by rw [← z, upd_same] at hsa; cases hsa
    rw [upd_ne n1]
    exact g1.gh.free hkc
  refine ⟨d, l, kc, dk, sa, [Str.ofString "n"], ⟨[], fig, wide⟩, room, 0, _, rfl, g3.gh, g3.none gd D.cell, gk, D3, (same_upd hsa) _ _ upd_same, ⟨(by show 0 < 60; decide), (fun _ h => nomatch h), [], s3 _ _ upd_same, rfl, (fun _ h => nomatch h)⟩, upd_same, by decide, by decide, r1, by decide, by decide, fun v b G4 H4 g4 D4 _ c4 dv ok l1 l2 => ?_⟩
  exact q v b G4 H4 (grow_drop g3 g4 hk D3.some') D4 dv ok l1 l2 c4
def spBodies (K : PySem.W.Frag) : Sp := fun vs H Q _ => ∃ (v : V) (t : Thing) (G : Hp), vs = [v] ∧ Same G H ∧ Dp K G v (thingD t) ∧
  ∀ (p : Addr) (us : List V) (H' : Hp), Same H H' → H p = none → H' p = some (.lst us) → DpAll K G us ((bodiesL t).map planD) → Q (.ref p) H'
theorem ok_bodies_of (T : Txt K mg) : FnOk P w K mg base CX0 1 T.a_bodies_of T.d_bodies_of ["thing"] (spBodies K) := by
  refine T.F_bodies_of.ok sc_bodies_of (fun vs H Q E h => ?_) (fun cdv A outer s H vs Q E hr h => ?_)
  · obtain ⟨v, t, G, rfl, _⟩ := h
    rfl
  obtain ⟨v, t, G, rfl, sg, dt, k⟩ := h
  refine ⟨_, (pss_cons (ps_if (pt_cmpR op_eq (pe_ix ix_tup (pv 0) pe_int (fun _ _ => rfl)) pe_str (nomark _)) (pss_one (ps_ret (pe_lst (pa_cons (pe_ix ix_tup (pv 0) pe_int (fun _ _ => rfl)) (pa_cons (pe_ix ix_tup (pv 0) pe_int (fun _ _ => rfl)) pa_nil))))) pss_nil)
      (pss_cons (ps_if (pt_cmpR op_eq (pe_ix ix_tup (pv 0) pe_int (fun _ _ => rfl)) pe_str (nomark _)) (pss_one (ps_ret (pe_lst (pa_cons (pe_ix ix_tup (pv 0) pe_int (fun _ _ => rfl)) pa_nil)))) pss_nil)
      (pss_one (ps_ret (pe_ifExp (pt_cmpR op_eq (pe_ix ix_tup (pv 0) pe_int (fun _ _ => rfl)) pe_str (nomark _)) (pe_lst (pa_cons (pe_ix ix_tup (pv 0) pe_int (fun _ _ => rfl)) pa_nil)) (pe_lst pa_nil)))))), ?_⟩
  cases t with
  | step n =>
    rw [thingD] at dt
    obtain ⟨a, xs, rfl, hs, hd⟩ := dt.tup'
    obtain ⟨x0, r0, rfl, h0, hd⟩ := hd.c
    obtain ⟨x1, r1, rfl, h1, hd⟩ := hd.c
    cases hd.n
    have hs := same_t sg hs
    cases h0.str'
    cases h1.int'
    refine ⟨_, rfl, a, _, _, _, rfl, rfl, hs, (rfl : atI [V.str "step", V.int n] 0 = some (V.str "step")), rfl, _, rfl, ?_⟩
    rw [dec_ff (by decide)]
    refine iteF ?_
    refine ⟨_, rfl, a, _, _, _, rfl, rfl, hs, (rfl : atI [V.str "step", V.int n] 0 = some (V.str "step")), rfl, _, rfl, ?_⟩
    rw [dec_ff (by decide)]
    refine iteF ?_
    refine ⟨_, rfl, a, _, _, _, rfl, rfl, hs, (rfl : atI [V.str "step", V.int n] 0 = some (V.str "step")), rfl, _, rfl, ?_⟩
    rw [dec_ff (by decide)]
    refine iteF ?_
    exact ⟨by show 0 ≤ sizeLine; decide, fun L hL => k L _ _ (same_upd hL) hL upd_same .nil⟩
  | call nm e =>
    rw [thingD] at dt
    obtain ⟨a, xs, rfl, hs, hd⟩ := dt.tup'
    obtain ⟨x0, r0, rfl, h0, hd⟩ := hd.c
    obtain ⟨x1, r1, rfl, h1, hd⟩ := hd.c
    obtain ⟨x2, r2, rfl, h2, hd⟩ := hd.c
    cases hd.n
    have hs := same_t sg hs
    cases h0.str'
    cases h1.str'
    refine ⟨_, rfl, a, _, _, _, rfl, rfl, hs, (rfl : atI [V.str "call", V.str nm, x2] 0 = some (V.str "call")), rfl, _, rfl, ?_⟩
    rw [dec_ff (by decide)]
    refine iteF ?_
    refine ⟨_, rfl, a, _, _, _, rfl, rfl, hs, (rfl : atI [V.str "call", V.str nm, x2] 0 = some (V.str "call")), rfl, _, rfl, ?_⟩
    rw [dec_ff (by decide)]
    refine iteF ?_
    refine ⟨_, rfl, a, _, _, _, rfl, rfl, hs, (rfl : atI [V.str "call", V.str nm, x2] 0 = some (V.str "call")), rfl, _, rfl, ?_⟩
    rw [dec_ff (by decide)]
    refine iteF ?_
    exact ⟨by show 0 ≤ sizeLine; decide, fun L hL => k L _ _ (same_upd hL) hL upd_same .nil⟩
  | double b =>
    rw [thingD] at dt
    obtain ⟨a, xs, rfl, hs, hd⟩ := dt.tup'
    obtain ⟨x0, r0, rfl, h0, hd⟩ := hd.c
    obtain ⟨x1, r1, rfl, h1, hd⟩ := hd.c
    cases hd.n
    have hs := same_t sg hs
    cases h0.str'
    refine ⟨_, rfl, a, _, _, _, rfl, rfl, hs, (rfl : atI [V.str "double", x1] 0 = some (V.str "double")), rfl, _, rfl, ?_⟩
    rw [dec_ff (by decide)]
    refine iteF ?_
    refine ⟨_, rfl, a, _, _, _, rfl, rfl, hs, (rfl : atI [V.str "double", x1] 0 = some (V.str "double")), rfl, _, rfl, ?_⟩
    rw [dec_ff (by decide)]
    refine iteF ?_
    refine ⟨_, rfl, a, _, _, _, rfl, rfl, hs, (rfl : atI [V.str "double", x1] 0 = some (V.str "double")), rfl, _, rfl, ?_⟩
    rw [dec_tt]
    refine iteT ?_
    exact ⟨_, rfl, a, _, _, _, rfl, rfl, hs, (rfl : atI [V.str "double", x1] 1 = some x1), by show 1 ≤ sizeLine; decide, fun L hL => k L _ _ (same_upd hL) hL upd_same (.cons h1 .nil)⟩
  | loop nm e1 e2 b =>
    rw [thingD] at dt
    obtain ⟨a, xs, rfl, hs, hd⟩ := dt.tup'
    obtain ⟨x0, r0, rfl, h0, hd⟩ := hd.c
    obtain ⟨x1, r1, rfl, h1, hd⟩ := hd.c
    obtain ⟨x2, r2, rfl, h2, hd⟩ := hd.c
    obtain ⟨x3, r3, rfl, h3, hd⟩ := hd.c
    obtain ⟨x4, r4, rfl, h4, hd⟩ := hd.c
    cases hd.n
    have hs := same_t sg hs
    cases h0.str'
    cases h1.str'
    refine ⟨_, rfl, a, _, _, _, rfl, rfl, hs, (rfl : atI [V.str "for", V.str nm, x2, x3, x4] 0 = some (V.str "for")), rfl, _, rfl, ?_⟩
    rw [dec_ff (by decide)]
    refine iteF ?_
    refine ⟨_, rfl, a, _, _, _, rfl, rfl, hs, (rfl : atI [V.str "for", V.str nm, x2, x3, x4] 0 = some (V.str "for")), rfl, _, rfl, ?_⟩
    rw [dec_tt]
    refine iteT ?_
    exact ⟨_, rfl, a, _, _, _, rfl, rfl, hs, (rfl : atI [V.str "for", V.str nm, x2, x3, x4] 4 = some x4), by show 1 ≤ sizeLine; decide, fun L hL => k L _ _ (same_upd hL) hL upd_same (.cons h4 .nil)⟩
  | test e1 e2 b1 b2 =>
    rw [thingD] at dt
    obtain ⟨a, xs, rfl, hs, hd⟩ := dt.tup'
    obtain ⟨x0, r0, rfl, h0, hd⟩ := hd.c
    obtain ⟨x1, r1, rfl, h1, hd⟩ := hd.c
    obtain ⟨x2, r2, rfl, h2, hd⟩ := hd.c
    obtain ⟨x3, r3, rfl, h3, hd⟩ := hd.c
    obtain ⟨x4, r4, rfl, h4, hd⟩ := hd.c
    cases hd.n
    have hs := same_t sg hs
    cases h0.str'
    refine ⟨_, rfl, a, _, _, _, rfl, rfl, hs, (rfl : atI [V.str "if", x1, x2, x3, x4] 0 = some (V.str "if")), rfl, _, rfl, ?_⟩
    rw [dec_tt]
    refine iteT ?_
    exact ⟨_, rfl, a, _, _, _, rfl, rfl, hs, (rfl : atI [V.str "if", x1, x2, x3, x4] 3 = some x3), _, rfl, a, _, _, _, rfl, rfl, hs, (rfl : atI [V.str "if", x1, x2, x3, x4] 4 = some x4), by show 2 ≤ sizeLine; decide, fun L hL => k L _ _ (same_upd hL) hL upd_same (.cons h3 (.cons h4 .nil))⟩
  | again n z =>
    rw [thingD] at dt
    obtain ⟨a, xs, rfl, hs, hd⟩ := dt.tup'
    obtain ⟨x0, r0, rfl, h0, hd⟩ := hd.c
    obtain ⟨x1, r1, rfl, h1, hd⟩ := hd.c
    obtain ⟨x2, r2, rfl, h2, hd⟩ := hd.c
    cases hd.n
    have hs := same_t sg hs
    cases h0.str'
    cases h2.str'
    cases h1.int'
    refine ⟨_, rfl, a, _, _, _, rfl, rfl, hs, (rfl : atI [V.str "again", V.int n, V.str z] 0 = some (V.str "again")), rfl, _, rfl, ?_⟩
    rw [dec_ff (by decide)]
    refine iteF ?_
    refine ⟨_, rfl, a, _, _, _, rfl, rfl, hs, (rfl : atI [V.str "again", V.int n, V.str z] 0 = some (V.str "again")), rfl, _, rfl, ?_⟩
    rw [dec_ff (by decide)]
    refine iteF ?_
    refine ⟨_, rfl, a, _, _, _, rfl, rfl, hs, (rfl : atI [V.str "again", V.int n, V.str z] 0 = some (V.str "again")), rfl, _, rfl, ?_⟩
    rw [dec_ff (by decide)]
    refine iteF ?_
    exact ⟨by show 0 ≤ sizeLine; decide, fun L hL => k L _ _ (same_upd hL) hL upd_same .nil⟩
/-- all that stands in a plan, a new list -/
def spEvery (K : PySem.W.Frag) (f : Nat) : Sp := fun vs H Q _ => ∃ (v : V) (b : List Thing) (G : Hp), vs = [v] ∧ Same G H ∧ Dp K G v (planD b) ∧ thingsC b < f ∧ thingsC b ≤ 31 ∧
  ∀ (p : Addr) (us : List V) (H' : Hp), Same H H' → H p = none → H' p = some (.lst us) → DpAll K G us ((everyL b).map thingD) → Q (.ref p) H'
theorem all_things_step (T : Txt K mg) (f : Nat) (G_all_things : FnOk P w K mg base CX0 (f + 1) T.a_all_things T.d_all_things ["body"] (spEvery K f)) :
    FnOk P w K mg base CX0 (f + 2) T.a_all_things T.d_all_things ["body"] (spEvery K (f + 1)) := by
  refine T.F_all_things.ok sc_all_things (fun vs H Q E h => ?_) (fun cdv A outer s H vs Q E hr h => ?_)
  · obtain ⟨v, b, G, rfl, _⟩ := h
    rfl
  obtain ⟨v, b, G, rfl, sg, db, hf, hc, k⟩ := h
  refine ⟨_, (pss_cons (ps_set (i := 1) sc_all_things.nd rfl (Or.inl rfl) (pe_lst pa_nil))
      (pss_cons (ps_for PassesOwn.never rfl (pi_tup (pv 0)) (pg_name (i := 2) sc_all_things.nd rfl (Or.inl rfl)) (pss_cons (ps_expr (pe_bm PySem.F.plainAttrs_list PySem.F.slot_list_append PySem.F.type_list_append mt_append (pv 1) (pa_cons (pv 2) pa_nil)))
      (pss_one (ps_for PassesOwn.never rfl (pi_list (pe_call (ok_bodies_of T) (hr.mono (by omega)) (by rfl) T.g_bodies_of T.F_bodies_of.kp T.b_bodies_of .nil pass0 (pa_cons (pv 2) pa_nil))) (pg_name (i := 3) sc_all_things.nd rfl (Or.inl rfl)) (pss_one (ps_expr (pe_bm PySem.F.plainAttrs_list PySem.F.slot_list_extend PySem.F.type_list_extend mt_extend (pv 1) (pa_cons (pe_call G_all_things (hr.mono (by omega)) (by rfl) T.g_all_things T.F_all_things.kp T.b_all_things .nil pass0 (pa_cons (pv 3) pa_nil)) pa_nil))))))))
      (pss_one (ps_ret (pv 1))))), ?_⟩
  obtain ⟨a, us, rfl, hs, hd⟩ := db.tup'
  rw [thingsD_eq] at hd
  have lu : us.length = b.length := by
    have := hd.length
    rw [List.length_map] at this
    exact this
  have small : ∀ {vs : List V} {i j : Nat} {t : Thing}, t ∈ b → DpAll K G vs ((everyP b i t j).map thingD) → vs.length ≤ 62 := fun {vs i j t} ht hv => by
    have h1 := hv.length
    rw [List.length_map] at h1
    have h2 := everyP_len i j ht
    omega
  refine ⟨by show 0 ≤ sizeLine; decide, fun L hL => ?_⟩
  refine ⟨_, rfl, a, rfl, ⟨_, same_t (sg.trans (same_upd hL)) hs⟩, for_it (walk_tup (xs := us)) (fun i σ H' => Same H H' ∧ ∃ vs, H' L = some (.lst vs) ∧ DpAll K G vs ((everyL (b.take i)).map thingD) ∧ ∃ v2 v3, σ = [some (.ref a), some (.ref L), v2, v3]) ⟨same_upd hL, [], upd_same, by simp [everyL]; exact .nil, _, _, rfl⟩ (fun i σ H _ p => same_t (sg.trans p.1) hs) ?_ ?_⟩
  · rintro i x σ H5 H6 hi ⟨s6, vs, eL, dvs, v2, v3, rfl⟩ ⟨rfl, hx⟩
    obtain ⟨t, ht, dt⟩ := DpAll.at_ hd hx
    have tm := List.mem_of_getElem? ht
    have lv := dvs.length
    have l1 := take_C b i
    rw [List.length_map, everyL_len] at lv
    refine ⟨_, rfl, .inl ⟨rfl, _, SqL.of eL⟩, _, rfl, L, _, _, rfl, rfl, eL, small1000 (by omega), ?_⟩
    have s7 := same_put (o := .lst (vs ++ [x])) s6 hL
    have d7 : DpAll K G (vs ++ [x]) ((everyP b i t 0).map thingD) := by
      rw [everyP_zero, List.map_append]
      exact DpAll.snoc dvs dt
    refine ⟨_, rfl, x, t, G, rfl, sg.trans s7, dt, fun p ws H8 s8 np ep dw => ?_⟩
    have nLp : L ≠ p := fun z => by rw [← z, upd_same] at np; cases np
    have lw : ws.length = (bodiesL t).length := by
      have := dw.length
      rw [List.length_map] at this
      exact this
    have hp : H p = none := same_none s7 np
    refine ⟨p, rfl, ⟨_, SqL.of ep⟩, for_it (walk_list (xs := ws)) (fun j σ H' => Same H H' ∧ H' p = some (.lst ws) ∧ ∃ vs, H' L = some (.lst vs) ∧ DpAll K G vs ((everyP b i t j).map thingD) ∧ ∃ v3, σ = [some (.ref a), some (.ref L), some x, v3]) ⟨s7.trans s8, ep, _, s8 _ _ upd_same, d7, _, rfl⟩ (fun j σ H _ p => SqL.of p.2.1) ?_ ?_⟩
    · rintro j y σ H9 H10 hj ⟨s10, ep10, vs10, eL10, d10, v3, rfl⟩ ⟨rfl, hy⟩
      obtain ⟨c, hcj, dc⟩ := DpAll.at_ dw hy
      have clt := bodies_lt (List.mem_of_getElem? hcj)
      have tle := thingC_mem tm
      refine ⟨_, rfl, .inl ⟨rfl, _, SqL.of eL10⟩, _, rfl, y, c, G, rfl, sg.trans s10, dc, by omega, by omega, fun p3 us3 H11 s11 n3 e3 d3 => ?_⟩
      have eL11 := s11 _ _ eL10
      have l3 := d3.length
      rw [List.length_map, everyL_len] at l3
      have l10 := small tm d10
      try unfold tNil
      refine ⟨L, p3, _, _, rfl, rfl, eL11, e3, Nat.le_trans (m := 1000) (by omega) (by decide), ?_⟩
      refine ⟨same_put (s10.trans s11) hL, by rw [upd_ne (Ne.symm nLp)]; exact s11 _ _ ep10, _, upd_same, ?_, _, rfl⟩
      rw [everyP_succ hcj, List.map_append]
      exact DpAll_app d10 d3
    · rintro σ H9 ⟨s9, ep9, vs9, eL9, d9, v3, rfl⟩
      have e : everyP b i t ws.length = everyL (b.take (i + 1)) := by
        rw [lw]
        exact everyP_end ht
      rw [e] at d9
      exact ⟨s9, vs9, eL9, d9, _, _, rfl⟩
  · rintro σ H5 ⟨s5, vs, eL, dvs, v2, v3, rfl⟩
    have e : b.take us.length = b := by rw [lu, List.take_length]
    rw [e] at dvs
    exact ⟨_, rfl, k L vs _ s5 hL eL dvs⟩
theorem all_things_all (T : Txt K mg) : ∀ f : Nat, FnOk P w K mg base CX0 (f + 1) T.a_all_things T.d_all_things ["body"] (spEvery K f)
  | 0 => by
    have no : ∀ vs H Q E, ¬ spEvery K 0 vs H Q E := fun vs H Q E h => by
      obtain ⟨v, b, G, _, _, _, h1, _⟩ := h
      omega
    exact ⟨fun vs H Q E h => absurd h (no vs H Q E), fun A outer s H args us vs Q E _ _ _ _ h => absurd h (no vs H Q E)⟩
  | f + 1 => all_things_step T f (all_things_all T f)
theorem ok_all_things (T : Txt K mg) : FnOk P w K mg base CX0 16 T.a_all_things T.d_all_things ["body"] (spEvery K 15) := all_things_all T 15
/-- the names that a plan calls, a new list -/
def spCalls (K : PySem.W.Frag) : Sp := fun vs H Q _ => ∃ (v : V) (b : List Thing) (G : Hp), vs = [v] ∧ Same G H ∧ Dp K G v (planD b) ∧ thingsC b < 15 ∧
  ∀ (p : Addr) (H' : Hp), Same H H' → H p = none → H' p = some (.lst ((callsL b).map V.str)) → Q (.ref p) H'
theorem ok_calls_of (T : Txt K mg) : FnOk P w K mg base CX0 17 T.a_calls_of T.d_calls_of ["plan"] (spCalls K) := by
  refine T.F_calls_of.ok sc_calls_of (fun vs H Q E h => ?_) (fun cdv A outer s H vs Q E hr h => ?_)
  · obtain ⟨v, b, G, rfl, _⟩ := h
    rfl
  obtain ⟨v, b, G, rfl, sg, db, hc, k⟩ := h
  refine ⟨_, (pss_cons (ps_set (i := 1) sc_calls_of.nd rfl (Or.inl rfl) (pe_lst pa_nil))
      (pss_cons (ps_for PassesOwn.never rfl (pi_list (pe_call (ok_all_things T) (hr.mono (by decide)) (by rfl) T.g_all_things T.F_all_things.kp T.b_all_things .nil pass0 (pa_cons (pv 0) pa_nil))) (pg_name (i := 2) sc_calls_of.nd rfl (Or.inl rfl)) (pss_one (ps_if (PW.pt (pw_and (pt_cmpR op_eq (pe_ix ix_tup (pv 2) pe_int (fun _ _ => rfl)) pe_str (nomark _)) (pw_and1 (pt_cmpR op_notIn_seq (pe_ix ix_tup (pv 2) pe_int (fun _ _ => rfl)) (pv 1) (by rfl))))) (pss_one (ps_expr (pe_bm PySem.F.plainAttrs_list PySem.F.slot_list_append PySem.F.type_list_append mt_append (pv 1) (pa_cons (pe_ix ix_tup (pv 2) pe_int (fun _ _ => rfl)) pa_nil)))) pss_nil)))
      (pss_one (ps_ret (pv 1))))), ?_⟩
  refine ⟨by show 0 ≤ sizeLine; decide, fun L hL => ?_⟩
  have s1 := same_upd (o := .lst []) hL
  refine ⟨_, rfl, v, b, G, rfl, sg.trans s1, db, hc, by omega, fun p us H2 s2 np ep du => ?_⟩
  have nLp : L ≠ p := fun z => by rw [← z, upd_same] at np; cases np
  have lu : us.length = (everyL b).length := by
    have := du.length
    rw [List.length_map] at this
    exact this
  have le : (everyL b).length < 15 := by rw [everyL_len]; exact hc
  refine ⟨p, rfl, ⟨_, SqL.of ep⟩, for_it (walk_list (xs := us)) (fun i σ H' => Same H H' ∧ H' p = some (.lst us) ∧ H' L = some (.lst ((((everyL b).take i).foldl callStep []).map V.str)) ∧ ∃ v2, σ = [some v, some (.ref L), v2]) ⟨s1.trans s2, ep, s2 _ _ upd_same, _, rfl⟩ (fun i σ H _ p => SqL.of p.2.1) ?_ ?_⟩
  · rintro i x σ H5 H6 hi ⟨s6, ep6, eL, v2, rfl⟩ ⟨rfl, hx⟩
    obtain ⟨t, ht, dt⟩ := DpAll.at_ du hx
    rw [take_snoc ht, List.foldl_append]
    show _
    have len : ((((everyL b).take i).foldl callStep []).map V.str).length ≤ 1000 := by
      have := calls_len ((everyL b).take i) []
      rw [List.length_map]
      rw [List.length_take] at this
      simp at this
      omega
    generalize ((everyL b).take i).foldl callStep [] = acc at eL len ⊢
    show _
    by_cases hcall : ∃ nm e, t = .call nm e
    · obtain ⟨nm, e, rfl⟩ := hcall
      obtain ⟨a, y, rfl, hs, _⟩ := thing_call dt
      have hs := same_t (sg.trans s6) hs
      refine ⟨_, rfl, a, _, _, _, rfl, rfl, hs, (rfl : atI [V.str "call", .str nm, y] 0 = some (.str "call")), rfl, _, rfl, ?_⟩
      rw [dec_tt]
      refine iteT ?_
      refine ⟨_, rfl, a, _, _, _, rfl, rfl, hs, (rfl : atI [V.str "call", .str nm, y] 1 = some (.str nm)), _, rfl, L, _, rfl, .inl (SqL.of eL), rfl, flat_strs _, _, rfl, ?_⟩
      rw [show (if true = true then !inV (V.str nm) (acc.map V.str) else inV (V.str nm) (acc.map V.str)) = !decide (nm ∈ acc) by rw [if_pos rfl, inV_strs]]
      refine ite2 (fun c => ?_) (fun c => ?_)
      · have c' : ¬ nm ∈ acc := by simpa using c
        refine ⟨_, rfl, .inl ⟨rfl, _, SqL.of eL⟩, _, rfl, a, _, _, _, rfl, rfl, hs, (rfl : atI [V.str "call", .str nm, y] 1 = some (.str nm)), L, _, _, rfl, rfl, eL, small1000 len, ?_⟩
        refine ⟨same_put s6 hL, by rw [upd_ne (Ne.symm nLp)]; exact ep6, ?_, _, rfl⟩
        rw [upd_same]
        show _ = some (HO.lst ((callStep acc (.call nm e)).map V.str))
        simp only [callStep]
        rw [if_neg c', List.map_append]
        rfl
      · have c' : nm ∈ acc := by simpa using c
        refine ⟨s6, ep6, ?_, _, rfl⟩
        rw [eL]
        show _ = some (HO.lst ((callStep acc (.call nm e)).map V.str))
        simp only [callStep]
        rw [if_pos c']
    · obtain ⟨w1, w2⟩ := word_no_call (t := t) (fun nm e q => hcall ⟨nm, e, q⟩)
      obtain ⟨a, r, rfl, hs⟩ := thing_head dt
      have hs := same_t (sg.trans s6) hs
      refine ⟨_, rfl, a, _, _, _, rfl, rfl, hs, atI_nat (j := 0) rfl, rfl, _, rfl, ?_⟩
      rw [dec_ff w1]
      refine iteF (iteF ⟨s6, ep6, ?_, _, rfl⟩)
      rw [eL]
      show _ = some (HO.lst ((callStep acc t).map V.str))
      rw [w2]
  · rintro σ H5 ⟨s5, ep5, eL, v2, rfl⟩
    have e : (everyL b).take us.length = everyL b := by rw [lu, List.take_length]
    rw [e] at eL
    exact ⟨_, rfl, k L _ s5 hL eL⟩
/-- alike data are the same -/
def spSame (K : PySem.W.Frag) (n : Nat) : Sp := fun vs H Q _ => ∃ (x y : V) (d : PyData), vs = [x, y] ∧ Dp K H x d ∧ Dp K H y d ∧ dep d < n ∧ wid d ≤ 100000 ∧ ∀ H', Same H H' → Q (.bl true) H'
theorem same_step (T : Txt K mg) (n : Nat) (G_law_same : FnOk P w K mg base CX0 n T.a_law_same T.d_law_same ["_law_found", "_law_due"] (spSame K n)) :
    FnOk P w K mg base CX0 (n + 1) T.a_law_same T.d_law_same ["_law_found", "_law_due"] (spSame K (n + 1)) := by
  refine T.F_law_same.ok sc_law_same (fun vs H Q E h => ?_) (fun cdv A outer s H vs Q E hr h => ?_)
  · obtain ⟨x, y, d, rfl, _⟩ := h
    rfl
  obtain ⟨x, y, d, rfl, dx, dy, hn, hw, k⟩ := h
  refine ⟨_, (pss_cons (ps_if (pt_val (pe_callB call_isiT (by rfl) T.z_isinstance (by decide +kernel) (pa_cons (pv 1) (pa_cons (pe_tup (pa_cons (pe_bltn (v := .ty "list") (by rfl) T.z_list (by decide +kernel) rfl) (pa_cons (pe_bltn (v := .ty "tuple") (by rfl) T.z_tuple (by decide +kernel) rfl) pa_nil))) pa_nil)))) (pss_cons (ps_if (PW.pt (pw_or (pt_cmpR op_ne (pe_callB call_isi (by rfl) T.z_isinstance (by decide +kernel) (pa_cons (pv 0) (pa_cons (pe_bltn (v := .ty "list") (by rfl) T.z_list (by decide +kernel) rfl) pa_nil))) (pe_callB call_isi (by rfl) T.z_isinstance (by decide +kernel) (pa_cons (pv 1) (pa_cons (pe_bltn (v := .ty "list") (by rfl) T.z_list (by decide +kernel) rfl) pa_nil))) (nomark _)) (pw_or1 (pt_not (pt_val (pe_callB call_isiT (by rfl) T.z_isinstance (by decide +kernel) (pa_cons (pv 0) (pa_cons (pe_tup (pa_cons (pe_bltn (v := .ty "list") (by rfl) T.z_list (by decide +kernel) rfl) (pa_cons (pe_bltn (v := .ty "tuple") (by rfl) T.z_tuple (by decide +kernel) rfl) pa_nil))) pa_nil)))))))) (pss_one (ps_ret pe_bl)) pss_nil)
      (pss_one (ps_ret (pe_and (pe_cmpR op_eq (pe_callB call_len (by rfl) T.z_len (by decide +kernel) (pa_cons (pv 0) pa_nil)) (pe_callB call_len (by rfl) T.z_len (by decide +kernel) (pa_cons (pv 1) pa_nil)) (nomark _)) (pe_one (pe_callB (cr_all rfl) (by rfl) T.z_all (by decide +kernel) (pa_cons (pe_lc (own := [("_law_one", 2), ("_law_other", 3)]) (g := gTup K 2 ((gCons (gName 2) (gCons (gName 3) gNil)))) (tt := tYes) rfl sc_law_same.nd (RZ.pi_zipA (by rfl) T.z_zip (pa_cons (pv 0) (pa_cons (pv 1) pa_nil))) (blkOk_by (N := N_law_same) (sc := defScope s_law_same) (by decide +kernel)) (fun _ _ _ _ _ => (pg_tup rfl (pgs_cons (pg_name (i := 2) sc_law_same.nd rfl (Or.inl rfl)) (pgs_cons (pg_name (i := 3) sc_law_same.nd rfl (Or.inl rfl)) pgs_nil)))) (fun _ _ _ _ _ => pts_nil) (fun _ _ _ _ _ => (pe_call G_law_same hr (by rfl) T.g_law_same T.F_law_same.kp T.b_law_same .nil pass0 (pa_cons (pv 2) (pa_cons (pv 3) pa_nil))))) pa_nil))))))) pss_nil)
      (pss_cons (ps_if (pt_cmpR op_isN (pv 1) pe_non (nomark _)) (pss_one (ps_ret (pe_cmpR op_isN (pv 0) pe_non (nomark _)))) pss_nil)
      (pss_cons (ps_if (PW.pt (pw_or (pt_cmpR op_ne (pe_callB call_isi (by rfl) T.z_isinstance (by decide +kernel) (pa_cons (pv 0) (pa_cons (pe_bltn (v := .ty "bool") (by rfl) T.z_bool (by decide +kernel) rfl) pa_nil))) (pe_callB call_isi (by rfl) T.z_isinstance (by decide +kernel) (pa_cons (pv 1) (pa_cons (pe_bltn (v := .ty "bool") (by rfl) T.z_bool (by decide +kernel) rfl) pa_nil))) (nomark _)) (pw_or1 (pt_cmpR op_ne (pe_callB call_isi (by rfl) T.z_isinstance (by decide +kernel) (pa_cons (pv 0) (pa_cons (pe_bltn (v := .ty "int") (by rfl) T.z_int (by decide +kernel) rfl) pa_nil))) (pe_callB call_isi (by rfl) T.z_isinstance (by decide +kernel) (pa_cons (pv 1) (pa_cons (pe_bltn (v := .ty "int") (by rfl) T.z_int (by decide +kernel) rfl) pa_nil))) (nomark _))))) (pss_one (ps_ret pe_bl)) pss_nil)
      (pss_one (ps_ret (pe_and (pe_cmpR op_eq (pe_callB call_isi (by rfl) T.z_isinstance (by decide +kernel) (pa_cons (pv 0) (pa_cons (pe_bltn (v := .ty "str") (by rfl) T.z_str (by decide +kernel) rfl) pa_nil))) (pe_callB call_isi (by rfl) T.z_isinstance (by decide +kernel) (pa_cons (pv 1) (pa_cons (pe_bltn (v := .ty "str") (by rfl) T.z_str (by decide +kernel) rfl) pa_nil))) (nomark _)) (pe_one (pe_cmpR op_eq (pv 0) (pv 1) (nomark _))))))))), ?_⟩
  have kd := fun d => kit_d (K := K) d
  -- isinstance(due, (list, tuple))
  refine ⟨_, rfl, by show 2 ≤ sizeLine; decide, fun p hp => ?_⟩
  have s1 : Same H (upd H p (.tup clsLT)) := same_upd hp
  refine ⟨y, p, clsLT, _, _, _, rfl, upd_same, pairLT, dp_ty (Dp.mono s1 dy), kit2 (kd d).1 (kd d).2.1, _, rfl, ?_⟩
  refine ite2 (fun c1 => ?_) (fun c1 => ?_)
  · -- lists, tuples
    refine ⟨_, rfl, x, _, _, _, _, rfl, .ty _, dp_ty (Dp.mono s1 dx), (kd d).1, ?_⟩
    refine ⟨_, rfl, y, _, _, _, _, rfl, .ty _, dp_ty (Dp.mono s1 dy), (kd d).1, rfl, _, rfl, ?_⟩
    refine iteNS rfl ?_
    refine ⟨_, rfl, by show 2 ≤ sizeLine; decide, fun p2 hp2 => ?_⟩
    have s2 := s1.trans (same_upd (o := .tup clsLT) hp2)
    refine ⟨x, p2, clsLT, _, _, _, rfl, upd_same, pairLT, dp_ty (Dp.mono s2 dx), kit2 (kd d).1 (kd d).2.1, _, rfl, ?_⟩
    rw [c1]
    refine iteF ?_
    generalize hH : upd (upd H p (.tup clsLT)) p2 (.tup clsLT) = H2 at s2
    have dx2 := Dp.mono s2 dx
    have dy2 := Dp.mono s2 dy
    -- the turns of the comprehension
    have turn : ∀ (D : Addr) (xs ys : List V) (ds : List PyData), H2 D = none → DpAll K H2 xs ds → DpAll K H2 ys ds → depAll ds < n → widAll ds ≤ 100000 → ds.length ≤ 100000 → ∀ (i : Nat) (z : V) (H H' : Hp), i < min xs.length ys.length →
        (Same H2 H ∧ H D = some (.lst (List.replicate i (V.bl true)))) → YPair (fun i => xs[i]?) (fun i => ys[i]?) i H z H' → ∃ T u v du, z = .ref T ∧ H' T = some (.tup [u, v]) ∧ Dp K H' u du ∧ Dp K H' v du ∧ dep du < n ∧ wid du ≤ 100000 ∧ i < 100000 ∧ Same H2 H' ∧ H' D = some (.lst (List.replicate i (V.bl true))) := by
      rintro D xs ys ds hD ax ay hdp hwd hln i z H3 H4 hi ⟨sm, eD⟩ ⟨Tt, u, v, rfl, nT, rfl, gx, gy⟩
      have lx := ax.length
      obtain ⟨du, gd, pu⟩ := ax.get gx
      obtain ⟨dv, gd', pv⟩ := ay.get gy
      rw [gd] at gd'
      cases gd'
      have sm' := sm.trans (same_upd (o := .tup [u, v]) nT)
      have := dep_get gd
      have := wid_get gd
      refine ⟨Tt, u, v, du, rfl, upd_same, Dp.mono sm' pu, Dp.mono sm' pv, by omega, by omega, by omega, sm', ?_⟩
      rw [upd_ne (ne_of_none eD nT)]
      exact eD
    have fin : ∀ (m : Nat) (H' : Hp) (D : Addr), Same H2 H' → H' D = some (.lst (List.replicate m (V.bl true))) → ∃ (a : Addr) (bs : List Bool), ([.ref D] : List V) = [V.ref a] ∧ SqL K H' a (bs.map V.bl) ∧ Q (.bl (bs.all id)) H' := by
      intro m H' D sm eD
      refine ⟨D, List.replicate m true, rfl, SqL.of (by rw [List.map_replicate]; exact eD), ?_⟩
      rw [show (List.replicate m true).all id = true by simp]
      exact k _ (s2.trans sm)
    have body : ∀ (D : Addr) (i : Nat) (u v : V) (du : PyData) (H' : Hp), H2 D = none → Dp K H' u du → Dp K H' v du → dep du < n → wid du ≤ 100000 → i < 100000 → Same H2 H' → H' D = some (.lst (List.replicate i (V.bl true))) →
        spSame K n [u, v] H' (fun y H4 => ∃ acc, H4 D = some (.lst acc) ∧ acc.length < sizeLine ∧ (Same H2 (upd H4 D (.lst (acc ++ [y]))) ∧ (upd H4 D (.lst (acc ++ [y]))) D = some (.lst (List.replicate (i + 1) (V.bl true))))) E0 := by
      intro D i u v du H' hD pu pv hdp hwd hi sm eD
      refine ⟨u, v, du, rfl, pu, pv, hdp, hwd, fun H4 sm4 => ?_⟩
      refine ⟨List.replicate i (V.bl true), sm4 _ _ eD, ?_, ?_, ?_⟩
      · rw [List.length_replicate]
        exact Nat.lt_of_lt_of_le hi (by decide)
      · intro b o e
        rw [upd_ne (ne_of_none e hD)]
        exact sm4 _ _ (sm _ _ e)
      · rw [upd_same, List.replicate_succ']
    cases dx2 with
    | @lst a xs ds hs ha =>
      cases dy2 with
      | @lst b ys _ hs' ha' =>
        have hdp : depAll ds < n := by
          rw [dep] at hn
          omega
        have hwd : widAll ds ≤ 100000 ∧ ds.length ≤ 100000 := by
          rw [wid] at hw
          omega
        have lx := ha.length
        have ly := ha'.length
        have el : decide (V.int ((xs.length : Nat) : Int) = V.int ((ys.length : Nat) : Int)) = true := by
          rw [lx, ly]
          exact decide_eq_true rfl
        refine ⟨_, rfl, _, _, rfl, .inl ⟨xs, hs, rfl⟩, _, rfl, _, _, rfl, .inl ⟨ys, hs', rfl⟩, rfl, _, rfl, ?_⟩
        rw [el]
        refine iteT ?_
        refine ⟨_, rfl, _, rfl, a, b, xs, ys, rfl, .inl ⟨hs, hs', fun D hD => ?_⟩⟩
        refine lc_it (walk_zip rfl) (fun i H => Same H2 H ∧ H D = some (.lst (List.replicate i (V.bl true)))) ⟨same_upd hD, upd_same⟩ (fun i H _ p => ⟨same_l p.1 hs, same_l p.1 hs'⟩) ?_ (fun H' p => fin _ H' D p.1 p.2)
        intro i z H3 H4 hi p y
        obtain ⟨Tt, u, v, du, rfl, eT, pu, pv, h1, h2, h3, sm, eD⟩ := turn D xs ys ds hD ha ha' hdp hwd.1 hwd.2 i z H3 H4 hi p y
        refine ⟨Tt, [u, v], rfl, SqT.of eT, rfl, u, [v], rfl, v, [], rfl, rfl, rfl, ?_⟩
        exact ⟨_, rfl, _, rfl, body D i u v du H4 hD pu pv h1 h2 h3 sm eD⟩
    | @tup a xs ds hs ha =>
      cases dy2 with
      | @tup b ys _ hs' ha' =>
        have hdp : depAll ds < n := by
          rw [dep] at hn
          omega
        have hwd : widAll ds ≤ 100000 ∧ ds.length ≤ 100000 := by
          rw [wid] at hw
          omega
        have lx := ha.length
        have ly := ha'.length
        have el : decide (V.int ((xs.length : Nat) : Int) = V.int ((ys.length : Nat) : Int)) = true := by
          rw [lx, ly]
          exact decide_eq_true rfl
        refine ⟨_, rfl, _, _, rfl, .inr ⟨xs, hs, rfl⟩, _, rfl, _, _, rfl, .inr ⟨ys, hs', rfl⟩, rfl, _, rfl, ?_⟩
        rw [el]
        refine iteT ?_
        refine ⟨_, rfl, _, rfl, a, b, xs, ys, rfl, .inr ⟨hs, hs', fun D hD => ?_⟩⟩
        refine lc_it (walk_zipT rfl) (fun i H => Same H2 H ∧ H D = some (.lst (List.replicate i (V.bl true)))) ⟨same_upd hD, upd_same⟩ (fun i H _ p => ⟨same_t p.1 hs, same_t p.1 hs'⟩) ?_ (fun H' p => fin _ H' D p.1 p.2)
        intro i z H3 H4 hi p y
        obtain ⟨Tt, u, v, du, rfl, eT, pu, pv, h1, h2, h3, sm, eD⟩ := turn D xs ys ds hD ha ha' hdp hwd.1 hwd.2 i z H3 H4 hi p y
        refine ⟨Tt, [u, v], rfl, SqT.of eT, rfl, u, [v], rfl, v, [], rfl, rfl, rfl, ?_⟩
        exact ⟨_, rfl, _, rfl, body D i u v du H4 hD pu pv h1 h2 h3 sm eD⟩
    | non => exact absurd c1 (by decide)
    | bl b => exact absurd c1 (by decide : ¬ (isTn "list" "bool" || isTn "tuple" "bool") = true)
    | int i => exact absurd c1 (by decide : ¬ (isTn "list" "int" || isTn "tuple" "int") = true)
    | str x => exact absurd c1 (by decide : ¬ (isTn "list" "str" || isTn "tuple" "str") = true)
  · generalize upd H p (.tup clsLT) = H2 at s1
    have dx2 := Dp.mono s1 dx
    have dy2 := Dp.mono s1 dy
    cases dx2 with
    | lst hs ha => exact absurd rfl c1
    | tup hs ha => exact absurd rfl c1
    | non =>
      cases dy2
      refine ⟨_, rfl, rfl, _, rfl, ?_⟩
      refine iteT ?_
      exact ⟨_, rfl, rfl, k _ s1⟩
    | bl b =>
      cases dy2
      refine ⟨_, rfl, rfl, _, rfl, ?_⟩
      refine iteF ?_
      -- isinstance(.., bool), isinstance(.., int)
      refine ⟨_, rfl, _, _, _, _, _, rfl, .ty _, .base (.bl b), (kd (.bool b)).2.2.1, _, rfl, _, _, _, _, _, rfl, .ty _, .base (.bl b), (kd (.bool b)).2.2.1, rfl, _, rfl, ?_⟩
      refine iteNS rfl ?_
      refine ⟨_, rfl, _, _, _, _, _, rfl, .ty _, .base (.bl b), (kd (.bool b)).2.2.2.1, _, rfl, _, _, _, _, _, rfl, .ty _, .base (.bl b), (kd (.bool b)).2.2.2.1, rfl, _, rfl, ?_⟩
      refine iteNS rfl ?_
      refine ⟨_, rfl, _, _, _, _, _, rfl, .ty _, .base (.bl b), (kd (.bool b)).2.2.2.2, _, rfl, _, _, _, _, _, rfl, .ty _, .base (.bl b), (kd (.bool b)).2.2.2.2, rfl, _, rfl, ?_⟩
      rw [decide_eq_true rfl]
      refine iteT ?_
      refine ⟨_, rfl, _, rfl, rfl, ?_⟩
      rw [decide_eq_true rfl]
      exact k _ s1
    | int b =>
      cases dy2
      refine ⟨_, rfl, rfl, _, rfl, ?_⟩
      refine iteF ?_
      -- isinstance(.., bool), isinstance(.., int)
      refine ⟨_, rfl, _, _, _, _, _, rfl, .ty _, .base (.int b), (kd (.int b)).2.2.1, _, rfl, _, _, _, _, _, rfl, .ty _, .base (.int b), (kd (.int b)).2.2.1, rfl, _, rfl, ?_⟩
      refine iteNS rfl ?_
      refine ⟨_, rfl, _, _, _, _, _, rfl, .ty _, .base (.int b), (kd (.int b)).2.2.2.1, _, rfl, _, _, _, _, _, rfl, .ty _, .base (.int b), (kd (.int b)).2.2.2.1, rfl, _, rfl, ?_⟩
      refine iteNS rfl ?_
      refine ⟨_, rfl, _, _, _, _, _, rfl, .ty _, .base (.int b), (kd (.int b)).2.2.2.2, _, rfl, _, _, _, _, _, rfl, .ty _, .base (.int b), (kd (.int b)).2.2.2.2, rfl, _, rfl, ?_⟩
      rw [decide_eq_true rfl]
      refine iteT ?_
      refine ⟨_, rfl, _, rfl, rfl, ?_⟩
      rw [decide_eq_true rfl]
      exact k _ s1
    | str b =>
      cases dy2
      refine ⟨_, rfl, rfl, _, rfl, ?_⟩
      refine iteF ?_
      -- isinstance(.., bool), isinstance(.., int)
      refine ⟨_, rfl, _, _, _, _, _, rfl, .ty _, .base (.str b), (kd (.str b)).2.2.1, _, rfl, _, _, _, _, _, rfl, .ty _, .base (.str b), (kd (.str b)).2.2.1, rfl, _, rfl, ?_⟩
      refine iteNS rfl ?_
      refine ⟨_, rfl, _, _, _, _, _, rfl, .ty _, .base (.str b), (kd (.str b)).2.2.2.1, _, rfl, _, _, _, _, _, rfl, .ty _, .base (.str b), (kd (.str b)).2.2.2.1, rfl, _, rfl, ?_⟩
      refine iteNS rfl ?_
      refine ⟨_, rfl, _, _, _, _, _, rfl, .ty _, .base (.str b), (kd (.str b)).2.2.2.2, _, rfl, _, _, _, _, _, rfl, .ty _, .base (.str b), (kd (.str b)).2.2.2.2, rfl, _, rfl, ?_⟩
      rw [decide_eq_true rfl]
      refine iteT ?_
      refine ⟨_, rfl, _, rfl, rfl, ?_⟩
      rw [decide_eq_true rfl]
      exact k _ s1
theorem same_all (T : Txt K mg) : ∀ n, FnOk P w K mg base CX0 n T.a_law_same T.d_law_same ["_law_found", "_law_due"] (spSame K n)
  | 0 => by
    have no : ∀ vs H Q E, ¬ spSame K 0 vs H Q E := fun vs H Q E h => by
      obtain ⟨x, y, d, _, _, _, h, _⟩ := h
      omega
    exact ⟨fun vs H Q E h => absurd h (no vs H Q E), fun A outer s H args us vs Q E _ _ _ _ h => absurd h (no vs H Q E)⟩
  | n + 1 => same_step T n (same_all T n)
theorem ok_law_same (T : Txt K mg) : FnOk P w K mg base CX0 12 T.a_law_same T.d_law_same ["_law_found", "_law_due"] (spSame K 12) := same_all T 12
theorem ok_law_bodies (T : Txt K mg) : FnOk P w K mg base CX0 1 T.a_law_bodies T.d_law_bodies ["_law_thing"] (spBodies K) := by
  refine T.F_law_bodies.ok sc_law_bodies (fun vs H Q E h => ?_) (fun cdv A outer s H vs Q E hr h => ?_)
  · obtain ⟨v, t, G, rfl, _⟩ := h
    rfl
  obtain ⟨v, t, G, rfl, sg, dt, k⟩ := h
  refine ⟨_, (pss_cons (ps_if (pt_cmpR op_eq (pe_ix ix_tup (pv 0) pe_int (fun _ _ => rfl)) pe_str (nomark _)) (pss_one (ps_ret (pe_lst (pa_cons (pe_ix ix_tup (pv 0) pe_int (fun _ _ => rfl)) (pa_cons (pe_ix ix_tup (pv 0) pe_int (fun _ _ => rfl)) pa_nil))))) pss_nil)
      (pss_one (ps_ret (pe_dget2 (hu_of hr) (pe_disp (pps_cons pe_str (pe_lst (pa_cons (pe_ix ix_tup (pv 0) (pe_un un_neg pe_int) (fun _ _ => rfl)) pa_nil)) (pps_cons pe_str (pe_lst (pa_cons (pe_ix ix_tup (pv 0) (pe_un un_neg pe_int) (fun _ _ => rfl)) pa_nil)) pps_nil)) (by rfl) (by rfl) (by simp) (by decide)) (pe_ix ix_tup (pv 0) pe_int (fun _ _ => rfl)) (pe_lst pa_nil) ⟨rfl, rfl, rfl, rfl⟩)))), ?_⟩
  cases t with
  | step n =>
    rw [thingD] at dt
    obtain ⟨a, xs, rfl, hs, hd⟩ := dt.tup'
    obtain ⟨x0, r0, rfl, h0, hd⟩ := hd.c
    obtain ⟨x1, r1, rfl, h1, hd⟩ := hd.c
    cases hd.n
    have hs := same_t sg hs
    cases h0.str'
    cases h1.int'
    refine ⟨_, rfl, a, _, _, _, rfl, rfl, hs, (rfl : atI [V.str "step", V.int n] 0 = some (V.str "step")), rfl, _, rfl, ?_⟩
    rw [dec_ff (by decide)]
    refine iteF ?_
    intro D hD
    have s1 := same_upd (o := .dK []) hD
    refine ⟨_, rfl, _, rfl, a, _, _, _, rfl, rfl, same_t s1 hs, (rfl : atI [V.str "step", V.int n] (-1) = some (V.int n)), by show 1 ≤ sizeLine; decide, fun L1 hL1 => ?_⟩
    have s2 := s1.trans (same_upd (o := .lst [(V.int n)]) hL1)
    refine ⟨_, rfl, _, rfl, a, _, _, _, rfl, rfl, same_t s2 hs, (rfl : atI [V.str "step", V.int n] (-1) = some (V.int n)), by show 1 ≤ sizeLine; decide, fun L2 hL2 => ?_⟩
    have s3 := s2.trans (same_upd (o := .lst [(V.int n)]) hL2)
    have eD : _ = some (HO.dK []) := (same_upd (o := .lst [(V.int n)]) hL2) _ _ ((same_upd (o := .lst [(V.int n)]) hL1) _ _ (upd_same (H := H) (a := D) (o := .dK [])))
    have nD1 : L1 ≠ D := fun z => by rw [z, upd_same] at hL1; cases hL1
    have nD2 : L2 ≠ D := fun z => by
      rw [z, upd_ne (Ne.symm nD1), upd_same] at hL2
      cases hL2
    refine ⟨eD, [(Sum.inr (Str.ofString "for"), .ref L1), (Sum.inr (Str.ofString "double"), .ref L2)], rfl, (by show 2 ≤ 15; decide), ?_⟩
    have s4 := same_put (o := .dK (mergeK [] [(Sum.inr (Str.ofString "for"), .ref L1), (Sum.inr (Str.ofString "double"), .ref L2)])) s3 hD
    refine ⟨D, rfl, .inl ⟨_, .inl upd_same⟩, ?_⟩
    refine ⟨_, rfl, a, _, _, _, rfl, rfl, same_t s4 hs, (rfl : atI [V.str "step", V.int n] 0 = some (V.str "step")), by show 0 ≤ sizeLine; decide, fun L3 hL3 => ?_⟩
    have s5 := same_upd (o := .lst []) hL3
    have dg := DGet.k (k := Sum.inr (Str.ofString "step")) (s5 _ _ (upd_same (a := D) (o := .dK (mergeK [] [(Sum.inr (Str.ofString "for"), V.ref L1), (Sum.inr (Str.ofString "double"), .ref L2)]))))
    exact ⟨_, dg, k L3 _ _ (s4.trans s5) (same_none s4 hL3) upd_same .nil⟩
  | call nm e =>
    rw [thingD] at dt
    obtain ⟨a, xs, rfl, hs, hd⟩ := dt.tup'
    obtain ⟨x0, r0, rfl, h0, hd⟩ := hd.c
    obtain ⟨x1, r1, rfl, h1, hd⟩ := hd.c
    obtain ⟨x2, r2, rfl, h2, hd⟩ := hd.c
    cases hd.n
    have hs := same_t sg hs
    cases h0.str'
    cases h1.str'
    refine ⟨_, rfl, a, _, _, _, rfl, rfl, hs, (rfl : atI [V.str "call", V.str nm, x2] 0 = some (V.str "call")), rfl, _, rfl, ?_⟩
    rw [dec_ff (by decide)]
    refine iteF ?_
    intro D hD
    have s1 := same_upd (o := .dK []) hD
    refine ⟨_, rfl, _, rfl, a, _, _, _, rfl, rfl, same_t s1 hs, (rfl : atI [V.str "call", V.str nm, x2] (-1) = some x2), by show 1 ≤ sizeLine; decide, fun L1 hL1 => ?_⟩
    have s2 := s1.trans (same_upd (o := .lst [x2]) hL1)
    refine ⟨_, rfl, _, rfl, a, _, _, _, rfl, rfl, same_t s2 hs, (rfl : atI [V.str "call", V.str nm, x2] (-1) = some x2), by show 1 ≤ sizeLine; decide, fun L2 hL2 => ?_⟩
    have s3 := s2.trans (same_upd (o := .lst [x2]) hL2)
    have eD : _ = some (HO.dK []) := (same_upd (o := .lst [x2]) hL2) _ _ ((same_upd (o := .lst [x2]) hL1) _ _ (upd_same (H := H) (a := D) (o := .dK [])))
    have nD1 : L1 ≠ D := fun z => by rw [z, upd_same] at hL1; cases hL1
    have nD2 : L2 ≠ D := fun z => by
      rw [z, upd_ne (Ne.symm nD1), upd_same] at hL2
      cases hL2
    refine ⟨eD, [(Sum.inr (Str.ofString "for"), .ref L1), (Sum.inr (Str.ofString "double"), .ref L2)], rfl, (by show 2 ≤ 15; decide), ?_⟩
    have s4 := same_put (o := .dK (mergeK [] [(Sum.inr (Str.ofString "for"), .ref L1), (Sum.inr (Str.ofString "double"), .ref L2)])) s3 hD
    refine ⟨D, rfl, .inl ⟨_, .inl upd_same⟩, ?_⟩
    refine ⟨_, rfl, a, _, _, _, rfl, rfl, same_t s4 hs, (rfl : atI [V.str "call", V.str nm, x2] 0 = some (V.str "call")), by show 0 ≤ sizeLine; decide, fun L3 hL3 => ?_⟩
    have s5 := same_upd (o := .lst []) hL3
    have dg := DGet.k (k := Sum.inr (Str.ofString "call")) (s5 _ _ (upd_same (a := D) (o := .dK (mergeK [] [(Sum.inr (Str.ofString "for"), V.ref L1), (Sum.inr (Str.ofString "double"), .ref L2)]))))
    exact ⟨_, dg, k L3 _ _ (s4.trans s5) (same_none s4 hL3) upd_same .nil⟩
  | double b =>
    rw [thingD] at dt
    obtain ⟨a, xs, rfl, hs, hd⟩ := dt.tup'
    obtain ⟨x0, r0, rfl, h0, hd⟩ := hd.c
    obtain ⟨x1, r1, rfl, h1, hd⟩ := hd.c
    cases hd.n
    have hs := same_t sg hs
    cases h0.str'
    refine ⟨_, rfl, a, _, _, _, rfl, rfl, hs, (rfl : atI [V.str "double", x1] 0 = some (V.str "double")), rfl, _, rfl, ?_⟩
    rw [dec_ff (by decide)]
    refine iteF ?_
    intro D hD
    have s1 := same_upd (o := .dK []) hD
    refine ⟨_, rfl, _, rfl, a, _, _, _, rfl, rfl, same_t s1 hs, (rfl : atI [V.str "double", x1] (-1) = some x1), by show 1 ≤ sizeLine; decide, fun L1 hL1 => ?_⟩
    have s2 := s1.trans (same_upd (o := .lst [x1]) hL1)
    refine ⟨_, rfl, _, rfl, a, _, _, _, rfl, rfl, same_t s2 hs, (rfl : atI [V.str "double", x1] (-1) = some x1), by show 1 ≤ sizeLine; decide, fun L2 hL2 => ?_⟩
    have s3 := s2.trans (same_upd (o := .lst [x1]) hL2)
    have eD : _ = some (HO.dK []) := (same_upd (o := .lst [x1]) hL2) _ _ ((same_upd (o := .lst [x1]) hL1) _ _ (upd_same (H := H) (a := D) (o := .dK [])))
    have nD1 : L1 ≠ D := fun z => by rw [z, upd_same] at hL1; cases hL1
    have nD2 : L2 ≠ D := fun z => by
      rw [z, upd_ne (Ne.symm nD1), upd_same] at hL2
      cases hL2
    refine ⟨eD, [(Sum.inr (Str.ofString "for"), .ref L1), (Sum.inr (Str.ofString "double"), .ref L2)], rfl, (by show 2 ≤ 15; decide), ?_⟩
    have s4 := same_put (o := .dK (mergeK [] [(Sum.inr (Str.ofString "for"), .ref L1), (Sum.inr (Str.ofString "double"), .ref L2)])) s3 hD
    refine ⟨D, rfl, .inl ⟨_, .inl upd_same⟩, ?_⟩
    refine ⟨_, rfl, a, _, _, _, rfl, rfl, same_t s4 hs, (rfl : atI [V.str "double", x1] 0 = some (V.str "double")), by show 0 ≤ sizeLine; decide, fun L3 hL3 => ?_⟩
    have s5 := same_upd (o := .lst []) hL3
    have dg := DGet.k (k := Sum.inr (Str.ofString "double")) (s5 _ _ (upd_same (a := D) (o := .dK (mergeK [] [(Sum.inr (Str.ofString "for"), V.ref L1), (Sum.inr (Str.ofString "double"), .ref L2)]))))
    refine ⟨_, dg, k L2 _ _ (s4.trans s5) (same_none s2 hL2) (s5 _ _ (by rw [upd_ne nD2]; exact upd_same)) (.cons h1 .nil)⟩
  | loop nm e1 e2 b =>
    rw [thingD] at dt
    obtain ⟨a, xs, rfl, hs, hd⟩ := dt.tup'
    obtain ⟨x0, r0, rfl, h0, hd⟩ := hd.c
    obtain ⟨x1, r1, rfl, h1, hd⟩ := hd.c
    obtain ⟨x2, r2, rfl, h2, hd⟩ := hd.c
    obtain ⟨x3, r3, rfl, h3, hd⟩ := hd.c
    obtain ⟨x4, r4, rfl, h4, hd⟩ := hd.c
    cases hd.n
    have hs := same_t sg hs
    cases h0.str'
    cases h1.str'
    refine ⟨_, rfl, a, _, _, _, rfl, rfl, hs, (rfl : atI [V.str "for", V.str nm, x2, x3, x4] 0 = some (V.str "for")), rfl, _, rfl, ?_⟩
    rw [dec_ff (by decide)]
    refine iteF ?_
    intro D hD
    have s1 := same_upd (o := .dK []) hD
    refine ⟨_, rfl, _, rfl, a, _, _, _, rfl, rfl, same_t s1 hs, (rfl : atI [V.str "for", V.str nm, x2, x3, x4] (-1) = some x4), by show 1 ≤ sizeLine; decide, fun L1 hL1 => ?_⟩
    have s2 := s1.trans (same_upd (o := .lst [x4]) hL1)
    refine ⟨_, rfl, _, rfl, a, _, _, _, rfl, rfl, same_t s2 hs, (rfl : atI [V.str "for", V.str nm, x2, x3, x4] (-1) = some x4), by show 1 ≤ sizeLine; decide, fun L2 hL2 => ?_⟩
    have s3 := s2.trans (same_upd (o := .lst [x4]) hL2)
    have eD : _ = some (HO.dK []) := (same_upd (o := .lst [x4]) hL2) _ _ ((same_upd (o := .lst [x4]) hL1) _ _ (upd_same (H := H) (a := D) (o := .dK [])))
    have nD1 : L1 ≠ D := fun z => by rw [z, upd_same] at hL1; cases hL1
    have nD2 : L2 ≠ D := fun z => by
      rw [z, upd_ne (Ne.symm nD1), upd_same] at hL2
      cases hL2
    refine ⟨eD, [(Sum.inr (Str.ofString "for"), .ref L1), (Sum.inr (Str.ofString "double"), .ref L2)], rfl, (by show 2 ≤ 15; decide), ?_⟩
    have s4 := same_put (o := .dK (mergeK [] [(Sum.inr (Str.ofString "for"), .ref L1), (Sum.inr (Str.ofString "double"), .ref L2)])) s3 hD
    refine ⟨D, rfl, .inl ⟨_, .inl upd_same⟩, ?_⟩
    refine ⟨_, rfl, a, _, _, _, rfl, rfl, same_t s4 hs, (rfl : atI [V.str "for", V.str nm, x2, x3, x4] 0 = some (V.str "for")), by show 0 ≤ sizeLine; decide, fun L3 hL3 => ?_⟩
    have s5 := same_upd (o := .lst []) hL3
    have dg := DGet.k (k := Sum.inr (Str.ofString "for")) (s5 _ _ (upd_same (a := D) (o := .dK (mergeK [] [(Sum.inr (Str.ofString "for"), V.ref L1), (Sum.inr (Str.ofString "double"), .ref L2)]))))
    refine ⟨_, dg, k L1 _ _ (s4.trans s5) (same_none s1 hL1) (s5 _ _ (by rw [upd_ne nD1]; exact (same_upd hL2) _ _ upd_same)) (.cons h4 .nil)⟩
  | test e1 e2 b1 b2 =>
    rw [thingD] at dt
    obtain ⟨a, xs, rfl, hs, hd⟩ := dt.tup'
    obtain ⟨x0, r0, rfl, h0, hd⟩ := hd.c
    obtain ⟨x1, r1, rfl, h1, hd⟩ := hd.c
    obtain ⟨x2, r2, rfl, h2, hd⟩ := hd.c
    obtain ⟨x3, r3, rfl, h3, hd⟩ := hd.c
    obtain ⟨x4, r4, rfl, h4, hd⟩ := hd.c
    cases hd.n
    have hs := same_t sg hs
    cases h0.str'
    refine ⟨_, rfl, a, _, _, _, rfl, rfl, hs, (rfl : atI [V.str "if", x1, x2, x3, x4] 0 = some (V.str "if")), rfl, _, rfl, ?_⟩
    rw [dec_tt]
    refine iteT ?_
    exact ⟨_, rfl, a, _, _, _, rfl, rfl, hs, (rfl : atI [V.str "if", x1, x2, x3, x4] 3 = some x3), _, rfl, a, _, _, _, rfl, rfl, hs, (rfl : atI [V.str "if", x1, x2, x3, x4] 4 = some x4), by show 2 ≤ sizeLine; decide, fun L hL => k L _ _ (same_upd hL) hL upd_same (.cons h3 (.cons h4 .nil))⟩
  | again n z =>
    rw [thingD] at dt
    obtain ⟨a, xs, rfl, hs, hd⟩ := dt.tup'
    obtain ⟨x0, r0, rfl, h0, hd⟩ := hd.c
    obtain ⟨x1, r1, rfl, h1, hd⟩ := hd.c
    obtain ⟨x2, r2, rfl, h2, hd⟩ := hd.c
    cases hd.n
    have hs := same_t sg hs
    cases h0.str'
    cases h2.str'
    cases h1.int'
    refine ⟨_, rfl, a, _, _, _, rfl, rfl, hs, (rfl : atI [V.str "again", V.int n, V.str z] 0 = some (V.str "again")), rfl, _, rfl, ?_⟩
    rw [dec_ff (by decide)]
    refine iteF ?_
    intro D hD
    have s1 := same_upd (o := .dK []) hD
    refine ⟨_, rfl, _, rfl, a, _, _, _, rfl, rfl, same_t s1 hs, (rfl : atI [V.str "again", V.int n, V.str z] (-1) = some (V.str z)), by show 1 ≤ sizeLine; decide, fun L1 hL1 => ?_⟩
    have s2 := s1.trans (same_upd (o := .lst [(V.str z)]) hL1)
    refine ⟨_, rfl, _, rfl, a, _, _, _, rfl, rfl, same_t s2 hs, (rfl : atI [V.str "again", V.int n, V.str z] (-1) = some (V.str z)), by show 1 ≤ sizeLine; decide, fun L2 hL2 => ?_⟩
    have s3 := s2.trans (same_upd (o := .lst [(V.str z)]) hL2)
    have eD : _ = some (HO.dK []) := (same_upd (o := .lst [(V.str z)]) hL2) _ _ ((same_upd (o := .lst [(V.str z)]) hL1) _ _ (upd_same (H := H) (a := D) (o := .dK [])))
    have nD1 : L1 ≠ D := fun z => by rw [z, upd_same] at hL1; cases hL1
    have nD2 : L2 ≠ D := fun z => by
      rw [z, upd_ne (Ne.symm nD1), upd_same] at hL2
      cases hL2
    refine ⟨eD, [(Sum.inr (Str.ofString "for"), .ref L1), (Sum.inr (Str.ofString "double"), .ref L2)], rfl, (by show 2 ≤ 15; decide), ?_⟩
    have s4 := same_put (o := .dK (mergeK [] [(Sum.inr (Str.ofString "for"), .ref L1), (Sum.inr (Str.ofString "double"), .ref L2)])) s3 hD
    refine ⟨D, rfl, .inl ⟨_, .inl upd_same⟩, ?_⟩
    refine ⟨_, rfl, a, _, _, _, rfl, rfl, same_t s4 hs, (rfl : atI [V.str "again", V.int n, V.str z] 0 = some (V.str "again")), by show 0 ≤ sizeLine; decide, fun L3 hL3 => ?_⟩
    have s5 := same_upd (o := .lst []) hL3
    have dg := DGet.k (k := Sum.inr (Str.ofString "again")) (s5 _ _ (upd_same (a := D) (o := .dK (mergeK [] [(Sum.inr (Str.ofString "for"), V.ref L1), (Sum.inr (Str.ofString "double"), .ref L2)]))))
    exact ⟨_, dg, k L3 _ _ (s4.trans s5) (same_none s4 hL3) upd_same .nil⟩
theorem law_every_step (T : Txt K mg) (f : Nat) (G_law_every : FnOk P w K mg base CX0 (f + 1) T.a_law_every T.d_law_every ["_law_plan"] (spEvery K f)) :
    FnOk P w K mg base CX0 (f + 2) T.a_law_every T.d_law_every ["_law_plan"] (spEvery K (f + 1)) := by
  refine T.F_law_every.ok sc_law_every (fun vs H Q E h => ?_) (fun cdv A outer s H vs Q E hr h => ?_)
  · obtain ⟨v, b, G, rfl, _⟩ := h
    rfl
  obtain ⟨v, b, G, rfl, sg, db, hf, hc, k⟩ := h
  refine ⟨_, (pss_cons (ps_set (i := 1) sc_law_every.nd rfl (Or.inl rfl) (pe_lst pa_nil))
      (pss_cons (ps_for PassesOwn.never rfl (pi_tup (pv 0)) (pg_name (i := 2) sc_law_every.nd rfl (Or.inl rfl)) (pss_cons (ps_expr (pe_bm PySem.F.plainAttrs_list PySem.F.slot_list_append PySem.F.type_list_append mt_append (pv 1) (pa_cons (pv 2) pa_nil)))
      (pss_one (ps_for PassesOwn.never rfl (pi_list (pe_call (ok_law_bodies T) (hr.mono (by omega)) (by rfl) T.g_law_bodies T.F_law_bodies.kp T.b_law_bodies .nil pass0 (pa_cons (pv 2) pa_nil))) (pg_name (i := 3) sc_law_every.nd rfl (Or.inl rfl)) (pss_one (ps_set (i := 1) sc_law_every.nd rfl (Or.inl rfl) (pe_op op_cat (pv 1) (pe_call G_law_every (hr.mono (by omega)) (by rfl) T.g_law_every T.F_law_every.kp T.b_law_every .nil pass0 (pa_cons (pv 3) pa_nil)))))))))
      (pss_one (ps_ret (pv 1))))), ?_⟩
  obtain ⟨a, us, rfl, hs, hd⟩ := db.tup'
  rw [thingsD_eq] at hd
  have lu : us.length = b.length := by
    have := hd.length
    rw [List.length_map] at this
    exact this
  have small : ∀ {vs : List V} {i j : Nat} {t : Thing}, t ∈ b → DpAll K G vs ((everyP b i t j).map thingD) → vs.length ≤ 62 := fun {vs i j t} ht hv => by
    have h1 := hv.length
    rw [List.length_map] at h1
    have h2 := everyP_len i j ht
    omega
  refine ⟨by show 0 ≤ sizeLine; decide, fun L hL => ?_⟩
  refine ⟨_, rfl, a, rfl, ⟨_, same_t (sg.trans (same_upd hL)) hs⟩, for_it (walk_tup (xs := us)) (fun i σ H' => Same H H' ∧ ∃ (L : Addr) (vs : List V), H L = none ∧ H' L = some (.lst vs) ∧ DpAll K G vs ((everyL (b.take i)).map thingD) ∧ ∃ v2 v3, σ = [some (.ref a), some (.ref L), v2, v3]) ⟨same_upd hL, L, [], hL, upd_same, by simp [everyL]; exact .nil, _, _, rfl⟩ (fun i σ H _ p => same_t (sg.trans p.1) hs) ?_ ?_⟩
  · rintro i x σ H5 H6 hi ⟨s6, L, vs, hL, eL, dvs, v2, v3, rfl⟩ ⟨rfl, hx⟩
    obtain ⟨t, ht, dt⟩ := DpAll.at_ hd hx
    have tm := List.mem_of_getElem? ht
    have lv := dvs.length
    have l1 := take_C b i
    rw [List.length_map, everyL_len] at lv
    refine ⟨_, rfl, .inl ⟨rfl, _, SqL.of eL⟩, _, rfl, L, _, _, rfl, rfl, eL, small1000 (by omega), ?_⟩
    have s7 := same_put (o := .lst (vs ++ [x])) s6 hL
    have d7 : DpAll K G (vs ++ [x]) ((everyP b i t 0).map thingD) := by
      rw [everyP_zero, List.map_append]
      exact DpAll.snoc dvs dt
    refine ⟨_, rfl, x, t, G, rfl, sg.trans s7, dt, fun p ws H8 s8 np ep dw => ?_⟩
    have nLp : L ≠ p := fun z => by rw [← z, upd_same] at np; cases np
    have lw : ws.length = (bodiesL t).length := by
      have := dw.length
      rw [List.length_map] at this
      exact this
    have hp : H p = none := same_none s7 np
    refine ⟨p, rfl, ⟨_, SqL.of ep⟩, for_it (walk_list (xs := ws)) (fun j σ H' => Same H H' ∧ H' p = some (.lst ws) ∧ ∃ (L : Addr) (vs : List V), H L = none ∧ H' L = some (.lst vs) ∧ DpAll K G vs ((everyP b i t j).map thingD) ∧ ∃ v3, σ = [some (.ref a), some (.ref L), some x, v3]) ⟨s7.trans s8, ep, L, _, hL, s8 _ _ upd_same, d7, _, rfl⟩ (fun j σ H _ p => SqL.of p.2.1) ?_ ?_⟩
    · rintro j y σ H9 H10 hj ⟨s10, ep10, L, vs10, hL, eL10, d10, v3, rfl⟩ ⟨rfl, hy⟩
      obtain ⟨c, hcj, dc⟩ := DpAll.at_ dw hy
      have clt := bodies_lt (List.mem_of_getElem? hcj)
      have tle := thingC_mem tm
      refine ⟨_, rfl, _, rfl, y, c, G, rfl, sg.trans s10, dc, by omega, by omega, fun p3 us3 H11 s11 n3 e3 d3 => ?_⟩
      have eL11 := s11 _ _ eL10
      have l3 := d3.length
      rw [List.length_map, everyL_len] at l3
      have l10 := small tm d10
      try unfold tNil
      refine ⟨L, p3, _, _, rfl, rfl, eL11, e3, Nat.le_trans (m := 1000) (by omega) (by decide), fun p4 h4 => ?_⟩
      have s12 := s10.trans s11
      refine ⟨s12.trans (same_upd h4), by rw [upd_ne (fun z => by rw [← z, s11 _ _ ep10] at h4; cases h4)]; exact s11 _ _ ep10, p4, _, same_none s12 h4, upd_same, ?_, _, rfl⟩
      rw [everyP_succ hcj, List.map_append]
      exact DpAll_app d10 d3
    · rintro σ H9 ⟨s9, ep9, L, vs9, hL, eL9, d9, v3, rfl⟩
      have e : everyP b i t ws.length = everyL (b.take (i + 1)) := by
        rw [lw]
        exact everyP_end ht
      rw [e] at d9
      exact ⟨s9, L, vs9, hL, eL9, d9, _, _, rfl⟩
  · rintro σ H5 ⟨s5, L, vs, hL, eL, dvs, v2, v3, rfl⟩
    have e : b.take us.length = b := by rw [lu, List.take_length]
    rw [e] at dvs
    exact ⟨_, rfl, k L vs _ s5 hL eL dvs⟩
theorem law_every_all (T : Txt K mg) : ∀ f : Nat, FnOk P w K mg base CX0 (f + 1) T.a_law_every T.d_law_every ["_law_plan"] (spEvery K f)
  | 0 => by
    have no : ∀ vs H Q E, ¬ spEvery K 0 vs H Q E := fun vs H Q E h => by
      obtain ⟨v, b, G, _, _, _, h1, _⟩ := h
      omega
    exact ⟨fun vs H Q E h => absurd h (no vs H Q E), fun A outer s H args us vs Q E _ _ _ _ h => absurd h (no vs H Q E)⟩
  | f + 1 => law_every_step T f (law_every_all T f)
theorem ok_law_every (T : Txt K mg) : FnOk P w K mg base CX0 16 T.a_law_every T.d_law_every ["_law_plan"] (spEvery K 15) := law_every_all T 15
theorem ok_law_calls (T : Txt K mg) : FnOk P w K mg base CX0 17 T.a_law_calls T.d_law_calls ["_law_plan"] (spCalls K) := by
  refine T.F_law_calls.ok sc_law_calls (fun vs H Q E h => ?_) (fun cdv A outer s H vs Q E hr h => ?_)
  · obtain ⟨v, b, G, rfl, _⟩ := h
    rfl
  obtain ⟨v, b, G, rfl, sg, db, hc, k⟩ := h
  refine ⟨_, (pss_cons (ps_set (i := 1) sc_law_calls.nd rfl (Or.inl rfl) (pe_lst pa_nil))
      (pss_cons (ps_for PassesOwn.never rfl (pi_list (pe_call (ok_law_every T) (hr.mono (by decide)) (by rfl) T.g_law_every T.F_law_every.kp T.b_law_every .nil pass0 (pa_cons (pv 0) pa_nil))) (pg_name (i := 2) sc_law_calls.nd rfl (Or.inl rfl)) (pss_one (ps_if (PW.pt (pw_and (pt_cmpR op_eq (pe_ix ix_tup (pv 2) pe_int (fun _ _ => rfl)) pe_str (nomark _)) (pw_and1 (pt_cmpR op_notIn_seq (pe_ix ix_tup (pv 2) pe_int (fun _ _ => rfl)) (pv 1) (by rfl))))) (pss_one (ps_expr (pe_bm PySem.F.plainAttrs_list PySem.F.slot_list_append PySem.F.type_list_append mt_append (pv 1) (pa_cons (pe_ix ix_tup (pv 2) pe_int (fun _ _ => rfl)) pa_nil)))) pss_nil)))
      (pss_one (ps_ret (pv 1))))), ?_⟩
  refine ⟨by show 0 ≤ sizeLine; decide, fun L hL => ?_⟩
  have s1 := same_upd (o := .lst []) hL
  refine ⟨_, rfl, v, b, G, rfl, sg.trans s1, db, hc, by omega, fun p us H2 s2 np ep du => ?_⟩
  have nLp : L ≠ p := fun z => by rw [← z, upd_same] at np; cases np
  have lu : us.length = (everyL b).length := by
    have := du.length
    rw [List.length_map] at this
    exact this
  have le : (everyL b).length < 15 := by rw [everyL_len]; exact hc
  refine ⟨p, rfl, ⟨_, SqL.of ep⟩, for_it (walk_list (xs := us)) (fun i σ H' => Same H H' ∧ H' p = some (.lst us) ∧ H' L = some (.lst ((((everyL b).take i).foldl callStep []).map V.str)) ∧ ∃ v2, σ = [some v, some (.ref L), v2]) ⟨s1.trans s2, ep, s2 _ _ upd_same, _, rfl⟩ (fun i σ H _ p => SqL.of p.2.1) ?_ ?_⟩
  · rintro i x σ H5 H6 hi ⟨s6, ep6, eL, v2, rfl⟩ ⟨rfl, hx⟩
    obtain ⟨t, ht, dt⟩ := DpAll.at_ du hx
    rw [take_snoc ht, List.foldl_append]
    show _
    have len : ((((everyL b).take i).foldl callStep []).map V.str).length ≤ 1000 := by
      have := calls_len ((everyL b).take i) []
      rw [List.length_map]
      rw [List.length_take] at this
      simp at this
      omega
    generalize ((everyL b).take i).foldl callStep [] = acc at eL len ⊢
    show _
    by_cases hcall : ∃ nm e, t = .call nm e
    · obtain ⟨nm, e, rfl⟩ := hcall
      obtain ⟨a, y, rfl, hs, _⟩ := thing_call dt
      have hs := same_t (sg.trans s6) hs
      refine ⟨_, rfl, a, _, _, _, rfl, rfl, hs, (rfl : atI [V.str "call", .str nm, y] 0 = some (.str "call")), rfl, _, rfl, ?_⟩
      rw [dec_tt]
      refine iteT ?_
      refine ⟨_, rfl, a, _, _, _, rfl, rfl, hs, (rfl : atI [V.str "call", .str nm, y] 1 = some (.str nm)), _, rfl, L, _, rfl, .inl (SqL.of eL), rfl, flat_strs _, _, rfl, ?_⟩
      rw [show (if true = true then !inV (V.str nm) (acc.map V.str) else inV (V.str nm) (acc.map V.str)) = !decide (nm ∈ acc) by rw [if_pos rfl, inV_strs]]
      refine ite2 (fun c => ?_) (fun c => ?_)
      · have c' : ¬ nm ∈ acc := by simpa using c
        refine ⟨_, rfl, .inl ⟨rfl, _, SqL.of eL⟩, _, rfl, a, _, _, _, rfl, rfl, hs, (rfl : atI [V.str "call", .str nm, y] 1 = some (.str nm)), L, _, _, rfl, rfl, eL, small1000 len, ?_⟩
        refine ⟨same_put s6 hL, by rw [upd_ne (Ne.symm nLp)]; exact ep6, ?_, _, rfl⟩
        rw [upd_same]
        show _ = some (HO.lst ((callStep acc (.call nm e)).map V.str))
        simp only [callStep]
        rw [if_neg c', List.map_append]
        rfl
      · have c' : nm ∈ acc := by simpa using c
        refine ⟨s6, ep6, ?_, _, rfl⟩
        rw [eL]
        show _ = some (HO.lst ((callStep acc (.call nm e)).map V.str))
        simp only [callStep]
        rw [if_pos c']
    · obtain ⟨w1, w2⟩ := word_no_call (t := t) (fun nm e q => hcall ⟨nm, e, q⟩)
      obtain ⟨a, r, rfl, hs⟩ := thing_head dt
      have hs := same_t (sg.trans s6) hs
      refine ⟨_, rfl, a, _, _, _, rfl, rfl, hs, atI_nat (j := 0) rfl, rfl, _, rfl, ?_⟩
      rw [dec_ff w1]
      refine iteF (iteF ⟨s6, ep6, ?_, _, rfl⟩)
      rw [eL]
      show _ = some (HO.lst ((callStep acc t).map V.str))
      rw [w2]
  · rintro σ H5 ⟨s5, ep5, eL, v2, rfl⟩
    have e : (everyL b).take us.length = everyL b := by rw [lu, List.take_length]
    rw [e] at eL
    exact ⟨_, rfl, k L _ s5 hL eL⟩
def LV : Nat := 40
def spLaw (K : PySem.W.Frag) : Sp := fun vs H Q _ => ∃ (a : Addr) (ns : List Int), vs = [.ref a] ∧ SqL K H a (ns.map V.int) ∧ ns.length ≤ 63 ∧ ∀ H', Q (.bl true) H'
theorem dp_strs {K : PySem.W.Frag} {H : Hp} : ∀ l : List Str, DpAll K H (l.map V.str) (l.map PyData.str)
  | [] => .nil
  | x :: l => .cons (.str x) (dp_strs l)
theorem dep_strs : ∀ l : List Str, depAll (l.map PyData.str) = 0
  | [] => by simp [depAll]
  | x :: l => by simp [depAll, dep, dep_strs l]
theorem wid_strs : ∀ l : List Str, widAll (l.map PyData.str) = 0
  | [] => by simp [widAll]
  | x :: l => by simp [widAll, wid, wid_strs l]
theorem ok_law (T : Txt K mg) : FnOk P w K mg base CX0 LV T.a_law T.d_law ["_law_script"] (spLaw K) := by
  refine T.F_law.ok sc_law (fun vs H Q E h => ?_) (fun cdv A outer s H vs Q E hr h => ?_)
  · obtain ⟨a, ns, rfl, _⟩ := h
    rfl
  obtain ⟨a, ns, rfl, hS, hl, k⟩ := h
  refine ⟨_, (pss_cons (ps_set (i := 1) sc_law.nd rfl (Or.inr rfl) (pe_call (ok_law_begin T) (hr.mono (by decide)) (by rfl) T.g_law_begin T.F_law_begin.kp T.b_law_begin .nil pass0 (pa_cons (pv 0) pa_nil)))
      (pss_cons (ps_for PassesOwn.never rfl (pi_range1 (by rfl) T.z_range (pa_cons pe_int pa_nil)) (pg_name (i := 2) sc_law.nd rfl (Or.inl rfl)) (pss_cons (ps_setLc (i := 3) (own := [("_law_k", 7)]) (g := gName 7) (tt := tYes) rfl sc_law.nd rfl rfl (sw_true rfl rfl rfl (by decide +kernel)) (pi_range1 (by rfl) T.z_range (pa_cons (pe_op op_add pe_int (pe_call (ok_law_take T) (hr.mono (by decide)) (by rfl) T.g_law_take T.F_law_take.kp T.b_law_take .nil pass0 (pa_cons (pv 1) (pa_cons pe_int pa_nil)))) pa_nil)) (blkOk_by (N := N_law) (sc := defScope s_law) (by decide +kernel)) (fun _ _ _ _ _ => (pg_name (i := 7) sc_law.nd rfl (Or.inl rfl))) (fun _ _ _ _ _ => pts_nil) (fun _ _ _ _ _ => (pe_call (ok_law_fresh T) (hr.mono (by decide)) (by rfl) T.g_law_fresh T.F_law_fresh.kp T.b_law_fresh .nil pass0 (pa_cons (pv 1) (pa_cons (pe_lst pa_nil) pa_nil)))))
      (pss_cons (ps_set (i := 4) sc_law.nd rfl (Or.inl rfl) (pe_call (ok_law_with_calls T) (hr.mono (by decide)) (by rfl) T.g_law_with_calls T.F_law_with_calls.kp T.b_law_with_calls .nil pass0 (pa_cons (pv 1) (pa_cons (pe_call (ok_law_drawn T) (hr.mono (by decide)) (by rfl) T.g_law_drawn T.F_law_drawn.kp T.b_law_drawn .nil pass0 (pa_cons (pv 1) (pa_cons pe_int (pa_cons pe_bl (pa_cons pe_bl pa_nil))))) (pa_cons (pv 3) pa_nil)))))
      (pss_one (ps_for PassesOwn.never rfl (pi_range1 (by rfl) T.z_range (pa_cons pe_int pa_nil)) (pg_name (i := 5) sc_law.nd rfl (Or.inl rfl)) (pss_cons (ps_set (i := 6) sc_law.nd rfl (Or.inl rfl) (pe_call (ok_calls_of T) (hr.mono (by decide)) (by rfl) T.g_calls_of T.F_calls_of.kp T.b_calls_of .nil pass0 (pa_cons (pv 4) pa_nil)))
      (pss_cons (ps_if (pt_not (pt_val (pe_call (ok_law_same T) (hr.mono (by decide)) (by rfl) T.g_law_same T.F_law_same.kp T.b_law_same .nil pass0 (pa_cons (pv 6) (pa_cons (pe_call (ok_law_calls T) (hr.mono (by decide)) (by rfl) T.g_law_calls T.F_law_calls.kp T.b_law_calls .nil pass0 (pa_cons (pv 4) pa_nil)) pa_nil))))) (pss_one (ps_ret pe_bl)) pss_nil)
      (pss_one (ps_expr (pe_bm PySem.F.plainAttrs_list PySem.F.slot_list_append PySem.F.type_list_append mt_append (pv 6) (pa_cons pe_str pa_nil)))))))))))
      (pss_one (ps_ret pe_bl)))), ?_⟩
  refine ⟨_, rfl, a, ns, rfl, hS, hl, fun d l H1 nd _ s1 D1 => ?_⟩
  refine ⟨8, rfl, by decide, by decide, for_it walk_range (fun _ σ H => DrawAt H d l ∧ ∃ v2 v3 v4 v5 v6 v7, σ = [some (.ref a), some (.ref d), v2, v3, v4, v5, v6, v7]) ⟨D1, _, _, _, _, _, _, rfl⟩ (fun _ _ _ _ _ => trivial) ?_ ?_⟩
  · rintro i x σ H2 H3 hi ⟨D2, v2, v3, v4, v5, v6, v7, rfl⟩ ⟨rfl, rfl⟩
    refine ⟨_, rfl, d, l, 4, rfl, D2, by decide, by decide, fun m H4 m0 m1 D4 b4 => ?_⟩
    refine ⟨_, _, rfl, rfl, 1 + m, rfl, by omega, by omega, fun R hR => ?_⟩
    have nRd := D4.ned hR
    refine lc_it walk_range (fun i H' => DrawAt H' d l ∧ ∃ nm : List Str, nm.length = i ∧ H' R = some (.lst (nm.map V.str))) ⟨D4.upd hR, [], rfl, upd_same⟩ (fun _ _ _ _ => trivial) ?_ ?_
    · rintro j y H5 H6 hj ⟨D5, nm, ln, eR⟩ ⟨rfl, rfl⟩
      have hj : j < (1 + m).toNat := hj
      refine ⟨rfl, ?_⟩
      refine ⟨_, rfl, by show 0 ≤ sizeLine; decide, fun L hL => ?_⟩
      have D7 := D5.upd (o := .lst []) hL
      refine ⟨d, l, L, [], rfl, D7, upd_same, by decide, fun x H8 b8 D8 _ _ => ?_⟩
      have eR8 := b8 _ _ ((same_upd (o := .lst []) hL) _ _ eR) nRd
      have nRl : R ≠ l := D4.nel hR
      refine ⟨_, eR8, by rw [List.length_map]; exact small1000 (by omega), D8.put nRd nRl, nm ++ [x], by rw [List.length_append, ln]; rfl, by rw [upd_same, List.map_append]; rfl⟩
    rintro H5 ⟨D5, nm, ln, eR⟩
    have ln : nm.length = (1 + m).toNat := ln
    have sG := same_single eR
    have gd : (upd (fun _ => none) R (HO.lst (nm.map V.str))) d = none := by rw [upd_ne (Ne.symm nRd)]
    refine ⟨_, rfl, _, rfl, d, l, _, 12, true, false, rfl, sG, gd, D5, by decide, fun v b G6 H6 g6 D6 dv ok l1 l2 lc => ?_⟩
    refine ⟨_, rfl, d, l, R, nm, G6, v, b, rfl, g6.gh, g6.none gd D5.cell, D6, dv, g6.g _ _ upd_same, ?_, by omega, by omega, by omega, fun v' b' G7 H7 g7 D7 dv' hb => ?_⟩
    · intro e
      rw [e] at ln
      have : (0 : Nat) = (1 + m).toNat := ln
      omega
    refine ⟨2, rfl, by decide, by decide, for_it walk_range (fun _ σ H => Same H7 H ∧ ∃ v2 v5 v6 v7, σ = [some (.ref a), some (.ref d), v2, some (.ref R), some v', v5, v6, v7]) ⟨Same.refl _, _, _, _, _, rfl⟩ (fun _ _ _ _ _ => trivial) ?_ ?_⟩
    · rintro j y σ H8 H9 hj ⟨s9, v2, v5, v6, v7, rfl⟩ ⟨rfl, rfl⟩
      have sg9 := g7.gh.trans s9
      refine ⟨_, rfl, v', b', G7, rfl, sg9, dv', by omega, fun p H10 s10 np ep => ?_⟩
      refine ⟨_, rfl, _, rfl, v', b', G7, rfl, sg9.trans s10, dv', by omega, fun p2 H11 s11 np2 ep2 => ?_⟩
      have cl := calls_len (everyL b') []
      rw [everyL_len] at cl
      have cl2 : (callsL b').length ≤ 15 := by
        unfold callsL
        simp at cl
        omega
      try unfold tNil
      refine ⟨_, _, .list ((callsL b').map PyData.str), rfl, .lst (SqL.of (s11 _ _ ep)) (dp_strs _), .lst (SqL.of ep2) (dp_strs _), ?_, ?_, fun H12 s12 => ?_⟩
      · rw [dep, dep_strs]
        decide
      · rw [wid, wid_strs, List.length_map]
        exact Nat.le_trans (m := 15) (by omega) (by decide)
      refine ⟨_, rfl, iteF ?_⟩
      have ep12 := s12 _ _ (s11 _ _ ep)
      refine ⟨_, rfl, .inl ⟨rfl, _, SqL.of ep12⟩, p, _, _, rfl, rfl, ep12, small1000 (by rw [List.length_map]; omega), ?_⟩
      exact ⟨same_put (((s9.trans s10).trans s11).trans s12) (same_none s9 np), _, _, _, _, rfl⟩
    · rintro σ H8 ⟨s8, v2, v5, v6, v7, rfl⟩
      exact ⟨D7.mono s8, _, _, _, _, _, _, rfl⟩
  · rintro σ H5 ⟨D5, v2, v3, v4, v5, v6, v7, rfl⟩
    exact k _
end
theorem all_mk {l : PySem.W.OpenLaw} {w : World} {K : PySem.W.Frag} {h : Heap} {mg : Str → Option Value} {fa : Addr} (X : K.In h) (G : h.Ns mainGlobals mg) (hfa : mg "law" = some (.ref fa))
    {f0 : Addr} {od0 an0 : Option Addr} {sl0 : Array (Option Value)} {oc0 kV0 dc0 pm0 cd0 ct0 : Value}
    (a0 : PySem.W.nsIn K mainGlobals "_law_begin" = some (some (.ref f0))) (l0 : K.lookup f0 = some ⟨oc0, od0, .func (PySem.W.fnOf "_law_begin" "_law_begin" (defArgs s_law_begin) (defBody s_law_begin) (defScope s_law_begin) .none kV0 dc0 pm0 an0 cd0 ct0), sl0⟩) (c0 : PySem.W.codeIn K cd0 "_law_begin" = true) (k0 : PySem.W.keepIn K (.ref f0) = true)
    {f1 : Addr} {od1 an1 : Option Addr} {sl1 : Array (Option Value)} {oc1 kV1 dc1 pm1 cd1 ct1 : Value}
    (a1 : PySem.W.nsIn K mainGlobals "_law_take" = some (some (.ref f1))) (l1 : K.lookup f1 = some ⟨oc1, od1, .func (PySem.W.fnOf "_law_take" "_law_take" (defArgs s_law_take) (defBody s_law_take) (defScope s_law_take) .none kV1 dc1 pm1 an1 cd1 ct1), sl1⟩) (c1 : PySem.W.codeIn K cd1 "_law_take" = true) (k1 : PySem.W.keepIn K (.ref f1) = true)
    {f2 : Addr} {od2 an2 : Option Addr} {sl2 : Array (Option Value)} {oc2 kV2 dc2 pm2 cd2 ct2 : Value}
    (a2 : PySem.W.nsIn K mainGlobals "_law_pick" = some (some (.ref f2))) (l2 : K.lookup f2 = some ⟨oc2, od2, .func (PySem.W.fnOf "_law_pick" "_law_pick" (defArgs s_law_pick) (defBody s_law_pick) (defScope s_law_pick) .none kV2 dc2 pm2 an2 cd2 ct2), sl2⟩) (c2 : PySem.W.codeIn K cd2 "_law_pick" = true) (k2 : PySem.W.keepIn K (.ref f2) = true)
    {f3 : Addr} {od3 an3 : Option Addr} {sl3 : Array (Option Value)} {oc3 kV3 dc3 pm3 cd3 ct3 : Value}
    (a3 : PySem.W.nsIn K mainGlobals "_law_with_calls" = some (some (.ref f3))) (l3 : K.lookup f3 = some ⟨oc3, od3, .func (PySem.W.fnOf "_law_with_calls" "_law_with_calls" (defArgs s_law_with_calls) (defBody s_law_with_calls) (defScope s_law_with_calls) .none kV3 dc3 pm3 an3 cd3 ct3), sl3⟩) (c3 : PySem.W.codeIn K cd3 "_law_with_calls" = true) (k3 : PySem.W.keepIn K (.ref f3) = true)
    {f4 : Addr} {od4 an4 : Option Addr} {sl4 : Array (Option Value)} {oc4 kV4 dc4 pm4 cd4 ct4 : Value}
    (a4 : PySem.W.nsIn K mainGlobals "_law_kept_words" = some (some (.ref f4))) (l4 : K.lookup f4 = some ⟨oc4, od4, .func (PySem.W.fnOf "_law_kept_words" "_law_kept_words" (defArgs s_law_kept_words) (defBody s_law_kept_words) (defScope s_law_kept_words) .none kV4 dc4 pm4 an4 cd4 ct4), sl4⟩) (c4 : PySem.W.codeIn K cd4 "_law_kept_words" = true) (k4 : PySem.W.keepIn K (.ref f4) = true)
    {f5 : Addr} {od5 an5 : Option Addr} {sl5 : Array (Option Value)} {oc5 kV5 dc5 pm5 cd5 ct5 : Value}
    (a5 : PySem.W.nsIn K mainGlobals "_law_fresh" = some (some (.ref f5))) (l5 : K.lookup f5 = some ⟨oc5, od5, .func (PySem.W.fnOf "_law_fresh" "_law_fresh" (defArgs s_law_fresh) (defBody s_law_fresh) (defScope s_law_fresh) .none kV5 dc5 pm5 an5 cd5 ct5), sl5⟩) (c5 : PySem.W.codeIn K cd5 "_law_fresh" = true) (k5 : PySem.W.keepIn K (.ref f5) = true)
    {f6 : Addr} {od6 an6 : Option Addr} {sl6 : Array (Option Value)} {oc6 kV6 dc6 pm6 cd6 ct6 : Value}
    (a6 : PySem.W.nsIn K mainGlobals "_law_some_end" = some (some (.ref f6))) (l6 : K.lookup f6 = some ⟨oc6, od6, .func (PySem.W.fnOf "_law_some_end" "_law_some_end" (defArgs s_law_some_end) (defBody s_law_some_end) (defScope s_law_some_end) .none kV6 dc6 pm6 an6 cd6 ct6), sl6⟩) (c6 : PySem.W.codeIn K cd6 "_law_some_end" = true) (k6 : PySem.W.keepIn K (.ref f6) = true)
    {f7 : Addr} {od7 an7 : Option Addr} {sl7 : Array (Option Value)} {oc7 kV7 dc7 pm7 cd7 ct7 : Value}
    (a7 : PySem.W.nsIn K mainGlobals "_law_leaf" = some (some (.ref f7))) (l7 : K.lookup f7 = some ⟨oc7, od7, .func (PySem.W.fnOf "_law_leaf" "_law_leaf" (defArgs s_law_leaf) (defBody s_law_leaf) (defScope s_law_leaf) .none kV7 dc7 pm7 an7 cd7 ct7), sl7⟩) (c7 : PySem.W.codeIn K cd7 "_law_leaf" = true) (k7 : PySem.W.keepIn K (.ref f7) = true)
    {f8 : Addr} {od8 an8 : Option Addr} {sl8 : Array (Option Value)} {oc8 kV8 dc8 pm8 cd8 ct8 : Value}
    (a8 : PySem.W.nsIn K mainGlobals "_law_drawn_thing" = some (some (.ref f8))) (l8 : K.lookup f8 = some ⟨oc8, od8, .func (PySem.W.fnOf "_law_drawn_thing" "_law_drawn_thing" (defArgs s_law_drawn_thing) (defBody s_law_drawn_thing) (defScope s_law_drawn_thing) .none kV8 dc8 pm8 an8 cd8 ct8), sl8⟩) (c8 : PySem.W.codeIn K cd8 "_law_drawn_thing" = true) (k8 : PySem.W.keepIn K (.ref f8) = true)
    {f9 : Addr} {od9 an9 : Option Addr} {sl9 : Array (Option Value)} {oc9 kV9 dc9 pm9 cd9 ct9 : Value}
    (a9 : PySem.W.nsIn K mainGlobals "_law_drawn_body" = some (some (.ref f9))) (l9 : K.lookup f9 = some ⟨oc9, od9, .func (PySem.W.fnOf "_law_drawn_body" "_law_drawn_body" (defArgs s_law_drawn_body) (defBody s_law_drawn_body) (defScope s_law_drawn_body) .none kV9 dc9 pm9 an9 cd9 ct9), sl9⟩) (c9 : PySem.W.codeIn K cd9 "_law_drawn_body" = true) (k9 : PySem.W.keepIn K (.ref f9) = true)
    {f10 : Addr} {od10 an10 : Option Addr} {sl10 : Array (Option Value)} {oc10 kV10 dc10 pm10 cd10 ct10 : Value}
    (a10 : PySem.W.nsIn K mainGlobals "_law_drawn" = some (some (.ref f10))) (l10 : K.lookup f10 = some ⟨oc10, od10, .func (PySem.W.fnOf "_law_drawn" "_law_drawn" (defArgs s_law_drawn) (defBody s_law_drawn) (defScope s_law_drawn) .none kV10 dc10 pm10 an10 cd10 ct10), sl10⟩) (c10 : PySem.W.codeIn K cd10 "_law_drawn" = true) (k10 : PySem.W.keepIn K (.ref f10) = true)
    {f11 : Addr} {od11 an11 : Option Addr} {sl11 : Array (Option Value)} {oc11 kV11 dc11 pm11 cd11 ct11 : Value}
    (a11 : PySem.W.nsIn K mainGlobals "bodies_of" = some (some (.ref f11))) (l11 : K.lookup f11 = some ⟨oc11, od11, .func (PySem.W.fnOf "bodies_of" "bodies_of" (defArgs s_bodies_of) (defBody s_bodies_of) (defScope s_bodies_of) .none kV11 dc11 pm11 an11 cd11 ct11), sl11⟩) (c11 : PySem.W.codeIn K cd11 "bodies_of" = true) (k11 : PySem.W.keepIn K (.ref f11) = true)
    {f12 : Addr} {od12 an12 : Option Addr} {sl12 : Array (Option Value)} {oc12 kV12 dc12 pm12 cd12 ct12 : Value}
    (a12 : PySem.W.nsIn K mainGlobals "all_things" = some (some (.ref f12))) (l12 : K.lookup f12 = some ⟨oc12, od12, .func (PySem.W.fnOf "all_things" "all_things" (defArgs s_all_things) (defBody s_all_things) (defScope s_all_things) .none kV12 dc12 pm12 an12 cd12 ct12), sl12⟩) (c12 : PySem.W.codeIn K cd12 "all_things" = true) (k12 : PySem.W.keepIn K (.ref f12) = true)
    {f13 : Addr} {od13 an13 : Option Addr} {sl13 : Array (Option Value)} {oc13 kV13 dc13 pm13 cd13 ct13 : Value}
    (a13 : PySem.W.nsIn K mainGlobals "calls_of" = some (some (.ref f13))) (l13 : K.lookup f13 = some ⟨oc13, od13, .func (PySem.W.fnOf "calls_of" "calls_of" (defArgs s_calls_of) (defBody s_calls_of) (defScope s_calls_of) .none kV13 dc13 pm13 an13 cd13 ct13), sl13⟩) (c13 : PySem.W.codeIn K cd13 "calls_of" = true) (k13 : PySem.W.keepIn K (.ref f13) = true)
    {f14 : Addr} {od14 an14 : Option Addr} {sl14 : Array (Option Value)} {oc14 kV14 dc14 pm14 cd14 ct14 : Value}
    (a14 : PySem.W.nsIn K mainGlobals "_law_same" = some (some (.ref f14))) (l14 : K.lookup f14 = some ⟨oc14, od14, .func (PySem.W.fnOf "_law_same" "_law_same" (defArgs s_law_same) (defBody s_law_same) (defScope s_law_same) .none kV14 dc14 pm14 an14 cd14 ct14), sl14⟩) (c14 : PySem.W.codeIn K cd14 "_law_same" = true) (k14 : PySem.W.keepIn K (.ref f14) = true)
    {f15 : Addr} {od15 an15 : Option Addr} {sl15 : Array (Option Value)} {oc15 kV15 dc15 pm15 cd15 ct15 : Value}
    (a15 : PySem.W.nsIn K mainGlobals "_law_bodies" = some (some (.ref f15))) (l15 : K.lookup f15 = some ⟨oc15, od15, .func (PySem.W.fnOf "_law_bodies" "_law_bodies" (defArgs s_law_bodies) (defBody s_law_bodies) (defScope s_law_bodies) .none kV15 dc15 pm15 an15 cd15 ct15), sl15⟩) (c15 : PySem.W.codeIn K cd15 "_law_bodies" = true) (k15 : PySem.W.keepIn K (.ref f15) = true)
    {f16 : Addr} {od16 an16 : Option Addr} {sl16 : Array (Option Value)} {oc16 kV16 dc16 pm16 cd16 ct16 : Value}
    (a16 : PySem.W.nsIn K mainGlobals "_law_every" = some (some (.ref f16))) (l16 : K.lookup f16 = some ⟨oc16, od16, .func (PySem.W.fnOf "_law_every" "_law_every" (defArgs s_law_every) (defBody s_law_every) (defScope s_law_every) .none kV16 dc16 pm16 an16 cd16 ct16), sl16⟩) (c16 : PySem.W.codeIn K cd16 "_law_every" = true) (k16 : PySem.W.keepIn K (.ref f16) = true)
    {f17 : Addr} {od17 an17 : Option Addr} {sl17 : Array (Option Value)} {oc17 kV17 dc17 pm17 cd17 ct17 : Value}
    (a17 : PySem.W.nsIn K mainGlobals "_law_calls" = some (some (.ref f17))) (l17 : K.lookup f17 = some ⟨oc17, od17, .func (PySem.W.fnOf "_law_calls" "_law_calls" (defArgs s_law_calls) (defBody s_law_calls) (defScope s_law_calls) .none kV17 dc17 pm17 an17 cd17 ct17), sl17⟩) (c17 : PySem.W.codeIn K cd17 "_law_calls" = true) (k17 : PySem.W.keepIn K (.ref f17) = true)
    {f18 : Addr} {od18 an18 : Option Addr} {sl18 : Array (Option Value)} {oc18 kV18 dc18 pm18 cd18 ct18 : Value}
    (a18 : PySem.W.nsIn K mainGlobals "law" = some (some (.ref f18))) (l18 : K.lookup f18 = some ⟨oc18, od18, .func (PySem.W.fnOf "law" "law" (defArgs s_law) (defBody s_law) (defScope s_law) .none kV18 dc18 pm18 an18 cd18 ct18), sl18⟩) (c18 : PySem.W.codeIn K cd18 "law" = true) (k18 : PySem.W.keepIn K (.ref f18) = true)
    (z_abs : PySem.W.nsIn K mainGlobals "abs" = some none)
    (z_all : PySem.W.nsIn K mainGlobals "all" = some none)
    (z_bool : PySem.W.nsIn K mainGlobals "bool" = some none)
    (z_int : PySem.W.nsIn K mainGlobals "int" = some none)
    (z_isinstance : PySem.W.nsIn K mainGlobals "isinstance" = some none)
    (z_len : PySem.W.nsIn K mainGlobals "len" = some none)
    (z_list : PySem.W.nsIn K mainGlobals "list" = some none)
    (z_range : PySem.W.nsIn K mainGlobals "range" = some none)
    (z_sorted : PySem.W.nsIn K mainGlobals "sorted" = some none)
    (z_str : PySem.W.nsIn K mainGlobals "str" = some none)
    (z_tuple : PySem.W.nsIn K mainGlobals "tuple" = some none)
    (z_zip : PySem.W.nsIn K mainGlobals "zip" = some none)
    : ∃ fd : FuncData, (∀ (s : Shared) (v : Value), BindsTo s fd ⟨[v], []⟩ [("_law_script", v)]) ∧ ∀ base : Heap, K.In base → base.Ns mainGlobals mg → FnOk l.prog w K mg base CX0 LV fa fd ["_law_script"] (spLaw K) := by
  have e := hfa.symm.trans (PySem.W.mg_of X G a18)
  cases e
  have F0 := fun_mk (st := s_law_begin) l0 c0 k0
  have b0 := F0.binds (ps := ["_law_script"]) fun _ _ _ _ _ _ us hl => match us, hl with | [_], _ => rfl
  have F1 := fun_mk (st := s_law_take) l1 c1 k1
  have b1 := F1.binds (ps := ["_law_draw", "_law_sides"]) fun _ _ _ _ _ _ us hl => match us, hl with | [_, _], _ => rfl
  have F2 := fun_mk (st := s_law_pick) l2 c2 k2
  have b2 := F2.binds (ps := ["_law_draw", "_law_row"]) fun _ _ _ _ _ _ us hl => match us, hl with | [_, _], _ => rfl
  have F3 := fun_mk (st := s_law_with_calls) l3 c3 k3
  have b3 := F3.binds (ps := ["_law_draw", "_law_plan", "_law_names"]) fun _ _ _ _ _ _ us hl => match us, hl with | [_, _, _], _ => rfl
  have F4 := fun_mk (st := s_law_kept_words) l4 c4 k4
  have b4 := F4.binds (ps := []) fun _ _ _ _ _ _ us hl => match us, hl with | [], _ => rfl
  have F5 := fun_mk (st := s_law_fresh) l5 c5 k5
  have b5 := F5.binds (ps := ["_law_draw", "_law_taken"]) fun _ _ _ _ _ _ us hl => match us, hl with | [_, _], _ => rfl
  have F6 := fun_mk (st := s_law_some_end) l6 c6 k6
  have b6 := F6.binds (ps := ["_law_draw", "_law_scope", "_law_wide"]) fun _ _ _ _ _ _ us hl => match us, hl with | [_, _, _], _ => rfl
  have F7 := fun_mk (st := s_law_leaf) l7 c7 k7
  have b7 := F7.binds (ps := ["_law_draw", "_law_kit", "_law_scope", "_law_deep"]) fun _ _ _ _ _ _ us hl => match us, hl with | [_, _, _, _], _ => rfl
  have F8 := fun_mk (st := s_law_drawn_thing) l8 c8 k8
  have b8 := F8.binds (ps := ["_law_draw", "_law_kit", "_law_scope", "_law_deep"]) fun _ _ _ _ _ _ us hl => match us, hl with | [_, _, _, _], _ => rfl
  have F9 := fun_mk (st := s_law_drawn_body) l9 c9 k9
  have b9 := F9.binds (ps := ["_law_draw", "_law_kit", "_law_scope", "_law_deep"]) fun _ _ _ _ _ _ us hl => match us, hl with | [_, _, _, _], _ => rfl
  have F10 := fun_mk (st := s_law_drawn) l10 c10 k10
  have b10 := F10.binds (ps := ["_law_draw", "_law_room", "_law_figures", "_law_wide"]) fun _ _ _ _ _ _ us hl => match us, hl with | [_, _, _, _], _ => rfl
  have F11 := fun_mk (st := s_bodies_of) l11 c11 k11
  have b11 := F11.binds (ps := ["thing"]) fun _ _ _ _ _ _ us hl => match us, hl with | [_], _ => rfl
  have F12 := fun_mk (st := s_all_things) l12 c12 k12
  have b12 := F12.binds (ps := ["body"]) fun _ _ _ _ _ _ us hl => match us, hl with | [_], _ => rfl
  have F13 := fun_mk (st := s_calls_of) l13 c13 k13
  have b13 := F13.binds (ps := ["plan"]) fun _ _ _ _ _ _ us hl => match us, hl with | [_], _ => rfl
  have F14 := fun_mk (st := s_law_same) l14 c14 k14
  have b14 := F14.binds (ps := ["_law_found", "_law_due"]) fun _ _ _ _ _ _ us hl => match us, hl with | [_, _], _ => rfl
  have F15 := fun_mk (st := s_law_bodies) l15 c15 k15
  have b15 := F15.binds (ps := ["_law_thing"]) fun _ _ _ _ _ _ us hl => match us, hl with | [_], _ => rfl
  have F16 := fun_mk (st := s_law_every) l16 c16 k16
  have b16 := F16.binds (ps := ["_law_plan"]) fun _ _ _ _ _ _ us hl => match us, hl with | [_], _ => rfl
  have F17 := fun_mk (st := s_law_calls) l17 c17 k17
  have b17 := F17.binds (ps := ["_law_plan"]) fun _ _ _ _ _ _ us hl => match us, hl with | [_], _ => rfl
  have F18 := fun_mk (st := s_law) l18 c18 k18
  have b18 := F18.binds (ps := ["_law_script"]) fun _ _ _ _ _ _ us hl => match us, hl with | [_], _ => rfl
  let T : Txt K mg := ⟨f0, _, F0, b0, PySem.W.mg_of X G a0,
    f1, _, F1, b1, PySem.W.mg_of X G a1,
    f2, _, F2, b2, PySem.W.mg_of X G a2,
    f3, _, F3, b3, PySem.W.mg_of X G a3,
    f4, _, F4, b4, PySem.W.mg_of X G a4,
    f5, _, F5, b5, PySem.W.mg_of X G a5,
    f6, _, F6, b6, PySem.W.mg_of X G a6,
    f7, _, F7, b7, PySem.W.mg_of X G a7,
    f8, _, F8, b8, PySem.W.mg_of X G a8,
    f9, _, F9, b9, PySem.W.mg_of X G a9,
    f10, _, F10, b10, PySem.W.mg_of X G a10,
    f11, _, F11, b11, PySem.W.mg_of X G a11,
    f12, _, F12, b12, PySem.W.mg_of X G a12,
    f13, _, F13, b13, PySem.W.mg_of X G a13,
    f14, _, F14, b14, PySem.W.mg_of X G a14,
    f15, _, F15, b15, PySem.W.mg_of X G a15,
    f16, _, F16, b16, PySem.W.mg_of X G a16,
    f17, _, F17, b17, PySem.W.mg_of X G a17,
    fa, _, F18, b18, PySem.W.mg_of X G a18,
    PySem.W.mg_none_of X G z_abs,
    PySem.W.mg_none_of X G z_all,
    PySem.W.mg_none_of X G z_bool,
    PySem.W.mg_none_of X G z_int,
    PySem.W.mg_none_of X G z_isinstance,
    PySem.W.mg_none_of X G z_len,
    PySem.W.mg_none_of X G z_list,
    PySem.W.mg_none_of X G z_range,
    PySem.W.mg_none_of X G z_sorted,
    PySem.W.mg_none_of X G z_str,
    PySem.W.mg_none_of X G z_tuple,
    PySem.W.mg_none_of X G z_zip⟩
  exact ⟨_, fun s v => .of_eq rfl, fun base _ _ => ok_law T⟩
end My
open PySem PySem.W PyProof.Rows
set_option maxHeartbeats 0 in
theorem PySem.Challenge.cw_outgrow_k07_names_that_plans_call_holds : PySem.Challenge.rw_outgrow_k07_names_that_plans_call.Holds := by
  w_on; o_law; k_head; (case hw => w_witness2)
  k_fill
  refine L2.walk_of (l := PySem.Challenge.rw_outgrow_k07_names_that_plans_call) (n := 63) (k := My.LV) (x := "_law_script") (CX := fun _ => L2.CX0) (sp := fun w => My.spLaw _) rfl (by decide) rfl ⟨rfl, by decide, by decide⟩ (fun w h Y => PySem.W.kIn_of Y) ?F (fun _ _ a ns hl _ hS => ⟨a, ns, rfl, hS, hl, fun _ => rfl⟩) (fun _ _ _ _ _ h => h)
  case F =>
    intro w mg fa h KX G hmg
    refine' My.all_mk KX G hmg ?a0 ?l0 ?c0 ?k0 ?a1 ?l1 ?c1 ?k1 ?a2 ?l2 ?c2 ?k2 ?a3 ?l3 ?c3 ?k3 ?a4 ?l4 ?c4 ?k4 ?a5 ?l5 ?c5 ?k5 ?a6 ?l6 ?c6 ?k6 ?a7 ?l7 ?c7 ?k7 ?a8 ?l8 ?c8 ?k8 ?a9 ?l9 ?c9 ?k9 ?a10 ?l10 ?c10 ?k10 ?a11 ?l11 ?c11 ?k11 ?a12 ?l12 ?c12 ?k12 ?a13 ?l13 ?c13 ?k13 ?a14 ?l14 ?c14 ?k14 ?a15 ?l15 ?c15 ?k15 ?a16 ?l16 ?c16 ?k16 ?a17 ?l17 ?c17 ?k17 ?a18 ?l18 ?c18 ?k18 ?z_abs ?z_all ?z_bool ?z_int ?z_isinstance ?z_len ?z_list ?z_range ?z_sorted ?z_str ?z_tuple ?z_zip
    (case a0 => k_is)
    (case l0 => k_is)
    (case c0 => k_is)
    (case k0 => k_is)
    (case a1 => k_is)
    (case l1 => k_is)
    (case c1 => k_is)
    (case k1 => k_is)
    (case a2 => k_is)
    (case l2 => k_is)
    (case c2 => k_is)
    (case k2 => k_is)
    (case a3 => k_is)
    (case l3 => k_is)
    (case c3 => k_is)
    (case k3 => k_is)
    (case a4 => k_is)
    (case l4 => k_is)
    (case c4 => k_is)
    (case k4 => k_is)
    (case a5 => k_is)
    (case l5 => k_is)
    (case c5 => k_is)
    (case k5 => k_is)
    (case a6 => k_is)
    (case l6 => k_is)
    (case c6 => k_is)
    (case k6 => k_is)
    (case a7 => k_is)
    (case l7 => k_is)
    (case c7 => k_is)
    (case k7 => k_is)
    (case a8 => k_is)
    (case l8 => k_is)
    (case c8 => k_is)
    (case k8 => k_is)
    (case a9 => k_is)
    (case l9 => k_is)
    (case c9 => k_is)
    (case k9 => k_is)
    (case a10 => k_is)
    (case l10 => k_is)
    (case c10 => k_is)
    (case k10 => k_is)
    (case a11 => k_is)
    (case l11 => k_is)
    (case c11 => k_is)
    (case k11 => k_is)
    (case a12 => k_is)
    (case l12 => k_is)
    (case c12 => k_is)
    (case k12 => k_is)
    (case a13 => k_is)
    (case l13 => k_is)
    (case c13 => k_is)
    (case k13 => k_is)
    (case a14 => k_is)
    (case l14 => k_is)
    (case c14 => k_is)
    (case k14 => k_is)
    (case a15 => k_is)
    (case l15 => k_is)
    (case c15 => k_is)
    (case k15 => k_is)
    (case a16 => k_is)
    (case l16 => k_is)
    (case c16 => k_is)
    (case k16 => k_is)
    (case a17 => k_is)
    (case l17 => k_is)
    (case c17 => k_is)
    (case k17 => k_is)
    (case a18 => k_is)
    (case l18 => k_is)
    (case c18 => k_is)
    (case k18 => k_is)
    (case z_abs => k_is)
    (case z_all => k_is)
    (case z_bool => k_is)
    (case z_int => k_is)
    (case z_isinstance => k_is)
    (case z_len => k_is)
    (case z_list => k_is)
    (case z_range => k_is)
    (case z_sorted => k_is)
    (case z_str => k_is)
    (case z_tuple => k_is)
    (case z_zip => k_is)
#print axioms PySem.Challenge.cw_outgrow_k07_names_that_plans_call_holds
