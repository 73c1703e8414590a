import PyProof.Rows.All
import Wide.All
import OpenK.AllK
import Wide.FinOn
import HandS.ForMost
import HandS.Wide
import HandS.WideMore
import HandS.IsInst
import HandS.Style
import HandS.Codes
import HandS.Walk
import HandS.Zip
import HandS.SortRule
import HandS.Conv
import HandS.FStr
import PySem.Challenge.RW_outgrow_k13_sums_written
set_option linter.unusedVariables false
set_option Elab.async false
set_option maxRecDepth 100000
set_option maxHeartbeats 4000000
namespace My
open PySem L2
/-! ### heaps: a frozen part G, a working part H; M: what may change of what stood -/
def NoM : Addr → Prop := fun _ => False
def Only1 (d : Addr) : Addr → Prop := fun b => b = d
def But (M : Addr → Prop) (H H' : Hp) : Prop := ∀ b o, H b = some o → ¬ M b → H' b = some o
/-- something that stands there and is no tuple -/
structure Cell (o : Option HO) : Prop where
  some : o ≠ none
  tup : ∀ xs, o ≠ Option.some (.tup xs)
structure Grow (M : Addr → Prop) (G H G' H' : Hp) : Prop where
  g : Same G G'
  gh : Same G' H'
  h : But M H H'
  old : ∀ b, Cell (H b) → G' b = G b
theorem cell_lst {H : Hp} {a : Addr} {xs : List V} (h : H a = some (.lst xs)) : Cell (H a) := ⟨fun e => (by rw [h] at e; cases e), fun ys e => (by rw [h] at e; cases e)⟩
theorem cell_dK {H : Hp} {a : Addr} {xs : List (L2.Key × V)} (h : H a = some (.dK xs)) : Cell (H a) := ⟨fun e => (by rw [h] at e; cases e), fun ys e => (by rw [h] at e; cases e)⟩
theorem cell_dT {H : Hp} {a : Addr} {xs : List (List L2.Key × V)} (h : H a = some (.dT xs)) : Cell (H a) := ⟨fun e => (by rw [h] at e; cases e), fun ys e => (by rw [h] at e; cases e)⟩
theorem cell_ins {H : Hp} {a C dx : Addr} {fs : List (Str × V)} (h : H a = some (.ins C dx fs)) : Cell (H a) := ⟨fun e => (by rw [h] at e; cases e), fun ys e => (by rw [h] at e; cases e)⟩
theorem But.refl (M : Addr → Prop) (H : Hp) : But M H H := fun _ _ e _ => e
theorem But.trans {M : Addr → Prop} {H H1 H2 : Hp} (a : But M H H1) (b : But M H1 H2) : But M H H2 := fun c o e n => b c o (a c o e n) n
theorem But.mono {M M' : Addr → Prop} {H H1 : Hp} (h : ∀ b, M b → M' b) (a : But M H H1) : But M' H H1 := fun c o e n => a c o e fun z => n (h c z)
theorem But.same {H H1 : Hp} (a : But NoM H H1) : Same H H1 := fun c o e => a c o e fun z => z
theorem same_but {M : Addr → Prop} {H H1 : Hp} (a : Same H H1) : But M H H1 := fun c o e _ => a c o e
theorem same_upd {H : Hp} {p : Addr} {o : HO} (h : H p = none) : Same H (upd H p o) := fun b x e => by
  rw [upd_ne (ne_of_none e h)]
  exact e
theorem But.new {M : Addr → Prop} {H : Hp} {p : Addr} {o : HO} (h : H p = none) : But M H (upd H p o) := same_but (same_upd h)
theorem But.put {M : Addr → Prop} {H H1 : Hp} {p : Addr} {o : HO} (a : But M H H1) (h : M p) : But M H (upd H1 p o) := fun b x e n => by
  rw [upd_ne (fun z => n (by rw [z]; exact h))]
  exact a b x e n
theorem But.put0 {M : Addr → Prop} {H H1 : Hp} {p : Addr} {o : HO} (a : But M H H1) (h : H p = none) : But M H (upd H1 p o) := fun b x e n => by
  rw [upd_ne (ne_of_none e h)]
  exact a b x e n
theorem But.cell {M : Addr → Prop} {H H1 : Hp} (a : But M H H1) (hm : ∀ b, M b → Cell (H1 b)) {b : Addr} (h : Cell (H b)) : Cell (H1 b) := by
  by_cases n : M b
  · exact hm b n
  · cases e : H b with
    | none => exact absurd e h.some
    | some o =>
      rw [a b o e n]
      rw [e] at h
      exact h
theorem But.none {M : Addr → Prop} {H H1 : Hp} (a : But M H H1) (hm : ∀ b, M b → Cell (H1 b)) {b : Addr} (h : H1 b = none) : H b = none := by
  cases e : H b with
  | none => rfl
  | some o =>
    by_cases n : M b
    · exact absurd h (hm b n).some
    · rw [a b o e n] at h
      cases h
theorem Grow.refl {M : Addr → Prop} {G H : Hp} (h : Same G H) : Grow M G H G H := ⟨Same.refl _, h, But.refl _ _, fun _ _ => rfl⟩
theorem Grow.trans {M : Addr → Prop} {G H G1 H1 G2 H2 : Hp} (a : Grow M G H G1 H1) (b : Grow M G1 H1 G2 H2) (hm : ∀ c, M c → Cell (H1 c)) : Grow M G H G2 H2 :=
  ⟨a.g.trans b.g, b.gh, a.h.trans b.h, fun c hc => (b.old c (a.h.cell hm hc)).trans (a.old c hc)⟩
theorem Grow.mono {M M' : Addr → Prop} {G H G1 H1 : Hp} (h : ∀ b, M b → M' b) (a : Grow M G H G1 H1) : Grow M' G H G1 H1 := ⟨a.g, a.gh, a.h.mono h, a.old⟩
/-- a new cell -/
theorem Grow.cell {M : Addr → Prop} {G H G1 H1 : Hp} {p : Addr} {o : HO} (a : Grow M G H G1 H1) (h : H1 p = none) : Grow M G H G1 (upd H1 p o) :=
  ⟨a.g, a.gh.trans (same_upd h), a.h.trans (But.new h), a.old⟩
/-- a cell of one's own, or one of M, is written -/
theorem Grow.put {M : Addr → Prop} {G H G1 H1 : Hp} {p : Addr} {o : HO} (a : Grow M G H G1 H1) (hg : G1 p = none) (h : H p = none ∨ M p) : Grow M G H G1 (upd H1 p o) :=
  ⟨a.g, fun b x e => by rw [upd_ne (ne_of_none e hg)]; exact a.gh b x e, by rcases h with h | h; exact a.h.put0 h; exact a.h.put h, a.old⟩
/-- a cell of one's own is frozen -/
theorem Grow.pub {M : Addr → Prop} {G H G1 H1 : Hp} {p : Addr} {o : HO} (a : Grow M G H G1 H1) (h1 : H1 p = some o) (hg : G1 p = none) (h : H p = none) : Grow M G H (upd G1 p o) H1 :=
  ⟨a.g.trans (same_upd hg), fun b x e => by
    by_cases q : b = p
    · subst q
      rw [upd_same] at e
      rw [← e]
      exact h1
    · rw [upd_ne q] at e
      exact a.gh b x e, a.h, fun b hb => by
    have q : b ≠ p := fun z => hb.some (by rw [z]; exact h)
    rw [upd_ne q]
    exact a.old b hb⟩
/-- a tuple is frozen at any time -/
theorem Grow.pubT {M : Addr → Prop} {G H G1 H1 : Hp} {p : Addr} {xs : List V} (a : Grow M G H G1 H1) (h1 : H1 p = some (.tup xs)) (hm : ∀ c, M c → Cell (H1 c)) : Grow M G H (upd G1 p (.tup xs)) H1 :=
  ⟨a.g.trans (fun b x e => by
    by_cases q : b = p
    · subst q
      rw [a.gh b x e] at h1
      rw [upd_same, h1]
    · rw [upd_ne q]
      exact e), fun b x e => by
    by_cases q : b = p
    · subst q
      rw [upd_same] at e
      rw [← e]
      exact h1
    · rw [upd_ne q] at e
      exact a.gh b x e, a.h, fun b hb => by
    have q : b ≠ p := fun z => (a.h.cell hm hb).tup xs (by rw [z]; exact h1)
    rw [upd_ne q]
    exact a.old b hb⟩
theorem pub_same {G H : Hp} {p : Addr} {o : HO} (g : Same G H) (h : H p = some o) : Same G (upd G p o) := fun b x e => by
  by_cases q : b = p
  · subst q
    rw [g b x e] at h
    rw [upd_same, h]
  · rw [upd_ne q]
    exact e
/-- a new thing, frozen at once -/
theorem Grow.new {M : Addr → Prop} {G H G1 H1 : Hp} {p : Addr} {o : HO} (a : Grow M G H G1 H1) (h : H1 p = none) (hm : ∀ c, M c → Cell (H1 c)) : Grow M G H (upd G1 p o) (upd H1 p o) :=
  (a.cell h).pub upd_same (a.gh.free h) (a.h.none hm h)
theorem Grow.none {M : Addr → Prop} {G H G1 H1 : Hp} {p : Addr} (a : Grow M G H G1 H1) (hg : G p = .none) (h : Cell (H p)) : G1 p = .none := by
  rw [a.old p h]
  exact hg
/-- a cell of one's own at the heap behind -/
theorem Grow.at_ {M : Addr → Prop} {G H G1 H1 : Hp} {p : Addr} {o : HO} (a : Grow M G H G1 H1) (h : H p = some o) (n : ¬ M p) : H1 p = some o := a.h p o h n
theorem noM {P : Addr → Prop} : ∀ c, NoM c → P c := fun _ h => h.elim
theorem noMC {H : Hp} : ∀ c, NoM c → Cell (H c) := fun _ h => h.elim
theorem only1 {d : Addr} : Only1 d d := rfl

end My
namespace L2
open PySem
/-! ### data -/
theorem same_rd {H H' : Hp} {a : Addr} {u : HO} (e : Same H H') (h : Rd H a u) : Rd H' a u := by
  rcases h with h | ⟨o, h⟩
  · exact Or.inl (e a _ h)
  · exact Or.inr ⟨o, e a _ h⟩
theorem same_l {K : PySem.W.Frag} {H H' : Hp} {a : Addr} {xs : List V} (e : Same H H') (h : SqL K H a xs) : SqL K H' a xs := by
  rcases h with h | h
  · exact Or.inl (same_rd e h)
  · exact Or.inr h
theorem same_t {K : PySem.W.Frag} {H H' : Hp} {a : Addr} {xs : List V} (e : Same H H') (h : SqT K H a xs) : SqT K H' a xs := by
  rcases h with h | h
  · exact Or.inl (same_rd e h)
  · exact Or.inr h
mutual
theorem Dp.mono {K : PySem.W.Frag} {H H' : Hp} (e : Same H H') : ∀ {d : PyData} {v : V}, Dp K H v d → Dp K H' v d
  | _, _, .non => .non
  | _, _, .bl b => .bl b
  | _, _, .int i => .int i
  | _, _, .str x => .str x
  | _, _, .lst h a => .lst (same_l e h) (DpAll.mono e a)
  | _, _, .tup h a => .tup (same_t e h) (DpAll.mono e a)
theorem DpAll.mono {K : PySem.W.Frag} {H H' : Hp} (e : Same H H') : ∀ {ds : List PyData} {vs : List V}, DpAll K H vs ds → DpAll K H' vs ds
  | _, _, .nil => .nil
  | _, _, .cons a b => .cons (Dp.mono e a) (DpAll.mono e b)
end
theorem DpAll.length {K : PySem.W.Frag} {H : Hp} : ∀ {ds : List PyData} {vs : List V}, DpAll K H vs ds → vs.length = ds.length
  | _, _, .nil => rfl
  | _, _, .cons _ b => by
    rw [List.length_cons, List.length_cons, DpAll.length b]
theorem DpAll.snoc {K : PySem.W.Frag} {H : Hp} {d : PyData} {v : V} : ∀ {ds : List PyData} {vs : List V}, DpAll K H vs ds → Dp K H v d → DpAll K H (vs ++ [v]) (ds ++ [d])
  | _, _, .nil, h => .cons h .nil
  | _, _, .cons a b, h => .cons a (DpAll.snoc b h)
theorem DpAll.get {K : PySem.W.Frag} {H : Hp} : ∀ {ds : List PyData} {vs : List V} {i : Nat} {v : V}, DpAll K H vs ds → vs[i]? = some v → ∃ d, ds[i]? = some d ∧ Dp K H v d
  | _, _, _, _, .nil, h => by simp at h
  | _, _, 0, _, .cons a _, h => by
    simp at h
    subst h
    exact ⟨_, rfl, a⟩
  | _, _, i + 1, _, .cons _ b, h => by
    obtain ⟨d, e, q⟩ := DpAll.get (i := i) b (by simpa using h)
    exact ⟨d, by simpa using e, q⟩
theorem DpAll.get' {K : PySem.W.Frag} {H : Hp} : ∀ {ds : List PyData} {vs : List V} {i : Nat} {d : PyData}, DpAll K H vs ds → ds[i]? = some d → ∃ v, vs[i]? = some v ∧ Dp K H v d
  | _, _, _, _, .nil, h => by simp at h
  | _, _, 0, _, .cons a _, h => by
    simp at h
    subst h
    exact ⟨_, rfl, a⟩
  | _, _, i + 1, _, .cons _ b, h => by
    obtain ⟨d, e, q⟩ := DpAll.get' (i := i) b (by simpa using h)
    exact ⟨d, by simpa using e, q⟩

end L2
namespace My
open PySem L2
/-! ### the draw -/
structure DrawAt (H : Hp) (d l : Addr) : Prop where
  ex : ∃ (ns : List Int) (p g s : Int), H d = some (.lst [.ref l, .int p, .int g, .int s]) ∧ H l = some (.lst (ns.map V.int)) ∧ 0 ≤ p ∧ 0 ≤ g ∧ 0 ≤ s ∧ s < 2147483647 ∧ ns.length ≤ 63
theorem DrawAt.some {H : Hp} {d l : Addr} (h : DrawAt H d l) : H d ≠ none := by
  obtain ⟨ns, p, g, s, e, _⟩ := h.ex
  rw [e]
  simp
theorem DrawAt.cell {H : Hp} {d l : Addr} (h : DrawAt H d l) : Cell (H d) := by
  obtain ⟨ns, p, g, s, e, _⟩ := h.ex
  exact cell_lst e
theorem DrawAt.some' {H : Hp} {d l : Addr} (h : DrawAt H d l) : ∀ c, Only1 d c → Cell (H c) := fun c e => by
  rw [show c = d from e]
  exact h.cell
theorem DrawAt.ned {H : Hp} {d l p : Addr} (h : DrawAt H d l) (e : H p = none) : p ≠ d := fun q => h.some (by rw [← q]; exact e)
theorem DrawAt.nel {H : Hp} {d l p : Addr} (h : DrawAt H d l) (e : H p = none) : p ≠ l := fun q => by
  obtain ⟨ns, p, g, s, _, e2, _⟩ := h.ex
  rw [← q, e] at e2
  cases e2
theorem DrawAt.mono {H H' : Hp} {d l : Addr} (h : DrawAt H d l) (e : Same H H') : DrawAt H' d l := by
  obtain ⟨ns, p, g, s, e1, e2, r⟩ := h.ex
  exact ⟨⟨ns, p, g, s, e _ _ e1, e _ _ e2, r⟩⟩
theorem DrawAt.upd {H : Hp} {d l p : Addr} {o : HO} (h : DrawAt H d l) (e : H p = none) : DrawAt (upd H p o) d l := h.mono (same_upd e)
theorem DrawAt.put {H : Hp} {d l p : Addr} {o : HO} (h : DrawAt H d l) (hd : p ≠ d) (hl : p ≠ l) : DrawAt (L2.upd H p o) d l := by
  obtain ⟨ns, p', g, s, e1, e2, r⟩ := h.ex
  exact ⟨⟨ns, p', g, s, by rw [upd_ne hd.symm]; exact e1, by rw [upd_ne hl.symm]; exact e2, r⟩⟩
theorem log_small {n : Int} {k : Nat} (h0 : 0 < n) (h : n < 2 ^ k) (hk : k ≤ 9000) (k0 : 0 < k) : CDivW 0 n := by
  refine wide_div (i := 0) h0 (b := k) ?_ k0 hk
  have : ((n.natAbs : Nat) : Int) < ((2 ^ k : Nat) : Int) := by
    rw [Int.natAbs_of_nonneg (by omega)]
    simpa using h
  exact_mod_cast this
end My
namespace My
open PySem L2
/-! ### types and depth of data -/
def tyN : PyData → String
  | .none => "NoneType"
  | .bool _ => "bool"
  | .int _ => "int"
  | .str _ => "str"
  | .list _ => "list"
  | .tuple _ => "tuple"
  | .dict _ => "dict"
abbrev tyD (d : PyData) : Value := .type (tyN d)
theorem sql_ty {K : PySem.W.Frag} {H : Hp} {a : Addr} {xs : List V} (h : SqL K H a xs) : TyX K H (.ref a) (.type "list") := by
  rcases h with (h | ⟨o, h⟩) | ⟨o, its, n, h, c, _⟩
  · exact .base (.lst h)
  · exact .base (.frz h)
  · exact .kList h c
theorem sqt_ty {K : PySem.W.Frag} {H : Hp} {a : Addr} {xs : List V} (h : SqT K H a xs) : TyX K H (.ref a) (.type "tuple") := by
  rcases h with (h | ⟨o, h⟩) | ⟨o, its, n, h, c, _⟩
  · exact .base (.tup h)
  · exact .fTuple h
  · exact .kTuple h c
theorem dp_ty {K : PySem.W.Frag} {H : Hp} {v : V} {d : PyData} (h : Dp K H v d) : TyX K H v (tyD d) := by
  cases h with
  | non => exact .base .non
  | bl b => exact .base (.bl b)
  | int i => exact .base (.int i)
  | str x => exact .base (.str x)
  | lst h _ => exact sql_ty h
  | tup h _ => exact sqt_ty h
mutual
def dep : PyData → Nat
  | .list ds => depAll ds + 1
  | .tuple ds => depAll ds + 1
  | _ => 0
def depAll : List PyData → Nat
  | [] => 0
  | d :: ds => max (dep d) (depAll ds)
end
theorem dep_get : ∀ {ds : List PyData} {i : Nat} {d : PyData}, ds[i]? = some d → dep d ≤ depAll ds
  | [], _, _, h => by simp at h
  | x :: r, 0, d, h => by
    have e : x = d := by simpa using h
    rw [e, depAll]
    omega
  | x :: r, i + 1, d, h => by
    have q := dep_get (ds := r) (i := i) (d := d) (by simpa using h)
    rw [depAll]
    omega
mutual
def wid : PyData → Nat
  | .list ds => max ds.length (widAll ds)
  | .tuple ds => max ds.length (widAll ds)
  | _ => 0
def widAll : List PyData → Nat
  | [] => 0
  | d :: ds => max (wid d) (widAll ds)
end
theorem wid_get : ∀ {ds : List PyData} {i : Nat} {d : PyData}, ds[i]? = some d → wid d ≤ widAll ds
  | [], _, _, h => by simp at h
  | x :: r, 0, d, h => by
    have e : x = d := by simpa using h
    rw [e, widAll]
    omega
  | x :: r, i + 1, d, h => by
    have q := wid_get (ds := r) (i := i) (d := d) (by simpa using h)
    rw [widAll]
    omega
theorem kit2 {K : PySem.W.Frag} {t : Value} {a b : String} {r s : Bool} (h1 : PySem.W.kitOne K t (.type a) = some r) (h2 : PySem.W.kitOne K t (.type b) = some s) : PySem.W.kitAny K t [.type a, .type b] = some (r || s) := by
  refine kitAny_cons h1 (fun e => ?_) (fun e => by rw [e]; rfl)
  rw [e]
  refine kitAny_cons h2 (fun e => ?_) (fun e => by rw [e]; rfl)
  rw [e]
  exact kitAny_nil
/-- is a list, is a tuple, .. -/
def isTn (s t : String) : Bool := t == s || (t == "bool" && s == "int")
abbrev isTy (s : String) (d : PyData) : Bool := isTn s (tyN d)
theorem kit_n {K : PySem.W.Frag} (a b : String) (h : kitB a b = some (isTn b a)) : PySem.W.kitOne K (.type a) (.type b) = some (isTn b a) := kit_ty h
theorem kit_d {K : PySem.W.Frag} (d : PyData) : PySem.W.kitOne K (tyD d) (.type "list") = some (isTy "list" d) ∧ PySem.W.kitOne K (tyD d) (.type "tuple") = some (isTy "tuple" d) ∧
    PySem.W.kitOne K (tyD d) (.type "bool") = some (isTy "bool" d) ∧ PySem.W.kitOne K (tyD d) (.type "int") = some (isTy "int" d) ∧ PySem.W.kitOne K (tyD d) (.type "str") = some (isTy "str" d) := by
  cases d with
  | none => exact ⟨kit_n "NoneType" "list" (by decide +kernel), kit_n "NoneType" "tuple" (by decide +kernel), kit_n "NoneType" "bool" (by decide +kernel), kit_n "NoneType" "int" (by decide +kernel), kit_n "NoneType" "str" (by decide +kernel)⟩
  | bool _ => exact ⟨kit_n "bool" "list" (by decide +kernel), kit_n "bool" "tuple" (by decide +kernel), kit_n "bool" "bool" (by decide +kernel), kit_n "bool" "int" (by decide +kernel), kit_n "bool" "str" (by decide +kernel)⟩
  | int _ => exact ⟨kit_n "int" "list" (by decide +kernel), kit_n "int" "tuple" (by decide +kernel), kit_n "int" "bool" (by decide +kernel), kit_n "int" "int" (by decide +kernel), kit_n "int" "str" (by decide +kernel)⟩
  | str _ => exact ⟨kit_n "str" "list" (by decide +kernel), kit_n "str" "tuple" (by decide +kernel), kit_n "str" "bool" (by decide +kernel), kit_n "str" "int" (by decide +kernel), kit_n "str" "str" (by decide +kernel)⟩
  | list _ => exact ⟨kit_n "list" "list" (by decide +kernel), kit_n "list" "tuple" (by decide +kernel), kit_n "list" "bool" (by decide +kernel), kit_n "list" "int" (by decide +kernel), kit_n "list" "str" (by decide +kernel)⟩
  | tuple _ => exact ⟨kit_n "tuple" "list" (by decide +kernel), kit_n "tuple" "tuple" (by decide +kernel), kit_n "tuple" "bool" (by decide +kernel), kit_n "tuple" "int" (by decide +kernel), kit_n "tuple" "str" (by decide +kernel)⟩
  | dict _ => exact ⟨kit_n "dict" "list" (by decide +kernel), kit_n "dict" "tuple" (by decide +kernel), kit_n "dict" "bool" (by decide +kernel), kit_n "dict" "int" (by decide +kernel), kit_n "dict" "str" (by decide +kernel)⟩
abbrev clsLT : List V := [.ty "list", .ty "tuple"]
theorem pairLT : Paired ClsV clsLT [.type "list", .type "tuple"] := .cons (.ty _) (.cons (.ty _) .nil)
theorem walk_zipT {K : PySem.W.Frag} {a b : Addr} {xs ys : List V} {n : Nat} (hn : n = min xs.length ys.length) : Walk (RZ.ItzT K a b) n (fun H => SqT K H a xs ∧ SqT K H b ys) (YPair (fun i => xs[i]?) (fun i => ys[i]?)) := by
  subst hn
  refine ⟨fun i _ hi q => ?_, fun _ q => ⟨xs, ys, q.1, q.2, by omega⟩, fun i H v H' _ q y => ?_⟩
  · have h1 : i < xs.length := by omega
    have h2 : i < ys.length := by omega
    exact ⟨xs, ys, xs[i], ys[i], q.1, q.2, by simp [h1], by simp [h2]⟩
  · obtain ⟨T, x, z, h1, h2, h3, h4, h5⟩ := y
    exact ⟨T, x, z, h1, h2, h3, h4 xs q.1, h5 ys q.2⟩
theorem but_l {K : PySem.W.Frag} {M : Addr → Prop} {H H' : Hp} {a : Addr} {xs : List V} (e : But M H H') (n : ¬ M a) (h : SqL K H a xs) : SqL K H' a xs := by
  rcases h with (h | ⟨o, h⟩) | h
  · exact Or.inl (Or.inl (e a _ h n))
  · exact Or.inl (Or.inr ⟨o, e a _ h n⟩)
  · exact Or.inr h
theorem but_t {K : PySem.W.Frag} {M : Addr → Prop} {H H' : Hp} {a : Addr} {xs : List V} (e : But M H H') (n : ¬ M a) (h : SqT K H a xs) : SqT K H' a xs := by
  rcases h with (h | ⟨o, h⟩) | h
  · exact Or.inl (Or.inl (e a _ h n))
  · exact Or.inl (Or.inr ⟨o, e a _ h n⟩)
  · exact Or.inr h
end My
namespace My
open PySem L2
/-- [f sign for sign in text] -/
theorem lc_sign {te tz : TE} {σ : L2.St} {H : Hp} {Q : VK} {j : Nat} (z : Str) (f : Nat → Bool) (hz : z.length ≤ 100000) (hv : ∀ Q' : VK, Q' (.str z) H → tz σ H Q')
    (hw : ∀ x : V, wipe ((wipe σ [j]).set j (some x)) [j] = wipe σ [j]) (hs : ∀ (c : Nat) (H' : Hp) (Q' : VK), Q' (.bl (f c)) H' → te ((wipe σ [j]).set j (some (.str ⟨#[c]⟩))) H' Q')
    (k : ∀ (D : Addr) (H' : Hp), Same H H' → H D = none → H' D = some (.lst ((z.cps.toList.map f).map V.bl)) → Q (.ref D) H') : tLc (iStr tz) (gName j) tYes te [j] σ H Q := by
  refine hv _ ⟨z, rfl, fun D hD => ?_⟩
  refine lc_it walk_str (fun i H' => Same H H' ∧ H' D = some (.lst (((z.cps.toList.take i).map f).map V.bl))) ⟨same_upd hD, upd_same⟩ (fun _ _ _ _ => trivial) ?_ ?_
  · rintro i x H1 H2 hi ⟨sm, eD⟩ ⟨rfl, c, hc, rfl⟩
    refine ⟨hw _, ?_⟩
    refine hs c H2 _ ⟨_, eD, ?_, ?_, ?_⟩
    · rw [List.length_map, List.length_map, List.length_take]
      have : i < 100000 := Nat.lt_of_lt_of_le hi hz
      exact Nat.lt_of_le_of_lt (Nat.min_le_left _ _) (Nat.lt_of_lt_of_le this (by decide))
    · intro b o e
      rw [upd_ne (ne_of_none e hD)]
      exact sm b o e
    · rw [upd_same, List.take_add_one]
      have e : z.cps.toList[i]? = some c := by
        rw [Array.getElem?_toList]
        exact hc
      rw [e]
      simp
  · rintro H' ⟨sm, eD⟩
    refine k D H' sm hD ?_
    rw [eD, List.take_of_length_le (by rw [Array.length_toList]; exact Nat.le_refl _)]
theorem list_all_map {α : Type} (f : α → Bool) (l : List α) : (l.map f).all id = l.all f := by
  rw [List.all_map]
  rfl
end My
namespace My
open PySem L2
section
variable {X : Cx}
theorem iop_mulW : OpR X (inplaceOp .Mult) (rI CMulW fun i j => .int (i * j)) := opI fun _ _ _ _ _ _ _ hc q => PyProof.Rows.imul_int q hc.ok
theorem ip_mulW : PIp X .Mult (rI CMulW fun i j => .int (i * j)) := fun pins s σ H x y v u Q I rx ry h => iop_mulW pins s σ H x y v u Q I rx ry h
theorem ip_fdivW : PIp X .FloorDiv (rI CDivW fun i j => .int (i / j)) := fun pins s σ H x y v u Q I rx ry h => iop_fdivW pins s σ H x y v u Q I rx ry h
end
theorem pow_lt {b : Int} {m : Nat} (h : b.natAbs < 2 ^ m) : ∀ i : Nat, (b ^ i).natAbs < 2 ^ (m * i + 1)
  | 0 => by
    rw [Int.pow_zero, Nat.mul_zero]
    decide
  | i + 1 => by
    have q := pow_lt h i
    rw [Int.pow_succ]
    have e : m * (i + 1) + 1 = (m * i + 1) + m := by rw [Nat.mul_succ]; omega
    rw [e]
    exact wide_lt q h
/-- base, power: the power, by a product for each turn -/
def spRaised : Sp := fun vs H Q _ => ∃ (b : Int) (p m : Nat), vs = [.int b, .int p] ∧ b.natAbs < 2 ^ m ∧ 0 < m ∧ m * (p + 1) ≤ 900000 ∧ Q (.int (b ^ p)) H
theorem raised_ok {b : Int} {m p i : Nat} (h : b.natAbs < 2 ^ m) (h0 : 0 < m) (h1 : m * (p + 1) ≤ 900000) (hi : i < p) : CMulW (b ^ i) b := by
  have e1 : m * i + m ≤ m * (p + 1) := by
    rw [← Nat.mul_succ]
    exact Nat.mul_le_mul_left _ (by omega)
  exact wide_mul (pow_lt h i) h (by omega) h0 (by omega)
theorem raised_small {m p : Nat} (h0 : 0 < m) (h1 : m * (p + 1) ≤ 900000) : p < 900000 := by
  have : 1 * (p + 1) ≤ m * (p + 1) := Nat.mul_le_mul_right _ h0
  omega
end My
namespace My
open PySem L2
/-- a comprehension whose turns leave all that stood as it was: the values f i -/
theorem lc_pure {J : It} {n : Nat} {G : Hp → Prop} {Y : Nat → Hp → V → Hp → Prop} (w : Walk J n G Y) {g : TG} {te : TE} {vs : List Nat} {σ : L2.St} {H : Hp} {D : Addr} {Qd : Hp → Prop} (f : Nat → V) (hn : n ≤ 100000) (hD : H D = none) (hG : ∀ H', Same H H' → G H')
    (hs : ∀ (i : Nat) (x : V) (H1 H2 : Hp) (Q' : VK), i < n → Same H H1 → Y i H1 x H2 → (∀ H4, Same H1 H4 → Q' (f i) H4) → g x (wipe σ vs) H2 fun σ2 H3 => wipe σ2 vs = wipe σ vs ∧ te σ2 H3 Q')
    (k : ∀ H', Same H H' → H' D = some (.lst ((List.range n).map f)) → Qd H') :
    ∃ W : Nat → Nat → Hp → Prop, (∃ m, W 0 m (upd H D (.lst []))) ∧ ∀ i m H, W i m H →
      (J.stop i H ∧ Qd H) ∨ (J.go i H ∧ ∃ Nx : Hp → Prop, (∀ H', Nx H' → ∃ m', m' < m ∧ W (i + 1) m' H') ∧ ∀ x H', J.yld i H x H' → g x (wipe σ vs) H' fun σ2 H2 => wipe σ2 vs = wipe σ vs ∧ tYes σ2 H2 fun b H3 =>
        if b = true then te σ2 H3 fun y H4 => ∃ acc, H4 D = some (.lst acc) ∧ acc.length < sizeLine ∧ Nx (upd H4 D (.lst (acc ++ [y]))) else Nx H3) := by
  refine lc_it w (fun i H' => Same H H' ∧ H' D = some (.lst ((List.range i).map f))) ⟨same_upd hD, upd_same⟩ (fun i H' _ p => hG H' p.1) ?_ (fun H' p => k H' p.1 p.2)
  rintro i x H1 H2 hi ⟨sm, eD⟩ y
  refine hs i x H1 H2 _ hi sm y fun H4 s4 => ?_
  refine ⟨_, s4 _ _ eD, ?_, ?_, ?_⟩
  · rw [List.length_map, List.length_range]
    exact Nat.lt_of_lt_of_le hi (Nat.le_trans hn (by decide))
  · intro b o e
    rw [upd_ne (ne_of_none e hD)]
    exact s4 _ _ (sm b o e)
  · rw [upd_same, List.range_succ, List.map_append]
    rfl
/-- the draw's list and what was frozen -/
theorem Grow.draw {G H H' : Hp} {d : Addr} (sg : Same G H) (gd : G d = .none) (b : But (Only1 d) H H') : Grow (Only1 d) G H G H' :=
  ⟨Same.refl _, fun c o e => b c o (sg c o e) (fun q => by
    rw [show c = d from q, gd] at e
    cases e), b, fun _ _ => rfl⟩
end My
namespace My
open PySem PySem.Spec PyProof.Rows L2
/-! ### sorted(d), d a dict whose keys are pairs of ints -/
def adr : Value → Addr
  | .ref a => a
  | _ => 0
def prOf (H : Hp) : Value → Int × Int
  | .ref a => match H a with
    | some (.tup [.int i, .int j]) => (i, j)
    | _ => (0, 0)
  | _ => (0, 0)
theorem prOf_eq {H : Hp} {a : Addr} {i j : Int} (h : H a = some (.tup [.int i, .int j])) : prOf H (.ref a) = (i, j) := by
  simp only [prOf, h]
abbrev key2 (p : Int × Int) : List L2.Key := [Sum.inl p.1, Sum.inl p.2]
abbrev pairsD (ps : List ((Int × Int) × V)) : List (List L2.Key × V) := ps.map fun p => (key2 p.1, p.2)
def rSortedDT : List V → Hp → VK → Prop := fun xs H Q => ∃ (d : Addr) (ps : List ((Int × Int) × V)), xs = [.ref d] ∧ Rd H d (.dT (pairsD ps)) ∧
  ∀ (qs : List ((Int × Int) × Addr)) (p : Addr), (qs.map (·.1)).Perm (ps.map (·.1)) → qs.Pairwise (fun x y => SrtO.lexB y.1 x.1 = false) → (∀ q ∈ qs, H q.2 = some (.tup [.int q.1.1, .int q.1.2])) → H p = none → Q (.ref p) (upd H p (.lst (qs.map fun q => .ref q.2)))
theorem keys_of_pairs {H : Hp} : ∀ {ps : List ((Int × Int) × V)} {bs : List Addr}, IsKeys H (pairsD ps) bs → (bs.map fun b => prOf H (.ref b)) = ps.map (·.1) ∧ ∀ b ∈ bs, H b = some (.tup [.int (prOf H (.ref b)).1, .int (prOf H (.ref b)).2])
  | [], _, h => by
    cases h
    exact ⟨rfl, fun b hb => absurd hb (by simp)⟩
  | p :: ps, _, h => by
    cases h with
    | @cons _ b _ bs h1 h2 =>
      obtain ⟨e1, e2⟩ := keys_of_pairs (ps := ps) h2
      have h1' : H b = some (.tup [.int p.1.1, .int p.1.2]) := h1
      have ep := prOf_eq h1'
      refine ⟨?_, fun c hc => ?_⟩
      · rw [List.map_cons, List.map_cons, e1, ep]
      · rcases List.mem_cons.mp hc with e | hc
        · subst e
          rw [ep]
          exact h1'
        · exact e2 c hc
section
variable {X : Cx}
theorem cr_sortedDT (hc : X.calm = true) : CallR X (.builtin "sorted") rSortedDT := by
  intro pins s σ H xs us Q I r h
  obtain ⟨d, ps, rfl, hd, q⟩ := h
  obtain ⟨u, rfl, rx⟩ := r.one
  cases rx
  obtain ⟨z, hs, ks, pr, o, es, ep, ho, hx, hdt, he, hn⟩ := (show ObjOk X.prog X.w H s.heap d (.dT (pairsD ps)) from hd.ok I.hok)
  have l1 : es.size = ks.length := size_of_entries he
  have l2 : (pairsD ps).length = ks.length := Paired.length pr
  have hik := isKeys_of pr
  obtain ⟨hkeys, htup⟩ := keys_of_pairs hik
  refine Calls.call_function_entry kind_sorted plain_sorted entry_sorted (args_sorted1 _) ?_
  unfold Builtin.«sorted»
  refine wpAny_bind (m := checkCount "sorted" 1 1 _) (wpAny_pure ?_)
  refine wpAny_bind (PySem.W.kdu_collect (A := X.A.in1) (kdl_raw hs hx hdt) (I.ok.hd hc) ho (by omega) fun h' tk acc hk it => ?_)
  have ea : acc.toList = (ks.map fun x => x.2.1).map Value.ref := by
    have hl : acc.toList.length = ks.length := by rw [Array.length_toList, it.1]; exact l1
    rw [List.map_map]
    apply List.ext_getElem?
    intro j
    rw [List.getElem?_map]
    cases hj : acc.toList[j]? with
    | none =>
      have h1 := List.getElem?_eq_none_iff.mp hj
      rw [List.getElem?_eq_none (by omega)]
      all_goals rfl
    | some v =>
      obtain ⟨en, hen, hv⟩ := it.2 j v (by rw [← Array.getElem?_toList]; exact hj)
      have qe := entry_at he j
      rw [hen] at qe
      cases hb : ks[j]? with
      | none =>
        rw [hb] at qe
        exact nomatch (show some en = none from qe)
      | some b =>
        rw [hb] at qe
        have e2 : en = entryOfKey (tupleKind (mixKind X.prog X.w)) b := Option.some.inj qe
        rw [hv, e2]
        all_goals rfl
  generalize hbs : (ks.map fun x => x.2.1) = bs at *
  generalize hvs : acc.toList = vs at *
  have hlb : vs.length ≤ sizeLine := by
    rw [ea, List.length_map, ← hbs, List.length_map]
    omega
  have I1 : Inv X pins σ H { s with heap := h', toks := tk } := I.kept hk
  have mem : ∀ v ∈ vs, ∃ b ∈ bs, v = Value.ref b := fun v hv => by
    rw [ea] at hv
    obtain ⟨b, hb, e⟩ := List.mem_map.mp hv
    exact ⟨b, hb, e.symm⟩
  have pairs : ∀ v ∈ vs, Srt.IsPair h' v (prOf H v).1 (prOf H v).2 := fun v hv => by
    obtain ⟨b, hb, rfl⟩ := mem v hv
    obtain ⟨_, its2, r2, o, ho, hc, n, hd⟩ := (show ObjOk X.prog X.w H h' b _ from I1.hok _ _ (htup b hb))
    obtain ⟨u1, u2, rfl, ri, rj⟩ := vals2 r2
    obtain ⟨t1, rfl⟩ := ri
    obtain ⟨t2, rfl⟩ := rj
    exact ⟨b, o, t1, t2, n, rfl, ho, hc, hd⟩
  refine wpAny_bind (wpAny_newList ?_ hlb)
  have hoL : (h'.push (seqObj "list" vs.toArray 0)).get? h'.objs.size = some (seqObj "list" vs.toArray 0) := Heap.get?_push_size _ rfl
  show wpAny _ _ _ _ _ { s with heap := h'.push (seqObj "list" vs.toArray 0), toks := tk }
  refine wpAny_bind (wpAny_holding (wpAny_call_entry slot_list_sort ⟨_, hoL, rfl⟩ entry_list_sort
    (SrtO.list_sort_ord (s := { s with heap := h'.push (seqObj "list" vs.toArray 0), toks := tk }) (SrtO.swo_lex (prOf H)) hoL hlb (fun h2 => SrtO.pairs_sortableO (by omega) (fun v hv => (pairs v hv).keeps fun b o e _ => Heap.get?_push_of_some _ e) fun o e => ?_) fun out g1 g2 => ⟨_, rfl, ?_⟩) (args_list_sort _)))
  · have e' : some o = some (seqObj "list" vs.toArray 0) := e.symm.trans hoL
    cases e'
    intro c
    exact absurd (Value.type.inj c) (by decide)
  obtain ⟨e', he'⟩ := sortedHeap_at (vs := vs) (out := out.toArray) hoL
  have memo : ∀ v ∈ out, ∃ b ∈ bs, v = Value.ref b := fun v hv => mem v (g2.perm.mem_iff.mp hv)
  have hq : (out.map fun v => (prOf H v, adr v)).map (fun q => V.ref q.2) = out.map backV := by
    rw [List.map_map]
    apply List.map_congr_left
    intro v hv
    obtain ⟨b, _, rfl⟩ := memo v hv
    rfl
  have hlen : (out.map backV).length ≤ sizeLine := by
    rw [List.length_map, g2.perm.length_eq]
    exact hlb
  have fresh : H h'.objs.size = none := I1.hok.fresh (Nat.le_refl _)
  have kq := q (out.map fun v => (prOf H v, adr v)) h'.objs.size (by
      rw [List.map_map, ← hkeys]
      have e1 : (bs.map fun b => prOf H (.ref b)) = vs.map (prOf H) := by
        rw [ea, List.map_map]
        rfl
      rw [e1]
      exact g2.perm.map (prOf H)) (List.pairwise_map.mpr g1) (fun w hw => by
      obtain ⟨v, hv, rfl⟩ := List.mem_map.mp hw
      obtain ⟨b, hb, rfl⟩ := memo v hv
      exact htup b hb) fresh
  rw [hq] at kq
  refine wpAny_pure ⟨_, rfl, .ref h'.objs.size, upd H h'.objs.size (.lst (out.map backV)), I1.laid (t' := tk) (fun b u e => ?_) (Nat.le_refl _)
    (show ObjOk X.prog X.w _ _ _ (.lst (out.map backV)) from ⟨hlen, out, e', vals_back fun v hv => (let ⟨b, _, e⟩ := memo v hv; ⟨b, e⟩), he'⟩), rfl, kq⟩
  have hb : b < h'.objs.size := Heap.lt_size e
  rw [sortedHeap_old (Nat.ne_of_lt hb) (by rw [size_push']; exact Nat.lt_succ_of_lt hb)]
  exact Heap.get?_push_of_some _ e
end
end My
namespace My
open PySem L2
/-! ### sums: parts, terms, rows -/
abbrev Prt := Int × Int
abbrev Trm := (Int × Int) × Prt
abbrev Rw := Int × List Trm
def partD (p : Prt) : PyData := .tuple [.int p.1, .int p.2]
def termD (t : Trm) : PyData := .tuple [.tuple [.int t.1.1, .int t.1.2], partD t.2]
def rowD (r : Rw) : PyData := .tuple [.int r.1, .list (r.2.map termD)]
def sumsD (S : List Rw) : PyData := .list (S.map rowD)
/-- lowest terms -/
def lowL (o u : Int) : Prt := (o / (Int.gcd o u : Int), u / (Int.gcd o u : Int))
structure TrmOk (top deep wide : Int) (t : Trm) : Prop where
  p0 : 0 ≤ t.1.1
  p1 : t.1.1 ≤ top
  f0 : 0 ≤ t.1.2
  f1 : t.1.2 ≤ deep
  o0 : t.2.1 ≠ 0
  o1 : (t.2.1.natAbs : Int) ≤ wide
  u0 : 0 < t.2.2
  u1 : t.2.2 ≤ 2
  low : Int.gcd t.2.1 t.2.2 = 1
structure TrmsOk (top deep wide : Int) (ts : List Trm) : Prop where
  each : ∀ t ∈ ts, TrmOk top deep wide t
  nd : (ts.map (·.1)).Nodup
  desc : ts.Pairwise fun a b => SrtO.lexB b.1 a.1 = true
  len : ts.length ≤ 3
structure SumsOk (top deep wide : Int) (S : List Rw) : Prop where
  each : ∀ r ∈ S, TrmsOk top deep wide r.2 ∧ 0 ≤ r.1 ∧ r.1 ≤ 36
  first : ∃ ts r, S = (0, ts) :: r
  rise : S.Pairwise fun a b => a.1 < b.1
  len : S.length ≤ 4
theorem gcd_step {a b : Int} (ha : 0 ≤ a) (hb : 0 < b) : Int.gcd b (a % b) = Int.gcd a b := by
  have h := Int.gcd_add_mul_left_right b (a % b) (a / b)
  rw [Int.emod_add_mul_ediv] at h
  rw [← h, Int.gcd_comm]
theorem gcd_abs (a b : Int) : Int.gcd (if a < 0 then -a else a) (if b < 0 then -b else b) = Int.gcd a b := by
  split <;> split <;> simp [Int.gcd_neg, Int.neg_gcd]
theorem lowL_ok {o u : Int} (ho : o ≠ 0) (h0 : 0 < u) : (lowL o u).1 ≠ 0 ∧ (lowL o u).1.natAbs ≤ o.natAbs ∧ 0 < (lowL o u).2 ∧ (lowL o u).2 ≤ u ∧ Int.gcd (lowL o u).1 (lowL o u).2 = 1 := by
  have hg : 0 < Int.gcd o u := Int.gcd_pos_of_ne_zero_right _ (by omega)
  have hd : (Int.gcd o u : Int) ∣ u := Int.gcd_dvd_right ..
  have hd1 : (Int.gcd o u : Int) ∣ o := Int.gcd_dvd_left ..
  refine ⟨Int.ediv_gcd_ne_zero_of_ne_zero_left u ho, ?_, ?_, ?_, Int.gcd_ediv_gcd_ediv_gcd hg⟩
  · show (o / (Int.gcd o u : Int)).natAbs ≤ o.natAbs
    rw [Int.natAbs_ediv_of_dvd hd1, Int.natAbs_natCast]
    exact Nat.div_le_self _ _
  · exact Int.ediv_pos_of_pos_of_dvd h0 (by omega) hd
  · exact Int.ediv_le_self _ (by omega)
theorem desc_of {l : List ((Int × Int) × Addr)} (h : l.Pairwise fun x y => SrtO.lexB y.1 x.1 = false) (nd : (l.map (·.1)).Nodup) : l.reverse.Pairwise fun a b => SrtO.lexB b.1 a.1 = true := by
  rw [List.pairwise_reverse]
  have nd' : l.Pairwise fun a b => a.1 ≠ b.1 := by
    rw [List.nodup_iff_pairwise_ne, List.pairwise_map] at nd
    exact nd
  refine (h.and nd').imp ?_
  rintro a b ⟨h1, h2⟩
  rw [SrtO.lexB_no] at h1
  rw [SrtO.lexB_iff]
  have : ¬ (a.1.1 = b.1.1 ∧ a.1.2 = b.1.2) := fun e => h2 (Prod.ext e.1 e.2)
  omega
/-! ### a dict whose keys are pairs of ints -/
theorem key2_inj {p q : Int × Int} (h : key2 p = key2 q) : p = q := by
  have h1 := List.cons.inj h
  have h2 := List.cons.inj h1.2
  exact Prod.ext (Sum.inl.inj h1.1) (Sum.inl.inj h2.1)
theorem pairsD_val (k : Int × Int) : ∀ ps : List ((Int × Int) × V), valV (pairsD ps) (key2 k) = valV ps k
  | [] => rfl
  | p :: r => by
    show valV ((key2 p.1, p.2) :: pairsD r) (key2 k) = valV (p :: r) k
    by_cases h : p.1 = k
    · rw [valV_pos (p := (key2 p.1, p.2)) (by rw [h]), valV_pos h]
    · rw [valV_neg (p := (key2 p.1, p.2)) (fun e => h (key2_inj e)), valV_neg h, pairsD_val k r]
theorem pairsD_put (k : Int × Int) (v : V) (ps : List ((Int × Int) × V)) : putK (pairsD ps) (key2 k) v = pairsD (putK ps k v) := by
  unfold putK
  have e : ((pairsD ps).any fun kv => decide (kv.1 = key2 k)) = (ps.any fun kv => decide (kv.1 = k)) := by
    rw [valV_any, valV_any, pairsD_val]
  rw [e]
  split
  · unfold pairsD
    rw [List.map_map, List.map_map]
    apply List.map_congr_left
    intro p _
    show (if key2 p.1 = key2 k then (key2 p.1, v) else (key2 p.1, p.2)) = (key2 (if p.1 = k then (p.1, v) else p).1, (if p.1 = k then (p.1, v) else p).2)
    by_cases h : p.1 = k
    · rw [if_pos h, if_pos (by rw [h])]
    · rw [if_neg h, if_neg (fun e => h (key2_inj e))]
  · unfold pairsD
    rw [List.map_append]
    rfl
theorem keys_put {κ : Type} [DecidableEq κ] (k : κ) (v : V) (ps : List (κ × V)) (h : (ps.map (·.1)).Nodup) : ((putK ps k v).map (·.1)).Nodup := by
  unfold putK
  split
  · rw [List.map_map]
    have e : ((fun x : κ × V => x.1) ∘ fun kv => if kv.1 = k then (kv.1, v) else kv) = fun x => x.1 := by
      funext x
      show (if x.1 = k then (x.1, v) else x).1 = x.1
      split <;> rfl
    rw [e]
    exact h
  · rename_i hn
    rw [List.map_append, List.nodup_append]
    refine ⟨h, by simp, ?_⟩
    intro a ha b hb e
    have hb' : b = k := by simpa using hb
    subst e
    subst hb'
    obtain ⟨p, hp, e⟩ := List.mem_map.mp ha
    exact hn (List.any_eq_true.mpr ⟨p, hp, decide_eq_true e⟩)
theorem mem_put {κ : Type} [DecidableEq κ] {k : κ} {v : V} {ps : List (κ × V)} {q : κ × V} (h : q ∈ putK ps k v) : q = (k, v) ∨ q ∈ ps := by
  unfold putK at h
  split at h
  · obtain ⟨p, hp, e⟩ := List.mem_map.mp h
    by_cases c : p.1 = k
    · rw [if_pos c] at e
      left
      rw [← e, c]
    · rw [if_neg c] at e
      right
      rw [← e]
      exact hp
  · rcases List.mem_append.mp h with h | h
    · exact .inr h
    · exact .inl (List.mem_singleton.mp h)
theorem val_mem {κ : Type} [DecidableEq κ] {k : κ} : ∀ {ps : List (κ × V)}, k ∈ ps.map (·.1) → ∃ v, valV ps k = some v ∧ (k, v) ∈ ps
  | [], h => by simp at h
  | p :: r, h => by
    by_cases c : p.1 = k
    · exact ⟨p.2, valV_pos c, by rw [← c]; exact List.mem_cons_self⟩
    · rw [List.map_cons] at h
      rcases List.mem_cons.mp h with e | h
      · exact absurd e.symm c
      · obtain ⟨v, h1, h2⟩ := val_mem h
        exact ⟨v, by rw [valV_neg c]; exact h1, List.mem_cons_of_mem _ h2⟩
end My
namespace My
open PySem L2
/-! ### texts -/
def num (i : Int) : Str := Str.ofString (toString i)
theorem str_assoc (a b c : Str) : a ++ b ++ c = a ++ (b ++ c) := congrArg Str.mk (Array.append_assoc (xs := a.cps) (ys := b.cps) (zs := c.cps))
theorem str_nil (a : Str) : Str.empty ++ a = a := congrArg Str.mk (Array.empty_append (xs := a.cps))
theorem str_nil_r (a : Str) : a ++ Str.empty = a := congrArg Str.mk (Array.append_empty (xs := a.cps))
theorem str_len (a b : Str) : (a ++ b).length = a.length + b.length := Array.size_append
theorem join_one (s x : Str) : Txt.join s [x] = x := by rw [TL.join_eq]; rfl
theorem join_nil (s : Str) : Txt.join s [] = Str.empty := by rw [TL.join_eq]; rfl
theorem join_cons {s x : Str} {l : List Str} (h : l ≠ []) : Txt.join s (x :: l) = x ++ s ++ Txt.join s l := by
  cases l with
  | nil => exact absurd rfl h
  | cons y r => rw [TL.join_eq, TL.join_eq]; rfl
theorem join_snoc {s x : Str} : ∀ {l : List Str}, l ≠ [] → Txt.join s (l ++ [x]) = Txt.join s l ++ s ++ x
  | [], h => absurd rfl h
  | [y], _ => by rw [List.singleton_append, join_cons (by simp), join_one, join_one]
  | y :: z :: r, _ => by
    have ih := join_snoc (s := s) (x := x) (l := z :: r) (by simp)
    rw [List.cons_append, join_cons (by simp), ih, join_cons (l := z :: r) (by simp)]
    simp only [str_assoc]
theorem join_len (s : Str) : ∀ l : List Str, (Txt.join s l).length ≤ (l.map (·.length)).sum + l.length * s.length
  | [] => by rw [join_nil]; exact Nat.zero_le _
  | [x] => by rw [join_one]; simp
  | x :: y :: r => by
    have ih := join_len s (y :: r)
    rw [join_cons (by simp), str_len, str_len]
    simp only [List.map_cons, List.sum_cons, List.length_cons, Nat.add_mul, Nat.one_mul] at ih ⊢
    omega
theorem sum_le {B : Nat} : ∀ {l : List Str}, (∀ x ∈ l, x.length ≤ B) → (l.map (·.length)).sum ≤ l.length * B
  | [], _ => by simp
  | x :: r, h => by
    have ih := sum_le (l := r) fun y hy => h y (List.mem_cons_of_mem _ hy)
    have h1 := h x (List.mem_cons_self ..)
    simp only [List.map_cons, List.sum_cons, List.length_cons, Nat.add_mul, Nat.one_mul]
    omega
theorem num_len {i : Int} {k : Nat} (hk : 0 < k) (h : i.natAbs.log2 < k) : (num i).length ≤ k + 1 := by
  have e := int_text_length_le hk h
  have e2 : (num i).length = (toString i).length := by
    unfold num
    rw [Str.ofString_eq_toList]
    show ((toString i).toList.map Char.toNat).toArray.size = _
    rw [List.size_toArray, List.length_map]
    rfl
  omega
theorem log_lt {i : Int} {k : Nat} (h0 : i.natAbs < 2 ^ k) (hk : 0 < k) : i.natAbs.log2 < k := by
  by_cases h : i.natAbs = 0
  · rw [h]; exact hk
  · exact (Nat.log2_lt h).mpr h0
end My
namespace L2
open PySem
theorem Dp.tup2 {K : PySem.W.Frag} {H : Hp} {v : V} {d e : PyData} (h : Dp K H v (.tuple [d, e])) : ∃ a x y, v = .ref a ∧ SqT K H a [x, y] ∧ Dp K H x d ∧ Dp K H y e := by
  cases h with
  | tup hs hr =>
    cases hr with
    | cons h1 hr =>
      cases hr with
      | cons h2 hr =>
        cases hr
        exact ⟨_, _, _, rfl, hs, h1, h2⟩
theorem Dp.lst' {K : PySem.W.Frag} {H : Hp} {v : V} {ds : List PyData} (h : Dp K H v (.list ds)) : ∃ a xs, v = .ref a ∧ SqL K H a xs ∧ DpAll K H xs ds := by
  cases h with
  | lst hs hr => exact ⟨_, _, rfl, hs, hr⟩
theorem Dp.int' {K : PySem.W.Frag} {H : Hp} {v : V} {i : Int} (h : Dp K H v (.int i)) : v = .int i := by
  cases h
  rfl
theorem Dp.str' {K : PySem.W.Frag} {H : Hp} {v : V} {x : Str} (h : Dp K H v (.str x)) : v = .str x := by
  cases h
  rfl
end L2
namespace My
open PySem L2
theorem canLay_map {α : Type} {f : α → PyData} : ∀ {l : List α}, (∀ x ∈ l, (f x).canLay0 = true) → PyData.canLayAll0 (l.map f) = true
  | [], _ => rfl
  | x :: r, h => by
    have h1 := h x (List.mem_cons_self ..)
    have h2 := canLay_map (f := f) (l := r) fun y hy => h y (List.mem_cons_of_mem _ hy)
    simp only [List.map_cons, PyData.canLayAll0, h1, h2, Bool.and_self]
theorem depth_map {α : Type} {f : α → PyData} {n : Nat} : ∀ {l : List α}, (∀ x ∈ l, (f x).depth ≤ n) → PyData.depthAll (l.map f) ≤ n
  | [], _ => Nat.zero_le _
  | x :: r, h => by
    have h1 := h x (List.mem_cons_self ..)
    have h2 := depth_map (f := f) (l := r) fun y hy => h y (List.mem_cons_of_mem _ hy)
    simp only [List.map_cons, PyData.depthAll]
    omega
theorem shaped_list {α : Type} {f : α → PyData} {l : List α} (h : ∀ x ∈ l, (f x).canLay0 = true ∧ (f x).depth ≤ 63) : SeqAt.shaped (.list (l.map f)) = true := by
  unfold SeqAt.shaped
  rw [Bool.and_eq_true, decide_eq_true_eq]
  refine ⟨?_, ?_⟩
  · unfold PyData.canLay0
    exact canLay_map fun x hx => (h x hx).1
  · unfold PyData.depth
    have := depth_map (f := f) (n := 63) (l := l) fun x hx => (h x hx).2
    omega
theorem shaped_nil : SeqAt.shaped (.list []) = true := shaped_list (α := Int) (f := PyData.int) (l := []) (by simp)
theorem eqv_nil {α : Type} (f : α → PyData) (l : List α) : PyData.eqv (.list (l.map f)) (.list []) = l.isEmpty := by
  cases l with
  | nil => rfl
  | cons x r => rfl
theorem strOk_of (s : String) : PyData.strOk (Str.ofString s) = true := by
  unfold PyData.strOk
  rw [Str.ofString_eq_toList]
  show ((s.toList.map Char.toNat).toArray).all (fun x => decide (x < 1114112)) = true
  rw [List.all_toArray]
  rw [List.all_eq_true]
  intro c hc
  obtain ⟨ch, _, rfl⟩ := List.mem_map.mp hc
  have h := ch.valid
  have : ch.toNat < 1114112 := by
    rcases h with h | h
    · exact Nat.lt_trans h (by decide)
    · exact h.2
  exact decide_eq_true this
theorem strOk_app {a b : Str} (h1 : PyData.strOk a = true) (h2 : PyData.strOk b = true) : PyData.strOk (a ++ b) = true := by
  unfold PyData.strOk at *
  show (a.cps ++ b.cps).all _ = true
  rw [Array.all_append, h1, h2]
  rfl
theorem same_put {H H1 : Hp} {p : Addr} {o : HO} (a : Same H H1) (h : H p = none) : Same H (upd H1 p o) := fun b x e => by
  rw [upd_ne (ne_of_none e h)]
  exact a b x e
theorem DpAll.at_ {K : PySem.W.Frag} {H : Hp} {α : Type} {f : α → PyData} {us : List V} {l : List α} {i : Nat} {x : V} (h : DpAll K H us (l.map f)) (hx : us[i]? = some x) : ∃ r, l[i]? = some r ∧ Dp K H x (f r) := by
  obtain ⟨d, e, q⟩ := DpAll.get h hx
  rw [List.getElem?_map] at e
  cases hr : l[i]? with
  | none => rw [hr] at e; cases e
  | some r =>
    rw [hr] at e
    exact ⟨r, rfl, by rw [Option.some.inj e]; exact q⟩
theorem take_snoc {α : Type} {l : List α} {i : Nat} {r : α} (h : l[i]? = some r) : l.take (i + 1) = l.take i ++ [r] := by
  rw [List.take_add_one, h]
  rfl
theorem range_getD {α : Type} (l : List α) (d : α) : (List.range l.length).map (fun i => l.getD i d) = l := by
  apply List.ext_getElem?
  intro i
  rw [List.getElem?_map]
  by_cases h : i < l.length
  · rw [List.getElem?_range h, List.getElem?_eq_getElem h]
    show some (l.getD i d) = some l[i]
    rw [List.getD_eq_getElem?_getD, List.getElem?_eq_getElem h]
    rfl
  · rw [List.getElem?_eq_none (by simpa using h), List.getElem?_eq_none (by omega)]
    rfl
theorem getD_of' {α : Type} {l : List α} {d r : α} {i : Nat} (h : l[i]? = some r) : l.getD i d = r := by
  rw [List.getD_eq_getElem?_getD, h]
  rfl
end My
namespace My
open PySem L2
/-! ### sums as texts -/
def PS (p : Prt) : Prop := p.1.natAbs.log2 < 400 ∧ p.2.natAbs.log2 < 400
def partT (p : Prt) : Str := if p.2 = 1 then num p.1 else num p.1 ++ "/" ++ num p.2
def powL (w n : Str) (k : Int) : Str := if 0 < k then w ++ " " ++ n ++ (if 1 < k then "^" ++ num k else "") else w
def termT (t : Trm) : Str := powL (powL (partT t.2) "n" t.1.1) "d" t.1.2
def rowT (r : Rw) : Str := num r.1 ++ ": " ++ (if r.2 ≠ [] then Txt.join " + " (r.2.map termT) else "0")
def sumsT (S : List Rw) : Str := Txt.join " | " (S.map rowT)
theorem slash_len : (Str.ofString "/").length = 1 := by decide
theorem partT_len {p : Prt} (h : PS p) : (partT p).length ≤ 803 := by
  have h1 := num_len (by decide) h.1
  have h2 := num_len (by decide) h.2
  unfold partT
  split
  · omega
  · rw [str_len, str_len, slash_len]
    omega
theorem powL_len {w n : Str} {k : Int} (hn : n.length = 1) (hk : k.natAbs.log2 < 400) : (powL w n k).length ≤ w.length + 404 := by
  have h1 := num_len (by decide) hk
  have e1 : (Str.ofString " ").length = 1 := by decide
  have e2 : (Str.ofString "^").length = 1 := by decide
  have e3 : (Str.ofString "").length = 0 := by decide
  unfold powL
  split
  · split
    · rw [str_len, str_len, str_len, str_len, hn, e1, e2]
      omega
    · rw [str_len, str_len, str_len, hn, e1, e3]
      omega
  · omega
structure TS (t : Trm) : Prop where
  p : t.1.1.natAbs.log2 < 400
  f : t.1.2.natAbs.log2 < 400
  o : PS t.2
theorem termT_len {t : Trm} (h : TS t) : (termT t).length ≤ 1611 := by
  have h1 := partT_len h.o
  have h2 := powL_len (w := partT t.2) (n := "n") (by decide) h.p
  have h3 := powL_len (w := powL (partT t.2) "n" t.1.1) (n := "d") (by decide) h.f
  unfold termT
  omega
structure RS (r : Rw) : Prop where
  i : r.1.natAbs.log2 < 400
  n : r.2.length ≤ 100
  t : ∀ t ∈ r.2, TS t
theorem terms_len {ts : List Trm} (h : ∀ t ∈ ts, TS t) : ((ts.map termT).map (·.length)).sum ≤ ts.length * 1611 := by
  have := sum_le (B := 1611) (l := ts.map termT) fun x hx => by
    obtain ⟨t, ht, rfl⟩ := List.mem_map.mp hx
    exact termT_len (h t ht)
  rw [List.length_map] at this
  exact this
theorem rowT_len {r : Rw} (h : RS r) : (rowT r).length ≤ 170000 := by
  have h1 := num_len (by decide) h.i
  have h2 := terms_len h.t
  have h3 := join_len " + " (r.2.map termT)
  have e1 : (Str.ofString ": ").length = 2 := by decide
  have e2 : (Str.ofString "0").length = 1 := by decide
  have e3 : (Str.ofString " + ").length = 3 := by decide
  have hn := h.n
  rw [List.length_map, e3] at h3
  unfold rowT
  rw [str_len, str_len, e1]
  split
  · omega
  · omega
def SS (S : List Rw) : Prop := S.length ≤ 90 ∧ ∀ r ∈ S, RS r
theorem sums_len {S : List Rw} (h : SS S) : ((S.map rowT).map (·.length)).sum + (S.map rowT).length * (Str.ofString " | ").length ≤ 16777216 := by
  have := sum_le (B := 170000) (l := S.map rowT) fun x hx => by
    obtain ⟨t, ht, rfl⟩ := List.mem_map.mp hx
    exact rowT_len (h.2 t ht)
  rw [List.length_map] at this ⊢
  have e3 : (Str.ofString " | ").length = 3 := by decide
  have hn := h.1
  rw [e3]
  omega
end My
namespace My
open PySem L2
theorem termD_lay (t : Trm) : (termD t).canLay0 = true ∧ (termD t).depth ≤ 63 := by
  simp [termD, partD, PyData.canLay0, PyData.canLayAll0, PyData.depth, PyData.depthAll]
theorem partT_ok (p : Prt) : PyData.strOk (partT p) = true := by
  unfold partT
  split
  · exact strOk_of _
  · exact strOk_app (strOk_app (strOk_of _) (strOk_of _)) (strOk_of _)
theorem powL_ok {w : Str} (n : String) (k : Int) (h : PyData.strOk w = true) : PyData.strOk (powL w n k) = true := by
  unfold powL
  split
  · refine strOk_app (strOk_app (strOk_app h (strOk_of _)) (strOk_of _)) ?_
    split
    · exact strOk_app (strOk_of _) (strOk_of _)
    · exact strOk_of _
  · exact h
theorem termT_ok (t : Trm) : PyData.strOk (termT t) = true := powL_ok _ _ (powL_ok _ _ (partT_ok _))
theorem termT_lay (t : Trm) : (PyData.str (termT t)).canLay0 = true ∧ (PyData.str (termT t)).depth ≤ 63 := ⟨termT_ok t, Nat.zero_le _⟩
end My
namespace My
open PySem L2
def topS (i : Nat) : Stmt := PySem.Challenge.pw_outgrow_k13_sums_written.main.body.getD i (.Pass ⟨0, 0, 0, 0⟩)
abbrev s_law_begin : Stmt := topS 7
abbrev N_law_begin : List Str := ["_law_script"]
theorem sc_law_begin : FnScope N_law_begin ["_law_script"] (defScope s_law_begin) := ⟨rfl, rfl, rfl, by decide +kernel, rfl, by decide +kernel, by decide +kernel⟩
abbrev s_law_same : Stmt := topS 13
abbrev N_law_same : List Str := ["_law_found", "_law_due", "_law_one", "_law_other"]
theorem sc_law_same : FnScope N_law_same ["_law_found", "_law_due"] (defScope s_law_same) := ⟨rfl, rfl, rfl, by decide +kernel, rfl, by decide +kernel, by decide +kernel⟩
abbrev s_law_take : Stmt := topS 8
abbrev N_law_take : List Str := ["_law_draw", "_law_sides", "_law_cell", "_law_got"]
theorem sc_law_take : FnScope N_law_take ["_law_draw", "_law_sides"] (defScope s_law_take) := ⟨rfl, rfl, rfl, by decide +kernel, rfl, by decide +kernel, by decide +kernel⟩
abbrev s_law_gcd : Stmt := topS 9
abbrev N_law_gcd : List Str := ["_law_a", "_law_b"]
theorem sc_law_gcd : FnScope N_law_gcd ["_law_a", "_law_b"] (defScope s_law_gcd) := ⟨rfl, rfl, rfl, by decide +kernel, rfl, by decide +kernel, by decide +kernel⟩
abbrev s_law_lowest : Stmt := topS 10
abbrev N_law_lowest : List Str := ["_law_over", "_law_under", "_law_by"]
theorem sc_law_lowest : FnScope N_law_lowest ["_law_over", "_law_under"] (defScope s_law_lowest) := ⟨rfl, rfl, rfl, by decide +kernel, rfl, by decide +kernel, by decide +kernel⟩
abbrev s_law_terms : Stmt := topS 11
abbrev N_law_terms : List Str := ["_law_draw", "_law_top", "_law_deep", "_law_wide", "_law_found", "_law_k", "_law_over", "_law_key"]
theorem sc_law_terms : FnScope N_law_terms ["_law_draw", "_law_top", "_law_deep", "_law_wide"] (defScope s_law_terms) := ⟨rfl, rfl, rfl, by decide +kernel, rfl, by decide +kernel, by decide +kernel⟩
abbrev s_law_drawn_sums : Stmt := topS 12
abbrev N_law_drawn_sums : List Str := ["_law_draw", "_law_top", "_law_deep", "_law_wide", "_law_found", "_law_k"]
theorem sc_law_drawn_sums : FnScope N_law_drawn_sums ["_law_draw", "_law_top", "_law_deep", "_law_wide"] (defScope s_law_drawn_sums) := ⟨rfl, rfl, rfl, by decide +kernel, rfl, by decide +kernel, by decide +kernel⟩
abbrev s_law_raised : Stmt := topS 16
abbrev N_law_raised : List Str := ["_law_part", "_law_upto", "_law_found", "_law_k"]
theorem sc_law_raised : FnScope N_law_raised ["_law_part", "_law_upto"] (defScope s_law_raised) := ⟨rfl, rfl, rfl, by decide +kernel, rfl, by decide +kernel, by decide +kernel⟩
abbrev s_growth_text : Stmt := topS 5
abbrev N_growth_text : List Str := ["told", "times", "base", "figures"]
theorem sc_growth_text : FnScope N_growth_text ["told"] (defScope s_growth_text) := ⟨rfl, rfl, rfl, by decide +kernel, rfl, by decide +kernel, by decide +kernel⟩
abbrev s_part_text : Stmt := topS 1
abbrev N_part_text : List Str := ["part", "over", "under"]
theorem sc_part_text : FnScope N_part_text ["part"] (defScope s_part_text) := ⟨rfl, rfl, rfl, by decide +kernel, rfl, by decide +kernel, by decide +kernel⟩
abbrev s_term_text : Stmt := topS 3
abbrev N_term_text : List Str := ["term", "power", "figures", "part", "found", "name", "here"]
theorem sc_term_text : FnScope N_term_text ["term"] (defScope s_term_text) := ⟨rfl, rfl, rfl, by decide +kernel, rfl, by decide +kernel, by decide +kernel⟩
abbrev s_sums_text : Stmt := topS 4
abbrev N_sums_text : List Str := ["sums", "found", "since", "terms", "told", "term"]
theorem sc_sums_text : FnScope N_sums_text ["sums"] (defScope s_sums_text) := ⟨rfl, rfl, rfl, by decide +kernel, rfl, by decide +kernel, by decide +kernel⟩
abbrev s_law_part_text : Stmt := topS 14
abbrev N_law_part_text : List Str := ["_law_part"]
theorem sc_law_part_text : FnScope N_law_part_text ["_law_part"] (defScope s_law_part_text) := ⟨rfl, rfl, rfl, by decide +kernel, rfl, by decide +kernel, by decide +kernel⟩
abbrev s_law_sums_text : Stmt := topS 15
abbrev N_law_sums_text : List Str := ["_law_sums", "_law_rows", "_law_since", "_law_terms_here", "_law_some", "_law_power", "_law_figures", "_law_part", "_law_word", "_law_name", "_law_here"]
theorem sc_law_sums_text : FnScope N_law_sums_text ["_law_sums"] (defScope s_law_sums_text) := ⟨rfl, rfl, rfl, by decide +kernel, rfl, by decide +kernel, by decide +kernel⟩
abbrev s_law_pick : Stmt := topS 17
abbrev N_law_pick : List Str := ["_law_draw", "_law_row"]
theorem sc_law_pick : FnScope N_law_pick ["_law_draw", "_law_row"] (defScope s_law_pick) := ⟨rfl, rfl, rfl, by decide +kernel, rfl, by decide +kernel, by decide +kernel⟩
abbrev s_law : Stmt := topS 18
abbrev N_law : List Str := ["_law_script", "_law_draw", "_law_turn", "_law_sums", "_law_told_one", "_law_due"]
theorem sc_law : FnScope N_law ["_law_script"] (defScope s_law) := ⟨rfl, rfl, rfl, by decide +kernel, rfl, by decide +kernel, by decide +kernel⟩
structure Txt (K : PySem.W.Frag) (mg : Str → Option Value) : Type where
  a_law_begin : Addr
  d_law_begin : FuncData
  F_law_begin : Fun K "_law_begin" "_law_begin" s_law_begin a_law_begin d_law_begin
  b_law_begin : Binds K d_law_begin ["_law_script"] []
  g_law_begin : mg "_law_begin" = some (.ref a_law_begin)
  a_law_same : Addr
  d_law_same : FuncData
  F_law_same : Fun K "_law_same" "_law_same" s_law_same a_law_same d_law_same
  b_law_same : Binds K d_law_same ["_law_found", "_law_due"] []
  g_law_same : mg "_law_same" = some (.ref a_law_same)
  a_law_take : Addr
  d_law_take : FuncData
  F_law_take : Fun K "_law_take" "_law_take" s_law_take a_law_take d_law_take
  b_law_take : Binds K d_law_take ["_law_draw", "_law_sides"] []
  g_law_take : mg "_law_take" = some (.ref a_law_take)
  a_law_gcd : Addr
  d_law_gcd : FuncData
  F_law_gcd : Fun K "_law_gcd" "_law_gcd" s_law_gcd a_law_gcd d_law_gcd
  b_law_gcd : Binds K d_law_gcd ["_law_a", "_law_b"] []
  g_law_gcd : mg "_law_gcd" = some (.ref a_law_gcd)
  a_law_lowest : Addr
  d_law_lowest : FuncData
  F_law_lowest : Fun K "_law_lowest" "_law_lowest" s_law_lowest a_law_lowest d_law_lowest
  b_law_lowest : Binds K d_law_lowest ["_law_over", "_law_under"] []
  g_law_lowest : mg "_law_lowest" = some (.ref a_law_lowest)
  a_law_terms : Addr
  d_law_terms : FuncData
  F_law_terms : Fun K "_law_terms" "_law_terms" s_law_terms a_law_terms d_law_terms
  b_law_terms : Binds K d_law_terms ["_law_draw", "_law_top", "_law_deep", "_law_wide"] []
  g_law_terms : mg "_law_terms" = some (.ref a_law_terms)
  a_law_drawn_sums : Addr
  d_law_drawn_sums : FuncData
  F_law_drawn_sums : Fun K "_law_drawn_sums" "_law_drawn_sums" s_law_drawn_sums a_law_drawn_sums d_law_drawn_sums
  b_law_drawn_sums : Binds K d_law_drawn_sums ["_law_draw", "_law_top", "_law_deep", "_law_wide"] []
  g_law_drawn_sums : mg "_law_drawn_sums" = some (.ref a_law_drawn_sums)
  a_law_raised : Addr
  d_law_raised : FuncData
  F_law_raised : Fun K "_law_raised" "_law_raised" s_law_raised a_law_raised d_law_raised
  b_law_raised : Binds K d_law_raised ["_law_part", "_law_upto"] []
  g_law_raised : mg "_law_raised" = some (.ref a_law_raised)
  a_growth_text : Addr
  d_growth_text : FuncData
  F_growth_text : Fun K "growth_text" "growth_text" s_growth_text a_growth_text d_growth_text
  b_growth_text : Binds K d_growth_text ["told"] []
  g_growth_text : mg "growth_text" = some (.ref a_growth_text)
  a_part_text : Addr
  d_part_text : FuncData
  F_part_text : Fun K "part_text" "part_text" s_part_text a_part_text d_part_text
  b_part_text : Binds K d_part_text ["part"] []
  g_part_text : mg "part_text" = some (.ref a_part_text)
  a_term_text : Addr
  d_term_text : FuncData
  F_term_text : Fun K "term_text" "term_text" s_term_text a_term_text d_term_text
  b_term_text : Binds K d_term_text ["term"] []
  g_term_text : mg "term_text" = some (.ref a_term_text)
  a_sums_text : Addr
  d_sums_text : FuncData
  F_sums_text : Fun K "sums_text" "sums_text" s_sums_text a_sums_text d_sums_text
  b_sums_text : Binds K d_sums_text ["sums"] []
  g_sums_text : mg "sums_text" = some (.ref a_sums_text)
  a_law_part_text : Addr
  d_law_part_text : FuncData
  F_law_part_text : Fun K "_law_part_text" "_law_part_text" s_law_part_text a_law_part_text d_law_part_text
  b_law_part_text : Binds K d_law_part_text ["_law_part"] []
  g_law_part_text : mg "_law_part_text" = some (.ref a_law_part_text)
  a_law_sums_text : Addr
  d_law_sums_text : FuncData
  F_law_sums_text : Fun K "_law_sums_text" "_law_sums_text" s_law_sums_text a_law_sums_text d_law_sums_text
  b_law_sums_text : Binds K d_law_sums_text ["_law_sums"] []
  g_law_sums_text : mg "_law_sums_text" = some (.ref a_law_sums_text)
  a_law_pick : Addr
  d_law_pick : FuncData
  F_law_pick : Fun K "_law_pick" "_law_pick" s_law_pick a_law_pick d_law_pick
  b_law_pick : Binds K d_law_pick ["_law_draw", "_law_row"] []
  g_law_pick : mg "_law_pick" = some (.ref a_law_pick)
  a_law : Addr
  d_law : FuncData
  F_law : Fun K "law" "law" s_law a_law d_law
  b_law : Binds K d_law ["_law_script"] []
  g_law : mg "law" = some (.ref a_law)
  z_abs : mg "abs" = none
  z_all : mg "all" = none
  z_bool : mg "bool" = none
  z_int : mg "int" = none
  z_isinstance : mg "isinstance" = none
  z_len : mg "len" = none
  z_list : mg "list" = none
  z_range : mg "range" = none
  z_sorted : mg "sorted" = none
  z_str : mg "str" = none
  z_tuple : mg "tuple" = none
  z_zip : mg "zip" = none
section
variable {P : Program} {w : World} {K : PySem.W.Frag} {mg : Str → Option Value} {base : Heap}
/-- a fresh draw -/
def spBegin (K : PySem.W.Frag) : Sp := fun vs H Q _ => ∃ (a : Addr) (ns : List Int), vs = [.ref a] ∧ SqL K H a (ns.map V.int) ∧ ns.length ≤ 63 ∧
  ∀ d l H', H d = none → H l = none → Same H H' → DrawAt H' d l → Q (.ref d) H'
theorem ok_law_begin (T : Txt K mg) : FnOk P w K mg base CX0 1 T.a_law_begin T.d_law_begin ["_law_script"] (spBegin K) := by
  refine T.F_law_begin.ok sc_law_begin (fun vs H Q E h => ?_) (fun cdv A outer s H vs Q E hr h => ?_)
  · obtain ⟨a, ns, rfl, _⟩ := h
    rfl
  obtain ⟨a, ns, rfl, hS, hl, k⟩ := h
  refine ⟨_, (pss_one (ps_ret (pe_lst (pa_cons (pe_callTy call_list_of (by rfl) T.z_list (by decide +kernel) (pa_cons (pe_slice sl_list (pv 0) po_none (po_some pe_int)) pa_nil)) (pa_cons pe_int (pa_cons pe_int (pa_cons pe_int pa_nil))))))), ?_⟩
  refine ⟨.ref a, rfl, 63, rfl, a, _, rfl, hS, fun p hp => ?_⟩
  refine ⟨p, _, rfl, .inl (SqL.of upd_same), fun l hl2 => ?_⟩
  refine ⟨by show 4 ≤ sizeLine; decide, fun d hd => ?_⟩
  have s1 : Same H _ := (same_upd (o := .lst (cutV (ns.map V.int) none (some 63))) hp)
  have s2 := s1.trans (same_upd (o := .lst (cutV (ns.map V.int) none (some 63))) hl2)
  have s3 := s2.trans (same_upd (o := .lst [.ref l, .int 0, .int 0, .int 37]) hd)
  have nld : l ≠ d := fun e => by
    rw [← e, upd_same] at hd
    cases hd
  refine k d l _ (s2.free hd) (s1.free hl2) s3 ⟨⟨ns.take 63, 0, 0, 37, upd_same, ?_, by decide, by decide, by decide, by decide, ?_⟩⟩
  · rw [upd_ne nld, upd_same]
    have e : cutV (ns.map V.int) none (some 63) = (ns.take 63).map V.int := by
      unfold cutV
      rw [HT.sIx_none, show HT.sIx (ns.map V.int).length (ns.map V.int).length (some 63) = min 63 (ns.map V.int).length from HT.sIx_nat _ _ 63, List.drop_zero, Nat.sub_zero]
      rw [List.map_take, List.length_map, List.take_eq_take_iff]
      simp
    rw [e]
  · rw [List.length_take]
    omega
/-- alike data are the same -/
def spSame (K : PySem.W.Frag) (n : Nat) : Sp := fun vs H Q _ => ∃ (x y : V) (d : PyData), vs = [x, y] ∧ Dp K H x d ∧ Dp K H y d ∧ dep d < n ∧ wid d ≤ 100000 ∧ ∀ H', Same H H' → Q (.bl true) H'
theorem same_step (T : Txt K mg) (n : Nat) (G_law_same : FnOk P w K mg base CX0 n T.a_law_same T.d_law_same ["_law_found", "_law_due"] (spSame K n)) :
    FnOk P w K mg base CX0 (n + 1) T.a_law_same T.d_law_same ["_law_found", "_law_due"] (spSame K (n + 1)) := by
  refine T.F_law_same.ok sc_law_same (fun vs H Q E h => ?_) (fun cdv A outer s H vs Q E hr h => ?_)
  · obtain ⟨x, y, d, rfl, _⟩ := h
    rfl
  obtain ⟨x, y, d, rfl, dx, dy, hn, hw, k⟩ := h
  refine ⟨_, (pss_cons (ps_if (pt_val (pe_callB call_isiT (by rfl) T.z_isinstance (by decide +kernel) (pa_cons (pv 1) (pa_cons (pe_tup (pa_cons (pe_bltn (v := .ty "list") (by rfl) T.z_list (by decide +kernel) rfl) (pa_cons (pe_bltn (v := .ty "tuple") (by rfl) T.z_tuple (by decide +kernel) rfl) pa_nil))) pa_nil)))) (pss_cons (ps_if (PW.pt (pw_or (pt_cmpR op_ne (pe_callB call_isi (by rfl) T.z_isinstance (by decide +kernel) (pa_cons (pv 0) (pa_cons (pe_bltn (v := .ty "list") (by rfl) T.z_list (by decide +kernel) rfl) pa_nil))) (pe_callB call_isi (by rfl) T.z_isinstance (by decide +kernel) (pa_cons (pv 1) (pa_cons (pe_bltn (v := .ty "list") (by rfl) T.z_list (by decide +kernel) rfl) pa_nil))) (nomark _)) (pw_or1 (pt_not (pt_val (pe_callB call_isiT (by rfl) T.z_isinstance (by decide +kernel) (pa_cons (pv 0) (pa_cons (pe_tup (pa_cons (pe_bltn (v := .ty "list") (by rfl) T.z_list (by decide +kernel) rfl) (pa_cons (pe_bltn (v := .ty "tuple") (by rfl) T.z_tuple (by decide +kernel) rfl) pa_nil))) pa_nil)))))))) (pss_one (ps_ret pe_bl)) pss_nil)
      (pss_one (ps_ret (pe_and (pe_cmpR op_eq (pe_callB call_len (by rfl) T.z_len (by decide +kernel) (pa_cons (pv 0) pa_nil)) (pe_callB call_len (by rfl) T.z_len (by decide +kernel) (pa_cons (pv 1) pa_nil)) (nomark _)) (pe_one (pe_callB (cr_all rfl) (by rfl) T.z_all (by decide +kernel) (pa_cons (pe_lc (own := [("_law_one", 2), ("_law_other", 3)]) (g := gTup K 2 ((gCons (gName 2) (gCons (gName 3) gNil)))) (tt := tYes) rfl sc_law_same.nd (RZ.pi_zipA (by rfl) T.z_zip (pa_cons (pv 0) (pa_cons (pv 1) pa_nil))) (blkOk_by (N := N_law_same) (sc := defScope s_law_same) (by decide +kernel)) (fun _ _ _ _ _ => (pg_tup rfl (pgs_cons (pg_name (i := 2) sc_law_same.nd rfl (Or.inl rfl)) (pgs_cons (pg_name (i := 3) sc_law_same.nd rfl (Or.inl rfl)) pgs_nil)))) (fun _ _ _ _ _ => pts_nil) (fun _ _ _ _ _ => (pe_call G_law_same hr (by rfl) T.g_law_same T.F_law_same.kp T.b_law_same .nil pass0 (pa_cons (pv 2) (pa_cons (pv 3) pa_nil))))) pa_nil))))))) pss_nil)
      (pss_cons (ps_if (pt_cmpR op_isN (pv 1) pe_non (nomark _)) (pss_one (ps_ret (pe_cmpR op_isN (pv 0) pe_non (nomark _)))) pss_nil)
      (pss_cons (ps_if (PW.pt (pw_or (pt_cmpR op_ne (pe_callB call_isi (by rfl) T.z_isinstance (by decide +kernel) (pa_cons (pv 0) (pa_cons (pe_bltn (v := .ty "bool") (by rfl) T.z_bool (by decide +kernel) rfl) pa_nil))) (pe_callB call_isi (by rfl) T.z_isinstance (by decide +kernel) (pa_cons (pv 1) (pa_cons (pe_bltn (v := .ty "bool") (by rfl) T.z_bool (by decide +kernel) rfl) pa_nil))) (nomark _)) (pw_or1 (pt_cmpR op_ne (pe_callB call_isi (by rfl) T.z_isinstance (by decide +kernel) (pa_cons (pv 0) (pa_cons (pe_bltn (v := .ty "int") (by rfl) T.z_int (by decide +kernel) rfl) pa_nil))) (pe_callB call_isi (by rfl) T.z_isinstance (by decide +kernel) (pa_cons (pv 1) (pa_cons (pe_bltn (v := .ty "int") (by rfl) T.z_int (by decide +kernel) rfl) pa_nil))) (nomark _))))) (pss_one (ps_ret pe_bl)) pss_nil)
      (pss_one (ps_ret (pe_and (pe_cmpR op_eq (pe_callB call_isi (by rfl) T.z_isinstance (by decide +kernel) (pa_cons (pv 0) (pa_cons (pe_bltn (v := .ty "str") (by rfl) T.z_str (by decide +kernel) rfl) pa_nil))) (pe_callB call_isi (by rfl) T.z_isinstance (by decide +kernel) (pa_cons (pv 1) (pa_cons (pe_bltn (v := .ty "str") (by rfl) T.z_str (by decide +kernel) rfl) pa_nil))) (nomark _)) (pe_one (pe_cmpR op_eq (pv 0) (pv 1) (nomark _))))))))), ?_⟩
  have kd := fun d => kit_d (K := K) d
  -- isinstance(due, (list, tuple))
  refine ⟨_, rfl, by show 2 ≤ sizeLine; decide, fun p hp => ?_⟩
  have s1 : Same H (upd H p (.tup clsLT)) := same_upd hp
  refine ⟨y, p, clsLT, _, _, _, rfl, upd_same, pairLT, dp_ty (Dp.mono s1 dy), kit2 (kd d).1 (kd d).2.1, _, rfl, ?_⟩
  refine ite2 (fun c1 => ?_) (fun c1 => ?_)
  · -- lists, tuples
    refine ⟨_, rfl, x, _, _, _, _, rfl, .ty _, dp_ty (Dp.mono s1 dx), (kd d).1, ?_⟩
    refine ⟨_, rfl, y, _, _, _, _, rfl, .ty _, dp_ty (Dp.mono s1 dy), (kd d).1, rfl, _, rfl, ?_⟩
    refine iteNS rfl ?_
    refine ⟨_, rfl, by show 2 ≤ sizeLine; decide, fun p2 hp2 => ?_⟩
    have s2 := s1.trans (same_upd (o := .tup clsLT) hp2)
    refine ⟨x, p2, clsLT, _, _, _, rfl, upd_same, pairLT, dp_ty (Dp.mono s2 dx), kit2 (kd d).1 (kd d).2.1, _, rfl, ?_⟩
    rw [c1]
    refine iteF ?_
    generalize hH : upd (upd H p (.tup clsLT)) p2 (.tup clsLT) = H2 at s2
    have dx2 := Dp.mono s2 dx
    have dy2 := Dp.mono s2 dy
    -- the turns of the comprehension
    have turn : ∀ (D : Addr) (xs ys : List V) (ds : List PyData), H2 D = none → DpAll K H2 xs ds → DpAll K H2 ys ds → depAll ds < n → widAll ds ≤ 100000 → ds.length ≤ 100000 → ∀ (i : Nat) (z : V) (H H' : Hp), i < min xs.length ys.length →
        (Same H2 H ∧ H D = some (.lst (List.replicate i (V.bl true)))) → YPair (fun i => xs[i]?) (fun i => ys[i]?) i H z H' → ∃ T u v du, z = .ref T ∧ H' T = some (.tup [u, v]) ∧ Dp K H' u du ∧ Dp K H' v du ∧ dep du < n ∧ wid du ≤ 100000 ∧ i < 100000 ∧ Same H2 H' ∧ H' D = some (.lst (List.replicate i (V.bl true))) := by
      rintro D xs ys ds hD ax ay hdp hwd hln i z H3 H4 hi ⟨sm, eD⟩ ⟨Tt, u, v, rfl, nT, rfl, gx, gy⟩
      have lx := ax.length
      obtain ⟨du, gd, pu⟩ := ax.get gx
      obtain ⟨dv, gd', pv⟩ := ay.get gy
      rw [gd] at gd'
      cases gd'
      have sm' := sm.trans (same_upd (o := .tup [u, v]) nT)
      have := dep_get gd
      have := wid_get gd
      refine ⟨Tt, u, v, du, rfl, upd_same, Dp.mono sm' pu, Dp.mono sm' pv, by omega, by omega, by omega, sm', ?_⟩
      rw [upd_ne (ne_of_none eD nT)]
      exact eD
    have fin : ∀ (m : Nat) (H' : Hp) (D : Addr), Same H2 H' → H' D = some (.lst (List.replicate m (V.bl true))) → ∃ (a : Addr) (bs : List Bool), ([.ref D] : List V) = [V.ref a] ∧ SqL K H' a (bs.map V.bl) ∧ Q (.bl (bs.all id)) H' := by
      intro m H' D sm eD
      refine ⟨D, List.replicate m true, rfl, SqL.of (by rw [List.map_replicate]; exact eD), ?_⟩
      rw [show (List.replicate m true).all id = true by simp]
      exact k _ (s2.trans sm)
    have body : ∀ (D : Addr) (i : Nat) (u v : V) (du : PyData) (H' : Hp), H2 D = none → Dp K H' u du → Dp K H' v du → dep du < n → wid du ≤ 100000 → i < 100000 → Same H2 H' → H' D = some (.lst (List.replicate i (V.bl true))) →
        spSame K n [u, v] H' (fun y H4 => ∃ acc, H4 D = some (.lst acc) ∧ acc.length < sizeLine ∧ (Same H2 (upd H4 D (.lst (acc ++ [y]))) ∧ (upd H4 D (.lst (acc ++ [y]))) D = some (.lst (List.replicate (i + 1) (V.bl true))))) E0 := by
      intro D i u v du H' hD pu pv hdp hwd hi sm eD
      refine ⟨u, v, du, rfl, pu, pv, hdp, hwd, fun H4 sm4 => ?_⟩
      refine ⟨List.replicate i (V.bl true), sm4 _ _ eD, ?_, ?_, ?_⟩
      · rw [List.length_replicate]
        exact Nat.lt_of_lt_of_le hi (by decide)
      · intro b o e
        rw [upd_ne (ne_of_none e hD)]
        exact sm4 _ _ (sm _ _ e)
      · rw [upd_same, List.replicate_succ']
    cases dx2 with
    | @lst a xs ds hs ha =>
      cases dy2 with
      | @lst b ys _ hs' ha' =>
        have hdp : depAll ds < n := by
          rw [dep] at hn
          omega
        have hwd : widAll ds ≤ 100000 ∧ ds.length ≤ 100000 := by
          rw [wid] at hw
          omega
        have lx := ha.length
        have ly := ha'.length
        have el : decide (V.int ((xs.length : Nat) : Int) = V.int ((ys.length : Nat) : Int)) = true := by
          rw [lx, ly]
          exact decide_eq_true rfl
        refine ⟨_, rfl, _, _, rfl, .inl ⟨xs, hs, rfl⟩, _, rfl, _, _, rfl, .inl ⟨ys, hs', rfl⟩, rfl, _, rfl, ?_⟩
        rw [el]
        refine iteT ?_
        refine ⟨_, rfl, _, rfl, a, b, xs, ys, rfl, .inl ⟨hs, hs', fun D hD => ?_⟩⟩
        refine lc_it (walk_zip rfl) (fun i H => Same H2 H ∧ H D = some (.lst (List.replicate i (V.bl true)))) ⟨same_upd hD, upd_same⟩ (fun i H _ p => ⟨same_l p.1 hs, same_l p.1 hs'⟩) ?_ (fun H' p => fin _ H' D p.1 p.2)
        intro i z H3 H4 hi p y
        obtain ⟨Tt, u, v, du, rfl, eT, pu, pv, h1, h2, h3, sm, eD⟩ := turn D xs ys ds hD ha ha' hdp hwd.1 hwd.2 i z H3 H4 hi p y
        refine ⟨Tt, [u, v], rfl, SqT.of eT, rfl, u, [v], rfl, v, [], rfl, rfl, rfl, ?_⟩
        exact ⟨_, rfl, _, rfl, body D i u v du H4 hD pu pv h1 h2 h3 sm eD⟩
    | @tup a xs ds hs ha =>
      cases dy2 with
      | @tup b ys _ hs' ha' =>
        have hdp : depAll ds < n := by
          rw [dep] at hn
          omega
        have hwd : widAll ds ≤ 100000 ∧ ds.length ≤ 100000 := by
          rw [wid] at hw
          omega
        have lx := ha.length
        have ly := ha'.length
        have el : decide (V.int ((xs.length : Nat) : Int) = V.int ((ys.length : Nat) : Int)) = true := by
          rw [lx, ly]
          exact decide_eq_true rfl
        refine ⟨_, rfl, _, _, rfl, .inr ⟨xs, hs, rfl⟩, _, rfl, _, _, rfl, .inr ⟨ys, hs', rfl⟩, rfl, _, rfl, ?_⟩
        rw [el]
        refine iteT ?_
        refine ⟨_, rfl, _, rfl, a, b, xs, ys, rfl, .inr ⟨hs, hs', fun D hD => ?_⟩⟩
        refine lc_it (walk_zipT rfl) (fun i H => Same H2 H ∧ H D = some (.lst (List.replicate i (V.bl true)))) ⟨same_upd hD, upd_same⟩ (fun i H _ p => ⟨same_t p.1 hs, same_t p.1 hs'⟩) ?_ (fun H' p => fin _ H' D p.1 p.2)
        intro i z H3 H4 hi p y
        obtain ⟨Tt, u, v, du, rfl, eT, pu, pv, h1, h2, h3, sm, eD⟩ := turn D xs ys ds hD ha ha' hdp hwd.1 hwd.2 i z H3 H4 hi p y
        refine ⟨Tt, [u, v], rfl, SqT.of eT, rfl, u, [v], rfl, v, [], rfl, rfl, rfl, ?_⟩
        exact ⟨_, rfl, _, rfl, body D i u v du H4 hD pu pv h1 h2 h3 sm eD⟩
    | non => exact absurd c1 (by decide)
    | bl b => exact absurd c1 (by decide : ¬ (isTn "list" "bool" || isTn "tuple" "bool") = true)
    | int i => exact absurd c1 (by decide : ¬ (isTn "list" "int" || isTn "tuple" "int") = true)
    | str x => exact absurd c1 (by decide : ¬ (isTn "list" "str" || isTn "tuple" "str") = true)
  · generalize upd H p (.tup clsLT) = H2 at s1
    have dx2 := Dp.mono s1 dx
    have dy2 := Dp.mono s1 dy
    cases dx2 with
    | lst hs ha => exact absurd rfl c1
    | tup hs ha => exact absurd rfl c1
    | non =>
      cases dy2
      refine ⟨_, rfl, rfl, _, rfl, ?_⟩
      refine iteT ?_
      exact ⟨_, rfl, rfl, k _ s1⟩
    | bl b =>
      cases dy2
      refine ⟨_, rfl, rfl, _, rfl, ?_⟩
      refine iteF ?_
      -- isinstance(.., bool), isinstance(.., int)
      refine ⟨_, rfl, _, _, _, _, _, rfl, .ty _, .base (.bl b), (kd (.bool b)).2.2.1, _, rfl, _, _, _, _, _, rfl, .ty _, .base (.bl b), (kd (.bool b)).2.2.1, rfl, _, rfl, ?_⟩
      refine iteNS rfl ?_
      refine ⟨_, rfl, _, _, _, _, _, rfl, .ty _, .base (.bl b), (kd (.bool b)).2.2.2.1, _, rfl, _, _, _, _, _, rfl, .ty _, .base (.bl b), (kd (.bool b)).2.2.2.1, rfl, _, rfl, ?_⟩
      refine iteNS rfl ?_
      refine ⟨_, rfl, _, _, _, _, _, rfl, .ty _, .base (.bl b), (kd (.bool b)).2.2.2.2, _, rfl, _, _, _, _, _, rfl, .ty _, .base (.bl b), (kd (.bool b)).2.2.2.2, rfl, _, rfl, ?_⟩
      rw [decide_eq_true rfl]
      refine iteT ?_
      refine ⟨_, rfl, _, rfl, rfl, ?_⟩
      rw [decide_eq_true rfl]
      exact k _ s1
    | int b =>
      cases dy2
      refine ⟨_, rfl, rfl, _, rfl, ?_⟩
      refine iteF ?_
      -- isinstance(.., bool), isinstance(.., int)
      refine ⟨_, rfl, _, _, _, _, _, rfl, .ty _, .base (.int b), (kd (.int b)).2.2.1, _, rfl, _, _, _, _, _, rfl, .ty _, .base (.int b), (kd (.int b)).2.2.1, rfl, _, rfl, ?_⟩
      refine iteNS rfl ?_
      refine ⟨_, rfl, _, _, _, _, _, rfl, .ty _, .base (.int b), (kd (.int b)).2.2.2.1, _, rfl, _, _, _, _, _, rfl, .ty _, .base (.int b), (kd (.int b)).2.2.2.1, rfl, _, rfl, ?_⟩
      refine iteNS rfl ?_
      refine ⟨_, rfl, _, _, _, _, _, rfl, .ty _, .base (.int b), (kd (.int b)).2.2.2.2, _, rfl, _, _, _, _, _, rfl, .ty _, .base (.int b), (kd (.int b)).2.2.2.2, rfl, _, rfl, ?_⟩
      rw [decide_eq_true rfl]
      refine iteT ?_
      refine ⟨_, rfl, _, rfl, rfl, ?_⟩
      rw [decide_eq_true rfl]
      exact k _ s1
    | str b =>
      cases dy2
      refine ⟨_, rfl, rfl, _, rfl, ?_⟩
      refine iteF ?_
      -- isinstance(.., bool), isinstance(.., int)
      refine ⟨_, rfl, _, _, _, _, _, rfl, .ty _, .base (.str b), (kd (.str b)).2.2.1, _, rfl, _, _, _, _, _, rfl, .ty _, .base (.str b), (kd (.str b)).2.2.1, rfl, _, rfl, ?_⟩
      refine iteNS rfl ?_
      refine ⟨_, rfl, _, _, _, _, _, rfl, .ty _, .base (.str b), (kd (.str b)).2.2.2.1, _, rfl, _, _, _, _, _, rfl, .ty _, .base (.str b), (kd (.str b)).2.2.2.1, rfl, _, rfl, ?_⟩
      refine iteNS rfl ?_
      refine ⟨_, rfl, _, _, _, _, _, rfl, .ty _, .base (.str b), (kd (.str b)).2.2.2.2, _, rfl, _, _, _, _, _, rfl, .ty _, .base (.str b), (kd (.str b)).2.2.2.2, rfl, _, rfl, ?_⟩
      rw [decide_eq_true rfl]
      refine iteT ?_
      refine ⟨_, rfl, _, rfl, rfl, ?_⟩
      rw [decide_eq_true rfl]
      exact k _ s1
theorem same_all (T : Txt K mg) : ∀ n, FnOk P w K mg base CX0 n T.a_law_same T.d_law_same ["_law_found", "_law_due"] (spSame K n)
  | 0 => by
    have no : ∀ vs H Q E, ¬ spSame K 0 vs H Q E := fun vs H Q E h => by
      obtain ⟨x, y, d, _, _, _, h, _⟩ := h
      omega
    exact ⟨fun vs H Q E h => absurd h (no vs H Q E), fun A outer s H args us vs Q E _ _ _ _ h => absurd h (no vs H Q E)⟩
  | n + 1 => same_step T n (same_all T n)
theorem ok_law_same (T : Txt K mg) : FnOk P w K mg base CX0 12 T.a_law_same T.d_law_same ["_law_found", "_law_due"] (spSame K 12) := same_all T 12
/-- a draw below n -/
def spTake : Sp := fun vs H Q _ => ∃ (d l : Addr) (n : Int), vs = [.ref d, .int n] ∧ DrawAt H d l ∧ 0 < n ∧ n < 2 ^ 200 ∧
  ∀ (r : Int) H', 0 ≤ r → r < n → DrawAt H' d l → But (Only1 d) H H' → Q (.int r) H'
theorem ok_law_take (T : Txt K mg) : FnOk P w K mg base CX0 1 T.a_law_take T.d_law_take ["_law_draw", "_law_sides"] spTake := by
  refine T.F_law_take.ok sc_law_take (fun vs H Q E h => ?_) (fun cdv A outer s H vs Q E hr h => ?_)
  · obtain ⟨d, l, n, rfl, _⟩ := h
    rfl
  obtain ⟨d, l, n, rfl, D, hn0, hn, k⟩ := h
  refine ⟨_, (C8.pss_cut (ps_if (PW.pt (pw_and (pt_cmpR op_lt (pe_ix ix_list (pv 0) pe_int (fun _ _ => rfl)) (pv 1) (nomark _)) (pw_and1 (pt_cmpR op_lt (pe_ix ix_list (pv 0) pe_int (fun _ _ => rfl)) (pe_callB call_len_seq (by rfl) T.z_len (by decide +kernel) (pa_cons (pe_ix ix_list (pv 0) pe_int (fun _ _ => rfl)) pa_nil)) (nomark _))))) (pss_cons (ps_set (i := 2) sc_law_take.nd rfl (Or.inl rfl) (pe_ix ix_list (pe_ix ix_list (pv 0) pe_int (fun _ _ => rfl)) (pe_ix ix_list (pv 0) pe_int (fun _ _ => rfl)) (fun _ _ => rfl)))
      (pss_cons (ps_asg (pe_op op_add (pe_ix ix_list (pv 0) pe_int (fun _ _ => rfl)) pe_int) (pg_sub (pv 0) pe_int set_list))
      (pss_cons (ps_asg pe_int (pg_sub (pv 0) pe_int set_list))
      (pss_one (ps_if (pt_cmpR op_ge (pe_callB call_abs (by rfl) T.z_abs (by decide +kernel) (pa_cons (pv 2) pa_nil)) (pe_op op_pow pe_int pe_int) (nomark _)) (pss_one (ps_asg (pe_callB call_abs (by rfl) T.z_abs (by decide +kernel) (pa_cons (pv 2) pa_nil)) (pg_sub (pv 0) pe_int set_list))) (pss_one (ps_asg (pe_op op_mod (pe_op op_add (pe_op op_add (pe_op op_mul (pe_ix ix_list (pv 0) pe_int (fun _ _ => rfl)) pe_int) (pe_op op_mul (pe_op op_mod (pv 2) pe_int) pe_int)) pe_int) pe_int) (pg_sub (pv 0) pe_int set_list)))))))) pss_nil)
      (pss_cons (ps_if (pt_cmpR op_ge (pe_ix ix_list (pv 0) pe_int (fun _ _ => rfl)) (pv 1) (nomark _)) (pss_cons (ps_set (i := 3) sc_law_take.nd rfl (Or.inl rfl) (pe_op op_mod (pe_ix ix_list (pv 0) pe_int (fun _ _ => rfl)) (pv 1)))
      (pss_cons (ps_asg (pe_op op_fdivW (pe_ix ix_list (pv 0) pe_int (fun _ _ => rfl)) (pv 1)) (pg_sub (pv 0) pe_int set_list))
      (pss_one (ps_ret (pv 3))))) pss_nil)
      (pss_cons (ps_asg (pe_op op_mod (pe_op op_add (pe_op op_add (pe_op op_mul (pe_op op_mod (pe_op op_mul (pe_ix ix_list (pv 0) pe_int (fun _ _ => rfl)) (pe_ix ix_list (pv 0) pe_int (fun _ _ => rfl))) pe_int) pe_int) (pe_op op_mul (pe_ix ix_list (pv 0) pe_int (fun _ _ => rfl)) pe_int)) pe_int) pe_int) (pg_sub (pv 0) pe_int set_list))
      (pss_one (ps_ret (pe_op op_mod (pe_op op_add (pe_op op_fdivW (pe_ix ix_list (pv 0) pe_int (fun _ _ => rfl)) pe_int) (pe_op op_mul (pe_op op_mod (pe_ix ix_list (pv 0) pe_int (fun _ _ => rfl)) pe_int) pe_int)) (pv 1))))))), ?_⟩
  obtain ⟨ns, p, g, s, e1, e2, p0, g0, s0, s1, hl⟩ := D.ex
  have nld : l ≠ d := fun e => by
    rw [e, e1] at e2
    cases ns with
    | nil => cases e2
    | cons x r => cases e2
  have cw : CDivW 0 n := log_small hn0 hn (by decide) (by decide)
  refine ⟨fun σ' H' => ∃ c p g s, σ' = [some (.ref d), some (.int n), c, none] ∧ H' d = some (.lst [.ref l, .int p, .int g, .int s]) ∧ H' l = some (.lst (ns.map V.int)) ∧ 0 ≤ p ∧ 0 ≤ g ∧ 0 ≤ s ∧ s < 2147483647 ∧ But (Only1 d) H H', ?_, ?_⟩
  · refine ⟨_, rfl, d, _, 2, .int g, rfl, rfl, SqL.of e1, rfl, _, rfl, g, n, rfl, rfl, _, rfl, ?_⟩
    refine ite2 (fun c1 => ?_) (fun _ => ⟨_, p, g, s, rfl, e1, e2, p0, g0, s0, s1, But.refl _ _⟩)
    refine ⟨_, rfl, d, _, 1, .int p, rfl, rfl, SqL.of e1, rfl, _, rfl, d, _, 0, .ref l, rfl, rfl, SqL.of e1, rfl, l, _, rfl, .inl (SqL.of e2), p, _, rfl, rfl, _, rfl, ?_⟩
    refine ite2 (fun c2 => ?_) (fun _ => ⟨_, p, g, s, rfl, e1, e2, p0, g0, s0, s1, But.refl _ _⟩)
    have c2' : p < (((ns.map V.int).length : Nat) : Int) := of_decide_eq_true c2
    rw [List.length_map] at c2'
    obtain ⟨j, ej⟩ : ∃ j : Nat, p = (j : Int) := ⟨p.toNat, by omega⟩
    have hj : j < ns.length := by omega
    have ha : atI (ns.map V.int) p = some (.int ns[j]) := by
      rw [ej]
      exact atI_nat (by rw [List.getElem?_map, List.getElem?_eq_getElem hj]; rfl)
    -- cell = draw[0][draw[1]]
    refine ⟨_, rfl, d, _, 0, .ref l, rfl, rfl, SqL.of e1, rfl, _, rfl, d, _, 1, .int p, rfl, rfl, SqL.of e1, rfl, l, _, p, _, rfl, rfl, SqL.of e2, ha, ?_⟩
    generalize ns[j] = x
    -- draw[1] = draw[1] + 1; draw[2] = 0
    refine ⟨_, rfl, d, _, 1, .int p, rfl, rfl, SqL.of e1, rfl, p, 1, rfl, rfl, _, rfl, d, _, 1, 1, rfl, rfl, e1, rfl, ?_⟩
    refine ⟨_, rfl, d, _, 2, 2, rfl, rfl, upd_same, rfl, ?_⟩
    have b2 : ∀ o, But (Only1 d) H (upd (upd H d (.lst [.ref l, .int (p + 1), .int g, .int s])) d o) := fun o => ((But.refl _ _).put only1).put only1
    have e2' : ∀ o o', upd (upd H d o) d o' l = some (.lst (ns.map V.int)) := fun o o' => by
      rw [upd_ne nld, upd_ne nld]
      exact e2
    -- abs(cell) >= 10 ** 18
    refine ⟨_, rfl, x, rfl, 10, 18, rfl, rfl, ⟨by decide, by decide, by decide⟩, _, _, rfl, rfl, _, rfl, ?_⟩
    refine ite2 (fun _ => ?_) (fun _ => ?_)
    · refine ⟨_, rfl, x, rfl, _, rfl, d, _, 2, 2, rfl, rfl, upd_same, rfl, ?_⟩
      refine ⟨_, p + 1, _, s, rfl, upd_same, ?_, by omega, ?_, s0, s1, ((b2 _).put only1)⟩
      · rw [upd_ne nld]
        exact e2' _ _
      · split <;> omega
    · refine ⟨_, rfl, d, _, 3, .int s, rfl, rfl, SqL.of upd_same, rfl, s, 48271, rfl, rfl, .inr ⟨by decide, by decide⟩, _, rfl, x, 2147483629, rfl, rfl, (by show (0 : Int) < 2147483629; decide), _, 69621, rfl, rfl, .inr ⟨by decide, by decide⟩, _, _, rfl, rfl, _, 12345, rfl, rfl, _, 2147483647, rfl, rfl, (by show (0 : Int) < 2147483647; decide), _, rfl, d, _, 3, 3, rfl, rfl, upd_same, rfl, ?_⟩
      refine ⟨_, p + 1, 0, _, rfl, upd_same, ?_, by omega, by omega, Int.emod_nonneg _ (by decide), Int.emod_lt_of_pos _ (by decide), ((b2 _).put only1)⟩
      rw [upd_ne nld]
      exact e2' _ _
  · rintro σ' H1 ⟨c, p, g, s, rfl, e1, e2, p0, g0, s0, s1, b⟩
    refine ⟨_, rfl, d, _, 2, .int g, rfl, rfl, SqL.of e1, rfl, _, rfl, g, n, rfl, rfl, _, rfl, ?_⟩
    refine ite2 (fun c1 => ?_) (fun _ => ?_)
    · refine ⟨_, rfl, d, _, 2, .int g, rfl, rfl, SqL.of e1, rfl, _, rfl, g, n, rfl, rfl, hn0, ?_⟩
      refine ⟨_, rfl, d, _, 2, .int g, rfl, rfl, SqL.of e1, rfl, _, rfl, g, n, rfl, rfl, cw, _, rfl, d, _, 2, 2, rfl, rfl, e1, rfl, ?_⟩
      refine ⟨_, rfl, k _ _ (Int.emod_nonneg _ (by omega)) (Int.emod_lt_of_pos _ hn0) ⟨⟨ns, p, _, s, upd_same, by rw [upd_ne nld]; exact e2, p0, Int.ediv_nonneg g0 (by omega), s0, s1, hl⟩⟩ (b.put only1)⟩
    · refine ⟨_, rfl, d, _, 3, .int s, rfl, rfl, SqL.of e1, rfl, _, rfl, d, _, 3, .int s, rfl, rfl, SqL.of e1, rfl, s, s, rfl, rfl, .inl ⟨by omega, by omega⟩, _, 2147483629, rfl, rfl, (by show (0 : Int) < 2147483629; decide), _, 5, rfl, rfl, .inr ⟨by decide, by decide⟩, _, rfl, d, _, 3, .int s, rfl, rfl, SqL.of e1, rfl, s, 16811, rfl, rfl, .inr ⟨by decide, by decide⟩, _, _, rfl, rfl, _, 2531011, rfl, rfl, _, 2147483647, rfl, rfl, (by show (0 : Int) < 2147483647; decide), _, rfl, d, _, 3, 3, rfl, rfl, e1, rfl, ?_⟩
      have z0 : ∀ x : Int, 0 ≤ x % 2147483647 := fun x => Int.emod_nonneg _ (by decide)
      have z1 : ∀ x : Int, x % 2147483647 < 2147483647 := fun x => Int.emod_lt_of_pos _ (by decide)
      refine ⟨_, rfl, d, _, 3, _, rfl, rfl, SqL.of upd_same, rfl, _, 61, rfl, rfl, log_small (k := 10) (by decide) (by decide) (by decide) (by decide), _, rfl, d, _, 3, _, rfl, rfl, SqL.of upd_same, rfl, _, 8191, rfl, rfl, (by show (0 : Int) < 8191; decide), _, 31, rfl, rfl, .inr ⟨by decide, by decide⟩, _, _, rfl, rfl, _, rfl, _, n, rfl, rfl, hn0, ?_⟩
      exact k _ _ (Int.emod_nonneg _ (by omega)) (Int.emod_lt_of_pos _ hn0) ⟨⟨ns, p, g, _, upd_same, by rw [upd_ne nld]; exact e2, p0, g0, z0 _, z1 _, hl⟩⟩ (b.put only1)
/-- the greatest common divisor -/
def spGcd : Sp := fun vs H Q _ => ∃ a b : Int, vs = [.int a, .int b] ∧ Q (.int (Int.gcd a b : Nat)) H
theorem ok_law_gcd (T : Txt K mg) : FnOk P w K mg base CX0 1 T.a_law_gcd T.d_law_gcd ["_law_a", "_law_b"] spGcd := by
  refine T.F_law_gcd.ok sc_law_gcd (fun vs H Q E h => ?_) (fun cdv A outer s H vs Q E hr h => ?_)
  · obtain ⟨n, b, rfl, _⟩ := h
    rfl
  obtain ⟨a, b, rfl, k⟩ := h
  refine ⟨_, (pss_cons (ps_par (i := 0) (j := 1) (by rfl) sc_law_gcd.nd rfl rfl (by decide) rfl rfl (pa_cons (pe_callB call_abs (by rfl) T.z_abs (by decide +kernel) (pa_cons (pv 0) pa_nil)) (pa_cons (pe_callB call_abs (by rfl) T.z_abs (by decide +kernel) (pa_cons (pv 1) pa_nil)) pa_nil)) (by rfl))
      (pss_cons (ps_while PassesOwn.never (pt_cmpR op_gt (pv 1) pe_int (nomark _)) (pss_one (ps_par (i := 0) (j := 1) (by rfl) sc_law_gcd.nd rfl rfl (by decide) rfl rfl (pa_cons (pv 1) (pa_cons (pe_op op_mod (pv 0) (pv 1)) pa_nil)) (by rfl))))
      (pss_one (ps_ret (pv 0))))), ?_⟩
  refine ⟨_, rfl, _, rfl, _, rfl, _, rfl, _, _, rfl, ?_⟩
  refine while_by (fun σ H' => H' = H ∧ ∃ (m n : Int), σ = [some (.int m), some (.int n)] ∧ 0 ≤ m ∧ 0 ≤ n ∧ Int.gcd m n = Int.gcd a b) (fun σ _ => match σ with | _ :: some (.int m) :: _ => m.toNat | _ => 0) ⟨rfl, _, _, rfl, by split <;> omega, by split <;> omega, gcd_abs a b⟩ ?_ ?_
  · rintro σ H1 ⟨rfl, m, n, rfl, hm, hn, e⟩
    refine ⟨_, rfl, _, _, rfl, rfl, _, rfl, ?_⟩
    refine ite2 (fun t => ?_) (fun t => ?_)
    · have t' : (0 : Int) < n := of_decide_eq_true t
      refine ⟨_, rfl, _, rfl, _, rfl, _, _, rfl, rfl, t', _, _, rfl, ?_⟩
      refine ⟨⟨rfl, n, m % n, rfl, hn, Int.emod_nonneg _ (by omega), by rw [gcd_step hm t', e]⟩, ?_⟩
      have := Int.emod_lt_of_pos m t'
      have := Int.emod_nonneg m (show n ≠ 0 by omega)
      show (m % n).toNat < n.toNat
      omega
    · have t' : ¬ (0 : Int) < n := fun z => t (decide_eq_true z)
      have e0 : n = 0 := by omega
      subst e0
      refine ⟨_, rfl, ?_⟩
      rw [← e, Int.gcd_zero_right, show ((m.natAbs : Nat) : Int) = m by omega] at k
      exact k
  · rintro σ H Q Q' hQ ⟨v, e1, i, j, e3, e4, kk, e5, q⟩
    exact ⟨v, e1, i, j, e3, e4, kk, e5, hQ _ _ q⟩
/-- a part in lowest terms, a new pair -/
def spLowest : Sp := fun vs H Q _ => ∃ o u : Int, vs = [.int o, .int u] ∧ 0 < u ∧ u < 2 ^ 8000 ∧ ∀ p, H p = none → Q (.ref p) (upd H p (.tup [.int (lowL o u).1, .int (lowL o u).2]))
theorem gcd_le {o u : Int} (h : 0 < u) : 0 < (Int.gcd o u : Int) ∧ (Int.gcd o u : Int) ≤ u := by
  have h1 : 0 < Int.gcd o u := Int.gcd_pos_of_ne_zero_right _ (by omega)
  have h2 : (Int.gcd o u : Int) ∣ u := Int.gcd_dvd_right ..
  exact ⟨by omega, Int.le_of_dvd h h2⟩
theorem ok_law_lowest (T : Txt K mg) : FnOk P w K mg base CX0 2 T.a_law_lowest T.d_law_lowest ["_law_over", "_law_under"] spLowest := by
  refine T.F_law_lowest.ok sc_law_lowest (fun vs H Q E h => ?_) (fun cdv A outer s H vs Q E hr h => ?_)
  · obtain ⟨n, b, rfl, _⟩ := h
    rfl
  obtain ⟨o, u, rfl, h0, h1, k⟩ := h
  refine ⟨_, (pss_cons (ps_set (i := 2) sc_law_lowest.nd rfl (Or.inl rfl) (pe_call (ok_law_gcd T) (hr.mono (by decide)) (by rfl) T.g_law_gcd T.F_law_gcd.kp T.b_law_gcd .nil pass0 (pa_cons (pv 0) (pa_cons (pv 1) pa_nil))))
      (pss_one (ps_ret (pe_tup (pa_cons (pe_op op_fdivW (pv 0) (pv 2)) (pa_cons (pe_op op_fdivW (pv 1) (pv 2)) pa_nil)))))), ?_⟩
  obtain ⟨g0, g1⟩ := gcd_le (o := o) h0
  have cw : CDivW 0 (Int.gcd o u : Nat) := log_small (k := 8000) g0 (Int.lt_of_le_of_lt g1 h1) (by decide) (by decide)
  refine ⟨_, rfl, _, rfl, o, u, rfl, ?_⟩
  refine ⟨_, rfl, _, rfl, _, _, rfl, rfl, cw, _, rfl, _, rfl, _, _, rfl, rfl, cw, by show 2 ≤ sizeLine; decide, fun p hp => ?_⟩
  exact k p hp
/-- drawn terms -/
def spTerms (K : PySem.W.Frag) : Sp := fun vs H Q _ => ∃ (d l : Addr) (G : Hp) (top deep wide : Int), vs = [.ref d, .int top, .int deep, .int wide] ∧ Same G H ∧ G d = none ∧ DrawAt H d l ∧ 0 ≤ top ∧ top ≤ 1000 ∧ 0 ≤ deep ∧ deep ≤ 1000 ∧ 0 < wide ∧ wide < 2 ^ 200 ∧
  ∀ (p : Addr) (us : List V) (ts : List Trm) (G' H' : Hp), Grow (Only1 d) G H G' H' → DrawAt H' d l → H p = none → G' p = none → H' p = some (.lst us) → DpAll K G' us (ts.map termD) → TrmsOk top deep wide ts → Q (.ref p) H'
/-- what the dict holds -/
def HeldP (K : PySem.W.Frag) (G : Hp) (top deep wide : Int) (ps : List ((Int × Int) × V)) : Prop := ∀ q ∈ ps, ∃ pt : Prt, Dp K G q.2 (partD pt) ∧ TrmOk top deep wide (q.1, pt)
theorem HeldP.mono {G G' : Hp} {top deep wide : Int} {ps : List ((Int × Int) × V)} (e : Same G G') (h : HeldP K G top deep wide ps) : HeldP K G' top deep wide ps := fun q hq => by
  obtain ⟨pt, h1, h2⟩ := h q hq
  exact ⟨pt, h1.mono e, h2⟩
theorem terms_of {G : Hp} {top deep wide : Int} {ps : List ((Int × Int) × V)} (h : HeldP K G top deep wide ps) : ∀ ks : List (Int × Int), (∀ k ∈ ks, k ∈ ps.map (·.1)) →
    ∃ ts : List Trm, ts.map (·.1) = ks ∧ (∀ t ∈ ts, TrmOk top deep wide t) ∧ ∀ (i : Nat) (k : Int × Int), ks[i]? = some k → ∃ v pt, valV ps k = some v ∧ ts[i]? = some (k, pt) ∧ Dp K G v (partD pt)
  | [], _ => ⟨[], rfl, fun t ht => absurd ht (by simp), fun i k hk => by simp at hk⟩
  | k :: r, hk => by
    obtain ⟨ts, e1, e2, e3⟩ := terms_of h r fun x hx => hk x (List.mem_cons_of_mem _ hx)
    obtain ⟨v, hv, hm⟩ := val_mem (hk k List.mem_cons_self)
    obtain ⟨pt, p1, p2⟩ := h _ hm
    refine ⟨(k, pt) :: ts, by rw [List.map_cons, e1], fun t ht => ?_, fun i k' hk' => ?_⟩
    · rcases List.mem_cons.mp ht with e | ht
      · rw [e]
        exact p2
      · exact e2 t ht
    · cases i with
      | zero =>
        have e : k = k' := by simpa using hk'
        subst e
        exact ⟨v, pt, hv, rfl, p1⟩
      | succ i =>
        obtain ⟨v', pt', q1, q2, q3⟩ := e3 i k' (by simpa using hk')
        exact ⟨v', pt', q1, by simpa using q2, q3⟩
theorem ok_law_terms (T : Txt K mg) : FnOk P w K mg base CX0 4 T.a_law_terms T.d_law_terms ["_law_draw", "_law_top", "_law_deep", "_law_wide"] (spTerms K) := by
  refine T.F_law_terms.ok sc_law_terms (fun vs H Q E h => ?_) (fun cdv A outer s H vs Q E hr h => ?_)
  · obtain ⟨d, l, G, top, deep, wide, rfl, _⟩ := h
    rfl
  obtain ⟨d, l, G, top, deep, wide, rfl, sg, gd, D, ht0, ht1, hd0, hd1, hw0, hw1, k⟩ := h
  refine ⟨_, (pss_cons (ps_set (i := 4) sc_law_terms.nd rfl (Or.inr rfl) pe_dnewT)
      (pss_cons (ps_for PassesOwn.never rfl (pi_range1 (by rfl) T.z_range (pa_cons (pe_call (ok_law_take T) (hr.mono (by decide)) (by rfl) T.g_law_take T.F_law_take.kp T.b_law_take .nil pass0 (pa_cons (pv 0) (pa_cons pe_int pa_nil))) pa_nil)) (pg_name (i := 5) sc_law_terms.nd rfl (Or.inl rfl)) (pss_cons (ps_set (i := 6) sc_law_terms.nd rfl (Or.inl rfl) (pe_op op_mul (pe_ix ix_list (pe_lst (pa_cons pe_int (pa_cons (pe_un un_neg pe_int) pa_nil))) (pe_call (ok_law_take T) (hr.mono (by decide)) (by rfl) T.g_law_take T.F_law_take.kp T.b_law_take .nil pass0 (pa_cons (pv 0) (pa_cons pe_int pa_nil))) (fun _ _ => rfl)) (pe_op op_add pe_int (pe_call (ok_law_take T) (hr.mono (by decide)) (by rfl) T.g_law_take T.F_law_take.kp T.b_law_take .nil pass0 (pa_cons (pv 0) (pa_cons (pv 3) pa_nil))))))
      (pss_cons (ps_set (i := 7) sc_law_terms.nd rfl (Or.inl rfl) (pe_tup (pa_cons (pe_call (ok_law_take T) (hr.mono (by decide)) (by rfl) T.g_law_take T.F_law_take.kp T.b_law_take .nil pass0 (pa_cons (pv 0) (pa_cons (pe_op op_add (pv 1) pe_int) pa_nil))) (pa_cons (pe_call (ok_law_take T) (hr.mono (by decide)) (by rfl) T.g_law_take T.F_law_take.kp T.b_law_take .nil pass0 (pa_cons (pv 0) (pa_cons (pe_op op_add (pv 2) pe_int) pa_nil))) pa_nil))))
      (pss_one (ps_dput (hu_of hr) (pv 4) (pv 7) (pe_call (ok_law_lowest T) (hr.mono (by decide)) (by rfl) T.g_law_lowest T.F_law_lowest.kp T.b_law_lowest .nil pass0 (pa_cons (pv 6) (pa_cons (pe_op op_add pe_int (pe_call (ok_law_take T) (hr.mono (by decide)) (by rfl) T.g_law_take T.F_law_take.kp T.b_law_take .nil pass0 (pa_cons (pv 0) (pa_cons (pe_ix ix_list (pe_lst (pa_cons pe_int (pa_cons pe_int (pa_cons pe_int pa_nil)))) (pe_call (ok_law_take T) (hr.mono (by decide)) (by rfl) T.g_law_take T.F_law_take.kp T.b_law_take .nil pass0 (pa_cons (pv 0) (pa_cons pe_int pa_nil))) (fun _ _ => rfl)) pa_nil)))) pa_nil))) rfl)))))
      (pss_one (ps_ret (pe_lc (own := [("_law_key", 7)]) (g := gName 7) (tt := tYes) rfl sc_law_terms.nd (pi_list (pe_revL (pe_callB (cr_sortedDT rfl) (by rfl) T.z_sorted (by decide +kernel) (pa_cons (pv 4) pa_nil)))) (blkOk_by (N := N_law_terms) (sc := defScope s_law_terms) (by decide +kernel)) (fun _ _ _ _ _ => (pg_name (i := 7) sc_law_terms.nd rfl (Or.inl rfl))) (fun _ _ _ _ _ => pts_nil) (fun _ _ _ _ _ => (pe_tup (pa_cons (pv 7) (pa_cons (pe_dget (hu_of hr) (pv 4) (pv 7) (fun _ _ => rfl)) pa_nil))))))))), ?_⟩
  intro C hC
  have D0 := D.upd (o := .dT []) hC
  have g0 : Grow (Only1 d) G H G _ := (Grow.refl sg).cell (o := .dT []) hC
  have nCd := D.ned hC
  have nCl := D.nel hC
  refine ⟨_, rfl, d, l, 4, rfl, D0, by decide, by decide, fun r H1 a0 a1 D1 b1 => ?_⟩
  have g1 := g0.trans (Grow.draw g0.gh gd b1) D0.some'
  refine ⟨r, rfl, by omega, by omega, for_it walk_range (fun i σ H' => ∃ (ps : List ((Int × Int) × V)) (G' : Hp), Grow (Only1 d) G H G' H' ∧ DrawAt H' d l ∧ H' C = some (.dT (pairsD ps)) ∧ G' C = none ∧ (ps.map (·.1)).Nodup ∧ ps.length ≤ i ∧ HeldP K G' top deep wide ps ∧
    ∃ v5 v6 v7, σ = [some (.ref d), some (.int top), some (.int deep), some (.int wide), some (.ref C), v5, v6, v7]) ?_ (fun _ _ _ _ _ => trivial) ?_ ?_⟩
  · exact ⟨[], G, g1, D1, b1 _ _ upd_same nCd, sg.free hC, List.nodup_nil, Nat.le_refl _, fun q hq => absurd hq (by simp), _, _, _, rfl⟩
  · rintro i x σ H2 H3 hi ⟨ps, G2, g2, D2, eC, gC, nd, hl, hp, v5, v6, v7, rfl⟩ ⟨rfl, rfl⟩
    have gd2 := g2.none gd D.cell
    -- the part's over
    refine ⟨_, rfl, by show 2 ≤ sizeLine; decide, fun p hp1 => ?_⟩
    have D3 := D2.upd (o := .lst [V.int 1, V.int (-1)]) hp1
    have g3 := g2.cell (o := .lst [V.int 1, V.int (-1)]) hp1
    refine ⟨_, rfl, d, l, 2, rfl, D3, by decide, by decide, fun r3 H4 c0 c1 D4 b4 => ?_⟩
    have g4 := g3.trans (Grow.draw g3.gh gd2 b4) D3.some'
    obtain ⟨y, hy, hy'⟩ : ∃ y : Int, atI [V.int 1, V.int (-1)] r3 = some (.int y) ∧ (y = 1 ∨ y = -1) := by
      have : r3 = 0 ∨ r3 = 1 := by omega
      rcases this with e | e <;> subst e
      · exact ⟨1, rfl, .inl rfl⟩
      · exact ⟨-1, rfl, .inr rfl⟩
    refine ⟨p, _, r3, _, rfl, rfl, SqL.of (b4 _ _ upd_same (D2.ned hp1)), hy, ?_⟩
    refine ⟨_, rfl, _, rfl, d, l, wide, rfl, D4, hw0, hw1, fun r4 H5 e0 e1 D5 b5 => ?_⟩
    have g5 := g4.trans (Grow.draw g4.gh gd2 b5) D4.some'
    refine ⟨_, _, rfl, rfl, y, 1 + r4, rfl, rfl, .inl (by rcases hy' with e | e <;> subst e <;> exact ⟨by decide, by decide⟩), ?_⟩
    have ho : y * (1 + r4) ≠ 0 ∧ ((y * (1 + r4)).natAbs : Int) ≤ wide := by
      rcases hy' with e | e <;> subst e <;> omega
    -- the key
    refine ⟨_, rfl, _, rfl, _, _, rfl, rfl, d, l, top + 1, rfl, D5, by omega, by omega, fun kp H6 f0 f1 D6 b6 => ?_⟩
    have g6 := g5.trans (Grow.draw g5.gh gd2 b6) D5.some'
    refine ⟨_, rfl, _, rfl, _, _, rfl, rfl, d, l, deep + 1, rfl, D6, by omega, by omega, fun kf H7 h0 h1 D7 b7 => ?_⟩
    have g7 := g6.trans (Grow.draw g6.gh gd2 b7) D6.some'
    refine ⟨by show 2 ≤ sizeLine; decide, fun q hq => ?_⟩
    have D8 := D7.upd (o := .tup [V.int kp, V.int kf]) hq
    have g8 := g7.cell (o := .tup [V.int kp, V.int kf]) hq
    -- the part
    refine ⟨_, rfl, ?_⟩
    refine ⟨_, rfl, by show 3 ≤ sizeLine; decide, fun p2 hp2 => ?_⟩
    have D9 := D8.upd (o := .lst [V.int 1, V.int 1, V.int 2]) hp2
    have g9 := g8.cell (o := .lst [V.int 1, V.int 1, V.int 2]) hp2
    refine ⟨_, rfl, d, l, 3, rfl, D9, by decide, by decide, fun r5 H8 i0 i1 D10 b10 => ?_⟩
    have g10 := g9.trans (Grow.draw g9.gh gd2 b10) D9.some'
    obtain ⟨z, hz, hz0, hz1⟩ : ∃ z : Int, atI [V.int 1, V.int 1, V.int 2] r5 = some (.int z) ∧ 0 < z ∧ z ≤ 2 := by
      have : r5 = 0 ∨ r5 = 1 ∨ r5 = 2 := by omega
      rcases this with e | e | e <;> subst e
      · exact ⟨1, rfl, by decide, by decide⟩
      · exact ⟨1, rfl, by decide, by decide⟩
      · exact ⟨2, rfl, by decide, by decide⟩
    refine ⟨p2, _, r5, _, rfl, rfl, SqL.of (b10 _ _ upd_same (D8.ned hp2)), hz, d, l, z, rfl, D10, hz0, by omega, fun r6 H9 j0 j1 D11 b11 => ?_⟩
    have g11 := g10.trans (Grow.draw g10.gh gd2 b11) D10.some'
    refine ⟨_, _, rfl, rfl, y * (1 + r4), 1 + r6, rfl, by omega, Int.lt_of_le_of_lt (by omega : 1 + r6 ≤ 2) (by decide), fun p3 hp3 => ?_⟩
    have D12 := D11.upd (o := .tup [.int (lowL (y * (1 + r4)) (1 + r6)).1, .int (lowL (y * (1 + r4)) (1 + r6)).2]) hp3
    have g12 := g11.new (o := .tup [.int (lowL (y * (1 + r4)) (1 + r6)).1, .int (lowL (y * (1 + r4)) (1 + r6)).2]) hp3 D11.some'
    obtain ⟨l1, l2, l3, l4, l5⟩ := lowL_ok (u := 1 + r6) ho.1 (by omega)
    generalize hL : lowL (y * (1 + r4)) (1 + r6) = L at *
    -- what stood
    have kq : ∀ (b : Addr) (o : HO), upd H7 q (.tup [V.int kp, V.int kf]) b = some o → b ≠ d → upd H9 p3 (.tup [.int L.1, .int L.2]) b = some o := fun b o e n => by
      have e1 := b10 b o (same_upd hp2 b o e) n
      have e2 := b11 b o e1 n
      rw [upd_ne (ne_of_none e2 hp3)]
      exact e2
    have kC : ∀ (b : Addr) (o : HO), H3 b = some o → b ≠ d → upd H9 p3 (.tup [.int L.1, .int L.2]) b = some o := fun b o e n =>
      kq b o (same_upd hq b o (b7 b o (b6 b o (b5 b o (b4 b o (same_upd hp1 b o e) n) n) n) n)) n
    have eC' := kC C _ eC nCd
    have eq' := kq q _ upd_same (D7.ned hq)
    refine ⟨_, rfl, _, rfl, C, _, rfl, DPut.t (k := key2 (kp, kf)) eC' eq' (by show (pairsD ps).length < sizeLine; rw [List.length_map]; exact small1000 (by omega)), ?_⟩
    rw [pairsD_put]
    have nCp : C ≠ p3 := fun e => by
      rw [e, upd_same] at eC'
      cases eC'
    have gC' : (upd G2 p3 (.tup [.int L.1, .int L.2])) C = none := by
      rw [upd_ne nCp]
      exact gC
    refine ⟨putK ps (kp, kf) (.ref p3), _, g12.put gC' (.inl hC), D12.put nCd nCl, upd_same, gC', keys_put _ _ _ nd, Nat.le_trans (length_putK _ _ _) (by omega), ?_, _, _, _, rfl⟩
    intro w hw
    rcases mem_put hw with e | hw
    · subst e
      refine ⟨L, .tup (xs := [.int L.1, .int L.2]) (SqT.of upd_same) (.cons (.int _) (.cons (.int _) .nil)), ⟨f0, by show kp ≤ top; omega, h0, by show kf ≤ deep; omega, l1, by show ((L.1).natAbs : Int) ≤ wide; omega, l3, by show L.2 ≤ 2; omega, l5⟩⟩
    · obtain ⟨pt, q1, q2⟩ := hp w hw
      exact ⟨pt, q1.mono (same_upd (g11.gh.free hp3)), q2⟩
  · rintro σ H2 ⟨ps, G2, g2, D2, eC, gC, nd, hl, hp, v5, v6, v7, rfl⟩
    have gd2 := g2.none gd D.cell
    have hl4 : ps.length ≤ 4 := by omega
    refine ⟨_, rfl, C, ps, rfl, .inl eC, fun qs p1 perm srt tups hp1 => ?_⟩
    refine ⟨p1, _, rfl, SqL.of upd_same, fun p2 hp2 => ?_⟩
    refine ⟨p2, rfl, ⟨_, SqL.of upd_same⟩, fun L hL => ?_⟩
    have hks : ∀ k ∈ (qs.reverse.map (·.1)), k ∈ ps.map (·.1) := fun k hk => by
      rw [List.map_reverse, List.mem_reverse] at hk
      exact perm.mem_iff.mp hk
    obtain ⟨ts, t1, t2, t3⟩ := terms_of hp _ hks
    have lq : qs.length = ps.length := by
      have := perm.length_eq
      rw [List.length_map, List.length_map] at this
      exact this
    have lt : ts.length = qs.length := by
      have := congrArg List.length t1
      rw [List.length_map, List.length_map, List.length_reverse] at this
      exact this
    have ndq : (qs.map (·.1)).Nodup := perm.nodup_iff.mpr nd
    have tok : TrmsOk top deep wide ts := by
      refine ⟨t2, ?_, ?_, by omega⟩
      · rw [t1, List.map_reverse]
        exact (List.reverse_perm _).nodup_iff.mpr ndq
      · have q := desc_of srt ndq
        have q2 : (qs.reverse.map (·.1)).Pairwise fun a b => SrtO.lexB b a = true := List.pairwise_map.mpr q
        rw [← t1] at q2
        exact List.pairwise_map.mp q2
    have k1 : ∀ (b : Addr) (o : HO), H2 b = some o → upd (upd (upd H2 p1 (.lst (qs.map fun q => V.ref q.2))) p2 (.lst (qs.map fun q => V.ref q.2).reverse)) L (.lst []) b = some o := fun b o e => same_upd hL b o (same_upd hp2 b o (same_upd hp1 b o e))
    have g3 := ((g2.cell (o := .lst (qs.map fun q => V.ref q.2)) hp1).cell (o := .lst (qs.map fun q => V.ref q.2).reverse) hp2).cell (o := .lst []) hL
    have D3 := ((D2.upd (o := .lst (qs.map fun q => V.ref q.2)) hp1).upd (o := .lst (qs.map fun q => V.ref q.2).reverse) hp2).upd (o := .lst []) hL
    have hLH : H L = none := (((g2.cell (o := .lst (qs.map fun q => V.ref q.2)) hp1).cell (o := .lst (qs.map fun q => V.ref q.2).reverse) hp2).h).none (((D2.upd hp1).upd hp2).some') hL
    have nLp : p2 ≠ L := fun e => by
      rw [← e, upd_same] at hL
      cases hL
    refine lc_it (walk_list (xs := (qs.map fun q => V.ref q.2).reverse)) (fun i H' => ∃ (G' : Hp) (us : List V), Grow (Only1 d) G H G' H' ∧ DrawAt H' d l ∧ But (fun b => b = d ∨ b = L) (upd (upd (upd H2 p1 (.lst (qs.map fun q => V.ref q.2))) p2 (.lst (qs.map fun q => V.ref q.2).reverse)) L (.lst [])) H' ∧ Same G2 G' ∧ G' L = none ∧ H' L = some (.lst us) ∧ us.length = i ∧ DpAll K G' us ((ts.take i).map termD))
      ⟨G2, [], g3, D3, But.refl _ _, Same.refl _, g2.gh.free (by
        have e := (same_upd hp1).free ((same_upd hp2).free hL)
        exact e), upd_same, rfl, .nil⟩ (fun i H' _ ⟨G', us, _, _, b, _⟩ => SqL.of (b p2 _ (by rw [upd_ne nLp]; exact upd_same) (fun e => e.elim (fun e => D2.ned ((same_upd hp1).free hp2) e) nLp))) ?_ ?_
    · rintro i x H3 H4 hi ⟨G', us, g4, D4, b4, s4, gL, eL, hu, dp⟩ ⟨rfl, hx⟩
      refine ⟨rfl, ?_⟩
      rw [← List.map_reverse, List.getElem?_map] at hx
      obtain ⟨q, hq, rfl⟩ : ∃ q, qs.reverse[i]? = some q ∧ x = V.ref q.2 := by
        cases e : qs.reverse[i]? with
        | none =>
          rw [e] at hx
          cases hx
        | some q =>
          rw [e] at hx
          exact ⟨q, rfl, (Option.some.inj hx).symm⟩
      obtain ⟨v, pt, hv, ht, dv⟩ := t3 i q.1 (by rw [List.getElem?_map, hq]; rfl)
      have hqm : q ∈ qs := List.mem_reverse.mp (List.mem_of_getElem? hq)
      have eq2 := tups q hqm
      have ntup : ∀ {b : Addr} {ys : List V}, H2 b = some (.tup ys) → ¬ (b = d ∨ b = L) := fun {b ys} e z => by
        rcases z with z | z
        · rw [z] at e
          exact D2.cell.tup _ e
        · rw [z] at e
          have := (same_upd hp1).free ((same_upd hp2).free hL)
          rw [this] at e
          cases e
      have eq4 := b4 _ _ (k1 _ _ eq2) (ntup eq2)
      have eC4 := b4 _ _ (k1 _ _ eC) (fun z => by
        rcases z with z | z
        · exact nCd z
        · rw [z] at eC
          have := (same_upd hp1).free ((same_upd hp2).free hL)
          rw [this] at eC
          cases eC)
      refine ⟨_, rfl, _, rfl, _, rfl, C, v, rfl, ?_, by show 2 ≤ sizeLine; decide, fun t ht2 => ?_⟩
      · have := DGet.t (k := key2 q.1) eC4 eq4
        rw [pairsD_val, hv] at this
        exact this
      have nLt : L ≠ t := ne_of_none eL ht2
      have g5 := (g4.pubT eq4 D4.some')
      have g6 := g5.new (o := .tup [V.ref q.2, v]) ht2 D4.some'
      have nLq : L ≠ q.2 := ne_of eL eq4 (by intro z; cases z)
      have gL5 : (upd (upd G' q.2 (.tup [.int q.1.1, .int q.1.2])) t (.tup [V.ref q.2, v])) L = none := by
        rw [upd_ne nLt, upd_ne nLq]
        exact gL
      have s5 : Same G' (upd (upd G' q.2 (.tup [.int q.1.1, .int q.1.2])) t (.tup [V.ref q.2, v])) := (pub_same g4.gh eq4).trans (same_upd (g5.gh.free ht2))
      have nq : q.2 ≠ t := ne_of_none eq4 ht2
      refine ⟨us, by rw [upd_ne nLt]; exact eL, by rw [hu]; exact small1000 (by rw [List.length_reverse, List.length_map] at hi; omega), _, us ++ [.ref t], g6.put gL5 (.inl hLH), (D4.upd ht2).put (fun e => D2.ned ((same_upd hp1).free ((same_upd hp2).free hL)) e) (fun e => D2.nel ((same_upd hp1).free ((same_upd hp2).free hL)) e), (b4.trans (But.new ht2)).put (.inr rfl), s4.trans s5, gL5, upd_same, by rw [List.length_append, hu]; rfl, ?_⟩
      rw [List.take_add_one, ht, List.map_append]
      refine DpAll.snoc (dp.mono s5) (.tup (xs := [.ref q.2, v]) (SqT.of upd_same) (.cons (.tup (xs := [.int q.1.1, .int q.1.2]) (SqT.of ?_) (.cons (.int _) (.cons (.int _) .nil))) (.cons (dv.mono (s4.trans s5)) .nil)))
      rw [upd_ne nq]
      exact upd_same
    · rintro H3 ⟨G', us, g4, D4, b4, s4, gL, eL, hu, dp⟩
      rw [List.take_of_length_le (by rw [List.length_reverse, List.length_map]; omega)] at dp
      exact k L us ts G' H3 g4 D4 hLH gL eL dp tok
/-- drawn sums: the list itself is a new cell, its rows are frozen -/
def spDrawnS (K : PySem.W.Frag) : Sp := fun vs H Q _ => ∃ (d l : Addr) (G : Hp) (top deep wide : Int), vs = [.ref d, .int top, .int deep, .int wide] ∧ Same G H ∧ G d = none ∧ DrawAt H d l ∧ 0 ≤ top ∧ top ≤ 1000 ∧ 0 ≤ deep ∧ deep ≤ 1000 ∧ 0 < wide ∧ wide < 2 ^ 200 ∧
  ∀ (p : Addr) (us : List V) (S : List Rw) (G' H' : Hp), Grow (Only1 d) G H G' H' → DrawAt H' d l → H p = none → G' p = none → H' p = some (.lst us) → DpAll K G' us (S.map rowD) → SumsOk top deep wide S → Q (.ref p) H'
structure SumsPart (top deep wide : Int) (i : Nat) (S : List Rw) : Prop where
  each : ∀ r ∈ S, TrmsOk top deep wide r.2 ∧ 0 ≤ r.1 ∧ r.1 ≤ 12 * i
  first : ∃ ts r, S = (0, ts) :: r
  rise : S.Pairwise fun a b => a.1 < b.1
  len : S.length = i + 1
theorem SumsPart.snoc {top deep wide : Int} {i : Nat} {S : List Rw} {r : Rw} {x : Int} {ts : List Trm} (h : SumsPart top deep wide i (S ++ [r])) (hx : r.1 < x) (hx2 : x ≤ r.1 + 12) (ht : TrmsOk top deep wide ts) : SumsPart top deep wide (i + 1) ((S ++ [r]) ++ [(x, ts)]) := by
  obtain ⟨h1, ⟨t0, r0, h2⟩, h3, h4⟩ := h
  have hr := h1 r (by simp)
  refine ⟨fun q hq => ?_, ⟨t0, r0 ++ [(x, ts)], by rw [h2]; rfl⟩, ?_, by rw [List.length_append, h4]; rfl⟩
  · rcases List.mem_append.mp hq with hq | hq
    · obtain ⟨a, b, c⟩ := h1 q hq
      exact ⟨a, b, by omega⟩
    · rw [List.mem_singleton.mp hq]
      exact ⟨ht, by show 0 ≤ x; omega, by show x ≤ 12 * ((i + 1 : Nat) : Int); omega⟩
  · rw [List.pairwise_append]
    refine ⟨h3, List.pairwise_singleton _ _, fun a ha b hb => ?_⟩
    rw [List.mem_singleton.mp hb]
    show a.1 < x
    rcases List.mem_append.mp ha with ha | ha
    · have := (List.pairwise_append.mp h3).2.2 a ha r (by simp)
      omega
    · rw [List.mem_singleton.mp ha]
      exact hx
theorem snoc_of {α : Type} : ∀ {l : List α} {n : Nat}, l.length = n + 1 → ∃ l' x, l = l' ++ [x]
  | [], _, h => by simp at h
  | x :: r, _, _ => ⟨(x :: r).dropLast, (x :: r).getLast (by simp), (List.dropLast_concat_getLast (by simp)).symm⟩
theorem DpAll.unsnoc {G : Hp} {v : V} {d : PyData} {vs : List V} {ds : List PyData} (h : DpAll K G (vs ++ [v]) (ds ++ [d])) : Dp K G v d := by
  have hl := h.length
  rw [List.length_append, List.length_append] at hl
  obtain ⟨e, q1, q2⟩ := h.get (i := vs.length) (v := v) (by simp)
  rw [List.getElem?_append_right (by simp at hl; omega)] at q1
  have : vs.length - ds.length = 0 := by simp at hl; omega
  rw [this] at q1
  have : d = e := by simpa using q1
  rw [this]
  exact q2
theorem ok_law_drawn_sums (T : Txt K mg) : FnOk P w K mg base CX0 5 T.a_law_drawn_sums T.d_law_drawn_sums ["_law_draw", "_law_top", "_law_deep", "_law_wide"] (spDrawnS K) := by
  refine T.F_law_drawn_sums.ok sc_law_drawn_sums (fun vs H Q E h => ?_) (fun cdv A outer s H vs Q E hr h => ?_)
  · obtain ⟨d, l, G, top, deep, wide, rfl, _⟩ := h
    rfl
  obtain ⟨d, l, G, top, deep, wide, rfl, sg, gd, D, ht0, ht1, hd0, hd1, hw0, hw1, k⟩ := h
  refine ⟨_, (pss_cons (ps_set (i := 4) sc_law_drawn_sums.nd rfl (Or.inl rfl) (pe_lst (pa_cons (pe_tup (pa_cons pe_int (pa_cons (pe_call (ok_law_terms T) (hr.mono (by decide)) (by rfl) T.g_law_terms T.F_law_terms.kp T.b_law_terms .nil pass0 (pa_cons (pv 0) (pa_cons (pv 1) (pa_cons (pv 2) (pa_cons (pv 3) pa_nil))))) pa_nil))) pa_nil)))
      (pss_cons (ps_for PassesOwn.never rfl (pi_range1 (by rfl) T.z_range (pa_cons (pe_call (ok_law_take T) (hr.mono (by decide)) (by rfl) T.g_law_take T.F_law_take.kp T.b_law_take .nil pass0 (pa_cons (pv 0) (pa_cons pe_int pa_nil))) pa_nil)) (pg_name (i := 5) sc_law_drawn_sums.nd rfl (Or.inl rfl)) (pss_one (ps_expr (pe_bm PySem.F.plainAttrs_list PySem.F.slot_list_append PySem.F.type_list_append mt_append (pv 4) (pa_cons (pe_tup (pa_cons (pe_op op_add (pe_op op_add (pe_ix ix_tup (pe_ix ix_list (pv 4) (pe_un un_neg pe_int) (fun _ _ => rfl)) pe_int (fun _ _ => rfl)) pe_int) (pe_call (ok_law_take T) (hr.mono (by decide)) (by rfl) T.g_law_take T.F_law_take.kp T.b_law_take .nil pass0 (pa_cons (pv 0) (pa_cons pe_int pa_nil)))) (pa_cons (pe_call (ok_law_terms T) (hr.mono (by decide)) (by rfl) T.g_law_terms T.F_law_terms.kp T.b_law_terms .nil pass0 (pa_cons (pv 0) (pa_cons (pv 1) (pa_cons (pv 2) (pa_cons (pv 3) pa_nil))))) pa_nil))) pa_nil)))))
      (pss_one (ps_ret (pv 4))))), ?_⟩
  refine ⟨_, rfl, _, rfl, _, rfl, _, rfl, d, l, G, top, deep, wide, rfl, sg, gd, D, ht0, ht1, hd0, hd1, hw0, hw1, fun p us ts G1 H1 g1 D1 np gp ep dp tok => ?_⟩
  refine ⟨by show 2 ≤ sizeLine; decide, fun t ht => ⟨by show 1 ≤ sizeLine; decide, fun L hL => ?_⟩⟩
  have g2 := g1.pub ep gp np
  have s12 : Same G1 _ := same_upd (o := .lst us) gp
  have g3 := g2.new (o := .tup [.int 0, .ref p]) ht D1.some'
  have g4 := g3.cell (o := .lst [.ref t]) hL
  have s23 : Same (upd G1 p (.lst us)) _ := same_upd (o := .tup [.int 0, .ref p]) (g2.gh.free ht)
  have D3 := (D1.upd (o := .tup [.int 0, .ref p]) ht).upd (o := .lst [.ref t]) hL
  have hLH : H L = none := g3.h.none ((D1.upd ht).some') hL
  have gL : (upd (upd G1 p (.lst us)) t (.tup [.int 0, .ref p])) L = none := g3.gh.free hL
  have row0 : Dp K (upd (upd G1 p (.lst us)) t (.tup [.int 0, .ref p])) (.ref t) (rowD (0, ts)) :=
    .tup (xs := [.int 0, .ref p]) (SqT.of upd_same) (.cons (.int _) (.cons (.lst (SqL.of (s23 _ _ upd_same)) (dp.mono (s12.trans s23))) .nil))
  have gd4 := g4.none gd D.cell
  refine ⟨_, rfl, d, l, 4, rfl, D3, by decide, by decide, fun r H5 a0 a1 D5 b5 => ?_⟩
  have g5 := g4.trans (Grow.draw g4.gh gd4 b5) D3.some'
  have nLd := (D1.upd (o := .tup [.int 0, .ref p]) ht).ned hL
  have nLl := (D1.upd (o := .tup [.int 0, .ref p]) ht).nel hL
  refine ⟨r, rfl, by omega, by omega, for_it walk_range (fun i σ H' => ∃ (vs : List V) (S : List Rw) (G' : Hp), Grow (Only1 d) G H G' H' ∧ DrawAt H' d l ∧ H' L = some (.lst vs) ∧ G' L = none ∧ DpAll K G' vs (S.map rowD) ∧ SumsPart top deep wide i S ∧
    ∃ v5, σ = [some (.ref d), some (.int top), some (.int deep), some (.int wide), some (.ref L), v5]) ?_ (fun _ _ _ _ _ => trivial) ?_ ?_⟩
  · refine ⟨[.ref t], [(0, ts)], _, g5, D5, b5 _ _ upd_same nLd, gL, .cons row0 .nil, ⟨fun q hq => ?_, ⟨ts, [], rfl⟩, List.pairwise_singleton _ _, rfl⟩, _, rfl⟩
    rw [List.mem_singleton.mp hq]
    exact ⟨tok, Int.le_refl _, (by show (0 : Int) ≤ 12 * ((0 : Nat) : Int); decide)⟩
  · rintro i x σ H6 H7 hi ⟨vs, S, G6, g6, D6, eL, gL6, dp6, sp, v5, rfl⟩ ⟨rfl, rfl⟩
    have gd6 := g6.none gd D.cell
    obtain ⟨S', r0, rfl⟩ := snoc_of sp.len
    have lv := dp6.length
    rw [List.length_map, List.length_append] at lv
    obtain ⟨vs', v, rfl⟩ := snoc_of (n := S'.length) lv
    have dv : Dp K G6 v (rowD r0) := by
      rw [List.map_append] at dp6
      exact DpAll.unsnoc dp6
    obtain ⟨a, xs, ea, hs, rest⟩ : ∃ a xs, v = .ref a ∧ SqT K G6 a xs ∧ xs[0]? = some (.int r0.1) := by
      cases dv with
      | tup hs hr =>
        cases hr with
        | cons h1 h2 =>
          cases h1
          exact ⟨_, _, rfl, hs, rfl⟩
    subst ea
    refine ⟨_, rfl, .inl ⟨rfl, _, SqL.of eL⟩, ?_⟩
    refine ⟨_, rfl, _, rfl, L, _, _, _, rfl, rfl, SqL.of eL, atI_last _ _, a, xs, _, _, rfl, rfl, same_t g6.gh hs, atI_nat (j := 0) rest, _, _, rfl, rfl, ?_⟩
    refine ⟨_, rfl, d, l, 12, rfl, D6, by decide, by decide, fun r1 H8 c0 c1 D8 b8 => ?_⟩
    have g8 := g6.trans (Grow.draw g6.gh gd6 b8) D6.some'
    refine ⟨_, _, rfl, rfl, ?_⟩
    refine ⟨_, rfl, _, rfl, _, rfl, _, rfl, d, l, G6, top, deep, wide, rfl, g8.gh, gd6, D8, ht0, ht1, hd0, hd1, hw0, hw1, fun p2 us2 ts2 G9 H9 g9 D9 np2 gp2 ep2 dp2 tok2 => ?_⟩
    have eL8 := b8 _ _ eL nLd
    have eL9 := g9.h _ _ eL8 nLd
    have gL9 := g9.none gL6 (cell_lst eL8)
    have nLp : L ≠ p2 := ne_of_none eL8 np2
    have g10 := g8.trans g9 D8.some'
    have np0 : H p2 = none := g8.h.none D8.some' np2
    have g11 := g10.pub ep2 gp2 np0
    refine ⟨by show 2 ≤ sizeLine; decide, fun t2 ht2 => ?_⟩
    have g12 := g11.new (o := .tup [.int (r0.1 + 1 + r1), .ref p2]) ht2 D9.some'
    have nLt : L ≠ t2 := ne_of_none eL9 ht2
    have s1 : Same G9 _ := same_upd (o := .lst us2) gp2
    have s2 : Same (upd G9 p2 (.lst us2)) _ := same_upd (o := .tup [.int (r0.1 + 1 + r1), .ref p2]) (g11.gh.free ht2)
    have gL12 : (upd (upd G9 p2 (.lst us2)) t2 (.tup [.int (r0.1 + 1 + r1), .ref p2])) L = none := by
      rw [upd_ne nLt, upd_ne nLp]
      exact gL9
    have rowN : Dp K (upd (upd G9 p2 (.lst us2)) t2 (.tup [.int (r0.1 + 1 + r1), .ref p2])) (.ref t2) (rowD (r0.1 + 1 + r1, ts2)) :=
      .tup (xs := [.int (r0.1 + 1 + r1), .ref p2]) (SqT.of upd_same) (.cons (.int _) (.cons (.lst (SqL.of (s2 _ _ upd_same)) (dp2.mono (s1.trans s2))) .nil))
    refine ⟨L, _, _, rfl, rfl, by rw [upd_ne nLt]; exact eL9, ?_, ?_⟩
    · rw [List.length_append]
      have := sp.len
      rw [List.length_append] at this
      exact small1000 (by simp at lv this ⊢; omega)
    · refine ⟨_, (S' ++ [r0]) ++ [(r0.1 + 1 + r1, ts2)], _, g12.put gL12 (.inl hLH), (D9.upd ht2).put nLd nLl, upd_same, gL12, ?_, sp.snoc (by omega) (by omega) tok2, _, rfl⟩
      rw [List.map_append (l₁ := S' ++ [r0])]
      exact DpAll.snoc (dp6.mono (g9.g.trans (s1.trans s2))) rowN
  · rintro σ H6 ⟨vs, S, G6, g6, D6, eL, gL6, dp6, sp, v5, rfl⟩
    refine ⟨_, rfl, k L vs S G6 H6 g6 D6 hLH gL6 eL dp6 ⟨fun q hq => ?_, sp.first, sp.rise, by rw [sp.len]; omega⟩⟩
    obtain ⟨a, b, c⟩ := sp.each q hq
    exact ⟨a, b, by omega⟩
theorem ok_law_raised (T : Txt K mg) : FnOk P w K mg base CX0 1 T.a_law_raised T.d_law_raised ["_law_part", "_law_upto"] spRaised := by
  refine T.F_law_raised.ok sc_law_raised (fun vs H Q E h => ?_) (fun cdv A outer s H vs Q E hr h => ?_)
  · obtain ⟨b, p, m, rfl, _⟩ := h
    rfl
  obtain ⟨b, p, m, rfl, hb, h0, h1, k⟩ := h
  refine ⟨_, (pss_cons (ps_set (i := 2) sc_law_raised.nd rfl (Or.inl rfl) pe_int)
      (pss_cons (ps_for PassesOwn.never rfl (pi_range1 (by rfl) T.z_range (pa_cons (pv 1) pa_nil)) (pg_name (i := 3) sc_law_raised.nd rfl (Or.inl rfl)) (pss_one (ps_set (i := 2) sc_law_raised.nd rfl (Or.inl rfl) (pe_op op_mulW (pv 2) (pv 0)))))
      (pss_one (ps_ret (pv 2))))), ?_⟩
  have hp := raised_small h0 h1
  refine ⟨_, rfl, p, rfl, by omega, by omega, for_it walk_range (fun i σ H' => H' = H ∧ ∃ t, σ = [some (.int b), some (.int p), some (.int (b ^ i)), t]) ⟨rfl, none, by rw [Int.pow_zero]; rfl⟩ (fun _ _ _ _ _ => trivial) ?_ ?_⟩
  · rintro i x σ H1 H2 hi ⟨rfl, t, rfl⟩ ⟨rfl, rfl⟩
    refine ⟨_, rfl, _, rfl, _, _, rfl, rfl, raised_ok hb h0 h1 (by omega), rfl, some (.int ((0 : Int) + i)), ?_⟩
    rw [Int.pow_succ]
    rfl
  · rintro σ H1 ⟨rfl, t, rfl⟩
    exact ⟨_, rfl, k⟩
/-- a growth as a text -/
def grT (t b f : Int) : Str := num t ++ " by " ++ num b ++ ", figures " ++ num f
theorem grT_len {t b f : Int} (h1 : t.natAbs.log2 < 400) (h2 : b.natAbs.log2 < 400) (h3 : f.natAbs.log2 < 400) : (grT t b f).length ≤ 2000 := by
  have l1 := num_len (by decide) h1
  have l2 := num_len (by decide) h2
  have l3 := num_len (by decide) h3
  have e1 : (Str.ofString " by ").length = 4 := by decide
  have e2 : (Str.ofString ", figures ").length = 10 := by decide
  unfold grT
  rw [str_len, str_len, str_len, str_len, e1, e2]
  omega
def spGrowthText (K : PySem.W.Frag) : Sp := fun vs H Q _ => (vs = [.non] ∧ Q (.str "none") H) ∨ ∃ (a : Addr) (t b f : Int), vs = [.ref a] ∧ SqT K H a [.int t, .int b, .int f] ∧ t.natAbs.log2 < 400 ∧ b.natAbs.log2 < 400 ∧ f.natAbs.log2 < 400 ∧ Q (.str (grT t b f)) H
theorem ok_growth_text (T : Txt K mg) : FnOk P w K mg base CX0 1 T.a_growth_text T.d_growth_text ["told"] (spGrowthText K) := by
  refine T.F_growth_text.ok sc_growth_text (fun vs H Q E h => ?_) (fun cdv A outer s H vs Q E hr h => ?_)
  · rcases h with ⟨rfl, _⟩ | ⟨a, t, b, f, rfl, _⟩ <;> rfl
  refine ⟨_, (pss_cons (ps_if (pt_cmpR op_isN (pv 0) pe_non (nomark _)) (pss_one (ps_ret pe_str)) pss_nil)
      (pss_cons (ps_asg (pv 0) (pg_tup rfl (pgs_cons (pg_name (i := 1) sc_growth_text.nd rfl (Or.inl rfl)) (pgs_cons (pg_name (i := 2) sc_growth_text.nd rfl (Or.inl rfl)) (pgs_cons (pg_name (i := 3) sc_growth_text.nd rfl (Or.inl rfl)) pgs_nil)))))
      (pss_one (ps_ret (pe_joined (PJ.cons (pe_fmt (pv 1)) (PJ.cons pe_str (PJ.cons (pe_fmt (pv 2)) (PJ.cons pe_str (PJ.cons (pe_fmt (pv 3)) PJ.nil)))))))))), ?_⟩
  rcases h with ⟨rfl, k⟩ | ⟨a, t, b, f, rfl, hs, h1, h2, h3, k⟩
  · refine ⟨_, rfl, rfl, _, rfl, ?_⟩
    exact iteT k
  · refine ⟨_, rfl, rfl, _, rfl, ?_⟩
    refine iteF ?_
    have gl := grT_len h1 h2 h3
    have ek : grT t b f = Str.empty ++ num t ++ " by " ++ num b ++ ", figures " ++ num f := by
      rw [str_nil]
      rfl
    rw [ek] at gl k
    refine ⟨_, rfl, a, _, rfl, hs, rfl, _, _, rfl, _, _, rfl, _, _, rfl, rfl, ?_⟩
    refine ⟨_, rfl, .inr ⟨_, rfl, Nat.lt_trans h1 (by decide), _, rfl, ?_, _, rfl, ?_, _, rfl, .inr ⟨_, rfl, Nat.lt_trans h2 (by decide), _, rfl, ?_, _, rfl, ?_, _, rfl, .inr ⟨_, rfl, Nat.lt_trans h3 (by decide), _, rfl, ?_, k⟩⟩⟩⟩
    · show (Str.empty ++ num t).length ≤ 16777216
      simp only [str_len] at gl ⊢
      omega
    · show (Str.empty ++ num t ++ " by ").length ≤ 16777216
      simp only [str_len] at gl ⊢
      omega
    · show (Str.empty ++ num t ++ " by " ++ num b).length ≤ 16777216
      simp only [str_len] at gl ⊢
      omega
    · show (Str.empty ++ num t ++ " by " ++ num b ++ ", figures ").length ≤ 16777216
      simp only [str_len] at gl ⊢
      omega
    · show (Str.empty ++ num t ++ " by " ++ num b ++ ", figures " ++ num f).length ≤ 16777216
      omega
def spPartText (K : PySem.W.Frag) : Sp := fun vs H Q _ => ∃ (v : V) (p : Prt), vs = [v] ∧ Dp K H v (partD p) ∧ PS p ∧ Q (.str (partT p)) H
theorem ok_part_text (T : Txt K mg) : FnOk P w K mg base CX0 1 T.a_part_text T.d_part_text ["part"] (spPartText K) := by
  refine T.F_part_text.ok sc_part_text (fun vs H Q E h => ?_) (fun cdv A outer s H vs Q E hr h => ?_)
  · obtain ⟨v, p, rfl, _⟩ := h
    rfl
  obtain ⟨v, p, rfl, dp, ps, k⟩ := h
  obtain ⟨a, x, y, rfl, hs, dx, dy⟩ := dp.tup2
  cases dx.int'
  cases dy.int'
  have l1 := num_len (by decide) ps.1
  have l2 := num_len (by decide) ps.2
  have e1 : (Str.ofString "/").length = 1 := by decide
  refine ⟨_, (pss_cons (ps_asg (pv 0) (pg_tup rfl (pgs_cons (pg_name (i := 1) sc_part_text.nd rfl (Or.inl rfl)) (pgs_cons (pg_name (i := 2) sc_part_text.nd rfl (Or.inl rfl)) pgs_nil))))
      (pss_one (ps_ret (pe_ifExp (pt_cmpR op_eq (pv 2) pe_int (nomark _)) (pe_callTy call_str_int (by rfl) T.z_str (by decide +kernel) (pa_cons (pv 1) pa_nil)) (pe_joined (PJ.cons (pe_fmt (pv 1)) (PJ.cons pe_str (PJ.cons (pe_fmt (pv 2)) PJ.nil)))))))), ?_⟩
  refine ⟨_, rfl, a, _, rfl, hs, rfl, _, _, rfl, _, _, rfl, rfl, ?_⟩
  unfold partT at k
  refine ⟨_, rfl, rfl, _, rfl, ?_⟩
  refine ite2 (fun c => ?_) (fun c => ?_)
  · have c' : p.2 = 1 := V.int.inj (of_decide_eq_true c)
    rw [if_pos c'] at k
    exact ⟨_, rfl, _, rfl, Nat.lt_trans ps.1 (by decide), k⟩
  · have c' : ¬ p.2 = 1 := fun e => c (decide_eq_true (congrArg V.int e))
    rw [if_neg c', ← str_nil (num p.1)] at k
    refine ⟨_, rfl, .inr ⟨_, rfl, Nat.lt_trans ps.1 (by decide), _, rfl, ?_, _, rfl, ?_, _, rfl, .inr ⟨_, rfl, Nat.lt_trans ps.2 (by decide), _, rfl, ?_, k⟩⟩⟩
    · show (Str.empty ++ num p.1).length ≤ 16777216
      rw [str_nil]
      omega
    · show (Str.empty ++ num p.1 ++ "/").length ≤ 16777216
      rw [str_nil, str_len, e1]
      omega
    · show (Str.empty ++ num p.1 ++ "/" ++ num p.2).length ≤ 16777216
      rw [str_nil, str_len, str_len, e1]
      omega
def spTermText (K : PySem.W.Frag) : Sp := fun vs H Q _ => ∃ (v : V) (t : Trm), vs = [v] ∧ Dp K H v (termD t) ∧ TS t ∧ ∀ H', Same H H' → Q (.str (termT t)) H'
def nmT (n : Str) (k : Int) : Str := if k = 1 then n else Str.empty ++ n ++ "^" ++ num k
theorem nmT_len {n : Str} {k : Int} (hn : n.length = 1) (hk : k.natAbs.log2 < 400) : (nmT n k).length ≤ 403 := by
  have h1 := num_len (by decide) hk
  have e2 : (Str.ofString "^").length = 1 := by decide
  unfold nmT
  split
  · omega
  · rw [str_nil, str_len, str_len, hn, e2]
    omega
theorem powL_nm {w n : Str} {k : Int} (h : 0 < k) : powL w n k = w ++ " " ++ nmT n k := by
  unfold powL nmT
  rw [if_pos h]
  by_cases c : k = 1
  · subst c
    rw [if_neg (by decide), if_pos rfl]
    show w ++ " " ++ n ++ Str.empty = _
    rw [str_nil_r]
  · rw [if_pos (by omega), if_neg c, str_nil]
    simp only [str_assoc]
def powN (t : Trm) : Nat → Str
  | 0 => partT t.2
  | 1 => powL (partT t.2) "n" t.1.1
  | _ => termT t
def powK (t : Trm) : Nat → Str × Int
  | 0 => ("n", t.1.1)
  | _ => ("d", t.1.2)
theorem powN_succ (t : Trm) {i : Nat} (h : i < 2) : powN t (i + 1) = powL (powN t i) (powK t i).1 (powK t i).2 := by
  match i with
  | 0 => rfl
  | 1 => rfl
theorem ok_term_text (T : Txt K mg) : FnOk P w K mg base CX0 2 T.a_term_text T.d_term_text ["term"] (spTermText K) := by
  refine T.F_term_text.ok sc_term_text (fun vs H Q E h => ?_) (fun cdv A outer s H vs Q E hr h => ?_)
  · obtain ⟨v, p, rfl, _⟩ := h
    rfl
  obtain ⟨v, t, rfl, dt, ts, k⟩ := h
  obtain ⟨a, x, y, rfl, hs, dx, dy⟩ := dt.tup2
  obtain ⟨b, x1, x2, rfl, hs1, d1, d2⟩ := dx.tup2
  cases d1.int'
  cases d2.int'
  refine ⟨_, (pss_cons (ps_asg (pv 0) (pg_tup rfl (pgs_cons (pg_tup rfl (pgs_cons (pg_name (i := 1) sc_term_text.nd rfl (Or.inl rfl)) (pgs_cons (pg_name (i := 2) sc_term_text.nd rfl (Or.inl rfl)) pgs_nil))) (pgs_cons (pg_name (i := 3) sc_term_text.nd rfl (Or.inl rfl)) pgs_nil))))
      (pss_cons (ps_set (i := 4) sc_term_text.nd rfl (Or.inl rfl) (pe_lst (pa_cons (pe_call (ok_part_text T) (hr.mono (by decide)) (by rfl) T.g_part_text T.F_part_text.kp T.b_part_text .nil pass0 (pa_cons (pv 3) pa_nil)) pa_nil)))
      (pss_cons (ps_for PassesOwn.never rfl (pi_tup (pe_tup (pa_cons (pe_tup (pa_cons pe_str (pa_cons (pv 1) pa_nil))) (pa_cons (pe_tup (pa_cons pe_str (pa_cons (pv 2) pa_nil))) pa_nil)))) (pg_tup rfl (pgs_cons (pg_name (i := 5) sc_term_text.nd rfl (Or.inl rfl)) (pgs_cons (pg_name (i := 6) sc_term_text.nd rfl (Or.inl rfl)) pgs_nil))) (pss_one (ps_if (pt_cmpR op_gt (pv 6) pe_int (nomark _)) (pss_one (ps_expr (pe_bm PySem.F.plainAttrs_list PySem.F.slot_list_append PySem.F.type_list_append mt_append (pv 4) (pa_cons (pe_ifExp (pt_cmpR op_eq (pv 6) pe_int (nomark _)) (pv 5) (pe_joined (PJ.cons (pe_fmt (pv 5)) (PJ.cons pe_str (PJ.cons (pe_fmt (pv 6)) PJ.nil))))) pa_nil)))) pss_nil)))
      (pss_one (ps_ret (pe_join pe_str (pv 4))))))), ?_⟩
  refine ⟨_, rfl, a, _, rfl, hs, rfl, _, _, rfl, ⟨b, _, rfl, hs1, rfl, _, _, rfl, _, _, rfl, rfl, _, _, rfl, rfl, ?_⟩⟩
  refine ⟨_, rfl, y, t.2, rfl, dy, ts.o, ?_⟩
  refine ⟨by show 1 ≤ sizeLine; decide, fun L hL => ?_⟩
  refine ⟨_, rfl, by show 2 ≤ sizeLine; decide, fun p1 hp1 => ⟨_, rfl, by show 2 ≤ sizeLine; decide, fun p2 hp2 => ⟨by show 2 ≤ sizeLine; decide, fun p3 hp3 => ?_⟩⟩⟩
  have nL1 := ne_of_none (upd_same (H := H) (a := L) (o := .lst [.str (partT t.2)])) hp1
  have e1 : (upd H L (.lst [.str (partT t.2)])) L = _ := upd_same
  have e2 : _ = _ := (same_upd (o := .tup [.str "n", .int t.1.1]) hp1) _ _ e1
  have e3 : _ = _ := (same_upd (o := .tup [.str "d", .int t.1.2]) hp2) _ _ e2
  have e4 : _ = _ := (same_upd (o := .tup [.ref p1, .ref p2]) hp3) _ _ e3
  have f1 : _ = _ := (same_upd (o := .tup [.ref p1, .ref p2]) hp3) _ _ ((same_upd (o := .tup [.str "d", .int t.1.2]) hp2) _ _ (upd_same (a := p1) (o := .tup [.str "n", .int t.1.1]) (H := upd H L (.lst [.str (partT t.2)]))))
  have f2 : _ = _ := (same_upd (o := .tup [.ref p1, .ref p2]) hp3) _ _ (upd_same (a := p2) (o := .tup [.str "d", .int t.1.2]) (H := upd (upd H L (.lst [.str (partT t.2)])) p1 (.tup [.str "n", .int t.1.1])))
  have s4 : Same H _ := (((same_upd (o := .lst [.str (partT t.2)]) hL).trans (same_upd (o := .tup [.str "n", .int t.1.1]) hp1)).trans (same_upd (o := .tup [.str "d", .int t.1.2]) hp2)).trans (same_upd (o := .tup [.ref p1, .ref p2]) hp3)
  generalize hH4 : upd (upd (upd (upd H L (.lst [.str (partT t.2)])) p1 (.tup [.str "n", .int t.1.1])) p2 (.tup [.str "d", .int t.1.2])) p3 (.tup [.ref p1, .ref p2]) = H4 at e4 f1 f2 s4 ⊢
  have f3 : H4 p3 = some (.tup [.ref p1, .ref p2]) := by rw [← hH4]; exact upd_same
  have n1 : p1 ≠ L := fun z => by rw [z, e4] at f1; cases f1
  have n2 : p2 ≠ L := fun z => by rw [z, e4] at f2; cases f2
  have n3 : p3 ≠ L := fun z => by rw [z, e4] at f3; cases f3
  refine ⟨p3, rfl, ⟨_, SqT.of f3⟩, for_it (walk_tup (xs := [.ref p1, .ref p2])) (fun i σ H' => But (Only1 L) H4 H' ∧ (∃ ys : List Str, H' L = some (.lst (ys.map V.str)) ∧ ys ≠ [] ∧ ys.length ≤ i + 1 ∧ (∀ z ∈ ys, z.length ≤ 803) ∧ Txt.join " " ys = powN t i) ∧ ∃ v5 v6, σ = [some (.ref a), some (.int t.1.1), some (.int t.1.2), some y, some (.ref L), v5, v6]) ?_ ?_ ?_ ?_⟩
  · exact ⟨But.refl _ _, ⟨[partT t.2], e4, by simp, by simp, fun z hz => (by rw [List.mem_singleton.mp hz]; exact partT_len ts.o), join_one _ _⟩, _, _, rfl⟩
  · rintro i σ H5 _ ⟨b5, _⟩
    exact SqT.of (b5 _ _ f3 n3)
  · rintro i z σ H5 H6 hi ⟨b5, ⟨ys, eL, y0, yl, yz, yj⟩, v5, v6, rfl⟩ ⟨rfl, hx⟩
    have hi : i < 2 := hi
    obtain ⟨p, rfl, hp, hk⟩ : ∃ p, z = .ref p ∧ H6 p = some (.tup [.str (powK t i).1, .int (powK t i).2]) ∧ (powK t i).2.natAbs.log2 < 400 ∧ (powK t i).1.length = 1 := by
      match i, hi with
      | 0, _ => exact ⟨p1, (Option.some.inj hx).symm, b5 _ _ f1 n1, ts.p, (by show (Str.ofString "n").length = 1; decide)⟩
      | 1, _ => exact ⟨p2, (Option.some.inj hx).symm, b5 _ _ f2 n2, ts.f, (by show (Str.ofString "d").length = 1; decide)⟩
    refine ⟨p, _, rfl, SqT.of hp, rfl, _, _, rfl, _, _, rfl, rfl, ?_⟩
    refine ⟨_, rfl, _, _, rfl, rfl, _, rfl, ?_⟩
    refine ite2 (fun c => ?_) (fun c => ?_)
    · have c' : 0 < (powK t i).2 := of_decide_eq_true c
      have nl := nmT_len hk.2 hk.1
      have done : ∀ H7, H7 = upd H6 L (.lst ((ys ++ [nmT (powK t i).1 (powK t i).2]).map V.str)) → But (Only1 L) H4 H7 ∧ (∃ ys : List Str, H7 L = some (.lst (ys.map V.str)) ∧ ys ≠ [] ∧ ys.length ≤ i + 1 + 1 ∧ (∀ z ∈ ys, z.length ≤ 803) ∧ Txt.join " " ys = powN t (i + 1)) := by
        rintro H7 rfl
        refine ⟨b5.put rfl, ys ++ [nmT (powK t i).1 (powK t i).2], upd_same, by simp, by simp; omega, fun z hz => ?_, ?_⟩
        · rcases List.mem_append.mp hz with hz | hz
          · exact yz z hz
          · rw [List.mem_singleton.mp hz]
            omega
        · rw [join_snoc y0, yj, powN_succ t hi, powL_nm c']
      have le : nmT (powK t i).1 (powK t i).2 = if (powK t i).2 = 1 then (powK t i).1 else Str.empty ++ (powK t i).1 ++ "^" ++ num (powK t i).2 := rfl
      refine ⟨_, rfl, .inl ⟨rfl, _, SqL.of eL⟩, ?_⟩
      refine ⟨_, rfl, rfl, _, rfl, ?_⟩
      refine ite2 (fun q => ?_) (fun q => ?_)
      · have q' : (powK t i).2 = 1 := V.int.inj (of_decide_eq_true q)
        rw [if_pos q'] at le
        refine ⟨_, rfl, L, _, _, rfl, rfl, eL, small1000 (by rw [List.length_map]; omega), ?_⟩
        obtain ⟨a1, a2⟩ := done _ rfl
        rw [le, List.map_append] at a1 a2
        exact ⟨a1, a2, _, _, rfl⟩
      · have q' : ¬ (powK t i).2 = 1 := fun e => q (decide_eq_true (congrArg V.int e))
        rw [if_neg q'] at le
        have l0 := nl
        rw [le, str_len] at nl
        have lk := num_len (by decide) hk.1
        have e9 : (Str.ofString "^").length = 1 := by decide
        refine ⟨_, rfl, .inl ⟨_, rfl, ?_, _, rfl, ?_, _, rfl, ?_, _, rfl, .inr ⟨_, rfl, Nat.lt_trans hk.1 (by decide), _, rfl, ?_, L, _, _, rfl, rfl, eL, small1000 (by rw [List.length_map]; omega), ?_⟩⟩⟩
        · show (powK t i).1.length ≤ 16777216
          omega
        · show (Str.empty ++ (powK t i).1).length ≤ 16777216
          rw [str_nil]
          omega
        · show (Str.empty ++ (powK t i).1 ++ "^").length ≤ 16777216
          omega
        · show (Str.empty ++ (powK t i).1 ++ "^" ++ num (powK t i).2).length ≤ 16777216
          rw [str_len]
          omega
        · obtain ⟨a1, a2⟩ := done _ rfl
          rw [le, List.map_append] at a1 a2
          exact ⟨a1, a2, _, _, rfl⟩
    · have c' : ¬ 0 < (powK t i).2 := fun e => c (decide_eq_true e)
      refine ⟨b5, ⟨ys, eL, y0, by omega, yz, ?_⟩, _, _, rfl⟩
      rw [yj, powN_succ t hi]
      unfold powL
      rw [if_neg c']
  · rintro σ H5 ⟨b5, ⟨ys, eL, y0, yl, yz, yj⟩, v5, v6, rfl⟩
    have yj : Txt.join " " ys = termT t := yj
    refine ⟨⟨_, rfl⟩, _, rfl, _, L, ys, rfl, rfl, .inl (SqL.of eL), ?_, ?_⟩
    · have := sum_le yz
      have e1 : (Str.ofString " ").length = 1 := by decide
      have yl : ys.length ≤ 3 := yl
      rw [e1]
      omega
    · rw [yj]
      exact k _ fun c o e => b5 _ _ (s4 _ _ e) (fun z => by rw [z, hL] at e; cases e)
def spSumsText (K : PySem.W.Frag) : Sp := fun vs H Q _ => ∃ (v : V) (S : List Rw), vs = [v] ∧ Dp K H v (sumsD S) ∧ SS S ∧ ∀ H', Same H H' → Q (.str (sumsT S)) H'
theorem ok_sums_text (T : Txt K mg) : FnOk P w K mg base CX0 3 T.a_sums_text T.d_sums_text ["sums"] (spSumsText K) := by
  refine T.F_sums_text.ok sc_sums_text (fun vs H Q E h => ?_) (fun cdv A outer s H vs Q E hr h => ?_)
  · obtain ⟨v, p, rfl, _⟩ := h
    rfl
  obtain ⟨v, S, rfl, dS, ss, k⟩ := h
  obtain ⟨a, us, rfl, hs, dA⟩ := dS.lst'
  have lS : us.length = S.length := by
    have := dA.length
    rw [List.length_map] at this
    exact this
  refine ⟨_, (pss_cons (ps_set (i := 1) sc_sums_text.nd rfl (Or.inl rfl) (pe_lst pa_nil))
      (pss_cons (ps_for PassesOwn.never rfl (pi_list (pv 0)) (pg_tup rfl (pgs_cons (pg_name (i := 2) sc_sums_text.nd rfl (Or.inl rfl)) (pgs_cons (pg_name (i := 3) sc_sums_text.nd rfl (Or.inl rfl)) pgs_nil))) (pss_cons (ps_set (i := 4) sc_sums_text.nd rfl (Or.inl rfl) (pe_join pe_str (pe_lc (own := [("term", 5)]) (g := gName 5) (tt := tYes) rfl sc_sums_text.nd (pi_list (pv 3)) (blkOk_by (N := N_sums_text) (sc := defScope s_sums_text) (by decide +kernel)) (fun _ _ _ _ _ => (pg_name (i := 5) sc_sums_text.nd rfl (Or.inl rfl))) (fun _ _ _ _ _ => pts_nil) (fun _ _ _ _ _ => (pe_call (ok_term_text T) (hr.mono (by decide)) (by rfl) T.g_term_text T.F_term_text.kp T.b_term_text .nil pass0 (pa_cons (pv 5) pa_nil))))))
      (pss_one (ps_expr (pe_bm PySem.F.plainAttrs_list PySem.F.slot_list_append PySem.F.type_list_append mt_append (pv 1) (pa_cons (pe_ifExp (pt_cmpR (op_neD hr.units) (pv 3) (pe_lst pa_nil) (nomark _)) (pe_joined (PJ.cons (pe_fmt (pv 2)) (PJ.cons pe_str (PJ.cons (pe_fmt (pv 4)) PJ.nil)))) (pe_joined (PJ.cons (pe_fmt (pv 2)) (PJ.cons pe_str PJ.nil)))) pa_nil))))))
      (pss_one (ps_ret (pe_join pe_str (pv 1)))))), ?_⟩
  refine ⟨by show 0 ≤ sizeLine; decide, fun L hL => ?_⟩
  refine ⟨_, rfl, a, rfl, ⟨_, same_l (same_upd hL) hs⟩, for_it (walk_list (xs := us)) (fun i σ H' => Same H H' ∧ H' L = some (.lst (((S.take i).map rowT).map V.str)) ∧ ∃ v2 v3 v4 v5, σ = [some (.ref a), some (.ref L), v2, v3, v4, v5]) ?_ ?_ ?_ ?_⟩
  · exact ⟨same_upd hL, upd_same, _, _, _, _, rfl⟩
  · rintro i σ H5 _ ⟨s5, _⟩
    exact same_l s5 hs
  · rintro i z σ H5 H6 hi ⟨s6, eL, v2, v3, v4, v5, rfl⟩ ⟨rfl, hx⟩
    obtain ⟨r, hr', dr⟩ := DpAll.at_ dA hx
    have rs : RS r := ss.2 r (List.mem_of_getElem? hr')
    obtain ⟨b, x1, x2, rfl, hb, d1, d2⟩ := dr.tup2
    cases d1.int'
    obtain ⟨c, ws, rfl, hc, dB⟩ := d2.lst'
    have lw : ws.length = r.2.length := by
      have := dB.length
      rw [List.length_map] at this
      exact this
    refine ⟨b, _, rfl, same_t s6 hb, rfl, _, _, rfl, _, _, rfl, rfl, ?_⟩
    refine ⟨⟨_, rfl⟩, _, rfl, c, rfl, ⟨ws, same_l s6 hc⟩, fun R hR => ?_⟩
    have nLR : L ≠ R := ne_of_none eL hR
    refine lc_pure (walk_list (xs := ws)) (fun j => .str ((r.2.map termT).getD j Str.empty)) (by have := rs.n; omega) hR (fun H' sm => same_l (s6.trans sm) hc) ?_ ?_
    · rintro j y H8 H9 Q' hj s8 ⟨rfl, hy⟩ kq
      obtain ⟨t, ht, dt⟩ := DpAll.at_ dB hy
      rw [getD_of' (r := termT t) (by rw [List.getElem?_map, ht]; rfl)] at kq
      refine ⟨rfl, ?_⟩
      exact ⟨_, rfl, y, t, rfl, dt.mono (s6.trans s8), rs.t t (List.mem_of_getElem? ht), kq⟩
    intro H8 s8 eR
    have e8 : H8 R = some (.lst ((r.2.map termT).map V.str)) := by
      rw [eR, lw, ← List.length_map (f := termT)]
      show some (HO.lst ((List.range _).map (V.str ∘ fun j => (r.2.map termT).getD j Str.empty))) = _
      rw [← List.map_map, range_getD]
    have eL8 := s8 _ _ eL
    have hn := rs.n
    have hterms := terms_len rs.t
    have rl := rowT_len rs
    have ssl := ss.1
    have il : ((S.take i).map rowT).length < 1000 := by
      rw [List.length_map, List.length_take]
      omega
    have key : rowT r = num r.1 ++ ": " ++ (if r.2 ≠ [] then Txt.join " + " (r.2.map termT) else "0") := rfl
    refine ⟨_, R, r.2.map termT, rfl, rfl, .inl (SqL.of e8), ?_, ?_⟩
    · have e1 : (Str.ofString " + ").length = 3 := by decide
      rw [List.length_map, e1]
      omega
    refine ⟨_, rfl, .inl ⟨rfl, _, SqL.of eL8⟩, ?_⟩
    refine ⟨_, rfl, by show 0 ≤ sizeLine; decide, fun N hN => ?_⟩
    have s9 : Same H _ := (s6.trans s8).trans (same_upd (o := .lst []) hN)
    refine ⟨.list (r.2.map termD), .list [], d2.mono s9, .lst (SqL.of upd_same) .nil, shaped_list fun t _ => termD_lay t, shaped_nil, _, rfl, ?_⟩
    rw [eqv_nil]
    have nLN : L ≠ N := ne_of_none eL8 hN
    have rowl : (rowT r).length ≤ 16777216 := by omega
    have fin : ∀ H6 : Hp, Same H H6 → H6 L = some (.lst (((S.take i).map rowT).map V.str ++ [V.str (rowT r)])) → Same H H6 ∧ H6 L = some (.lst (((S.take (i + 1)).map rowT).map V.str)) := fun H6 h1 h2 => ⟨h1, by rw [h2, take_snoc hr', List.map_append, List.map_append]; rfl⟩
    have f1 : (Str.empty ++ num r.1).length ≤ 16777216 := by
      have := num_len (by decide) rs.i
      rw [str_nil]
      omega
    refine ite2 (fun q => ?_) (fun q => ?_)
    · have q' : r.2 ≠ [] := by
        intro e
        rw [e] at q
        exact absurd q (by decide)
      rw [if_pos q', ← str_nil (num r.1)] at key
      refine ⟨_, rfl, .inr ⟨_, rfl, Nat.lt_trans rs.i (by decide), _, rfl, f1, _, rfl, ?_, _, rfl, .inl ⟨_, rfl, ?_, _, rfl, ?_, L, _, _, rfl, rfl, ?_, small1000 (Nat.le_trans (Nat.le_of_eq (List.length_map V.str)) (Nat.le_of_lt il)), ?_⟩⟩⟩
      · refine Nat.le_trans ?_ rowl
        rw [key, str_len _ (Txt.join _ _)]
        exact Nat.le_add_right ..
      · refine Nat.le_trans ?_ rowl
        rw [key, str_len _ (Txt.join _ _)]
        exact Nat.le_add_left ..
      · show (Str.empty ++ num r.1 ++ ": " ++ Txt.join " + " (r.2.map termT)).length ≤ 16777216
        rw [← key]
        exact rowl
      · rw [upd_ne nLN]
        exact eL8
      · obtain ⟨a1, a2⟩ := fin (upd (upd H8 N (.lst [])) L (.lst (((S.take i).map rowT).map V.str ++ [V.str (rowT r)]))) (same_put s9 hL) upd_same
        rw [key] at a1 a2
        exact ⟨a1, a2, _, _, _, _, rfl⟩
    · have q' : ¬ r.2 ≠ [] := by
        intro e
        cases hz : r.2 with
        | nil => exact e hz
        | cons y l =>
          rw [hz] at q
          exact q rfl
      have e0 : (Str.ofString ": 0") = Str.ofString ": " ++ Str.ofString "0" := by decide
      rw [if_neg q', str_assoc, ← e0, ← str_nil (num r.1)] at key
      refine ⟨_, rfl, .inr ⟨_, rfl, Nat.lt_trans rs.i (by decide), _, rfl, f1, _, rfl, ?_, L, _, _, rfl, rfl, ?_, small1000 (Nat.le_trans (Nat.le_of_eq (List.length_map V.str)) (Nat.le_of_lt il)), ?_⟩⟩
      · show (Str.empty ++ num r.1 ++ ": 0").length ≤ 16777216
        rw [← key]
        exact rowl
      · rw [upd_ne nLN]
        exact eL8
      · obtain ⟨a1, a2⟩ := fin (upd (upd H8 N (.lst [])) L (.lst (((S.take i).map rowT).map V.str ++ [V.str (rowT r)]))) (same_put s9 hL) upd_same
        rw [key] at a1 a2
        exact ⟨a1, a2, _, _, _, _, rfl⟩
  · rintro σ H5 ⟨s5, eL, v2, v3, v4, v5, rfl⟩
    have et : S.take us.length = S := by rw [lS, List.take_length]
    rw [et] at eL
    exact ⟨⟨_, rfl⟩, _, rfl, _, L, S.map rowT, rfl, rfl, .inl (SqL.of eL), sums_len ss, k _ s5⟩
theorem ok_law_part_text (T : Txt K mg) : FnOk P w K mg base CX0 1 T.a_law_part_text T.d_law_part_text ["_law_part"] (spPartText K) := by
  refine T.F_law_part_text.ok sc_law_part_text (fun vs H Q E h => ?_) (fun cdv A outer s H vs Q E hr h => ?_)
  · obtain ⟨v, p, rfl, _⟩ := h
    rfl
  obtain ⟨v, p, rfl, dp, ps, k⟩ := h
  obtain ⟨a, x, y, rfl, hs, dx, dy⟩ := dp.tup2
  cases dx.int'
  cases dy.int'
  have l1 := num_len (by decide) ps.1
  have l2 := num_len (by decide) ps.2
  have e1 : (Str.ofString "/").length = 1 := by decide
  refine ⟨_, (pss_one (ps_ret (pe_ifExp (pt_cmpR op_eq (pe_ix ix_tup (pv 0) pe_int (fun _ _ => rfl)) pe_int (nomark _)) (pe_callTy call_str_int (by rfl) T.z_str (by decide +kernel) (pa_cons (pe_ix ix_tup (pv 0) pe_int (fun _ _ => rfl)) pa_nil)) (pe_op op_add_str (pe_op op_add_str (pe_callTy call_str_int (by rfl) T.z_str (by decide +kernel) (pa_cons (pe_ix ix_tup (pv 0) pe_int (fun _ _ => rfl)) pa_nil)) pe_str) (pe_callTy call_str_int (by rfl) T.z_str (by decide +kernel) (pa_cons (pe_ix ix_tup (pv 0) pe_int (fun _ _ => rfl)) pa_nil)))))), ?_⟩
  have i0 : atI [V.int p.1, V.int p.2] 0 = some (.int p.1) := rfl
  have i1 : atI [V.int p.1, V.int p.2] 1 = some (.int p.2) := rfl
  unfold partT at k
  refine ⟨_, rfl, a, _, _, _, rfl, rfl, hs, i1, rfl, _, rfl, ?_⟩
  refine ite2 (fun c => ?_) (fun c => ?_)
  · have c' : p.2 = 1 := V.int.inj (of_decide_eq_true c)
    rw [if_pos c'] at k
    exact ⟨_, rfl, a, _, _, _, rfl, rfl, hs, i0, _, rfl, Nat.lt_trans ps.1 (by decide), k⟩
  · have c' : ¬ p.2 = 1 := fun e => c (decide_eq_true (congrArg V.int e))
    rw [if_neg c'] at k
    refine ⟨_, rfl, a, _, _, _, rfl, rfl, hs, i0, _, rfl, Nat.lt_trans ps.1 (by decide), _, _, rfl, rfl, ?_, _, rfl, a, _, _, _, rfl, rfl, hs, i1, _, rfl, Nat.lt_trans ps.2 (by decide), _, _, rfl, rfl, ?_, k⟩
    · show (num p.1).length + (Str.ofString "/").length ≤ 16777216
      rw [e1]
      omega
    · show (num p.1 ++ "/").length + (num p.2).length ≤ 16777216
      rw [str_len, e1]
      omega
theorem powL_one {w n : Str} {k : Int} (h : 0 < k) (h1 : ¬ 1 < k) : powL w n k = w ++ " " ++ n ++ "" := by
  unfold powL
  rw [if_pos h, if_neg h1]
theorem powL_more {w n : Str} {k : Int} (h : 0 < k) (h1 : 1 < k) : powL w n k = w ++ " " ++ n ++ ("^" ++ num k) := by
  unfold powL
  rw [if_pos h, if_pos h1]
theorem powN_len {t : Trm} (ts : TS t) (i : Nat) : (powN t i).length ≤ 1611 := by
  have h1 := partT_len ts.o
  have h2 := powL_len (w := partT t.2) (n := "n") (by decide) ts.p
  match i with
  | 0 => exact Nat.le_trans h1 (by decide)
  | 1 => exact Nat.le_trans h2 (by omega)
  | _ + 2 => exact termT_len ts
theorem ok_law_sums_text (T : Txt K mg) : FnOk P w K mg base CX0 2 T.a_law_sums_text T.d_law_sums_text ["_law_sums"] (spSumsText K) := by
  refine T.F_law_sums_text.ok sc_law_sums_text (fun vs H Q E h => ?_) (fun cdv A outer s H vs Q E hr h => ?_)
  · obtain ⟨v, p, rfl, _⟩ := h
    rfl
  obtain ⟨v, S, rfl, dS, ss, k⟩ := h
  obtain ⟨a, us, rfl, hs, dA⟩ := dS.lst'
  have lS : us.length = S.length := by
    have := dA.length
    rw [List.length_map] at this
    exact this
  refine ⟨_, (pss_cons (ps_set (i := 1) sc_law_sums_text.nd rfl (Or.inl rfl) (pe_lst pa_nil))
      (pss_cons (ps_for PassesOwn.never rfl (pi_list (pv 0)) (pg_tup rfl (pgs_cons (pg_name (i := 2) sc_law_sums_text.nd rfl (Or.inl rfl)) (pgs_cons (pg_name (i := 3) sc_law_sums_text.nd rfl (Or.inl rfl)) pgs_nil))) (pss_cons (ps_set (i := 4) sc_law_sums_text.nd rfl (Or.inl rfl) (pe_lst pa_nil))
      (pss_cons (ps_for PassesOwn.never rfl (pi_list (pv 3)) (pg_tup rfl (pgs_cons (pg_tup rfl (pgs_cons (pg_name (i := 5) sc_law_sums_text.nd rfl (Or.inl rfl)) (pgs_cons (pg_name (i := 6) sc_law_sums_text.nd rfl (Or.inl rfl)) pgs_nil))) (pgs_cons (pg_name (i := 7) sc_law_sums_text.nd rfl (Or.inl rfl)) pgs_nil))) (pss_cons (ps_set (i := 8) sc_law_sums_text.nd rfl (Or.inl rfl) (pe_call (ok_law_part_text T) (hr.mono (by decide)) (by rfl) T.g_law_part_text T.F_law_part_text.kp T.b_law_part_text .nil pass0 (pa_cons (pv 7) pa_nil)))
      (pss_cons (ps_for PassesOwn.never rfl (pi_list (pe_lst (pa_cons (pe_tup (pa_cons pe_str (pa_cons (pv 5) pa_nil))) (pa_cons (pe_tup (pa_cons pe_str (pa_cons (pv 6) pa_nil))) pa_nil)))) (pg_tup rfl (pgs_cons (pg_name (i := 9) sc_law_sums_text.nd rfl (Or.inl rfl)) (pgs_cons (pg_name (i := 10) sc_law_sums_text.nd rfl (Or.inl rfl)) pgs_nil))) (pss_one (ps_if (pt_cmpR op_gt (pv 10) pe_int (nomark _)) (pss_one (ps_set (i := 8) sc_law_sums_text.nd rfl (Or.inl rfl) (pe_op op_add_str (pe_op op_add_str (pe_op op_add_str (pv 8) pe_str) (pv 9)) (pe_ifExp (pt_cmpR op_gt (pv 10) pe_int (nomark _)) (pe_op op_add_str pe_str (pe_callTy call_str_int (by rfl) T.z_str (by decide +kernel) (pa_cons (pv 10) pa_nil))) pe_str)))) pss_nil)))
      (pss_one (ps_expr (pe_bm PySem.F.plainAttrs_list PySem.F.slot_list_append PySem.F.type_list_append mt_append (pv 4) (pa_cons (pv 8) pa_nil)))))))
      (pss_one (ps_expr (pe_bm PySem.F.plainAttrs_list PySem.F.slot_list_append PySem.F.type_list_append mt_append (pv 1) (pa_cons (pe_op op_add_str (pe_op op_add_str (pe_callTy call_str_int (by rfl) T.z_str (by decide +kernel) (pa_cons (pv 2) pa_nil)) pe_str) (pe_ifExp (pt_cmpR (op_neD hr.units) (pv 4) (pe_lst pa_nil) (nomark _)) (pe_join pe_str (pv 4)) pe_str)) pa_nil)))))))
      (pss_one (ps_ret (pe_join pe_str (pv 1)))))), ?_⟩
  refine ⟨by show 0 ≤ sizeLine; decide, fun L hL => ?_⟩
  refine ⟨_, rfl, a, rfl, ⟨_, same_l (same_upd hL) hs⟩, for_it (walk_list (xs := us)) (fun i σ H' => Same H H' ∧ H' L = some (.lst (((S.take i).map rowT).map V.str)) ∧ ∃ v2 v3 v4 v5 v6 v7 v8 v9 v10, σ = [some (.ref a), some (.ref L), v2, v3, v4, v5, v6, v7, v8, v9, v10]) ?_ ?_ ?_ ?_⟩
  · exact ⟨same_upd hL, upd_same, _, _, _, _, _, _, _, _, _, rfl⟩
  · rintro i σ H5 _ ⟨s5, _⟩
    exact same_l s5 hs
  · rintro i z σ H5 H6 hi ⟨s6, eL, v2, v3, v4, v5, v6, v7, v8, v9, v10, rfl⟩ ⟨rfl, hx⟩
    obtain ⟨r, hr', dr⟩ := DpAll.at_ dA hx
    have rs : RS r := ss.2 r (List.mem_of_getElem? hr')
    obtain ⟨b, x1, x2, rfl, hb, d1, d2⟩ := dr.tup2
    cases d1.int'
    obtain ⟨c, ws, rfl, hc, dB⟩ := d2.lst'
    have lw : ws.length = r.2.length := by
      have := dB.length
      rw [List.length_map] at this
      exact this
    have ssl := ss.1
    have il : ((S.take i).map rowT).length < 1000 := by
      rw [List.length_map, List.length_take]
      omega
    refine ⟨b, _, rfl, same_t s6 hb, rfl, _, _, rfl, _, _, rfl, rfl, ?_⟩
    refine ⟨by show 0 ≤ sizeLine; decide, fun M hM => ?_⟩
    have nLM : L ≠ M := ne_of_none eL hM
    have hHM : H M = none := by
      cases e : H M with
      | none => rfl
      | some o => rw [s6 _ _ e] at hM; cases hM
    refine ⟨_, rfl, c, rfl, ⟨ws, same_l (s6.trans (same_upd hM)) hc⟩, for_it (walk_list (xs := ws)) (fun j σ H' => Same H H' ∧ H' L = some (.lst (((S.take i).map rowT).map V.str)) ∧ H' M = some (.lst (((r.2.take j).map termT).map V.str)) ∧ ∃ v5 v6 v7 v8 v9 v10, σ = [some (.ref a), some (.ref L), some (.int r.1), some (.ref c), some (.ref M), v5, v6, v7, v8, v9, v10]) ?_ ?_ ?_ ?_⟩
    · exact ⟨s6.trans (same_upd hM), by rw [upd_ne nLM]; exact eL, upd_same, _, _, _, _, _, _, rfl⟩
    · rintro j σ H5 _ ⟨s5, _⟩
      exact same_l s5 hc
    · rintro j z σ H7 H8 hj ⟨s8, eL8, eM8, v5, v6, v7, v8, v9, v10, rfl⟩ ⟨rfl, hy⟩
      obtain ⟨t, ht, dt⟩ := DpAll.at_ dB hy
      have ts := rs.t t (List.mem_of_getElem? ht)
      obtain ⟨p, y1, y2, rfl, hp, e1, e2⟩ := dt.tup2
      obtain ⟨q, z1, z2, rfl, hq, e3, e4⟩ := e1.tup2
      cases e3.int'
      cases e4.int'
      refine ⟨p, _, rfl, same_t s8 hp, rfl, _, _, rfl, ⟨q, _, rfl, same_t s8 hq, rfl, _, _, rfl, _, _, rfl, rfl, _, _, rfl, rfl, ?_⟩⟩
      refine ⟨_, rfl, y2, t.2, rfl, e2.mono s8, ts.o, ?_⟩
      refine ⟨_, rfl, by show 2 ≤ sizeLine; decide, fun p1 hp1 => ⟨_, rfl, by show 2 ≤ sizeLine; decide, fun p2 hp2 => ⟨by show 2 ≤ sizeLine; decide, fun p3 hp3 => ?_⟩⟩⟩
      have f1 : _ = _ := (same_upd (o := .lst [.ref p1, .ref p2]) hp3) _ _ ((same_upd (o := .tup [.str "d", .int t.1.2]) hp2) _ _ (upd_same (a := p1) (o := .tup [.str "n", .int t.1.1]) (H := H8)))
      have f2 : _ = _ := (same_upd (o := .lst [.ref p1, .ref p2]) hp3) _ _ (upd_same (a := p2) (o := .tup [.str "d", .int t.1.2]) (H := upd H8 p1 (.tup [.str "n", .int t.1.1])))
      have s84 : Same H8 _ := ((same_upd (o := .tup [.str "n", .int t.1.1]) hp1).trans (same_upd (o := .tup [.str "d", .int t.1.2]) hp2)).trans (same_upd (o := .lst [.ref p1, .ref p2]) hp3)
      generalize hH4 : upd (upd (upd H8 p1 (.tup [.str "n", .int t.1.1])) p2 (.tup [.str "d", .int t.1.2])) p3 (.lst [.ref p1, .ref p2]) = H4 at f1 f2 s84 ⊢
      have f3 : H4 p3 = some (.lst [.ref p1, .ref p2]) := by rw [← hH4]; exact upd_same
      refine ⟨p3, rfl, ⟨_, SqL.of f3⟩, for_it (walk_list (xs := [.ref p1, .ref p2])) (fun n σ H' => Same H4 H' ∧ ∃ v9 v10, σ = [some (.ref a), some (.ref L), some (.int r.1), some (.ref c), some (.ref M), some (.int t.1.1), some (.int t.1.2), some y2, some (.str (powN t n)), v9, v10]) ?_ ?_ ?_ ?_⟩
      · exact ⟨Same.refl _, _, _, rfl⟩
      · rintro n σ H5 _ ⟨s5, _⟩
        exact SqL.of (s5 _ _ f3)
      · rintro n z σ H9 H10 hn ⟨s9, v9, v10, rfl⟩ ⟨rfl, hx⟩
        have hn : n < 2 := hn
        obtain ⟨p, rfl, hp, hk⟩ : ∃ p, z = .ref p ∧ H10 p = some (.tup [.str (powK t n).1, .int (powK t n).2]) ∧ (powK t n).2.natAbs.log2 < 400 ∧ (powK t n).1.length = 1 := by
          match n, hn with
          | 0, _ => exact ⟨p1, (Option.some.inj hx).symm, s9 _ _ f1, ts.p, (by show (Str.ofString "n").length = 1; decide)⟩
          | 1, _ => exact ⟨p2, (Option.some.inj hx).symm, s9 _ _ f2, ts.f, (by show (Str.ofString "d").length = 1; decide)⟩
        refine ⟨p, _, rfl, SqT.of hp, rfl, _, _, rfl, _, _, rfl, rfl, ?_⟩
        refine ⟨_, rfl, _, _, rfl, rfl, _, rfl, ?_⟩
        have l0 := powN_len ts n
        have l1 := powN_len ts (n + 1)
        have lk := num_len (by decide) hk.1
        have b1 : (Str.ofString " ").length = 1 := by decide
        have b2 : (Str.ofString "^").length = 1 := by decide
        have b3 : (Str.ofString "").length = 0 := by decide
        have hk2 := hk.2
        have w1 : (powN t n).length + (Str.ofString " ").length ≤ 16777216 := by omega
        have w2 : (powN t n ++ " ").length + (powK t n).1.length ≤ 16777216 := by
          rw [str_len]
          omega
        refine ite2 (fun c => ?_) (fun c => ?_)
        · have c' : 0 < (powK t n).2 := of_decide_eq_true c
          refine ⟨_, rfl, _, _, rfl, rfl, w1, _, rfl, _, _, rfl, rfl, w2, ?_⟩
          refine ⟨_, rfl, _, _, rfl, rfl, _, rfl, ?_⟩
          refine ite2 (fun d => ?_) (fun d => ?_)
          · have d' : 1 < (powK t n).2 := of_decide_eq_true d
            refine ⟨_, rfl, _, rfl, Nat.lt_trans hk.1 (by decide), _, _, rfl, rfl, ?_, _, _, rfl, rfl, ?_, ?_⟩
            · show (Str.ofString "^").length + (num (powK t n).2).length ≤ 16777216
              omega
            · show (powN t n ++ " " ++ (powK t n).1).length + ("^" ++ num (powK t n).2).length ≤ 16777216
              rw [str_len, str_len, str_len]
              omega
            · refine ⟨s9, some (.str (powK t n).1), some (.int (powK t n).2), ?_⟩
              rw [powN_succ t hn, powL_more c' d']
              rfl
          · have d' : ¬ 1 < (powK t n).2 := fun e => d (decide_eq_true e)
            refine ⟨_, _, rfl, rfl, ?_, ?_⟩
            · show (powN t n ++ " " ++ (powK t n).1).length + (Str.ofString "").length ≤ 16777216
              rw [str_len, str_len]
              omega
            · refine ⟨s9, some (.str (powK t n).1), some (.int (powK t n).2), ?_⟩
              rw [powN_succ t hn, powL_one c' d']
              rfl
        · have c' : ¬ 0 < (powK t n).2 := fun e => c (decide_eq_true e)
          refine ⟨s9, some (.str (powK t n).1), some (.int (powK t n).2), ?_⟩
          have e : powN t (n + 1) = powN t n := by
            rw [powN_succ t hn]
            unfold powL
            rw [if_neg c']
          rw [e]
          rfl
      · rintro σ H9 ⟨s9, v9, v10, rfl⟩
        have s89 := s84.trans s9
        have eM9 := s89 _ _ eM8
        have rn := rs.n
        have jl : ((r.2.take j).map termT).length < 1000 := by
          rw [List.length_map, List.length_take]
          omega
        refine ⟨_, rfl, .inl ⟨rfl, _, SqL.of eM9⟩, _, rfl, M, _, _, rfl, rfl, eM9, small1000 (Nat.le_trans (Nat.le_of_eq (List.length_map V.str)) (Nat.le_of_lt jl)), ?_⟩
        refine ⟨same_put (s8.trans s89) hHM, by rw [upd_ne nLM]; exact s89 _ _ eL8, ?_, _, _, _, _, _, _, rfl⟩
        rw [upd_same, take_snoc ht, List.map_append, List.map_append]
        rfl
    · rintro σ H7 ⟨s7, eL7, eM7, v5, v6, v7, v8, v9, v10, rfl⟩
      have et : r.2.take ws.length = r.2 := by rw [lw, List.take_length]
      rw [et] at eM7
      have hn := rs.n
      have hterms := terms_len rs.t
      have rl := rowT_len rs
      have ni := num_len (by decide) rs.i
      have c2 : (Str.ofString ": ").length = 2 := by decide
      have key : rowT r = num r.1 ++ ": " ++ (if r.2 ≠ [] then Txt.join " + " (r.2.map termT) else "0") := rfl
      refine ⟨_, rfl, .inl ⟨rfl, _, SqL.of eL7⟩, ?_⟩
      refine ⟨_, rfl, _, rfl, Nat.lt_trans rs.i (by decide), _, _, rfl, rfl, ?_, ?_⟩
      · show (num r.1).length + (Str.ofString ": ").length ≤ 16777216
        omega
      refine ⟨_, rfl, by show 0 ≤ sizeLine; decide, fun N hN => ?_⟩
      have s9 : Same H7 _ := same_upd (o := .lst []) hN
      have eM9 := s9 _ _ eM7
      have eL9 := s9 _ _ eL7
      have dM : DpAll K (upd H7 N (.lst [])) ((r.2.map termT).map V.str) (r.2.map fun t => PyData.str (termT t)) := by
        rw [List.map_map]
        generalize r.2 = l
        induction l with
        | nil => exact .nil
        | cons x l ih => exact .cons (.str _) ih
      refine ⟨.list (r.2.map fun t => PyData.str (termT t)), .list [], .lst (SqL.of eM9) dM, .lst (SqL.of upd_same) .nil, shaped_list fun t _ => termT_lay t, shaped_nil, _, rfl, ?_⟩
      rw [eqv_nil]
      have fin : ∀ H6 : Hp, Same H H6 → H6 L = some (.lst (((S.take i).map rowT).map V.str ++ [V.str (rowT r)])) → Same H H6 ∧ H6 L = some (.lst (((S.take (i + 1)).map rowT).map V.str)) := fun H6 h1 h2 => ⟨h1, by rw [h2, take_snoc hr', List.map_append, List.map_append]; rfl⟩
      obtain ⟨a1, a2⟩ := fin (upd (upd H7 N (.lst [])) L (.lst (((S.take i).map rowT).map V.str ++ [V.str (rowT r)]))) (same_put (s7.trans s9) hL) upd_same
      have ll := small1000 (Nat.le_trans (Nat.le_of_eq (List.length_map V.str)) (Nat.le_of_lt il))
      refine ite2 (fun q => ?_) (fun q => ?_)
      · have q' : r.2 ≠ [] := by
          intro e
          rw [e] at q
          exact absurd q (by decide)
        rw [if_pos q'] at key
        rw [key] at a1 a2 rl
        refine ⟨⟨_, rfl⟩, _, rfl, _, M, r.2.map termT, rfl, rfl, .inl (SqL.of eM9), ?_, _, _, rfl, rfl, ?_, L, _, _, rfl, rfl, eL9, ll, a1, a2, _, _, _, _, _, _, _, _, _, rfl⟩
        · have e1 : (Str.ofString " + ").length = 3 := by decide
          rw [List.length_map, e1]
          omega
        · rw [str_len _ (Txt.join _ _)] at rl
          exact Nat.le_trans rl (by decide)
      · have q' : ¬ r.2 ≠ [] := by
          intro e
          cases hz : r.2 with
          | nil => exact e hz
          | cons y l =>
            rw [hz] at q
            exact q rfl
        rw [if_neg q'] at key
        rw [key] at a1 a2 rl
        refine ⟨_, _, rfl, rfl, ?_, L, _, _, rfl, rfl, eL9, ll, a1, a2, _, _, _, _, _, _, _, _, _, rfl⟩
        rw [str_len _ (Str.ofString "0")] at rl
        exact Nat.le_trans rl (by decide)
  · rintro σ H5 ⟨s5, eL, v2, v3, v4, v5, v6, v7, v8, v9, v10, rfl⟩
    have et : S.take us.length = S := by rw [lS, List.take_length]
    rw [et] at eL
    exact ⟨⟨_, rfl⟩, _, rfl, _, L, S.map rowT, rfl, rfl, .inl (SqL.of eL), sums_len ss, k _ s5⟩
/-- one of a row: a text's sign, a list's or tuple's item -/
def spPick (K : PySem.W.Frag) : Sp := fun vs H Q _ => ∃ (d l : Addr) (x : V), vs = [.ref d, x] ∧ DrawAt H d l ∧
  ((∃ z : Str, x = .str z ∧ 0 < z.length ∧ z.length ≤ 100000 ∧ ∀ (c : Nat) H', c ∈ z.cps.toList → DrawAt H' d l → But (Only1 d) H H' → Q (.str ⟨#[c]⟩) H') ∨
   ∃ (a : Addr) (xs : List V), x = .ref a ∧ a ≠ d ∧ (SqL K H a xs ∨ SqT K H a xs) ∧ 0 < xs.length ∧ xs.length ≤ 100000 ∧ ∀ (v : V) H', v ∈ xs → DrawAt H' d l → But (Only1 d) H H' → Q v H')
theorem ok_law_pick (T : Txt K mg) : FnOk P w K mg base CX0 2 T.a_law_pick T.d_law_pick ["_law_draw", "_law_row"] (spPick K) := by
  refine T.F_law_pick.ok sc_law_pick (fun vs H Q E h => ?_) (fun cdv A outer s H vs Q E hr h => ?_)
  · obtain ⟨d, l, x, rfl, _⟩ := h
    rfl
  obtain ⟨d, l, x, rfl, D, h⟩ := h
  refine ⟨_, (pss_one (ps_ret (pe_ix ix_seq (pv 1) (pe_call (ok_law_take T) (hr.mono (by decide)) (by rfl) T.g_law_take T.F_law_take.kp T.b_law_take .nil pass0 (pa_cons (pv 0) (pa_cons (pe_callB call_len (by rfl) T.z_len (by decide +kernel) (pa_cons (pv 1) pa_nil)) pa_nil))) (fun _ _ => rfl)))), ?_⟩
  have big : (100000 : Int) < 2 ^ 200 := by decide
  rcases h with ⟨z, rfl, h0, h1, k⟩ | ⟨a, xs, rfl, na, hs, h0, h1, k⟩
  · refine ⟨_, rfl, _, rfl, _, rfl, _, z.length, rfl, ⟨Nat.le_trans h1 (by decide), rfl⟩, d, l, _, rfl, D, by omega, by omega, fun r H' r0 r1 D' b => ?_⟩
    obtain ⟨j, rfl⟩ : ∃ j : Nat, r = (j : Int) := ⟨r.toNat, by omega⟩
    have hj : j < z.cps.toList.length := by
      rw [Array.length_toList]
      show j < z.length
      omega
    exact .inr (.inr ⟨z, _, _, rfl, rfl, Nat.le_trans h1 (by decide), atI_nat (List.getElem?_eq_getElem hj), k _ H' (List.getElem_mem hj) D' b⟩)
  · have hl : LenV K (.ref a) H xs.length := by
      rcases hs with hs | hs
      · exact .inl ⟨xs, hs, rfl⟩
      · exact .inr ⟨xs, hs, rfl⟩
    refine ⟨_, rfl, _, rfl, _, rfl, _, xs.length, rfl, hl, d, l, _, rfl, D, by omega, by omega, fun r H' r0 r1 D' b => ?_⟩
    obtain ⟨j, rfl⟩ : ∃ j : Nat, r = (j : Int) := ⟨r.toNat, by omega⟩
    have hj : j < xs.length := by omega
    rcases hs with hs | hs
    · exact .inl ⟨a, xs, _, _, rfl, rfl, but_l b na hs, atI_nat (List.getElem?_eq_getElem hj), k _ H' (List.getElem_mem hj) D' b⟩
    · exact .inr (.inl ⟨a, xs, _, _, rfl, rfl, but_t b na hs, atI_nat (List.getElem?_eq_getElem hj), k _ H' (List.getElem_mem hj) D' b⟩)
def LV : Nat := 20
def spLaw (K : PySem.W.Frag) : Sp := fun vs H Q _ => ∃ (a : Addr) (ns : List Int), vs = [.ref a] ∧ SqL K H a (ns.map V.int) ∧ ns.length ≤ 63 ∧ ∀ H', Q (.bl true) H'
theorem ss_of {top deep wide : Int} {S : List Rw} (ht : top < 2 ^ 300) (hd : deep < 2 ^ 300) (hw : wide < 2 ^ 300) (h : SumsOk top deep wide S) : SS S := by
  refine ⟨by have := h.len; omega, fun r hr => ?_⟩
  obtain ⟨ok, h0, h1⟩ := h.each r hr
  refine ⟨log_lt (k := 400) (Nat.lt_of_le_of_lt (m := 36) (by omega) (by decide)) (by decide), by have := ok.len; omega, fun t ht' => ?_⟩
  have q := ok.each t ht'
  have q1 := q.p0
  have q2 := q.p1
  have q3 := q.f0
  have q4 := q.f1
  have q5 := q.o1
  have q6 := q.u0
  have q7 := q.u1
  refine ⟨log_lt (k := 400) (Nat.lt_trans (m := 2 ^ 300) (by omega) (by decide)) (by decide), log_lt (k := 400) (Nat.lt_trans (m := 2 ^ 300) (by omega) (by decide)) (by decide), log_lt (k := 400) (Nat.lt_trans (m := 2 ^ 300) (by omega) (by decide)) (by decide), log_lt (k := 400) (Nat.lt_trans (m := 2 ^ 300) (by omega) (by decide)) (by decide)⟩
theorem str_dep (x : Str) : dep (.str x) < 12 := Nat.lt_of_le_of_lt (Nat.le_of_eq (by simp [dep])) (by decide : 0 < 12)
theorem str_wid (x : Str) : wid (.str x) ≤ 100000 := Nat.le_trans (Nat.le_of_eq (by simp [wid])) (by decide : 0 ≤ 100000)
theorem DrawAt.ne_tup {H : Hp} {d l g : Addr} {xs : List V} (D : DrawAt H d l) (h : H g = Option.some (.tup xs)) : g ≠ d := by
  rintro rfl
  obtain ⟨ns, p, z, s, e, _⟩ := D.ex
  rw [h] at e
  cases e
theorem ok_law (T : Txt K mg) : FnOk P w K mg base CX0 LV T.a_law T.d_law ["_law_script"] (spLaw K) := by
  refine T.F_law.ok sc_law (fun vs H Q E h => ?_) (fun cdv A outer s H vs Q E hr h => ?_)
  · obtain ⟨a, ns, rfl, _⟩ := h
    rfl
  obtain ⟨a, ns, rfl, hS, hl, k⟩ := h
  refine ⟨_, (pss_cons (ps_set (i := 1) sc_law.nd rfl (Or.inl rfl) (pe_call (ok_law_begin T) (hr.mono (by decide)) (by rfl) T.g_law_begin T.F_law_begin.kp T.b_law_begin .nil pass0 (pa_cons (pv 0) pa_nil)))
      (pss_cons (ps_for PassesOwn.never rfl (pi_range1 (by rfl) T.z_range (pa_cons pe_int pa_nil)) (pg_name (i := 2) sc_law.nd rfl (Or.inl rfl)) (pss_cons (ps_set (i := 3) sc_law.nd rfl (Or.inl rfl) (pe_call (ok_law_drawn_sums T) (hr.mono (by decide)) (by rfl) T.g_law_drawn_sums T.F_law_drawn_sums.kp T.b_law_drawn_sums .nil pass0 (pa_cons (pv 1) (pa_cons pe_int (pa_cons pe_int (pa_cons (pe_ix ix_list (pe_lst (pa_cons pe_int (pa_cons pe_int (pa_cons (pe_op op_pow pe_int pe_int) pa_nil)))) (pe_call (ok_law_take T) (hr.mono (by decide)) (by rfl) T.g_law_take T.F_law_take.kp T.b_law_take .nil pass0 (pa_cons (pv 1) (pa_cons pe_int pa_nil))) (fun _ _ => rfl)) pa_nil))))))
      (pss_cons (ps_if (pt_not (pt_val (pe_call (ok_law_same T) (hr.mono (by decide)) (by rfl) T.g_law_same T.F_law_same.kp T.b_law_same .nil pass0 (pa_cons (pe_call (ok_sums_text T) (hr.mono (by decide)) (by rfl) T.g_sums_text T.F_sums_text.kp T.b_sums_text .nil pass0 (pa_cons (pv 3) pa_nil)) (pa_cons (pe_call (ok_law_sums_text T) (hr.mono (by decide)) (by rfl) T.g_law_sums_text T.F_law_sums_text.kp T.b_law_sums_text .nil pass0 (pa_cons (pv 3) pa_nil)) pa_nil))))) (pss_one (ps_ret pe_bl)) pss_nil)
      (pss_cons (ps_set (i := 4) sc_law.nd rfl (Or.inl rfl) (pe_tup (pa_cons (pe_call (ok_law_raised T) (hr.mono (by decide)) (by rfl) T.g_law_raised T.F_law_raised.kp T.b_law_raised .nil pass0 (pa_cons pe_int (pa_cons (pe_call (ok_law_take T) (hr.mono (by decide)) (by rfl) T.g_law_take T.F_law_take.kp T.b_law_take .nil pass0 (pa_cons (pv 1) (pa_cons pe_int pa_nil))) pa_nil))) (pa_cons pe_int (pa_cons (pe_call (ok_law_take T) (hr.mono (by decide)) (by rfl) T.g_law_take T.F_law_take.kp T.b_law_take .nil pass0 (pa_cons (pv 1) (pa_cons pe_int pa_nil))) pa_nil)))))
      (C8.pss_cut (ps_if (pt_cmpR op_eq (pe_call (ok_law_take T) (hr.mono (by decide)) (by rfl) T.g_law_take T.F_law_take.kp T.b_law_take .nil pass0 (pa_cons (pv 1) (pa_cons pe_int pa_nil))) pe_int (nomark _)) (pss_one (ps_set (i := 4) sc_law.nd rfl (Or.inl rfl) (pe_tup (pa_cons (pe_op op_add pe_int (pe_call (ok_law_take T) (hr.mono (by decide)) (by rfl) T.g_law_take T.F_law_take.kp T.b_law_take .nil pass0 (pa_cons (pv 1) (pa_cons pe_int pa_nil)))) (pa_cons pe_int (pa_cons pe_int pa_nil)))))) pss_nil)
      (C8.pss_cut (ps_if (pt_cmpR op_eq (pe_call (ok_law_take T) (hr.mono (by decide)) (by rfl) T.g_law_take T.F_law_take.kp T.b_law_take .nil pass0 (pa_cons (pv 1) (pa_cons pe_int pa_nil))) pe_int (nomark _)) (pss_one (ps_set (i := 4) sc_law.nd rfl (Or.inl rfl) (pe_tup (pa_cons (pe_call (ok_law_pick T) (hr.mono (by decide)) (by rfl) T.g_law_pick T.F_law_pick.kp T.b_law_pick .nil pass0 (pa_cons (pv 1) (pa_cons (pe_lst (pa_cons pe_int (pa_cons pe_int (pa_cons pe_int (pa_cons pe_int (pa_cons pe_int (pa_cons pe_int pa_nil))))))) pa_nil))) (pa_cons pe_int (pa_cons pe_int pa_nil)))))) pss_nil)
      (pss_cons (ps_set (i := 5) sc_law.nd rfl (Or.inl rfl) (pe_op op_add_str (pe_op op_add_str (pe_op op_add_str (pe_op op_add_str (pe_callTy call_str_int (by rfl) T.z_str (by decide +kernel) (pa_cons (pe_ix ix_tup (pv 4) pe_int (fun _ _ => rfl)) pa_nil)) pe_str) (pe_callTy call_str_int (by rfl) T.z_str (by decide +kernel) (pa_cons (pe_ix ix_tup (pv 4) pe_int (fun _ _ => rfl)) pa_nil))) pe_str) (pe_callTy call_str_int (by rfl) T.z_str (by decide +kernel) (pa_cons (pe_ix ix_tup (pv 4) pe_int (fun _ _ => rfl)) pa_nil))))
      (pss_one (ps_if (pt_not (pt_val (pe_call (ok_law_same T) (hr.mono (by decide)) (by rfl) T.g_law_same T.F_law_same.kp T.b_law_same .nil pass0 (pa_cons (pe_call (ok_growth_text T) (hr.mono (by decide)) (by rfl) T.g_growth_text T.F_growth_text.kp T.b_growth_text .nil pass0 (pa_cons (pv 4) pa_nil)) (pa_cons (pv 5) pa_nil))))) (pss_one (ps_ret pe_bl)) pss_nil)))))))))
      (pss_one (ps_ret (pe_call (ok_law_same T) (hr.mono (by decide)) (by rfl) T.g_law_same T.F_law_same.kp T.b_law_same .nil pass0 (pa_cons (pe_lst (pa_cons (pe_call (ok_growth_text T) (hr.mono (by decide)) (by rfl) T.g_growth_text T.F_growth_text.kp T.b_growth_text .nil pass0 (pa_cons pe_non pa_nil)) (pa_cons (pe_call (ok_sums_text T) (hr.mono (by decide)) (by rfl) T.g_sums_text T.F_sums_text.kp T.b_sums_text .nil pass0 (pa_cons (pe_lst (pa_cons (pe_tup (pa_cons pe_int (pa_cons (pe_lst pa_nil) pa_nil))) pa_nil)) pa_nil)) pa_nil))) (pa_cons (pe_lst (pa_cons pe_str (pa_cons pe_str pa_nil))) pa_nil))))))), ?_⟩
  refine ⟨_, rfl, a, ns, rfl, hS, hl, fun d l H1 nd _ s1 D1 => ?_⟩
  refine ⟨6, rfl, by decide, by decide, for_it walk_range (fun _ σ H => DrawAt H d l ∧ ∃ v2 v3 v4 v5, σ = [some (.ref a), some (.ref d), v2, v3, v4, v5]) ⟨D1, _, _, _, _, rfl⟩ (fun _ _ _ _ _ => trivial) ?_ ?_⟩
  · rintro i x σ H2 H3 hi ⟨D2, v2, v3, v4, v5, rfl⟩ ⟨rfl, rfl⟩
    have cp : CPow 10 29 := ⟨by decide, by decide, by decide⟩
    refine ⟨_, rfl, _, _, rfl, rfl, cp, by show 3 ≤ sizeLine; decide, fun L hL => ?_⟩
    have D3 := D2.upd (o := .lst [.int 9, .int 500, .int (10 ^ 29)]) hL
    refine ⟨_, rfl, d, l, 3, rfl, D3, by decide, by decide, fun r H5 r0 r1 D5 b5 => ?_⟩
    have eL := b5 _ _ upd_same (D2.ned hL)
    have at3 : ∀ n : Nat, (n : Int) = r → ∃ wide : Int, atI [V.int 9, V.int 500, V.int (10 ^ 29)] (n : Int) = some (.int wide) ∧ 0 < wide ∧ wide < 2 ^ 200 := by
      intro n hn
      match n, hn with
      | 0, _ => exact ⟨9, rfl, by decide, by decide⟩
      | 1, _ => exact ⟨500, rfl, by decide, by decide⟩
      | 2, _ => exact ⟨10 ^ 29, rfl, by decide, by decide⟩
      | n + 3, e => omega
    obtain ⟨wide, hw, hw0, hw1⟩ := at3 r.toNat (by omega)
    rw [show ((r.toNat : Nat) : Int) = r by omega] at hw
    refine ⟨L, _, _, _, rfl, rfl, SqL.of eL, hw, ?_⟩
    refine ⟨d, l, fun _ => none, 9, 9, wide, rfl, (fun _ _ h => nomatch h), rfl, D5, by decide, by decide, by decide, by decide, hw0, hw1, fun p us S G6 H6 g6 D6 np gp ep dp ok => ?_⟩
    have ss : SS S := ss_of (by decide) (by decide) (Int.lt_trans hw1 (by decide)) ok
    have dS : Dp K H6 (.ref p) (sumsD S) := .lst (SqL.of ep) (dp.mono g6.gh)
    refine ⟨_, rfl, .ref p, S, rfl, dS, ss, fun H7 s7 => ?_⟩
    refine ⟨_, rfl, .ref p, S, rfl, dS.mono s7, ss, fun H8 s8 => ?_⟩
    try unfold tNil
    refine ⟨_, _, .str (sumsT S), rfl,  .str _, .str _, str_dep _, str_wid _, fun H9 s9 => ?_⟩
    refine ⟨_, rfl, iteF ?_⟩
    have D9 := ((D6.mono s7).mono s8).mono s9
    refine ⟨_, rfl, d, l, 10, rfl, D9, by decide, by decide, fun t Ha t0 t1 Da ba => ?_⟩
    refine ⟨2, t.toNat, 2, by rw [show ((t.toNat : Nat) : Int) = t by omega]; rfl, by decide, by decide, by omega, ?_⟩
    refine ⟨_, rfl, d, l, 10, rfl, Da, by decide, by decide, fun f Hb f0 f1 Db bb => ?_⟩
    refine ⟨by show 3 ≤ sizeLine; decide, fun A hA => ?_⟩
    have Dc := Db.upd (o := .tup [.int (2 ^ t.toNat), .int 2, .int f]) hA
    have tb : ((2 : Int) ^ t.toNat).natAbs < 1000 := by
      have : t.toNat < 10 := by omega
      have h10 : ∀ n, n < 10 → ((2 : Int) ^ n).natAbs < 1000 := by decide
      exact h10 _ this
    let Md : L2.St → Hp → Prop := fun σ H => DrawAt H d l ∧ ∃ (g : Addr) (t b f : Int) (v2 v5 : Option V), σ = [some (.ref a), some (.ref d), v2, some (.ref p), some (.ref g), v5] ∧ H g = some (.tup [.int t, .int b, .int f]) ∧ t.natAbs < 1000 ∧ b.natAbs < 1000 ∧ f.natAbs < 1000
    have eA : (upd Hb A (.tup [.int (2 ^ t.toNat), .int 2, .int f])) A = _ := upd_same
    generalize (upd Hb A (.tup [.int (2 ^ t.toNat), .int 2, .int f])) = H10 at Dc eA ⊢
    refine ⟨Md, ?_, ?_⟩
    · refine ⟨_, rfl, d, l, 3, rfl, Dc, by decide, by decide, fun q Hm q0 q1 Dm2 bm => ?_⟩
      refine ⟨rfl, _, rfl, ?_⟩
      refine ite2 (fun _ => ?_) (fun _ => ?_)
      · refine ⟨_, rfl, d, l, 9, rfl, Dm2, by decide, by decide, fun q Hn q0 q1 Dn bn => ?_⟩
        refine ⟨_, _, rfl, rfl, by show 3 ≤ sizeLine; decide, fun B hB => ?_⟩
        exact ⟨Dn.upd hB, B, _, _, _, some (.int ((0 : Int) + (i : Int))), v5, rfl, upd_same, by omega, by decide, by decide⟩
      · exact ⟨Dm2, A, _, _, _, some (.int ((0 : Int) + (i : Int))), v5, rfl, bm _ _ eA (Dc.ne_tup eA), tb, by decide, by omega⟩
    rintro σ H11 m1
    refine ⟨Md, ?_, ?_⟩
    · obtain ⟨Dm, g, t, b, f, w2, w5, rfl, hg, b1, b2, b3⟩ := m1
      refine ⟨_, rfl, d, l, 3, rfl, Dm, by decide, by decide, fun q Hm q0 q1 Dm2 bm => ?_⟩
      refine ⟨rfl, _, rfl, ?_⟩
      refine ite2 (fun _ => ?_) (fun _ => ?_)
      · refine ⟨_, rfl, by show 6 ≤ sizeLine; decide, fun B hB => ?_⟩
        have DB := Dm2.upd (o := .lst [.int 2, .int 4, .int 5, .int 6, .int 7, .int 8]) hB
        refine ⟨d, l, _, rfl, DB, .inr ⟨B, _, rfl, Dm2.ned hB, .inl (SqL.of upd_same), by decide, by decide, fun v Hn hv Dn bn => ?_⟩⟩
        obtain ⟨n, rfl, hn⟩ : ∃ n : Int, v = .int n ∧ n.natAbs < 1000 := by
          simp only [List.mem_cons, List.not_mem_nil, or_false] at hv
          rcases hv with rfl | rfl | rfl | rfl | rfl | rfl <;> exact ⟨_, rfl, by decide⟩
        refine ⟨by show 3 ≤ sizeLine; decide, fun C hC => ?_⟩
        exact ⟨Dn.upd hC, C, _, _, _, w2, w5, rfl, upd_same, hn, by decide, by decide⟩
      · exact ⟨Dm2, g, _, _, _, w2, w5, rfl, bm _ _ hg (Dm.ne_tup hg), b1, b2, b3⟩
    rintro σ H12 ⟨Dm, g, t, b, f, w2, w5, rfl, hg, b1, b2, b3⟩
    have lt := log_lt (k := 400) (Nat.lt_trans b1 (by decide)) (by decide)
    have lb := log_lt (k := 400) (Nat.lt_trans b2 (by decide)) (by decide)
    have lf := log_lt (k := 400) (Nat.lt_trans b3 (by decide)) (by decide)
    have gl := grT_len lt lb lf
    have hs := SqT.of (K := K) hg
    refine ⟨_, rfl, g, _, _, _, rfl, rfl, hs, (rfl : atI [V.int t, V.int b, V.int f] 0 = some (.int t)), _, rfl, Nat.lt_trans lt (by decide), _, _, rfl, rfl, ?_, ?_⟩
    · show (num t).length + (Str.ofString " by ").length ≤ 16777216
      unfold grT at gl
      simp only [str_len] at gl
      omega
    refine ⟨_, rfl, g, _, _, _, rfl, rfl, hs, (rfl : atI [V.int t, V.int b, V.int f] 1 = some (.int b)), _, rfl, Nat.lt_trans lb (by decide), _, _, rfl, rfl, ?_, ?_⟩
    · show (num t ++ " by ").length + (num b).length ≤ 16777216
      unfold grT at gl
      simp only [str_len] at gl ⊢
      omega
    refine ⟨_, _, rfl, rfl, ?_, ?_⟩
    · show (num t ++ " by " ++ num b).length + (Str.ofString ", figures ").length ≤ 16777216
      unfold grT at gl
      simp only [str_len] at gl ⊢
      omega
    refine ⟨_, rfl, g, _, _, _, rfl, rfl, hs, (rfl : atI [V.int t, V.int b, V.int f] 2 = some (.int f)), _, rfl, Nat.lt_trans lf (by decide), _, _, rfl, rfl, ?_, ?_⟩
    · show (num t ++ " by " ++ num b ++ ", figures ").length + (num f).length ≤ 16777216
      unfold grT at gl
      simp only [str_len] at gl ⊢
      omega
    refine ⟨_, rfl, .inr ⟨g, t, b, f, rfl, hs, lt, lb, lf, ?_⟩⟩
    refine ⟨_, rfl, ?_⟩
    try unfold tNil
    refine ⟨_, _, .str (grT t b f), rfl, .str _, .str _, str_dep _, str_wid _, fun H13 s13 => ?_⟩
    refine ⟨_, rfl, iteF ?_⟩
    exact ⟨Dm.mono s13, _, _, _, _, rfl⟩
  · rintro σ H5 ⟨D5, v2, v3, v4, v5, rfl⟩
    refine .inl ⟨rfl, ?_⟩
    refine ⟨by show 0 ≤ sizeLine; decide, fun A hA => ⟨by show 2 ≤ sizeLine; decide, fun B hB => ⟨by show 1 ≤ sizeLine; decide, fun C hC => ?_⟩⟩⟩
    have sAB := same_upd (o := .tup [.int 0, .ref A]) hB
    have sBC := same_upd (o := .lst [.ref B]) hC
    have dS : Dp K (upd (upd (upd H5 A (.lst [])) B (.tup [.int 0, .ref A])) C (.lst [.ref B])) (.ref C) (sumsD [(0, [])]) :=
      .lst (SqL.of upd_same) (.cons (.tup (xs := [.int 0, .ref A]) (SqT.of (sBC _ _ upd_same)) (.cons (.int _) (.cons (.lst (SqL.of (sBC _ _ (sAB _ _ upd_same))) .nil) .nil))) .nil)
    refine ⟨.ref C, [(0, [])], rfl, dS, ⟨by decide, fun r hr => ?_⟩, fun H7 s7 => ?_⟩
    · rw [List.mem_singleton.mp hr]
      exact ⟨by decide, by decide, fun t ht => nomatch ht⟩
    have e0 : sumsT [(0, [])] = "0: 0" := by
      unfold sumsT
      rw [List.map_singleton, join_one]
      decide
    rw [e0]
    refine ⟨by show 2 ≤ sizeLine; decide, fun D hD => ⟨by show 2 ≤ sizeLine; decide, fun F hF => ?_⟩⟩
    try unfold tNil
    refine ⟨_, _, .list [.str "none", .str "0: 0"], rfl, .lst (SqL.of (same_upd hF _ _ upd_same)) (.cons (.str _) (.cons (.str _) .nil)), .lst (SqL.of upd_same) (.cons (.str _) (.cons (.str _) .nil)), ?_, ?_, fun H8 _ => k _⟩
    · simp [dep, depAll]
    · simp [wid, widAll]
end
theorem all_mk {l : PySem.W.OpenLaw} {w : World} {K : PySem.W.Frag} {h : Heap} {mg : Str → Option Value} {fa : Addr} (X : K.In h) (G : h.Ns mainGlobals mg) (hfa : mg "law" = some (.ref fa))
    {f0 : Addr} {od0 an0 : Option Addr} {sl0 : Array (Option Value)} {oc0 kV0 dc0 pm0 cd0 ct0 : Value}
    (a0 : PySem.W.nsIn K mainGlobals "_law_begin" = some (some (.ref f0))) (l0 : K.lookup f0 = some ⟨oc0, od0, .func (PySem.W.fnOf "_law_begin" "_law_begin" (defArgs s_law_begin) (defBody s_law_begin) (defScope s_law_begin) .none kV0 dc0 pm0 an0 cd0 ct0), sl0⟩) (c0 : PySem.W.codeIn K cd0 "_law_begin" = true) (k0 : PySem.W.keepIn K (.ref f0) = true)
    {f1 : Addr} {od1 an1 : Option Addr} {sl1 : Array (Option Value)} {oc1 kV1 dc1 pm1 cd1 ct1 : Value}
    (a1 : PySem.W.nsIn K mainGlobals "_law_same" = some (some (.ref f1))) (l1 : K.lookup f1 = some ⟨oc1, od1, .func (PySem.W.fnOf "_law_same" "_law_same" (defArgs s_law_same) (defBody s_law_same) (defScope s_law_same) .none kV1 dc1 pm1 an1 cd1 ct1), sl1⟩) (c1 : PySem.W.codeIn K cd1 "_law_same" = true) (k1 : PySem.W.keepIn K (.ref f1) = true)
    {f2 : Addr} {od2 an2 : Option Addr} {sl2 : Array (Option Value)} {oc2 kV2 dc2 pm2 cd2 ct2 : Value}
    (a2 : PySem.W.nsIn K mainGlobals "_law_take" = some (some (.ref f2))) (l2 : K.lookup f2 = some ⟨oc2, od2, .func (PySem.W.fnOf "_law_take" "_law_take" (defArgs s_law_take) (defBody s_law_take) (defScope s_law_take) .none kV2 dc2 pm2 an2 cd2 ct2), sl2⟩) (c2 : PySem.W.codeIn K cd2 "_law_take" = true) (k2 : PySem.W.keepIn K (.ref f2) = true)
    {f3 : Addr} {od3 an3 : Option Addr} {sl3 : Array (Option Value)} {oc3 kV3 dc3 pm3 cd3 ct3 : Value}
    (a3 : PySem.W.nsIn K mainGlobals "_law_gcd" = some (some (.ref f3))) (l3 : K.lookup f3 = some ⟨oc3, od3, .func (PySem.W.fnOf "_law_gcd" "_law_gcd" (defArgs s_law_gcd) (defBody s_law_gcd) (defScope s_law_gcd) .none kV3 dc3 pm3 an3 cd3 ct3), sl3⟩) (c3 : PySem.W.codeIn K cd3 "_law_gcd" = true) (k3 : PySem.W.keepIn K (.ref f3) = true)
    {f4 : Addr} {od4 an4 : Option Addr} {sl4 : Array (Option Value)} {oc4 kV4 dc4 pm4 cd4 ct4 : Value}
    (a4 : PySem.W.nsIn K mainGlobals "_law_lowest" = some (some (.ref f4))) (l4 : K.lookup f4 = some ⟨oc4, od4, .func (PySem.W.fnOf "_law_lowest" "_law_lowest" (defArgs s_law_lowest) (defBody s_law_lowest) (defScope s_law_lowest) .none kV4 dc4 pm4 an4 cd4 ct4), sl4⟩) (c4 : PySem.W.codeIn K cd4 "_law_lowest" = true) (k4 : PySem.W.keepIn K (.ref f4) = true)
    {f5 : Addr} {od5 an5 : Option Addr} {sl5 : Array (Option Value)} {oc5 kV5 dc5 pm5 cd5 ct5 : Value}
    (a5 : PySem.W.nsIn K mainGlobals "_law_terms" = some (some (.ref f5))) (l5 : K.lookup f5 = some ⟨oc5, od5, .func (PySem.W.fnOf "_law_terms" "_law_terms" (defArgs s_law_terms) (defBody s_law_terms) (defScope s_law_terms) .none kV5 dc5 pm5 an5 cd5 ct5), sl5⟩) (c5 : PySem.W.codeIn K cd5 "_law_terms" = true) (k5 : PySem.W.keepIn K (.ref f5) = true)
    {f6 : Addr} {od6 an6 : Option Addr} {sl6 : Array (Option Value)} {oc6 kV6 dc6 pm6 cd6 ct6 : Value}
    (a6 : PySem.W.nsIn K mainGlobals "_law_drawn_sums" = some (some (.ref f6))) (l6 : K.lookup f6 = some ⟨oc6, od6, .func (PySem.W.fnOf "_law_drawn_sums" "_law_drawn_sums" (defArgs s_law_drawn_sums) (defBody s_law_drawn_sums) (defScope s_law_drawn_sums) .none kV6 dc6 pm6 an6 cd6 ct6), sl6⟩) (c6 : PySem.W.codeIn K cd6 "_law_drawn_sums" = true) (k6 : PySem.W.keepIn K (.ref f6) = true)
    {f7 : Addr} {od7 an7 : Option Addr} {sl7 : Array (Option Value)} {oc7 kV7 dc7 pm7 cd7 ct7 : Value}
    (a7 : PySem.W.nsIn K mainGlobals "_law_raised" = some (some (.ref f7))) (l7 : K.lookup f7 = some ⟨oc7, od7, .func (PySem.W.fnOf "_law_raised" "_law_raised" (defArgs s_law_raised) (defBody s_law_raised) (defScope s_law_raised) .none kV7 dc7 pm7 an7 cd7 ct7), sl7⟩) (c7 : PySem.W.codeIn K cd7 "_law_raised" = true) (k7 : PySem.W.keepIn K (.ref f7) = true)
    {f8 : Addr} {od8 an8 : Option Addr} {sl8 : Array (Option Value)} {oc8 kV8 dc8 pm8 cd8 ct8 : Value}
    (a8 : PySem.W.nsIn K mainGlobals "growth_text" = some (some (.ref f8))) (l8 : K.lookup f8 = some ⟨oc8, od8, .func (PySem.W.fnOf "growth_text" "growth_text" (defArgs s_growth_text) (defBody s_growth_text) (defScope s_growth_text) .none kV8 dc8 pm8 an8 cd8 ct8), sl8⟩) (c8 : PySem.W.codeIn K cd8 "growth_text" = true) (k8 : PySem.W.keepIn K (.ref f8) = true)
    {f9 : Addr} {od9 an9 : Option Addr} {sl9 : Array (Option Value)} {oc9 kV9 dc9 pm9 cd9 ct9 : Value}
    (a9 : PySem.W.nsIn K mainGlobals "part_text" = some (some (.ref f9))) (l9 : K.lookup f9 = some ⟨oc9, od9, .func (PySem.W.fnOf "part_text" "part_text" (defArgs s_part_text) (defBody s_part_text) (defScope s_part_text) .none kV9 dc9 pm9 an9 cd9 ct9), sl9⟩) (c9 : PySem.W.codeIn K cd9 "part_text" = true) (k9 : PySem.W.keepIn K (.ref f9) = true)
    {f10 : Addr} {od10 an10 : Option Addr} {sl10 : Array (Option Value)} {oc10 kV10 dc10 pm10 cd10 ct10 : Value}
    (a10 : PySem.W.nsIn K mainGlobals "term_text" = some (some (.ref f10))) (l10 : K.lookup f10 = some ⟨oc10, od10, .func (PySem.W.fnOf "term_text" "term_text" (defArgs s_term_text) (defBody s_term_text) (defScope s_term_text) .none kV10 dc10 pm10 an10 cd10 ct10), sl10⟩) (c10 : PySem.W.codeIn K cd10 "term_text" = true) (k10 : PySem.W.keepIn K (.ref f10) = true)
    {f11 : Addr} {od11 an11 : Option Addr} {sl11 : Array (Option Value)} {oc11 kV11 dc11 pm11 cd11 ct11 : Value}
    (a11 : PySem.W.nsIn K mainGlobals "sums_text" = some (some (.ref f11))) (l11 : K.lookup f11 = some ⟨oc11, od11, .func (PySem.W.fnOf "sums_text" "sums_text" (defArgs s_sums_text) (defBody s_sums_text) (defScope s_sums_text) .none kV11 dc11 pm11 an11 cd11 ct11), sl11⟩) (c11 : PySem.W.codeIn K cd11 "sums_text" = true) (k11 : PySem.W.keepIn K (.ref f11) = true)
    {f12 : Addr} {od12 an12 : Option Addr} {sl12 : Array (Option Value)} {oc12 kV12 dc12 pm12 cd12 ct12 : Value}
    (a12 : PySem.W.nsIn K mainGlobals "_law_part_text" = some (some (.ref f12))) (l12 : K.lookup f12 = some ⟨oc12, od12, .func (PySem.W.fnOf "_law_part_text" "_law_part_text" (defArgs s_law_part_text) (defBody s_law_part_text) (defScope s_law_part_text) .none kV12 dc12 pm12 an12 cd12 ct12), sl12⟩) (c12 : PySem.W.codeIn K cd12 "_law_part_text" = true) (k12 : PySem.W.keepIn K (.ref f12) = true)
    {f13 : Addr} {od13 an13 : Option Addr} {sl13 : Array (Option Value)} {oc13 kV13 dc13 pm13 cd13 ct13 : Value}
    (a13 : PySem.W.nsIn K mainGlobals "_law_sums_text" = some (some (.ref f13))) (l13 : K.lookup f13 = some ⟨oc13, od13, .func (PySem.W.fnOf "_law_sums_text" "_law_sums_text" (defArgs s_law_sums_text) (defBody s_law_sums_text) (defScope s_law_sums_text) .none kV13 dc13 pm13 an13 cd13 ct13), sl13⟩) (c13 : PySem.W.codeIn K cd13 "_law_sums_text" = true) (k13 : PySem.W.keepIn K (.ref f13) = true)
    {f14 : Addr} {od14 an14 : Option Addr} {sl14 : Array (Option Value)} {oc14 kV14 dc14 pm14 cd14 ct14 : Value}
    (a14 : PySem.W.nsIn K mainGlobals "_law_pick" = some (some (.ref f14))) (l14 : K.lookup f14 = some ⟨oc14, od14, .func (PySem.W.fnOf "_law_pick" "_law_pick" (defArgs s_law_pick) (defBody s_law_pick) (defScope s_law_pick) .none kV14 dc14 pm14 an14 cd14 ct14), sl14⟩) (c14 : PySem.W.codeIn K cd14 "_law_pick" = true) (k14 : PySem.W.keepIn K (.ref f14) = true)
    {f15 : Addr} {od15 an15 : Option Addr} {sl15 : Array (Option Value)} {oc15 kV15 dc15 pm15 cd15 ct15 : Value}
    (a15 : PySem.W.nsIn K mainGlobals "law" = some (some (.ref f15))) (l15 : K.lookup f15 = some ⟨oc15, od15, .func (PySem.W.fnOf "law" "law" (defArgs s_law) (defBody s_law) (defScope s_law) .none kV15 dc15 pm15 an15 cd15 ct15), sl15⟩) (c15 : PySem.W.codeIn K cd15 "law" = true) (k15 : PySem.W.keepIn K (.ref f15) = true)
    (z_abs : PySem.W.nsIn K mainGlobals "abs" = some none)
    (z_all : PySem.W.nsIn K mainGlobals "all" = some none)
    (z_bool : PySem.W.nsIn K mainGlobals "bool" = some none)
    (z_int : PySem.W.nsIn K mainGlobals "int" = some none)
    (z_isinstance : PySem.W.nsIn K mainGlobals "isinstance" = some none)
    (z_len : PySem.W.nsIn K mainGlobals "len" = some none)
    (z_list : PySem.W.nsIn K mainGlobals "list" = some none)
    (z_range : PySem.W.nsIn K mainGlobals "range" = some none)
    (z_sorted : PySem.W.nsIn K mainGlobals "sorted" = some none)
    (z_str : PySem.W.nsIn K mainGlobals "str" = some none)
    (z_tuple : PySem.W.nsIn K mainGlobals "tuple" = some none)
    (z_zip : PySem.W.nsIn K mainGlobals "zip" = some none)
    : ∃ fd : FuncData, (∀ (s : Shared) (v : Value), BindsTo s fd ⟨[v], []⟩ [("_law_script", v)]) ∧ ∀ base : Heap, K.In base → base.Ns mainGlobals mg → FnOk l.prog w K mg base CX0 LV fa fd ["_law_script"] (spLaw K) := by
  have e := hfa.symm.trans (PySem.W.mg_of X G a15)
  cases e
  have F0 := fun_mk (st := s_law_begin) l0 c0 k0
  have b0 := F0.binds (ps := ["_law_script"]) fun _ _ _ _ _ _ us hl => match us, hl with | [_], _ => rfl
  have F1 := fun_mk (st := s_law_same) l1 c1 k1
  have b1 := F1.binds (ps := ["_law_found", "_law_due"]) fun _ _ _ _ _ _ us hl => match us, hl with | [_, _], _ => rfl
  have F2 := fun_mk (st := s_law_take) l2 c2 k2
  have b2 := F2.binds (ps := ["_law_draw", "_law_sides"]) fun _ _ _ _ _ _ us hl => match us, hl with | [_, _], _ => rfl
  have F3 := fun_mk (st := s_law_gcd) l3 c3 k3
  have b3 := F3.binds (ps := ["_law_a", "_law_b"]) fun _ _ _ _ _ _ us hl => match us, hl with | [_, _], _ => rfl
  have F4 := fun_mk (st := s_law_lowest) l4 c4 k4
  have b4 := F4.binds (ps := ["_law_over", "_law_under"]) fun _ _ _ _ _ _ us hl => match us, hl with | [_, _], _ => rfl
  have F5 := fun_mk (st := s_law_terms) l5 c5 k5
  have b5 := F5.binds (ps := ["_law_draw", "_law_top", "_law_deep", "_law_wide"]) fun _ _ _ _ _ _ us hl => match us, hl with | [_, _, _, _], _ => rfl
  have F6 := fun_mk (st := s_law_drawn_sums) l6 c6 k6
  have b6 := F6.binds (ps := ["_law_draw", "_law_top", "_law_deep", "_law_wide"]) fun _ _ _ _ _ _ us hl => match us, hl with | [_, _, _, _], _ => rfl
  have F7 := fun_mk (st := s_law_raised) l7 c7 k7
  have b7 := F7.binds (ps := ["_law_part", "_law_upto"]) fun _ _ _ _ _ _ us hl => match us, hl with | [_, _], _ => rfl
  have F8 := fun_mk (st := s_growth_text) l8 c8 k8
  have b8 := F8.binds (ps := ["told"]) fun _ _ _ _ _ _ us hl => match us, hl with | [_], _ => rfl
  have F9 := fun_mk (st := s_part_text) l9 c9 k9
  have b9 := F9.binds (ps := ["part"]) fun _ _ _ _ _ _ us hl => match us, hl with | [_], _ => rfl
  have F10 := fun_mk (st := s_term_text) l10 c10 k10
  have b10 := F10.binds (ps := ["term"]) fun _ _ _ _ _ _ us hl => match us, hl with | [_], _ => rfl
  have F11 := fun_mk (st := s_sums_text) l11 c11 k11
  have b11 := F11.binds (ps := ["sums"]) fun _ _ _ _ _ _ us hl => match us, hl with | [_], _ => rfl
  have F12 := fun_mk (st := s_law_part_text) l12 c12 k12
  have b12 := F12.binds (ps := ["_law_part"]) fun _ _ _ _ _ _ us hl => match us, hl with | [_], _ => rfl
  have F13 := fun_mk (st := s_law_sums_text) l13 c13 k13
  have b13 := F13.binds (ps := ["_law_sums"]) fun _ _ _ _ _ _ us hl => match us, hl with | [_], _ => rfl
  have F14 := fun_mk (st := s_law_pick) l14 c14 k14
  have b14 := F14.binds (ps := ["_law_draw", "_law_row"]) fun _ _ _ _ _ _ us hl => match us, hl with | [_, _], _ => rfl
  have F15 := fun_mk (st := s_law) l15 c15 k15
  have b15 := F15.binds (ps := ["_law_script"]) fun _ _ _ _ _ _ us hl => match us, hl with | [_], _ => rfl
  let T : Txt K mg := ⟨f0, _, F0, b0, PySem.W.mg_of X G a0,
    f1, _, F1, b1, PySem.W.mg_of X G a1,
    f2, _, F2, b2, PySem.W.mg_of X G a2,
    f3, _, F3, b3, PySem.W.mg_of X G a3,
    f4, _, F4, b4, PySem.W.mg_of X G a4,
    f5, _, F5, b5, PySem.W.mg_of X G a5,
    f6, _, F6, b6, PySem.W.mg_of X G a6,
    f7, _, F7, b7, PySem.W.mg_of X G a7,
    f8, _, F8, b8, PySem.W.mg_of X G a8,
    f9, _, F9, b9, PySem.W.mg_of X G a9,
    f10, _, F10, b10, PySem.W.mg_of X G a10,
    f11, _, F11, b11, PySem.W.mg_of X G a11,
    f12, _, F12, b12, PySem.W.mg_of X G a12,
    f13, _, F13, b13, PySem.W.mg_of X G a13,
    f14, _, F14, b14, PySem.W.mg_of X G a14,
    fa, _, F15, b15, PySem.W.mg_of X G a15,
    PySem.W.mg_none_of X G z_abs,
    PySem.W.mg_none_of X G z_all,
    PySem.W.mg_none_of X G z_bool,
    PySem.W.mg_none_of X G z_int,
    PySem.W.mg_none_of X G z_isinstance,
    PySem.W.mg_none_of X G z_len,
    PySem.W.mg_none_of X G z_list,
    PySem.W.mg_none_of X G z_range,
    PySem.W.mg_none_of X G z_sorted,
    PySem.W.mg_none_of X G z_str,
    PySem.W.mg_none_of X G z_tuple,
    PySem.W.mg_none_of X G z_zip⟩
  exact ⟨_, fun s v => .of_eq rfl, fun base _ _ => ok_law T⟩
end My
open PySem PySem.W PyProof.Rows
set_option maxHeartbeats 0 in
theorem PySem.Challenge.cw_outgrow_k13_sums_written_holds : PySem.Challenge.rw_outgrow_k13_sums_written.Holds := by
  w_on; o_law; k_head; (case hw => w_witness2)
  k_fill
  refine L2.walk_of (l := PySem.Challenge.rw_outgrow_k13_sums_written) (n := 63) (k := My.LV) (x := "_law_script") (CX := fun _ => L2.CX0) (sp := fun w => My.spLaw _) rfl (by decide) rfl ⟨rfl, by decide, by decide⟩ (fun w h Y => PySem.W.kIn_of Y) ?F (fun _ _ a ns hl _ hS => ⟨a, ns, rfl, hS, hl, fun _ => rfl⟩) (fun _ _ _ _ _ h => h)
  case F =>
    intro w mg fa h KX G hmg
    refine' My.all_mk KX G hmg ?a0 ?l0 ?c0 ?k0 ?a1 ?l1 ?c1 ?k1 ?a2 ?l2 ?c2 ?k2 ?a3 ?l3 ?c3 ?k3 ?a4 ?l4 ?c4 ?k4 ?a5 ?l5 ?c5 ?k5 ?a6 ?l6 ?c6 ?k6 ?a7 ?l7 ?c7 ?k7 ?a8 ?l8 ?c8 ?k8 ?a9 ?l9 ?c9 ?k9 ?a10 ?l10 ?c10 ?k10 ?a11 ?l11 ?c11 ?k11 ?a12 ?l12 ?c12 ?k12 ?a13 ?l13 ?c13 ?k13 ?a14 ?l14 ?c14 ?k14 ?a15 ?l15 ?c15 ?k15 ?z_abs ?z_all ?z_bool ?z_int ?z_isinstance ?z_len ?z_list ?z_range ?z_sorted ?z_str ?z_tuple ?z_zip
    (case a0 => k_is)
    (case l0 => k_is)
    (case c0 => k_is)
    (case k0 => k_is)
    (case a1 => k_is)
    (case l1 => k_is)
    (case c1 => k_is)
    (case k1 => k_is)
    (case a2 => k_is)
    (case l2 => k_is)
    (case c2 => k_is)
    (case k2 => k_is)
    (case a3 => k_is)
    (case l3 => k_is)
    (case c3 => k_is)
    (case k3 => k_is)
    (case a4 => k_is)
    (case l4 => k_is)
    (case c4 => k_is)
    (case k4 => k_is)
    (case a5 => k_is)
    (case l5 => k_is)
    (case c5 => k_is)
    (case k5 => k_is)
    (case a6 => k_is)
    (case l6 => k_is)
    (case c6 => k_is)
    (case k6 => k_is)
    (case a7 => k_is)
    (case l7 => k_is)
    (case c7 => k_is)
    (case k7 => k_is)
    (case a8 => k_is)
    (case l8 => k_is)
    (case c8 => k_is)
    (case k8 => k_is)
    (case a9 => k_is)
    (case l9 => k_is)
    (case c9 => k_is)
    (case k9 => k_is)
    (case a10 => k_is)
    (case l10 => k_is)
    (case c10 => k_is)
    (case k10 => k_is)
    (case a11 => k_is)
    (case l11 => k_is)
    (case c11 => k_is)
    (case k11 => k_is)
    (case a12 => k_is)
    (case l12 => k_is)
    (case c12 => k_is)
    (case k12 => k_is)
    (case a13 => k_is)
    (case l13 => k_is)
    (case c13 => k_is)
    (case k13 => k_is)
    (case a14 => k_is)
    (case l14 => k_is)
    (case c14 => k_is)
    (case k14 => k_is)
    (case a15 => k_is)
    (case l15 => k_is)
    (case c15 => k_is)
    (case k15 => k_is)
    (case z_abs => k_is)
    (case z_all => k_is)
    (case z_bool => k_is)
    (case z_int => k_is)
    (case z_isinstance => k_is)
    (case z_len => k_is)
    (case z_list => k_is)
    (case z_range => k_is)
    (case z_sorted => k_is)
    (case z_str => k_is)
    (case z_tuple => k_is)
    (case z_zip => k_is)
#print axioms PySem.Challenge.cw_outgrow_k13_sums_written_holds
