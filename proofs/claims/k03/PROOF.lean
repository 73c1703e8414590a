import PyProof.Rows.All
import Wide.All
import OpenK.AllK
import Wide.FinOn
import HandS.ForMost
import HandS.Wide
import HandS.WideMore
import HandS.IsInst
import HandS.Style
import HandS.Codes
import HandS.Walk
import HandS.Zip
import HandS.SortRule
import HandS.Conv
import HandS.FStr
import HandS.More
import HandS.TupAny
import HandS.Replace
import HandS.ReplaceLit
import HandS.ReplaceDef
import HandS.ReplaceList
import PySem.Challenge.RW_outgrow_k03_plans_read
set_option linter.unusedVariables false
set_option Elab.async false
set_option maxRecDepth 100000
set_option maxHeartbeats 4000000
namespace My
open PySem L2
/-! ### heaps: a frozen part G, a working part H; M: what may change of what stood -/
def NoM : Addr → Prop := fun _ => False
def Only1 (d : Addr) : Addr → Prop := fun b => b = d
def But (M : Addr → Prop) (H H' : Hp) : Prop := ∀ b o, H b = some o → ¬ M b → H' b = some o
/-- something that stands there and is no tuple -/
structure Cell (o : Option HO) : Prop where
  some : o ≠ none
  tup : ∀ xs, o ≠ Option.some (.tup xs)
structure Grow (M : Addr → Prop) (G H G' H' : Hp) : Prop where
  g : Same G G'
  gh : Same G' H'
  h : But M H H'
  old : ∀ b, Cell (H b) → G' b = G b
theorem cell_lst {H : Hp} {a : Addr} {xs : List V} (h : H a = some (.lst xs)) : Cell (H a) := ⟨fun e => (by rw [h] at e; cases e), fun ys e => (by rw [h] at e; cases e)⟩
theorem cell_dK {H : Hp} {a : Addr} {xs : List (L2.Key × V)} (h : H a = some (.dK xs)) : Cell (H a) := ⟨fun e => (by rw [h] at e; cases e), fun ys e => (by rw [h] at e; cases e)⟩
theorem cell_dT {H : Hp} {a : Addr} {xs : List (List L2.Key × V)} (h : H a = some (.dT xs)) : Cell (H a) := ⟨fun e => (by rw [h] at e; cases e), fun ys e => (by rw [h] at e; cases e)⟩
theorem cell_ins {H : Hp} {a C dx : Addr} {fs : List (Str × V)} (h : H a = some (.ins C dx fs)) : Cell (H a) := ⟨fun e => (by rw [h] at e; cases e), fun ys e => (by rw [h] at e; cases e)⟩
theorem But.refl (M : Addr → Prop) (H : Hp) : But M H H := fun _ _ e _ => e
theorem But.trans {M : Addr → Prop} {H H1 H2 : Hp} (a : But M H H1) (b : But M H1 H2) : But M H H2 := fun c o e n => b c o (a c o e n) n
theorem But.mono {M M' : Addr → Prop} {H H1 : Hp} (h : ∀ b, M b → M' b) (a : But M H H1) : But M' H H1 := fun c o e n => a c o e fun z => n (h c z)
theorem But.same {H H1 : Hp} (a : But NoM H H1) : Same H H1 := fun c o e => a c o e fun z => z
theorem same_but {M : Addr → Prop} {H H1 : Hp} (a : Same H H1) : But M H H1 := fun c o e _ => a c o e
theorem same_upd {H : Hp} {p : Addr} {o : HO} (h : H p = none) : Same H (upd H p o) := fun b x e => by
  rw [upd_ne (ne_of_none e h)]
  exact e
theorem But.new {M : Addr → Prop} {H : Hp} {p : Addr} {o : HO} (h : H p = none) : But M H (upd H p o) := same_but (same_upd h)
theorem But.put {M : Addr → Prop} {H H1 : Hp} {p : Addr} {o : HO} (a : But M H H1) (h : M p) : But M H (upd H1 p o) := fun b x e n => by
  rw [upd_ne (fun z => n (by rw [z]; exact h))]
  exact a b x e n
theorem But.put0 {M : Addr → Prop} {H H1 : Hp} {p : Addr} {o : HO} (a : But M H H1) (h : H p = none) : But M H (upd H1 p o) := fun b x e n => by
  rw [upd_ne (ne_of_none e h)]
  exact a b x e n
theorem But.cell {M : Addr → Prop} {H H1 : Hp} (a : But M H H1) (hm : ∀ b, M b → Cell (H1 b)) {b : Addr} (h : Cell (H b)) : Cell (H1 b) := by
  by_cases n : M b
  · exact hm b n
  · cases e : H b with
    | none => exact absurd e h.some
    | some o =>
      rw [a b o e n]
      rw [e] at h
      exact h
theorem But.none {M : Addr → Prop} {H H1 : Hp} (a : But M H H1) (hm : ∀ b, M b → Cell (H1 b)) {b : Addr} (h : H1 b = none) : H b = none := by
  cases e : H b with
  | none => rfl
  | some o =>
    by_cases n : M b
    · exact absurd h (hm b n).some
    · rw [a b o e n] at h
      cases h
theorem Grow.refl {M : Addr → Prop} {G H : Hp} (h : Same G H) : Grow M G H G H := ⟨Same.refl _, h, But.refl _ _, fun _ _ => rfl⟩
theorem Grow.trans {M : Addr → Prop} {G H G1 H1 G2 H2 : Hp} (a : Grow M G H G1 H1) (b : Grow M G1 H1 G2 H2) (hm : ∀ c, M c → Cell (H1 c)) : Grow M G H G2 H2 :=
  ⟨a.g.trans b.g, b.gh, a.h.trans b.h, fun c hc => (b.old c (a.h.cell hm hc)).trans (a.old c hc)⟩
theorem Grow.mono {M M' : Addr → Prop} {G H G1 H1 : Hp} (h : ∀ b, M b → M' b) (a : Grow M G H G1 H1) : Grow M' G H G1 H1 := ⟨a.g, a.gh, a.h.mono h, a.old⟩
/-- a new cell -/
theorem Grow.cell {M : Addr → Prop} {G H G1 H1 : Hp} {p : Addr} {o : HO} (a : Grow M G H G1 H1) (h : H1 p = none) : Grow M G H G1 (upd H1 p o) :=
  ⟨a.g, a.gh.trans (same_upd h), a.h.trans (But.new h), a.old⟩
/-- a cell of one's own, or one of M, is written -/
theorem Grow.put {M : Addr → Prop} {G H G1 H1 : Hp} {p : Addr} {o : HO} (a : Grow M G H G1 H1) (hg : G1 p = none) (h : H p = none ∨ M p) : Grow M G H G1 (upd H1 p o) :=
  ⟨a.g, fun b x e => by rw [upd_ne (ne_of_none e hg)]; exact a.gh b x e, by rcases h with h | h; exact a.h.put0 h; exact a.h.put h, a.old⟩
/-- a cell of one's own is frozen -/
theorem Grow.pub {M : Addr → Prop} {G H G1 H1 : Hp} {p : Addr} {o : HO} (a : Grow M G H G1 H1) (h1 : H1 p = some o) (hg : G1 p = none) (h : H p = none) : Grow M G H (upd G1 p o) H1 :=
  ⟨a.g.trans (same_upd hg), fun b x e => by
    by_cases q : b = p
    · subst q
      rw [upd_same] at e
      rw [← e]
      exact h1
    · rw [upd_ne q] at e
      exact a.gh b x e, a.h, fun b hb => by
    have q : b ≠ p := fun z => hb.some (by rw [z]; exact h)
    rw [upd_ne q]
    exact a.old b hb⟩
/-- a tuple is frozen at any time -/
theorem Grow.pubT {M : Addr → Prop} {G H G1 H1 : Hp} {p : Addr} {xs : List V} (a : Grow M G H G1 H1) (h1 : H1 p = some (.tup xs)) (hm : ∀ c, M c → Cell (H1 c)) : Grow M G H (upd G1 p (.tup xs)) H1 :=
  ⟨a.g.trans (fun b x e => by
    by_cases q : b = p
    · subst q
      rw [a.gh b x e] at h1
      rw [upd_same, h1]
    · rw [upd_ne q]
      exact e), fun b x e => by
    by_cases q : b = p
    · subst q
      rw [upd_same] at e
      rw [← e]
      exact h1
    · rw [upd_ne q] at e
      exact a.gh b x e, a.h, fun b hb => by
    have q : b ≠ p := fun z => (a.h.cell hm hb).tup xs (by rw [z]; exact h1)
    rw [upd_ne q]
    exact a.old b hb⟩
theorem pub_same {G H : Hp} {p : Addr} {o : HO} (g : Same G H) (h : H p = some o) : Same G (upd G p o) := fun b x e => by
  by_cases q : b = p
  · subst q
    rw [g b x e] at h
    rw [upd_same, h]
  · rw [upd_ne q]
    exact e
/-- a new thing, frozen at once -/
theorem Grow.new {M : Addr → Prop} {G H G1 H1 : Hp} {p : Addr} {o : HO} (a : Grow M G H G1 H1) (h : H1 p = none) (hm : ∀ c, M c → Cell (H1 c)) : Grow M G H (upd G1 p o) (upd H1 p o) :=
  (a.cell h).pub upd_same (a.gh.free h) (a.h.none hm h)
theorem Grow.none {M : Addr → Prop} {G H G1 H1 : Hp} {p : Addr} (a : Grow M G H G1 H1) (hg : G p = .none) (h : Cell (H p)) : G1 p = .none := by
  rw [a.old p h]
  exact hg
/-- a cell of one's own at the heap behind -/
theorem Grow.at_ {M : Addr → Prop} {G H G1 H1 : Hp} {p : Addr} {o : HO} (a : Grow M G H G1 H1) (h : H p = some o) (n : ¬ M p) : H1 p = some o := a.h p o h n
theorem noM {P : Addr → Prop} : ∀ c, NoM c → P c := fun _ h => h.elim
theorem noMC {H : Hp} : ∀ c, NoM c → Cell (H c) := fun _ h => h.elim
theorem only1 {d : Addr} : Only1 d d := rfl

end My
namespace L2
open PySem
/-! ### data -/
theorem same_rd {H H' : Hp} {a : Addr} {u : HO} (e : Same H H') (h : Rd H a u) : Rd H' a u := by
  rcases h with h | ⟨o, h⟩
  · exact Or.inl (e a _ h)
  · exact Or.inr ⟨o, e a _ h⟩
theorem same_l {K : PySem.W.Frag} {H H' : Hp} {a : Addr} {xs : List V} (e : Same H H') (h : SqL K H a xs) : SqL K H' a xs := by
  rcases h with h | h
  · exact Or.inl (same_rd e h)
  · exact Or.inr h
theorem same_t {K : PySem.W.Frag} {H H' : Hp} {a : Addr} {xs : List V} (e : Same H H') (h : SqT K H a xs) : SqT K H' a xs := by
  rcases h with h | h
  · exact Or.inl (same_rd e h)
  · exact Or.inr h
mutual
theorem Dp.mono {K : PySem.W.Frag} {H H' : Hp} (e : Same H H') : ∀ {d : PyData} {v : V}, Dp K H v d → Dp K H' v d
  | _, _, .non => .non
  | _, _, .bl b => .bl b
  | _, _, .int i => .int i
  | _, _, .str x => .str x
  | _, _, .lst h a => .lst (same_l e h) (DpAll.mono e a)
  | _, _, .tup h a => .tup (same_t e h) (DpAll.mono e a)
theorem DpAll.mono {K : PySem.W.Frag} {H H' : Hp} (e : Same H H') : ∀ {ds : List PyData} {vs : List V}, DpAll K H vs ds → DpAll K H' vs ds
  | _, _, .nil => .nil
  | _, _, .cons a b => .cons (Dp.mono e a) (DpAll.mono e b)
end
theorem DpAll.length {K : PySem.W.Frag} {H : Hp} : ∀ {ds : List PyData} {vs : List V}, DpAll K H vs ds → vs.length = ds.length
  | _, _, .nil => rfl
  | _, _, .cons _ b => by
    rw [List.length_cons, List.length_cons, DpAll.length b]
theorem DpAll.snoc {K : PySem.W.Frag} {H : Hp} {d : PyData} {v : V} : ∀ {ds : List PyData} {vs : List V}, DpAll K H vs ds → Dp K H v d → DpAll K H (vs ++ [v]) (ds ++ [d])
  | _, _, .nil, h => .cons h .nil
  | _, _, .cons a b, h => .cons a (DpAll.snoc b h)
theorem DpAll.get {K : PySem.W.Frag} {H : Hp} : ∀ {ds : List PyData} {vs : List V} {i : Nat} {v : V}, DpAll K H vs ds → vs[i]? = some v → ∃ d, ds[i]? = some d ∧ Dp K H v d
  | _, _, _, _, .nil, h => by simp at h
  | _, _, 0, _, .cons a _, h => by
    simp at h
    subst h
    exact ⟨_, rfl, a⟩
  | _, _, i + 1, _, .cons _ b, h => by
    obtain ⟨d, e, q⟩ := DpAll.get (i := i) b (by simpa using h)
    exact ⟨d, by simpa using e, q⟩
theorem DpAll.get' {K : PySem.W.Frag} {H : Hp} : ∀ {ds : List PyData} {vs : List V} {i : Nat} {d : PyData}, DpAll K H vs ds → ds[i]? = some d → ∃ v, vs[i]? = some v ∧ Dp K H v d
  | _, _, _, _, .nil, h => by simp at h
  | _, _, 0, _, .cons a _, h => by
    simp at h
    subst h
    exact ⟨_, rfl, a⟩
  | _, _, i + 1, _, .cons _ b, h => by
    obtain ⟨d, e, q⟩ := DpAll.get' (i := i) b (by simpa using h)
    exact ⟨d, by simpa using e, q⟩

end L2
namespace My
open PySem L2
/-! ### the draw -/
structure DrawAt (H : Hp) (d l : Addr) : Prop where
  ex : ∃ (ns : List Int) (p g s : Int), H d = some (.lst [.ref l, .int p, .int g, .int s]) ∧ H l = some (.lst (ns.map V.int)) ∧ 0 ≤ p ∧ 0 ≤ g ∧ 0 ≤ s ∧ s < 2147483647 ∧ ns.length ≤ 63
theorem DrawAt.some {H : Hp} {d l : Addr} (h : DrawAt H d l) : H d ≠ none := by
  obtain ⟨ns, p, g, s, e, _⟩ := h.ex
  rw [e]
  simp
theorem DrawAt.cell {H : Hp} {d l : Addr} (h : DrawAt H d l) : Cell (H d) := by
  obtain ⟨ns, p, g, s, e, _⟩ := h.ex
  exact cell_lst e
theorem DrawAt.some' {H : Hp} {d l : Addr} (h : DrawAt H d l) : ∀ c, Only1 d c → Cell (H c) := fun c e => by
  rw [show c = d from e]
  exact h.cell
theorem DrawAt.ned {H : Hp} {d l p : Addr} (h : DrawAt H d l) (e : H p = none) : p ≠ d := fun q => h.some (by rw [← q]; exact e)
theorem DrawAt.nel {H : Hp} {d l p : Addr} (h : DrawAt H d l) (e : H p = none) : p ≠ l := fun q => by
  obtain ⟨ns, p, g, s, _, e2, _⟩ := h.ex
  rw [← q, e] at e2
  cases e2
theorem DrawAt.mono {H H' : Hp} {d l : Addr} (h : DrawAt H d l) (e : Same H H') : DrawAt H' d l := by
  obtain ⟨ns, p, g, s, e1, e2, r⟩ := h.ex
  exact ⟨⟨ns, p, g, s, e _ _ e1, e _ _ e2, r⟩⟩
theorem DrawAt.upd {H : Hp} {d l p : Addr} {o : HO} (h : DrawAt H d l) (e : H p = none) : DrawAt (upd H p o) d l := h.mono (same_upd e)
theorem DrawAt.put {H : Hp} {d l p : Addr} {o : HO} (h : DrawAt H d l) (hd : p ≠ d) (hl : p ≠ l) : DrawAt (L2.upd H p o) d l := by
  obtain ⟨ns, p', g, s, e1, e2, r⟩ := h.ex
  exact ⟨⟨ns, p', g, s, by rw [upd_ne hd.symm]; exact e1, by rw [upd_ne hl.symm]; exact e2, r⟩⟩
theorem log_small {n : Int} {k : Nat} (h0 : 0 < n) (h : n < 2 ^ k) (hk : k ≤ 9000) (k0 : 0 < k) : CDivW 0 n := by
  refine wide_div (i := 0) h0 (b := k) ?_ k0 hk
  have : ((n.natAbs : Nat) : Int) < ((2 ^ k : Nat) : Int) := by
    rw [Int.natAbs_of_nonneg (by omega)]
    simpa using h
  exact_mod_cast this
end My
namespace My
open PySem L2
/-! ### types and depth of data -/
def tyN : PyData → String
  | .none => "NoneType"
  | .bool _ => "bool"
  | .int _ => "int"
  | .str _ => "str"
  | .list _ => "list"
  | .tuple _ => "tuple"
  | .dict _ => "dict"
abbrev tyD (d : PyData) : Value := .type (tyN d)
theorem sql_ty {K : PySem.W.Frag} {H : Hp} {a : Addr} {xs : List V} (h : SqL K H a xs) : TyX K H (.ref a) (.type "list") := by
  rcases h with (h | ⟨o, h⟩) | ⟨o, its, n, h, c, _⟩
  · exact .base (.lst h)
  · exact .base (.frz h)
  · exact .kList h c
theorem sqt_ty {K : PySem.W.Frag} {H : Hp} {a : Addr} {xs : List V} (h : SqT K H a xs) : TyX K H (.ref a) (.type "tuple") := by
  rcases h with (h | ⟨o, h⟩) | ⟨o, its, n, h, c, _⟩
  · exact .base (.tup h)
  · exact .fTuple h
  · exact .kTuple h c
theorem dp_ty {K : PySem.W.Frag} {H : Hp} {v : V} {d : PyData} (h : Dp K H v d) : TyX K H v (tyD d) := by
  cases h with
  | non => exact .base .non
  | bl b => exact .base (.bl b)
  | int i => exact .base (.int i)
  | str x => exact .base (.str x)
  | lst h _ => exact sql_ty h
  | tup h _ => exact sqt_ty h
mutual
def dep : PyData → Nat
  | .list ds => depAll ds + 1
  | .tuple ds => depAll ds + 1
  | _ => 0
def depAll : List PyData → Nat
  | [] => 0
  | d :: ds => max (dep d) (depAll ds)
end
theorem dep_get : ∀ {ds : List PyData} {i : Nat} {d : PyData}, ds[i]? = some d → dep d ≤ depAll ds
  | [], _, _, h => by simp at h
  | x :: r, 0, d, h => by
    have e : x = d := by simpa using h
    rw [e, depAll]
    omega
  | x :: r, i + 1, d, h => by
    have q := dep_get (ds := r) (i := i) (d := d) (by simpa using h)
    rw [depAll]
    omega
mutual
def wid : PyData → Nat
  | .list ds => max ds.length (widAll ds)
  | .tuple ds => max ds.length (widAll ds)
  | _ => 0
def widAll : List PyData → Nat
  | [] => 0
  | d :: ds => max (wid d) (widAll ds)
end
theorem wid_get : ∀ {ds : List PyData} {i : Nat} {d : PyData}, ds[i]? = some d → wid d ≤ widAll ds
  | [], _, _, h => by simp at h
  | x :: r, 0, d, h => by
    have e : x = d := by simpa using h
    rw [e, widAll]
    omega
  | x :: r, i + 1, d, h => by
    have q := wid_get (ds := r) (i := i) (d := d) (by simpa using h)
    rw [widAll]
    omega
theorem kit2 {K : PySem.W.Frag} {t : Value} {a b : String} {r s : Bool} (h1 : PySem.W.kitOne K t (.type a) = some r) (h2 : PySem.W.kitOne K t (.type b) = some s) : PySem.W.kitAny K t [.type a, .type b] = some (r || s) := by
  refine kitAny_cons h1 (fun e => ?_) (fun e => by rw [e]; rfl)
  rw [e]
  refine kitAny_cons h2 (fun e => ?_) (fun e => by rw [e]; rfl)
  rw [e]
  exact kitAny_nil
/-- is a list, is a tuple, .. -/
def isTn (s t : String) : Bool := t == s || (t == "bool" && s == "int")
abbrev isTy (s : String) (d : PyData) : Bool := isTn s (tyN d)
theorem kit_n {K : PySem.W.Frag} (a b : String) (h : kitB a b = some (isTn b a)) : PySem.W.kitOne K (.type a) (.type b) = some (isTn b a) := kit_ty h
theorem kit_d {K : PySem.W.Frag} (d : PyData) : PySem.W.kitOne K (tyD d) (.type "list") = some (isTy "list" d) ∧ PySem.W.kitOne K (tyD d) (.type "tuple") = some (isTy "tuple" d) ∧
    PySem.W.kitOne K (tyD d) (.type "bool") = some (isTy "bool" d) ∧ PySem.W.kitOne K (tyD d) (.type "int") = some (isTy "int" d) ∧ PySem.W.kitOne K (tyD d) (.type "str") = some (isTy "str" d) := by
  cases d with
  | none => exact ⟨kit_n "NoneType" "list" (by decide +kernel), kit_n "NoneType" "tuple" (by decide +kernel), kit_n "NoneType" "bool" (by decide +kernel), kit_n "NoneType" "int" (by decide +kernel), kit_n "NoneType" "str" (by decide +kernel)⟩
  | bool _ => exact ⟨kit_n "bool" "list" (by decide +kernel), kit_n "bool" "tuple" (by decide +kernel), kit_n "bool" "bool" (by decide +kernel), kit_n "bool" "int" (by decide +kernel), kit_n "bool" "str" (by decide +kernel)⟩
  | int _ => exact ⟨kit_n "int" "list" (by decide +kernel), kit_n "int" "tuple" (by decide +kernel), kit_n "int" "bool" (by decide +kernel), kit_n "int" "int" (by decide +kernel), kit_n "int" "str" (by decide +kernel)⟩
  | str _ => exact ⟨kit_n "str" "list" (by decide +kernel), kit_n "str" "tuple" (by decide +kernel), kit_n "str" "bool" (by decide +kernel), kit_n "str" "int" (by decide +kernel), kit_n "str" "str" (by decide +kernel)⟩
  | list _ => exact ⟨kit_n "list" "list" (by decide +kernel), kit_n "list" "tuple" (by decide +kernel), kit_n "list" "bool" (by decide +kernel), kit_n "list" "int" (by decide +kernel), kit_n "list" "str" (by decide +kernel)⟩
  | tuple _ => exact ⟨kit_n "tuple" "list" (by decide +kernel), kit_n "tuple" "tuple" (by decide +kernel), kit_n "tuple" "bool" (by decide +kernel), kit_n "tuple" "int" (by decide +kernel), kit_n "tuple" "str" (by decide +kernel)⟩
  | dict _ => exact ⟨kit_n "dict" "list" (by decide +kernel), kit_n "dict" "tuple" (by decide +kernel), kit_n "dict" "bool" (by decide +kernel), kit_n "dict" "int" (by decide +kernel), kit_n "dict" "str" (by decide +kernel)⟩
abbrev clsLT : List V := [.ty "list", .ty "tuple"]
theorem pairLT : Paired ClsV clsLT [.type "list", .type "tuple"] := .cons (.ty _) (.cons (.ty _) .nil)
theorem walk_zipT {K : PySem.W.Frag} {a b : Addr} {xs ys : List V} {n : Nat} (hn : n = min xs.length ys.length) : Walk (RZ.ItzT K a b) n (fun H => SqT K H a xs ∧ SqT K H b ys) (YPair (fun i => xs[i]?) (fun i => ys[i]?)) := by
  subst hn
  refine ⟨fun i _ hi q => ?_, fun _ q => ⟨xs, ys, q.1, q.2, by omega⟩, fun i H v H' _ q y => ?_⟩
  · have h1 : i < xs.length := by omega
    have h2 : i < ys.length := by omega
    exact ⟨xs, ys, xs[i], ys[i], q.1, q.2, by simp [h1], by simp [h2]⟩
  · obtain ⟨T, x, z, h1, h2, h3, h4, h5⟩ := y
    exact ⟨T, x, z, h1, h2, h3, h4 xs q.1, h5 ys q.2⟩
theorem but_l {K : PySem.W.Frag} {M : Addr → Prop} {H H' : Hp} {a : Addr} {xs : List V} (e : But M H H') (n : ¬ M a) (h : SqL K H a xs) : SqL K H' a xs := by
  rcases h with (h | ⟨o, h⟩) | h
  · exact Or.inl (Or.inl (e a _ h n))
  · exact Or.inl (Or.inr ⟨o, e a _ h n⟩)
  · exact Or.inr h
theorem but_t {K : PySem.W.Frag} {M : Addr → Prop} {H H' : Hp} {a : Addr} {xs : List V} (e : But M H H') (n : ¬ M a) (h : SqT K H a xs) : SqT K H' a xs := by
  rcases h with (h | ⟨o, h⟩) | h
  · exact Or.inl (Or.inl (e a _ h n))
  · exact Or.inl (Or.inr ⟨o, e a _ h n⟩)
  · exact Or.inr h
end My
namespace My
open PySem L2
/-- [f sign for sign in text] -/
theorem lc_sign {te tz : TE} {σ : L2.St} {H : Hp} {Q : VK} {j : Nat} (z : Str) (f : Nat → Bool) (hz : z.length ≤ 100000) (hv : ∀ Q' : VK, Q' (.str z) H → tz σ H Q')
    (hw : ∀ x : V, wipe ((wipe σ [j]).set j (some x)) [j] = wipe σ [j]) (hs : ∀ (c : Nat) (H' : Hp) (Q' : VK), Q' (.bl (f c)) H' → te ((wipe σ [j]).set j (some (.str ⟨#[c]⟩))) H' Q')
    (k : ∀ (D : Addr) (H' : Hp), Same H H' → H D = none → H' D = some (.lst ((z.cps.toList.map f).map V.bl)) → Q (.ref D) H') : tLc (iStr tz) (gName j) tYes te [j] σ H Q := by
  refine hv _ ⟨z, rfl, fun D hD => ?_⟩
  refine lc_it walk_str (fun i H' => Same H H' ∧ H' D = some (.lst (((z.cps.toList.take i).map f).map V.bl))) ⟨same_upd hD, upd_same⟩ (fun _ _ _ _ => trivial) ?_ ?_
  · rintro i x H1 H2 hi ⟨sm, eD⟩ ⟨rfl, c, hc, rfl⟩
    refine ⟨hw _, ?_⟩
    refine hs c H2 _ ⟨_, eD, ?_, ?_, ?_⟩
    · rw [List.length_map, List.length_map, List.length_take]
      have : i < 100000 := Nat.lt_of_lt_of_le hi hz
      exact Nat.lt_of_le_of_lt (Nat.min_le_left _ _) (Nat.lt_of_lt_of_le this (by decide))
    · intro b o e
      rw [upd_ne (ne_of_none e hD)]
      exact sm b o e
    · rw [upd_same, List.take_add_one]
      have e : z.cps.toList[i]? = some c := by
        rw [Array.getElem?_toList]
        exact hc
      rw [e]
      simp
  · rintro H' ⟨sm, eD⟩
    refine k D H' sm hD ?_
    rw [eD, List.take_of_length_le (by rw [Array.length_toList]; exact Nat.le_refl _)]
theorem list_all_map {α : Type} (f : α → Bool) (l : List α) : (l.map f).all id = l.all f := by
  rw [List.all_map]
  rfl
end My
namespace My
open PySem L2
section
variable {X : Cx}
theorem iop_mulW : OpR X (inplaceOp .Mult) (rI CMulW fun i j => .int (i * j)) := opI fun _ _ _ _ _ _ _ hc q => PyProof.Rows.imul_int q hc.ok
theorem ip_mulW : PIp X .Mult (rI CMulW fun i j => .int (i * j)) := fun pins s σ H x y v u Q I rx ry h => iop_mulW pins s σ H x y v u Q I rx ry h
theorem ip_fdivW : PIp X .FloorDiv (rI CDivW fun i j => .int (i / j)) := fun pins s σ H x y v u Q I rx ry h => iop_fdivW pins s σ H x y v u Q I rx ry h
end
theorem pow_lt {b : Int} {m : Nat} (h : b.natAbs < 2 ^ m) : ∀ i : Nat, (b ^ i).natAbs < 2 ^ (m * i + 1)
  | 0 => by
    rw [Int.pow_zero, Nat.mul_zero]
    decide
  | i + 1 => by
    have q := pow_lt h i
    rw [Int.pow_succ]
    have e : m * (i + 1) + 1 = (m * i + 1) + m := by rw [Nat.mul_succ]; omega
    rw [e]
    exact wide_lt q h
/-- base, power: the power, by a product for each turn -/
def spRaised : Sp := fun vs H Q _ => ∃ (b : Int) (p m : Nat), vs = [.int b, .int p] ∧ b.natAbs < 2 ^ m ∧ 0 < m ∧ m * (p + 1) ≤ 900000 ∧ Q (.int (b ^ p)) H
theorem raised_ok {b : Int} {m p i : Nat} (h : b.natAbs < 2 ^ m) (h0 : 0 < m) (h1 : m * (p + 1) ≤ 900000) (hi : i < p) : CMulW (b ^ i) b := by
  have e1 : m * i + m ≤ m * (p + 1) := by
    rw [← Nat.mul_succ]
    exact Nat.mul_le_mul_left _ (by omega)
  exact wide_mul (pow_lt h i) h (by omega) h0 (by omega)
theorem raised_small {m p : Nat} (h0 : 0 < m) (h1 : m * (p + 1) ≤ 900000) : p < 900000 := by
  have : 1 * (p + 1) ≤ m * (p + 1) := Nat.mul_le_mul_right _ h0
  omega
end My
namespace My
open PySem L2
/-- a comprehension whose turns leave all that stood as it was: the values f i -/
theorem lc_pure {J : It} {n : Nat} {G : Hp → Prop} {Y : Nat → Hp → V → Hp → Prop} (w : Walk J n G Y) {g : TG} {te : TE} {vs : List Nat} {σ : L2.St} {H : Hp} {D : Addr} {Qd : Hp → Prop} (f : Nat → V) (hn : n ≤ 100000) (hD : H D = none) (hG : ∀ H', Same H H' → G H')
    (hs : ∀ (i : Nat) (x : V) (H1 H2 : Hp) (Q' : VK), i < n → Same H H1 → Y i H1 x H2 → (∀ H4, Same H1 H4 → Q' (f i) H4) → g x (wipe σ vs) H2 fun σ2 H3 => wipe σ2 vs = wipe σ vs ∧ te σ2 H3 Q')
    (k : ∀ H', Same H H' → H' D = some (.lst ((List.range n).map f)) → Qd H') :
    ∃ W : Nat → Nat → Hp → Prop, (∃ m, W 0 m (upd H D (.lst []))) ∧ ∀ i m H, W i m H →
      (J.stop i H ∧ Qd H) ∨ (J.go i H ∧ ∃ Nx : Hp → Prop, (∀ H', Nx H' → ∃ m', m' < m ∧ W (i + 1) m' H') ∧ ∀ x H', J.yld i H x H' → g x (wipe σ vs) H' fun σ2 H2 => wipe σ2 vs = wipe σ vs ∧ tYes σ2 H2 fun b H3 =>
        if b = true then te σ2 H3 fun y H4 => ∃ acc, H4 D = some (.lst acc) ∧ acc.length < sizeLine ∧ Nx (upd H4 D (.lst (acc ++ [y]))) else Nx H3) := by
  refine lc_it w (fun i H' => Same H H' ∧ H' D = some (.lst ((List.range i).map f))) ⟨same_upd hD, upd_same⟩ (fun i H' _ p => hG H' p.1) ?_ (fun H' p => k H' p.1 p.2)
  rintro i x H1 H2 hi ⟨sm, eD⟩ y
  refine hs i x H1 H2 _ hi sm y fun H4 s4 => ?_
  refine ⟨_, s4 _ _ eD, ?_, ?_, ?_⟩
  · rw [List.length_map, List.length_range]
    exact Nat.lt_of_lt_of_le hi (Nat.le_trans hn (by decide))
  · intro b o e
    rw [upd_ne (ne_of_none e hD)]
    exact s4 _ _ (sm b o e)
  · rw [upd_same, List.range_succ, List.map_append]
    rfl
/-- the draw's list and what was frozen -/
theorem Grow.draw {G H H' : Hp} {d : Addr} (sg : Same G H) (gd : G d = .none) (b : But (Only1 d) H H') : Grow (Only1 d) G H G H' :=
  ⟨Same.refl _, fun c o e => b c o (sg c o e) (fun q => by
    rw [show c = d from q, gd] at e
    cases e), b, fun _ _ => rfl⟩
end My
namespace My
open PySem L2
abbrev keptL : List Str := ["step", "for", "from", "to", "if", "else", "double", "call", "with", "again", "on", "halves", "thirds", "less", "n"]
end My
namespace My
open PySem L2
/-! ### texts -/
def num (i : Int) : Str := Str.ofString (toString i)
theorem str_assoc (a b c : Str) : a ++ b ++ c = a ++ (b ++ c) := congrArg Str.mk (Array.append_assoc (xs := a.cps) (ys := b.cps) (zs := c.cps))
theorem str_nil (a : Str) : Str.empty ++ a = a := congrArg Str.mk (Array.empty_append (xs := a.cps))
theorem str_nil_r (a : Str) : a ++ Str.empty = a := congrArg Str.mk (Array.append_empty (xs := a.cps))
theorem str_len (a b : Str) : (a ++ b).length = a.length + b.length := Array.size_append
theorem join_one (s x : Str) : Txt.join s [x] = x := by rw [TL.join_eq]; rfl
theorem join_nil (s : Str) : Txt.join s [] = Str.empty := by rw [TL.join_eq]; rfl
theorem join_cons {s x : Str} {l : List Str} (h : l ≠ []) : Txt.join s (x :: l) = x ++ s ++ Txt.join s l := by
  cases l with
  | nil => exact absurd rfl h
  | cons y r => rw [TL.join_eq, TL.join_eq]; rfl
theorem join_snoc {s x : Str} : ∀ {l : List Str}, l ≠ [] → Txt.join s (l ++ [x]) = Txt.join s l ++ s ++ x
  | [], h => absurd rfl h
  | [y], _ => by rw [List.singleton_append, join_cons (by simp), join_one, join_one]
  | y :: z :: r, _ => by
    have ih := join_snoc (s := s) (x := x) (l := z :: r) (by simp)
    rw [List.cons_append, join_cons (by simp), ih, join_cons (l := z :: r) (by simp)]
    simp only [str_assoc]
theorem join_len (s : Str) : ∀ l : List Str, (Txt.join s l).length ≤ (l.map (·.length)).sum + l.length * s.length
  | [] => by rw [join_nil]; exact Nat.zero_le _
  | [x] => by rw [join_one]; simp
  | x :: y :: r => by
    have ih := join_len s (y :: r)
    rw [join_cons (by simp), str_len, str_len]
    simp only [List.map_cons, List.sum_cons, List.length_cons, Nat.add_mul, Nat.one_mul] at ih ⊢
    omega
theorem sum_le {B : Nat} : ∀ {l : List Str}, (∀ x ∈ l, x.length ≤ B) → (l.map (·.length)).sum ≤ l.length * B
  | [], _ => by simp
  | x :: r, h => by
    have ih := sum_le (l := r) fun y hy => h y (List.mem_cons_of_mem _ hy)
    have h1 := h x (List.mem_cons_self ..)
    simp only [List.map_cons, List.sum_cons, List.length_cons, Nat.add_mul, Nat.one_mul]
    omega
theorem num_len {i : Int} {k : Nat} (hk : 0 < k) (h : i.natAbs.log2 < k) : (num i).length ≤ k + 1 := by
  have e := int_text_length_le hk h
  have e2 : (num i).length = (toString i).length := by
    unfold num
    rw [Str.ofString_eq_toList]
    show ((toString i).toList.map Char.toNat).toArray.size = _
    rw [List.size_toArray, List.length_map]
    rfl
  omega
theorem log_lt {i : Int} {k : Nat} (h0 : i.natAbs < 2 ^ k) (hk : 0 < k) : i.natAbs.log2 < k := by
  by_cases h : i.natAbs = 0
  · rw [h]; exact hk
  · exact (Nat.log2_lt h).mpr h0
end My
namespace L2
open PySem
theorem Dp.tup2 {K : PySem.W.Frag} {H : Hp} {v : V} {d e : PyData} (h : Dp K H v (.tuple [d, e])) : ∃ a x y, v = .ref a ∧ SqT K H a [x, y] ∧ Dp K H x d ∧ Dp K H y e := by
  cases h with
  | tup hs hr =>
    cases hr with
    | cons h1 hr =>
      cases hr with
      | cons h2 hr =>
        cases hr
        exact ⟨_, _, _, rfl, hs, h1, h2⟩
theorem Dp.lst' {K : PySem.W.Frag} {H : Hp} {v : V} {ds : List PyData} (h : Dp K H v (.list ds)) : ∃ a xs, v = .ref a ∧ SqL K H a xs ∧ DpAll K H xs ds := by
  cases h with
  | lst hs hr => exact ⟨_, _, rfl, hs, hr⟩
theorem Dp.int' {K : PySem.W.Frag} {H : Hp} {v : V} {i : Int} (h : Dp K H v (.int i)) : v = .int i := by
  cases h
  rfl
theorem Dp.str' {K : PySem.W.Frag} {H : Hp} {v : V} {x : Str} (h : Dp K H v (.str x)) : v = .str x := by
  cases h
  rfl
end L2
namespace My
open PySem L2
theorem canLay_map {α : Type} {f : α → PyData} : ∀ {l : List α}, (∀ x ∈ l, (f x).canLay0 = true) → PyData.canLayAll0 (l.map f) = true
  | [], _ => rfl
  | x :: r, h => by
    have h1 := h x (List.mem_cons_self ..)
    have h2 := canLay_map (f := f) (l := r) fun y hy => h y (List.mem_cons_of_mem _ hy)
    simp only [List.map_cons, PyData.canLayAll0, h1, h2, Bool.and_self]
theorem depth_map {α : Type} {f : α → PyData} {n : Nat} : ∀ {l : List α}, (∀ x ∈ l, (f x).depth ≤ n) → PyData.depthAll (l.map f) ≤ n
  | [], _ => Nat.zero_le _
  | x :: r, h => by
    have h1 := h x (List.mem_cons_self ..)
    have h2 := depth_map (f := f) (l := r) fun y hy => h y (List.mem_cons_of_mem _ hy)
    simp only [List.map_cons, PyData.depthAll]
    omega
theorem shaped_list {α : Type} {f : α → PyData} {l : List α} (h : ∀ x ∈ l, (f x).canLay0 = true ∧ (f x).depth ≤ 63) : SeqAt.shaped (.list (l.map f)) = true := by
  unfold SeqAt.shaped
  rw [Bool.and_eq_true, decide_eq_true_eq]
  refine ⟨?_, ?_⟩
  · unfold PyData.canLay0
    exact canLay_map fun x hx => (h x hx).1
  · unfold PyData.depth
    have := depth_map (f := f) (n := 63) (l := l) fun x hx => (h x hx).2
    omega
theorem shaped_nil : SeqAt.shaped (.list []) = true := shaped_list (α := Int) (f := PyData.int) (l := []) (by simp)
theorem eqv_nil {α : Type} (f : α → PyData) (l : List α) : PyData.eqv (.list (l.map f)) (.list []) = l.isEmpty := by
  cases l with
  | nil => rfl
  | cons x r => rfl
theorem strOk_of (s : String) : PyData.strOk (Str.ofString s) = true := by
  unfold PyData.strOk
  rw [Str.ofString_eq_toList]
  show ((s.toList.map Char.toNat).toArray).all (fun x => decide (x < 1114112)) = true
  rw [List.all_toArray]
  rw [List.all_eq_true]
  intro c hc
  obtain ⟨ch, _, rfl⟩ := List.mem_map.mp hc
  have h := ch.valid
  have : ch.toNat < 1114112 := by
    rcases h with h | h
    · exact Nat.lt_trans h (by decide)
    · exact h.2
  exact decide_eq_true this
theorem strOk_app {a b : Str} (h1 : PyData.strOk a = true) (h2 : PyData.strOk b = true) : PyData.strOk (a ++ b) = true := by
  unfold PyData.strOk at *
  show (a.cps ++ b.cps).all _ = true
  rw [Array.all_append, h1, h2]
  rfl
theorem same_put {H H1 : Hp} {p : Addr} {o : HO} (a : Same H H1) (h : H p = none) : Same H (upd H1 p o) := fun b x e => by
  rw [upd_ne (ne_of_none e h)]
  exact a b x e
theorem DpAll.at_ {K : PySem.W.Frag} {H : Hp} {α : Type} {f : α → PyData} {us : List V} {l : List α} {i : Nat} {x : V} (h : DpAll K H us (l.map f)) (hx : us[i]? = some x) : ∃ r, l[i]? = some r ∧ Dp K H x (f r) := by
  obtain ⟨d, e, q⟩ := DpAll.get h hx
  rw [List.getElem?_map] at e
  cases hr : l[i]? with
  | none => rw [hr] at e; cases e
  | some r =>
    rw [hr] at e
    exact ⟨r, rfl, by rw [Option.some.inj e]; exact q⟩
theorem take_snoc {α : Type} {l : List α} {i : Nat} {r : α} (h : l[i]? = some r) : l.take (i + 1) = l.take i ++ [r] := by
  rw [List.take_add_one, h]
  rfl
theorem range_getD {α : Type} (l : List α) (d : α) : (List.range l.length).map (fun i => l.getD i d) = l := by
  apply List.ext_getElem?
  intro i
  rw [List.getElem?_map]
  by_cases h : i < l.length
  · rw [List.getElem?_range h, List.getElem?_eq_getElem h]
    show some (l.getD i d) = some l[i]
    rw [List.getD_eq_getElem?_getD, List.getElem?_eq_getElem h]
    rfl
  · rw [List.getElem?_eq_none (by simpa using h), List.getElem?_eq_none (by omega)]
    rfl
theorem getD_of' {α : Type} {l : List α} {d r : α} {i : Nat} (h : l[i]? = some r) : l.getD i d = r := by
  rw [List.getD_eq_getElem?_getD, h]
  rfl
end My
namespace L2
open PySem
theorem Dp.tup' {K : PySem.W.Frag} {H : Hp} {v : V} {ds : List PyData} (h : Dp K H v (.tuple ds)) : ∃ a xs, v = .ref a ∧ SqT K H a xs ∧ DpAll K H xs ds := by
  cases h with
  | tup hs hr => exact ⟨_, _, rfl, hs, hr⟩
theorem DpAll.c {K : PySem.W.Frag} {H : Hp} {vs : List V} {d : PyData} {ds : List PyData} (h : DpAll K H vs (d :: ds)) : ∃ x r, vs = x :: r ∧ Dp K H x d ∧ DpAll K H r ds := by
  cases h with
  | cons a b => exact ⟨_, _, rfl, a, b⟩
theorem DpAll.n {K : PySem.W.Frag} {H : Hp} {vs : List V} (h : DpAll K H vs []) : vs = [] := by
  cases h
  rfl
end L2
namespace My
open PySem L2
theorem inV_strs (x : Str) (l : List Str) : inV (.str x) (l.map V.str) = decide (x ∈ l) := by
  induction l with
  | nil => rfl
  | cons y r ih =>
    rw [List.map_cons]
    show (eqV (.str y) (.str x) || inV (.str x) (r.map V.str)) = _
    rw [ih]
    have e : eqV (.str y) (.str x) = decide (y = x) := by
      unfold eqV
      by_cases h : y = x
      · simp [h]
      · simp [h]
    rw [e]
    by_cases h : x = y
    · subst h
      simp
    · have h2 : ¬ y = x := fun q => h q.symm
      simp [h, h2]
theorem flat_strs (l : List Str) : (l.map V.str).all flatV = true := by
  rw [List.all_map, List.all_eq_true]
  intro x _
  rfl
end My
namespace My
open PySem PySem.Spec PyProof.Rows L2
section
variable {prog : Program} {w : World} {A : Around} {E : Value → Shared → Prop} {s : Shared}
theorem walks_tupleFrom {A : Around} (hh : A.handled = none) (I ax : Addr) (hne : ax ≠ I) (items : Array Value) (k : Nat) (hk : k ≤ items.size) :
    Walks prog w A I [I, ax] [I] (items.size - k) (fun i v => items[k + i]? = some v) (fun i h => h.IsTupleIter I ax (k + i) ∧ h.IsTuple ax items) where
  sub := fun b hb => by simp at hb; simp [hb]
  frame := fun _ _ _ st hk => ⟨st.1.at fun o e => hk I (by simp) o e, st.2.at fun o e => hk ax (by simp) o e⟩
  item := fun i s Q E hi st hQ => by
    have hi' : k + i < items.size := by omega
    refine wpAny_pyNext_tuple_item st.1 st.2 (x := items[k + i]) (by simp [hi']) fun h' hit' hs' => ?_
    exact hQ _ h' s.toks (by simp [hi']) ⟨hit', st.2.extBut hs'.extBut hne⟩ fun b o hb e => hs'.extBut b o (fun h => hb (by simp [h])) e
  done := fun s Q E st hQ => wpAny_pyNext_tuple_end hh st.1 st.2 (by simp; omega) fun h' he' => hQ h' s.toks fun b o hb e => he' b o (fun h => hb (by simp [h])) e
  self := fun _ _ _ _ st hQ => wpAny_pyIter_tupleiter st.1 hQ
theorem itemsOf_eq {items acc : Array Value} {x : Value} {r : List Value} (e : items = (x :: r).toArray) (h : ItemsOf (fun i v => items[1 + i]? = some v) acc (items.size - 1)) : acc.toList = r := by
  subst e
  obtain ⟨h1, h2⟩ := h
  have hs : acc.size = r.length := by rw [h1]; simp
  apply List.ext_getElem?
  intro i
  by_cases hi : i < r.length
  · have e1 : acc[i]? = some acc[i] := Array.getElem?_eq_getElem (by omega)
    have e2 := h2 i _ e1
    rw [Array.getElem?_toList, e1]
    have e2 : (x :: r).toArray[1 + i]? = some acc[i] := e2
    rw [Nat.add_comm] at e2
    simpa using e2.symm
  · rw [Array.getElem?_toList, Array.getElem?_eq_none (by omega), List.getElem?_eq_none (by omega)]
theorem unpackItems_star1 {t : Addr} {x : Value} {r : List Value} {Q : List Value → Shared → Prop} (hh : A.handled = none) (ht : s.heap.IsTuple t (x :: r).toArray) (hz : r.length ≤ sizeLine)
    (hQ : ∀ (h' : Heap) (tk : Nat), (∀ b o, s.heap.get? b = some o → h'.get? b = some o) → Q [x, .ref h'.objs.size] { s with heap := h'.push { cls := .type "list", data := .seq r.toArray }, toks := tk }) :
    wpAny (model prog w) A (unpackItems (.ref t) 2 (some 1)) Q E s := by
  have hlt : t ≠ s.heap.objs.size := by obtain ⟨o, ho, _⟩ := ht; exact Nat.ne_of_lt (Heap.lt_size ho)
  unfold unpackItems
  refine wpAny_bind ?_
  · unfold notIterableAtAll
    refine wpAny_bind (wpAny_specialOf ht.typeIs F.slot_tuple_iter.lookup ?_)
    refine wpAny_pure ?_
    simp only [Bool.false_eq_true, if_false]
    refine wpAny_bind (wpAny_holding (wpAny_pyIter_tuple ht ?_))
    refine wpAny_bind (wpAny_holding (wpAny_draw_tuple hlt 1 0 _ _ ⟨_, Heap.get?_push_size _ rfl, rfl, rfl⟩ (ht.push _) (by simp) fun h₁ hit₁ hs₁ => ?_))
    rw [if_neg (by simp)]
    have ht₁ : h₁.IsTuple t (x :: r).toArray := (ht.push _).extBut hs₁.extBut hlt
    have W := (walks_tupleFrom (prog := prog) (w := w) (A := A.in1) hh s.heap.objs.size t hlt (x :: r).toArray 1 (by simp)).toS
    refine wpAny_bind (wpAny_holding (wpAny_collect_iter (T := "tuple_iterator") (.inr (.inr (.inr rfl))) W (fun i s st => st.1.typeIs) ⟨by simpa using hit₁, ht₁⟩ ?_ (by simp) (fun s' acc hm hi => ?_) (by simpa using hz)))
    · intro b hb
      have h1 := hit₁
      obtain ⟨o, ho, _⟩ := hit₁
      obtain ⟨o2, ho2, _⟩ := ht₁
      simp only [List.mem_cons, List.not_mem_nil, or_false] at hb
      rcases hb with rfl | rfl
      · exact Heap.lt_size ho
      · exact Heap.lt_size ho2
    · have ea := itemsOf_eq rfl hi
      rw [ea]
      rw [Moved.eq_with hm]
      rw [if_neg (by simp)]
      have e1 : List.take (r.length - (2 - 1 - 1)) r = r := List.take_of_length_le (by omega)
      have e2 : List.drop (r.length - (2 - 1 - 1)) r = [] := List.drop_of_length_le (by omega)
      rw [e1, e2]
      refine wpAny_bind (wpAny_newObj_type ?_)
      refine wpAny_pure ?_
      have kk : ∀ b o, s.heap.get? b = some o → s'.heap.get? b = some o := fun b o e => by
        have nb : b ≠ s.heap.objs.size := Nat.ne_of_lt (Heap.lt_size e)
        exact hm.heap b o (by simpa using nb) (hs₁.extBut b o nb (Heap.get?_push_of_some _ e))
      exact hQ _ _ kk
theorem assign_star1 {env : Env} {elts : List Expr} {x1} {pos : Pos} {t : Addr} {x : Value} {r : List Value} {Q : Unit → Shared → Prop} (hh : A.handled = none) (ht : s.heap.IsTuple t (x :: r).toArray) (hz : r.length ≤ sizeLine)
    (hn : (assignEach elts env).length = 2) (hstar : (assignEach elts env).findIdx? (·.1) = some 1)
    (h : ∀ (h' : Heap) (tk : Nat), (∀ b o, s.heap.get? b = some o → h'.get? b = some o) →
      wpAny (model prog w) A (assignInOrder ((assignEach elts env).map (·.2)) [x, .ref h'.objs.size]) Q E { s with heap := h'.push { cls := .type "list", data := .seq r.toArray }, toks := tk }) :
    wpAny (model prog w) A (assign (.Tuple elts x1 pos) env (.ref t)) Q E s := by
  rw [assign_Tuple]
  refine wpAny_bind (wpAny_standAt ?_)
  unfold unpack
  rw [hn, hstar]
  exact wpAny_bind (wpAny_holding (unpackItems_star1 hh ht hz h))
end
section
variable {X : Cx} {pos : Pos}
/-- x, *r = a tuple -/
def gStar (K : PySem.W.Frag) (g0 g1 : TG) : TG := fun v σ H Q => ∃ a x xs, v = .ref a ∧ SqT K H a (x :: xs) ∧ ∀ p, H p = none → g0 x σ (upd H p (.lst xs)) fun σ1 H1 => g1 (.ref p) σ1 H1 Q
theorem pg_star {e0 e1 : Expr} {p1 : Pos} {k : Nat} {g0 g1 : TG} (hc : X.calm = true) (h0 : PG X e0 g0) (h1 : PG X e1 g1)
    (hn : (assignEach [e0, .Starred e1 p1] X.env).length = 2 := by rfl) (hst : (assignEach [e0, .Starred e1 p1] X.env).findIdx? (·.1) = some 1 := by rfl)
    (hm : (assignEach [e0, .Starred e1 p1] X.env).map (·.2) = [assign e0 X.env, assign e1 X.env] := by rfl) : PG X (.Tuple [e0, .Starred e1 p1] k pos) (gStar X.K g0 g1) := by
  refine ⟨fun pins s σ H v u Q I r hw => ?_⟩
  obtain ⟨a, x, xs, e1', hq, hw⟩ := hw
  subst e1'
  cases r
  obtain ⟨its, rv, ht, hz⟩ := I.tuple hq
  cases rv with
  | @cons _ y _ ys rx rr =>
    have hl := rr.length
    refine assign_star1 (I.ok.hd hc) ht (by simp at hz; omega) hn hst fun h' tk kk => ?_
    have I1 : Inv X pins σ H { s with heap := h', toks := tk } := I.kept kk
    have I2 := I1.lnew (t' := tk) rr (by simp at hz; omega)
    rw [hm]
    refine assignInOrder_cons (thn (h0.run pins _ σ _ x _ _ I2 rx (hw h'.objs.size I1.fresh)) fun _ s1 ⟨σ1, H1, I3, q1⟩ => ?_)
    refine assignInOrder_cons (thn (h1.run pins s1 σ1 H1 (.ref h'.objs.size) _ _ I3 rfl q1) fun _ s2 ⟨σ2, H2, I4, q2⟩ => ?_)
    exact assignInOrder_nil ⟨σ2, H2, I4, q2⟩
/-- a text, many times -/
def repS (x : Str) (k : Nat) : Str := ⟨(List.replicate k x.cps).foldl (· ++ ·) #[]⟩
theorem op_repS : OpR X (binaryOp .Mult) (fun x y H Q => ∃ (i : Str) (k : Int), x = .str i ∧ y = .int k ∧ 2 ≤ k ∧ k < 2 ^ 20 ∧ 0 < i.length ∧ i.length * k.toNat ≤ 2 ^ 20 ∧ (repS i k.toNat).length ≤ sizeLine ∧ Q (.str (repS i k.toNat)) H) := by
  intro pins s σ H x y v u Q I rx ry h
  obtain ⟨i, k, rfl, rfl, h1, h2, h3, h4, h5, q⟩ := h
  obtain ⟨t, rfl⟩ := rx
  obtain ⟨t', rfl⟩ := ry
  have n1 : ¬ k < 1 := by omega
  have n2 : (k == 1 || i.length == 0) = false := by
    rw [Bool.or_eq_false_iff]
    exact ⟨beq_false_of_ne (by omega), beq_false_of_ne (by omega)⟩
  refine PySem.P.mul_str ?_ (fun _ _ => ?_) (fun _ _ => ?_) ?_
  · rw [decide_eq_false (by omega), decide_eq_false (by omega)]
    rfl
  · have e : (i.length : Int) ≤ 2 ^ 20 := by
      have := Nat.le_mul_of_pos_right i.length (show 0 < k.toNat by omega)
      omega
    have : (2 ^ 63 - 1 : Int) / 2 ^ 20 ≤ (2 ^ 63 - 1) / k := by
      rw [Int.le_ediv_iff_mul_le (by omega)]
      have e3 : (2 ^ 63 - 1 : Int) / 2 ^ 20 * k ≤ (2 ^ 63 - 1) / 2 ^ 20 * 2 ^ 20 := Int.mul_le_mul_of_nonneg_left (by omega) (by decide)
      exact Int.le_trans e3 (by decide)
    have e2 : (2 ^ 20 : Int) ≤ (2 ^ 63 - 1) / 2 ^ 20 := by decide
    omega
  · unfold Builtin.Str.tooLong
    rw [decide_eq_false]
    exact Nat.not_lt.mpr (Nat.le_trans h4 (by decide))
  · rw [if_neg n1, if_neg (by rw [n2]; decide)]
    exact ⟨h5, ⟨.str (repS i k.toNat), H, I.tok _, ⟨_, rfl⟩, q⟩⟩
end
end My
namespace My
open PySem L2
/-! ### plans as data -/
abbrev En := Str × Int
inductive Thing where
  | step (n : Int)
  | call (nm : Str) (e : En)
  | double (b : List Thing)
  | loop (nm : Str) (e1 e2 : En) (b : List Thing)
  | test (e1 e2 : En) (b1 b2 : List Thing)
  | again (n : Int) (w : Str)
def endD (e : En) : PyData := .tuple [.str e.1, .int e.2]
mutual
def thingD : Thing → PyData
  | .step n => .tuple [.str "step", .int n]
  | .call nm e => .tuple [.str "call", .str nm, endD e]
  | .double b => .tuple [.str "double", .tuple (thingsD b)]
  | .loop nm e1 e2 b => .tuple [.str "for", .str nm, endD e1, endD e2, .tuple (thingsD b)]
  | .test e1 e2 b1 b2 => .tuple [.str "if", endD e1, endD e2, .tuple (thingsD b1), .tuple (thingsD b2)]
  | .again n w => .tuple [.str "again", .int n, .str w]
def thingsD : List Thing → List PyData
  | [] => []
  | t :: r => thingD t :: thingsD r
end
def planD (b : List Thing) : PyData := .tuple (thingsD b)
theorem thingsD_eq : ∀ b : List Thing, thingsD b = b.map thingD
  | [] => by simp [thingsD]
  | t :: r => by simp [thingsD, thingsD_eq r]
mutual
/-- how many things -/
def thingC : Thing → Nat
  | .double b => thingsC b + 1
  | .loop _ _ _ b => thingsC b + 1
  | .test _ _ b1 b2 => thingsC b1 + thingsC b2 + 1
  | _ => 1
def thingsC : List Thing → Nat
  | [] => 0
  | t :: r => thingC t + thingsC r
end
structure Kit where
  kn : List (Str × (Bool × Int × Int))
  fig : Bool
  wide : Bool
def NameOk (nm : Str) : Prop := 1 ≤ nm.length ∧ nm.length ≤ 8 ∧ (∀ c ∈ nm.cps.toList, 97 ≤ c ∧ c ≤ 122) ∧ nm ∉ keptL
def EndOk (wide : Bool) (sc : List Str) (e : En) : Prop := e.2.natAbs < (if wide then 100 else 5) ∧ ((e.1 = "" ∧ 0 ≤ e.2) ∨ e.1 ∈ sc)
mutual
def ThOk (k : Kit) : Thing → List Str → Nat → Prop
  | .step n => fun _ _ => 0 ≤ n ∧ n < 100
  | .call nm e => fun sc deep => ∃ en : Bool × Int × Int, (nm, en) ∈ k.kn ∧ en.2.1 + deep < 9 ∧ en.2.2 < 4 ∧ EndOk k.wide sc e ∧ (en.1 = true → e.1 = "" ∨ e = ((Str.ofString "n", 0) : En))
  | .double b => fun sc deep => deep ≤ 3 ∧ k.fig = true ∧ 1 ≤ b.length ∧ b.length ≤ 3 ∧ BdOk k b sc (deep + 1)
  | .loop nm e1 e2 b => fun sc deep => deep ≤ 3 ∧ NameOk nm ∧ nm ∉ sc ∧ EndOk k.wide sc e1 ∧ EndOk k.wide sc e2 ∧ 1 ≤ b.length ∧ b.length ≤ 3 ∧ BdOk k b (sc ++ [nm]) (deep + 1)
  | .test e1 e2 b1 b2 => fun sc deep => deep ≤ 3 ∧ EndOk k.wide sc e1 ∧ EndOk k.wide sc e2 ∧ 1 ≤ b1.length ∧ b1.length ≤ 3 ∧ b2.length ≤ 3 ∧ BdOk k b1 sc (deep + 1) ∧ BdOk k b2 sc (deep + 1)
  | .again _ _ => fun _ _ => False
def BdOk (k : Kit) : List Thing → List Str → Nat → Prop
  | [] => fun _ _ => True
  | t :: r => fun sc deep => ThOk k t sc deep ∧ BdOk k r sc deep
end
theorem BdOk.nil {k : Kit} {sc : List Str} {deep : Nat} : BdOk k [] sc deep := by simp [BdOk]
theorem BdOk.snoc {k : Kit} {sc : List Str} {deep : Nat} {t : Thing} (h : ThOk k t sc deep) : ∀ {b : List Thing}, BdOk k b sc deep → BdOk k (b ++ [t]) sc deep
  | [], _ => by
    rw [List.nil_append, BdOk]
    exact ⟨h, .nil⟩
  | x :: r, q => by
    rw [BdOk] at q
    rw [List.cons_append, BdOk]
    exact ⟨q.1, BdOk.snoc h q.2⟩
theorem BdOk.mem {k : Kit} {sc : List Str} {deep : Nat} {t : Thing} : ∀ {b : List Thing}, BdOk k b sc deep → t ∈ b → ThOk k t sc deep
  | [], _, h => nomatch h
  | x :: r, q, h => by
    rw [BdOk] at q
    rcases List.mem_cons.mp h with rfl | h
    · exact q.1
    · exact BdOk.mem q.2 h
theorem thingsC_snoc (t : Thing) : ∀ b : List Thing, thingsC (b ++ [t]) = thingsC b + thingC t
  | [] => by simp [thingsC]
  | x :: r => by
    rw [List.cons_append, thingsC, thingsC_snoc t r, thingsC]
    omega
theorem thingC_pos (t : Thing) : 1 ≤ thingC t := by
  cases t <;> simp [thingC]
theorem thingsC_len : ∀ b : List Thing, b.length ≤ thingsC b
  | [] => Nat.zero_le _
  | t :: r => by
    have := thingsC_len r
    have := thingC_pos t
    rw [thingsC, List.length_cons]
    omega
def letters : Str := "abcdefghijklmnopqrstuvwxyz"
theorem letters_ok : ∀ c ∈ letters.cps.toList, 97 ≤ c ∧ c ≤ 122 := by decide +kernel
theorem join_signs (cs : List Nat) : Txt.join "" (cs.map fun c => (⟨#[c]⟩ : Str)) = ⟨cs.toArray⟩ := by
  induction cs with
  | nil => rw [List.map_nil, join_nil]; rfl
  | cons c r ih =>
    cases r with
    | nil => rw [List.map_singleton, join_one]
    | cons x l =>
      rw [List.map_cons, join_cons (by simp), ih]
      show (⟨#[c]⟩ : Str) ++ Str.empty ++ ⟨(x :: l).toArray⟩ = _
      rw [str_nil_r]
      show (⟨#[c] ++ (x :: l).toArray⟩ : Str) = _
      simp
def spares : List Str := letters.cps.toList.map fun c => repS ⟨#[c]⟩ 2
theorem spares_ok : ∀ x ∈ spares, x.length = 2 ∧ (∀ c ∈ x.cps.toList, 97 ≤ c ∧ c ≤ 122) ∧ x ∉ keptL := by decide +kernel
theorem spares_nd : spares.Nodup := by decide +kernel
theorem spares_len : spares.length = 26 := by decide +kernel
theorem nodup_len {α : Type} [DecidableEq α] : ∀ {l m : List α}, l.Nodup → (∀ x ∈ l, x ∈ m) → l.length ≤ m.length
  | [], _, _, _ => Nat.zero_le _
  | x :: r, m, nd, h => by
    rw [List.nodup_cons] at nd
    have hx := h x (List.mem_cons_self ..)
    have ih := nodup_len (l := r) (m := m.erase x) nd.2 fun y hy => (List.mem_erase_of_ne (fun e => nd.1 (by rw [← e]; exact hy))).mpr (h y (List.mem_cons_of_mem _ hy))
    rw [List.length_erase_of_mem hx] at ih
    have := List.length_pos_of_mem hx
    rw [List.length_cons]
    omega
theorem spare_free {taken : List Str} (h : taken.length ≤ 25) : ∃ x, x ∈ spares ∧ x ∉ taken := by
  by_cases c : ∃ x, x ∈ spares ∧ x ∉ taken
  · exact c
  · exfalso
    have sub : ∀ x ∈ spares, x ∈ taken := fun x hx => by
      by_cases q : x ∈ taken
      · exact q
      · exact absurd ⟨x, hx, q⟩ c
    have := nodup_len spares_nd sub
    rw [spares_len] at this
    omega
end My
namespace My
open PySem L2
/-- the kit of a drawing: what is left, the plans that may be called, figures, wide -/
def KitAt (H : Hp) (kc dk : Addr) (r : Int) (k : Kit) : Prop := H kc = some (.lst [.int r, .ref dk, .bl k.fig, .bl k.wide])
structure KnAt (G : Hp) (dk : Addr) (kn : List (Str × (Bool × Int × Int))) : Prop where
  len : kn.length < 60
  ok : ∀ e ∈ kn, NameOk e.1
  ex : ∃ kvs : List (L2.Key × V), G dk = some (.dK kvs) ∧ kvs.map (·.1) = (kn.map (·.1)).map Sum.inr ∧
    ∀ nm, nm ∈ kn.map (·.1) → ∃ (en : Bool × Int × Int) (p : Addr), (nm, en) ∈ kn ∧ valV kvs (Sum.inr nm) = some (.ref p) ∧ G p = some (.tup [.bl en.1, .int en.2.1, .int en.2.2])
theorem KnAt.mono {G G' : Hp} {dk : Addr} {kn : List (Str × (Bool × Int × Int))} (h : KnAt G dk kn) (s : Same G G') : KnAt G' dk kn := by
  obtain ⟨kvs, e1, e2, e3⟩ := h.ex
  refine ⟨h.len, h.ok, kvs, s _ _ e1, e2, fun nm hn => ?_⟩
  obtain ⟨en, p, q1, q2, q3⟩ := e3 nm hn
  exact ⟨en, p, q1, q2, s _ _ q3⟩
theorem KitAt.ne {H : Hp} {kc dk d l : Addr} {r : Int} {k : Kit} (h : KitAt H kc dk r k) (D : DrawAt H d l) : kc ≠ d := by
  rintro rfl
  obtain ⟨ns, p, z, s, e, _⟩ := D.ex
  rw [h] at e
  cases e
theorem strOk_name {nm : Str} (h : NameOk nm) : PyData.strOk nm = true := by
  unfold PyData.strOk
  rw [← Array.all_toList, List.all_eq_true]
  intro c hc
  have := (h.2.2.1 c hc).2
  exact decide_eq_true (by omega)
end My
namespace My
open PySem L2
def Two (d c : Addr) : Addr → Prop := fun b => b = d ∨ b = c
theorem two_cell {H : Hp} {d l kc dk : Addr} {r : Int} {k : Kit} (D : DrawAt H d l) (kit : KitAt H kc dk r k) : ∀ c, Two d kc c → Cell (H c) := by
  rintro c (rfl | rfl)
  · exact D.cell
  · exact cell_lst kit
theorem KitAt.nel {H : Hp} {kc dk d l : Addr} {r : Int} {k : Kit} (h : KitAt H kc dk r k) (D : DrawAt H d l) : kc ≠ l := by
  rintro rfl
  obtain ⟨ns, p, z, s, _, e, _⟩ := D.ex
  rw [h] at e
  cases ns with
  | nil => cases e
  | cons a ns =>
    cases ns with
    | nil => cases e
    | cons b ns => cases e
theorem Grow.one {d c : Addr} {G H G' H' : Hp} (g : Grow (Only1 d) G H G' H') : Grow (Two d c) G H G' H' := g.mono fun _ e => .inl e
theorem KitAt.but {H H' : Hp} {kc dk d : Addr} {r : Int} {k : Kit} (h : KitAt H kc dk r k) (n : kc ≠ d) (b : But (Only1 d) H H') : KitAt H' kc dk r k := b _ _ h n
/-- thing and body promises -/
def spThing (K : PySem.W.Frag) (f : Nat) : Sp := fun vs H Q _ => ∃ (d l kc dk sa : Addr) (sc : List Str) (k : Kit) (r : Int) (deep : Nat) (G : Hp), vs = [.ref d, .ref kc, .ref sa, .int (deep : Nat)] ∧ Same G H ∧ G d = none ∧ G kc = none ∧ DrawAt H d l ∧ KitAt H kc dk r k ∧ KnAt G dk k.kn ∧
  G sa = some (.lst (sc.map V.str)) ∧ (Str.ofString "n") ∈ sc ∧ sc.length ≤ deep + 10 ∧ 1 ≤ r ∧ deep ≤ 4 ∧ 5 ≤ deep + f ∧
  ∀ (v : V) (t : Thing) (G' H' : Hp), Grow (Two d kc) G H G' H' → DrawAt H' d l → KitAt H' kc dk (r - thingC t) k → (thingC t : Int) ≤ r → Dp K G' v (thingD t) → ThOk k t sc deep → Q v H'
def spBody (K : PySem.W.Frag) (f : Nat) : Sp := fun vs H Q _ => ∃ (d l kc dk sa : Addr) (sc : List Str) (k : Kit) (r : Int) (deep : Nat) (G : Hp), vs = [.ref d, .ref kc, .ref sa, .int (deep : Nat)] ∧ Same G H ∧ G d = none ∧ G kc = none ∧ DrawAt H d l ∧ KitAt H kc dk r k ∧ KnAt G dk k.kn ∧
  G sa = some (.lst (sc.map V.str)) ∧ (Str.ofString "n") ∈ sc ∧ sc.length ≤ deep + 10 ∧ 1 ≤ r ∧ deep ≤ 4 ∧ 5 ≤ deep + f ∧
  ∀ (v : V) (b : List Thing) (G' H' : Hp), Grow (Two d kc) G H G' H' → DrawAt H' d l → KitAt H' kc dk (r - thingsC b) k → (thingsC b : Int) ≤ r → Dp K G' v (planD b) → BdOk k b sc deep → 1 ≤ b.length → b.length ≤ 3 → Q v H'
end My
namespace My
open PySem L2
/-! ### plans as texts -/
def endT (e : En) : Str := if e.1 = "" then num e.2 else if e.2 = 0 then e.1 else if 0 < e.2 then e.1 ++ " + " ++ num e.2 else e.1 ++ " - " ++ num (0 - e.2)
mutual
def thingT : Thing → Str
  | .step n => "step " ++ num n
  | .call nm e => "call " ++ nm ++ " with " ++ endT e
  | .double b => "double (" ++ planT b ++ ")"
  | .loop nm e1 e2 b => "for " ++ nm ++ " from " ++ endT e1 ++ " to " ++ endT e2 ++ " (" ++ planT b ++ ")"
  | .test e1 e2 b1 b2 => if b2.isEmpty then "if " ++ endT e1 ++ " <= " ++ endT e2 ++ " (" ++ planT b1 ++ ")" else "if " ++ endT e1 ++ " <= " ++ endT e2 ++ " (" ++ planT b1 ++ ")" ++ " else (" ++ planT b2 ++ ")"
  | .again n w => "again " ++ num n ++ " on " ++ w
def planT : List Thing → Str
  | [] => ""
  | [t] => thingT t
  | t :: u :: r => thingT t ++ "; " ++ planT (u :: r)
end
theorem planT_eq : ∀ b : List Thing, planT b = Txt.join "; " (b.map thingT)
  | [] => by
    rw [planT, List.map_nil, join_nil]
    rfl
  | [t] => by
    rw [planT, List.map_singleton, join_one]
  | t :: u :: r => by
    rw [planT, planT_eq (u :: r), List.map_cons (a := t), join_cons (l := (u :: r).map thingT) (by simp)]
/-- small names and numbers -/
def NmS (x : Str) : Prop := x.length ≤ 100 ∧ PyData.strOk x = true
def EnS (e : En) : Prop := NmS e.1 ∧ e.2.natAbs.log2 < 400
mutual
def ThS : Thing → Prop
  | .step n => n.natAbs.log2 < 400
  | .call nm e => NmS nm ∧ EnS e
  | .double b => BdS b
  | .loop nm e1 e2 b => NmS nm ∧ EnS e1 ∧ EnS e2 ∧ BdS b
  | .test e1 e2 b1 b2 => EnS e1 ∧ EnS e2 ∧ BdS b1 ∧ BdS b2
  | .again n w => n.natAbs.log2 < 400 ∧ NmS w
def BdS : List Thing → Prop
  | [] => True
  | t :: r => ThS t ∧ BdS r
end
theorem BdS.mem {t : Thing} : ∀ {b : List Thing}, BdS b → t ∈ b → ThS t
  | [], _, h => nomatch h
  | x :: r, q, h => by
    rw [BdS] at q
    rcases List.mem_cons.mp h with rfl | h
    · exact q.1
    · exact BdS.mem q.2 h
theorem BdS.of : ∀ {b : List Thing}, (∀ t ∈ b, ThS t) → BdS b
  | [], _ => by simp [BdS]
  | x :: r, q => by
    rw [BdS]
    exact ⟨q x (List.mem_cons_self ..), BdS.of fun t h => q t (List.mem_cons_of_mem _ h)⟩
theorem neg_log {i : Int} : (0 - i).natAbs = i.natAbs := by omega
theorem endT_len {e : En} (h : EnS e) : (endT e).length ≤ 504 := by
  have h1 := num_len (by decide) h.2
  have h2 := num_len (i := 0 - e.2) (k := 400) (by decide) (by rw [neg_log]; exact h.2)
  have h3 := h.1.1
  have e1 : (Str.ofString " + ").length = 3 := by decide
  have e2 : (Str.ofString " - ").length = 3 := by decide
  unfold endT
  split
  · omega
  · split
    · omega
    · split
      · rw [str_len, str_len, e1]; omega
      · rw [str_len, str_len, e2]; omega
theorem s_len1 : (Str.ofString "step ").length = 5 ∧ (Str.ofString "call ").length = 5 ∧ (Str.ofString " with ").length = 6 ∧ (Str.ofString "double (").length = 8 ∧ (Str.ofString ")").length = 1 ∧ (Str.ofString "for ").length = 4 ∧ (Str.ofString " from ").length = 6 ∧ (Str.ofString " to ").length = 4 ∧ (Str.ofString " (").length = 2 ∧
  (Str.ofString "if ").length = 3 ∧ (Str.ofString " <= ").length = 4 ∧ (Str.ofString " else (").length = 7 ∧ (Str.ofString "again ").length = 6 ∧ (Str.ofString " on ").length = 4 ∧ (Str.ofString "; ").length = 2 := by decide +kernel
mutual
theorem thingT_len : ∀ {t : Thing}, ThS t → (thingT t).length + 2 ≤ 3000 * thingC t
  | .step n, h => by
    rw [ThS] at h
    have := num_len (by decide) h
    have q := s_len1
    rw [thingT, thingC, str_len]
    · omega
    all_goals simp
  | .call nm e, h => by
    rw [ThS] at h
    have := endT_len h.2
    have h1 := h.1.1
    have q := s_len1
    rw [thingT, thingC, str_len, str_len, str_len]
    · omega
    all_goals simp
  | .double b, h => by
    rw [ThS] at h
    have := planT_len h
    have q := s_len1
    rw [thingT, thingC, str_len, str_len]
    omega
  | .loop nm e1 e2 b, h => by
    rw [ThS] at h
    have := planT_len h.2.2.2
    have h1 := h.1.1
    have h2 := endT_len h.2.1
    have h3 := endT_len h.2.2.1
    have q := s_len1
    rw [thingT, thingC]
    simp only [str_len]
    omega
  | .test e1 e2 b1 b2, h => by
    rw [ThS] at h
    have := planT_len h.2.2.1
    have := planT_len h.2.2.2
    have h2 := endT_len h.1
    have h3 := endT_len h.2.1
    have q := s_len1
    rw [thingT, thingC]
    split
    · simp only [str_len]
      omega
    · simp only [str_len]
      omega
  | .again n w, h => by
    rw [ThS] at h
    have := num_len (by decide) h.1
    have h1 := h.2.1
    have q := s_len1
    rw [thingT, thingC, str_len, str_len, str_len]
    · omega
    all_goals simp
theorem planT_len : ∀ {b : List Thing}, BdS b → (planT b).length ≤ 3000 * thingsC b
  | [], _ => by
    rw [planT]
    exact Nat.zero_le _
  | [t], h => by
    rw [BdS] at h
    have := thingT_len h.1
    rw [planT, thingsC]
    omega
  | t :: u :: r, h => by
    rw [BdS] at h
    have h1 := thingT_len h.1
    have h2 := planT_len h.2
    have q := s_len1
    rw [planT, thingsC, str_len, str_len]
    omega
end
theorem endD_lay {e : En} (h : EnS e) : (endD e).canLay0 = true ∧ (endD e).depth ≤ 1 := by
  have := h.1.2
  simp [endD, PyData.canLay0, PyData.canLayAll0, PyData.depth, PyData.depthAll, this]
theorem strOk_lit (s : String) : PyData.strOk (Str.ofString s) = true := strOk_of s
mutual
theorem thingD_lay : ∀ {t : Thing}, ThS t → (thingD t).canLay0 = true ∧ (thingD t).depth ≤ 2 * thingC t
  | .step n, h => by
    simp [thingD, thingC, PyData.canLay0, PyData.canLayAll0, PyData.depth, PyData.depthAll, strOk_lit]
  | .call nm e, h => by
    rw [ThS] at h
    have h1 := endD_lay h.2
    have h2 := h.1.2
    simp [thingD, thingC, PyData.canLay0, PyData.canLayAll0, PyData.depth, PyData.depthAll, strOk_lit, h1.1, h2]
    omega
  | .double b, h => by
    rw [ThS] at h
    have h1 := thingsD_lay h
    simp [thingD, thingC, PyData.canLay0, PyData.canLayAll0, PyData.depth, PyData.depthAll, strOk_lit, h1.1]
    omega
  | .loop nm e1 e2 b, h => by
    rw [ThS] at h
    have h1 := thingsD_lay h.2.2.2
    have h2 := h.1.2
    have h3 := endD_lay h.2.1
    have h4 := endD_lay h.2.2.1
    simp [thingD, thingC, PyData.canLay0, PyData.canLayAll0, PyData.depth, PyData.depthAll, strOk_lit, h1.1, h2, h3.1, h4.1]
    omega
  | .test e1 e2 b1 b2, h => by
    rw [ThS] at h
    have h1 := thingsD_lay h.2.2.1
    have h2 := thingsD_lay h.2.2.2
    have h3 := endD_lay h.1
    have h4 := endD_lay h.2.1
    simp [thingD, thingC, PyData.canLay0, PyData.canLayAll0, PyData.depth, PyData.depthAll, strOk_lit, h1.1, h2.1, h3.1, h4.1]
    omega
  | .again n w, h => by
    rw [ThS] at h
    have h2 := h.2.2
    simp [thingD, thingC, PyData.canLay0, PyData.canLayAll0, PyData.depth, PyData.depthAll, strOk_lit, h2]
theorem thingsD_lay : ∀ {b : List Thing}, BdS b → PyData.canLayAll0 (thingsD b) = true ∧ PyData.depthAll (thingsD b) ≤ 2 * thingsC b
  | [], _ => by simp [thingsD, PyData.canLayAll0, PyData.depthAll]
  | t :: r, h => by
    rw [BdS] at h
    have h1 := thingD_lay h.1
    have h2 := thingsD_lay h.2
    simp [thingsD, thingsC, PyData.canLayAll0, PyData.depthAll, h1.1, h2.1]
    omega
end
theorem shaped_plan {b : List Thing} (h : BdS b) (c : thingsC b ≤ 31) : SeqAt.shaped (planD b) = true := by
  have h1 := thingsD_lay h
  unfold SeqAt.shaped planD
  rw [Bool.and_eq_true, decide_eq_true_eq]
  unfold PyData.canLay0 PyData.depth
  exact ⟨h1.1, by omega⟩
theorem eqv_plan (b : List Thing) : PyData.eqv (planD b) (.tuple []) = b.isEmpty := by
  cases b with
  | nil => simp [planD, thingsD, PyData.eqv, PyData.eqvAll]
  | cons t r => simp [planD, thingsD, PyData.eqv, PyData.eqvAll]
end My
namespace My
open PySem L2
theorem str_e0 : Str.empty.length = 0 := rfl
theorem dec_ff {x y : Str} (h : x ≠ y) : decide (V.str x = V.str y) = false := decide_eq_false fun e => h (V.str.inj e)
theorem dec_tt (x : Str) : decide (V.str x = V.str x) = true := decide_eq_true rfl
theorem num_len' {i : Int} (h : i.natAbs.log2 < 400) : (Str.ofString (toString i)).length ≤ 401 := num_len (k := 400) (by decide) h
end My
namespace My
open PySem L2
theorem thingC_mem {t : Thing} : ∀ {b : List Thing}, t ∈ b → thingC t ≤ thingsC b
  | [], h => nomatch h
  | x :: r, h => by
    rw [thingsC]
    rcases List.mem_cons.mp h with rfl | h
    · omega
    · have := thingC_mem h
      omega
theorem planSum : ∀ {b : List Thing}, BdS b → ((b.map thingT).map (·.length)).sum + b.length * 2 ≤ 3000 * thingsC b
  | [], _ => by simp
  | t :: r, h => by
    rw [BdS] at h
    have h1 := thingT_len h.1
    have h2 := planSum h.2
    rw [thingsC, List.map_cons, List.map_cons, List.sum_cons, List.length_cons]
    omega
/-! promises of the writers -/
def spEndText (K : PySem.W.Frag) : Sp := fun vs H Q _ => ∃ (v : V) (e : En), vs = [v] ∧ Dp K H v (endD e) ∧ EnS e ∧ ∀ H', Same H H' → Q (.str (endT e)) H'
def spThingText (K : PySem.W.Frag) (f : Nat) : Sp := fun vs H Q _ => ∃ (v : V) (t : Thing), vs = [v] ∧ Dp K H v (thingD t) ∧ ThS t ∧ thingC t ≤ f ∧ thingC t ≤ 31 ∧ ∀ H', Same H H' → Q (.str (thingT t)) H'
def spPlanText (K : PySem.W.Frag) (f : Nat) : Sp := fun vs H Q _ => ∃ (v : V) (b : List Thing), vs = [v] ∧ Dp K H v (planD b) ∧ BdS b ∧ thingsC b ≤ f ∧ thingsC b ≤ 31 ∧ ∀ H', Same H H' → Q (.str (planT b)) H'
end My
namespace My
open PySem L2
theorem nmS_of {nm : Str} (h : NameOk nm) : NmS nm := ⟨by have := h.2.1; omega, strOk_name h⟩
theorem nmS_n : NmS "n" := ⟨by decide, strOk_of _⟩
theorem enS_of {wide : Bool} {sc : List Str} {e : En} (hs : ∀ x ∈ sc, NmS x) (h : EndOk wide sc e) : EnS e := by
  obtain ⟨h1, h2⟩ := h
  have h3 : e.2.natAbs < 100 := by
    cases wide
    · have : e.2.natAbs < 5 := h1
      omega
    · exact h1
  refine ⟨?_, log_lt (k := 400) (Nat.lt_trans h3 (by decide)) (by decide)⟩
  rcases h2 with ⟨h2, _⟩ | h2
  · rw [h2]
    exact ⟨by decide, strOk_of _⟩
  · exact hs _ h2
mutual
theorem thS_of {k : Kit} (hk : ∀ e ∈ k.kn, NameOk e.1) : ∀ {t : Thing} {sc : List Str} {deep : Nat}, (∀ x ∈ sc, NmS x) → ThOk k t sc deep → ThS t
  | .step n, sc, deep, hs, h => by
    rw [ThOk] at h
    rw [ThS]
    exact log_lt (k := 400) (Nat.lt_trans (m := 100) (by omega) (by decide)) (by decide)
  | .call nm e, sc, deep, hs, h => by
    rw [ThOk] at h
    obtain ⟨en, h1, _, _, h2, _⟩ := h
    rw [ThS]
    exact ⟨nmS_of (hk _ h1), enS_of hs h2⟩
  | .double b, sc, deep, hs, h => by
    rw [ThOk] at h
    rw [ThS]
    exact bdS_of hk hs h.2.2.2.2
  | .loop nm e1 e2 b, sc, deep, hs, h => by
    rw [ThOk] at h
    obtain ⟨_, h1, _, h2, h3, _, _, h4⟩ := h
    rw [ThS]
    refine ⟨nmS_of h1, enS_of hs h2, enS_of hs h3, bdS_of hk (fun x hx => ?_) h4⟩
    rcases List.mem_append.mp hx with hx | hx
    · exact hs x hx
    · rw [List.mem_singleton.mp hx]
      exact nmS_of h1
  | .test e1 e2 b1 b2, sc, deep, hs, h => by
    rw [ThOk] at h
    obtain ⟨_, h2, h3, _, _, _, h4, h5⟩ := h
    rw [ThS]
    exact ⟨enS_of hs h2, enS_of hs h3, bdS_of hk hs h4, bdS_of hk hs h5⟩
  | .again _ _, _, _, _, h => by
    rw [ThOk] at h
    exact h.elim
theorem bdS_of {k : Kit} (hk : ∀ e ∈ k.kn, NameOk e.1) : ∀ {b : List Thing} {sc : List Str} {deep : Nat}, (∀ x ∈ sc, NmS x) → BdOk k b sc deep → BdS b
  | [], _, _, _, _ => by simp [BdS]
  | t :: r, sc, deep, hs, h => by
    rw [BdOk] at h
    rw [BdS]
    exact ⟨thS_of hk hs h.1, bdS_of hk hs h.2⟩
end
theorem bdS_drawn {fig wide : Bool} {b : List Thing} (h : BdOk ⟨[], fig, wide⟩ b [Str.ofString "n"] 0) : BdS b :=
  bdS_of (fun e (h : e ∈ []) => nomatch h) (fun x hx => by rw [List.mem_singleton.mp hx]; exact nmS_n) h
/-! ### tuples cut and put together, frozen -/
theorem cat_G {K : PySem.W.Frag} {G H : Hp} {a b : Addr} {xs ys : List V} {Q : VK} (sg : Same G H) (ha : SqT K G a xs) (hb : SqT K G b ys) (hl : xs.length + ys.length ≤ 1000)
    (k : ∀ (p : Addr) (G' H' : Hp), Grow NoM G H G' H' → SqT K G' p (xs ++ ys) → Q (.ref p) H') : rCatA K (.ref a) (.ref b) H Q := by
  refine ⟨a, b, xs, ys, rfl, rfl, same_t sg ha, same_t sg hb, Nat.le_trans hl (by decide), fun e => ?_, fun e1 e => ?_, fun _ _ p hp => ?_⟩
  · subst e
    exact k b G H (Grow.refl sg) hb
  · subst e
    exact k a G H (Grow.refl sg) (by rw [List.append_nil]; exact ha)
  · exact k p _ _ ((Grow.refl sg).new (o := .tup (xs ++ ys)) hp (fun _ h => h.elim)) (SqT.of upd_same)
theorem sl_G {K : PySem.W.Frag} {G H : Hp} {a : Addr} {xs ys : List V} {lo hi : Option Int} {Q : VK} (sg : Same G H) (ha : SqT K G a xs) (hw : HT.sIx xs.length 0 lo = 0 ∧ HT.sIx xs.length xs.length hi = xs.length → ys = xs) (hc : cutV xs lo hi = ys)
    (k : ∀ (p : Addr) (G' H' : Hp), Grow NoM G H G' H' → SqT K G' p ys → Q (.ref p) H') : rSlA K (.ref a) lo hi H Q := by
  refine ⟨a, xs, rfl, same_t sg ha, fun e => ?_, fun _ p hp => ?_⟩
  · have := hw e
    subst this
    exact k a G H (Grow.refl sg) ha
  · rw [hc]
    exact k p _ _ ((Grow.refl sg).new (o := .tup ys) hp (fun _ h => h.elim)) (SqT.of upd_same)
theorem cut_head (xs : List V) : cutV xs none (some 1) = xs.take 1 := by
  unfold cutV
  rw [HT.sIx_none, List.drop_zero, Nat.sub_zero]
  show xs.take (HT.sIx xs.length xs.length (some ((1 : Nat) : Int))) = _
  rw [HT.sIx_nat]
  cases xs with
  | nil => rfl
  | cons x r => simp
theorem cut_tail (xs : List V) : cutV xs (some 2) none = xs.drop 2 := by
  unfold cutV
  rw [HT.sIx_none]
  show (xs.drop (HT.sIx xs.length 0 (some ((2 : Nat) : Int)))).take (xs.length - HT.sIx xs.length 0 (some ((2 : Nat) : Int))) = _
  rw [HT.sIx_nat]
  rw [List.take_of_length_le (by rw [List.length_drop]; exact Nat.le_refl _)]
  by_cases h : 2 ≤ xs.length
  · rw [Nat.min_eq_left h]
  · rw [Nat.min_eq_right (by omega), List.drop_of_length_le (Nat.le_refl _), List.drop_of_length_le (by omega)]
theorem DpAll_app {K : PySem.W.Frag} {H : Hp} {us vs : List V} {ds es : List PyData} (h1 : DpAll K H us ds) (h2 : DpAll K H vs es) : DpAll K H (us ++ vs) (ds ++ es) := by
  induction ds generalizing us with
  | nil =>
    rw [h1.n]
    exact h2
  | cons d r ih =>
    obtain ⟨x, u, rfl, hx, hr⟩ := h1.c
    exact .cons hx (ih hr)
theorem DpAll_take {K : PySem.W.Frag} {H : Hp} : ∀ {us : List V} {ds : List PyData} (n : Nat), DpAll K H us ds → DpAll K H (us.take n) (ds.take n)
  | _, _, 0, _ => .nil
  | _, [], n + 1, h => by
    rw [h.n]
    exact .nil
  | _, d :: ds, n + 1, h => by
    obtain ⟨x, u, rfl, hx, hr⟩ := h.c
    exact .cons hx (DpAll_take n hr)
theorem DpAll_drop {K : PySem.W.Frag} {H : Hp} : ∀ {us : List V} {ds : List PyData} (n : Nat), DpAll K H us ds → DpAll K H (us.drop n) (ds.drop n)
  | _, _, 0, h => h
  | _, [], n + 1, h => by
    rw [h.n]
    exact .nil
  | _, d :: ds, n + 1, h => by
    obtain ⟨x, u, rfl, hx, hr⟩ := h.c
    exact DpAll_drop n hr
theorem same_single {H : Hp} {a : Addr} {o : HO} (h : H a = some o) : Same (upd (fun _ => none) a o) H := fun b x e => by
  by_cases q : b = a
  · rw [q, upd_same] at e
    rw [q, h, e]
  · rw [upd_ne q] at e
    cases e
theorem thingsC_app : ∀ (a b : List Thing), thingsC (a ++ b) = thingsC a + thingsC b
  | [], b => by simp [thingsC]
  | t :: r, b => by
    rw [List.cons_append, thingsC, thingsC, thingsC_app r b]
    omega
end My
namespace My
open PySem L2
/-- a statement that is never come to -/
theorem ps_never {X : Cx} {st : Stmt} : PS X st (fun _ _ _ => False) := ⟨fun _ _ _ _ _ _ h => h.elim⟩
end My
namespace My
open PySem L2
/-! ### the signs of a text, plain -/
inductive Tok where
  | num (n : Nat)
  | word (w : Str)
  | sign (z : Str)
  | fin
def digitsS : Str := "0123456789"
def lettersS' : Str := "abcdefghijklmnopqrstuvwxyz"
def marksS : Str := "();+-"
def decVal : List Nat → Nat
  | [a] => a - 48
  | [a, b] => (a - 48) * 10 + (b - 48)
  | _ => 0
def kindT : Tok → Str
  | .num _ => "number"
  | .word _ => "word"
  | .sign _ => "sign"
  | .fin => "end"
def tokV : Tok → V
  | .num n => .int (n : Nat)
  | .word w => .str w
  | .sign z => .str z
  | .fin => .str ""
/-- how many signs of a set stand ahead -/
def runFrom (S : List Nat) : List Nat → Nat
  | [] => 0
  | c :: r => if c ∈ S then runFrom S r + 1 else 0
theorem runFrom_pos {S : List Nat} {c : Nat} {r : List Nat} (h : c ∈ S) : runFrom S (c :: r) = runFrom S r + 1 := if_pos h
theorem runFrom_neg {S : List Nat} {c : Nat} {r : List Nat} (h : ¬ c ∈ S) : runFrom S (c :: r) = 0 := if_neg h
theorem runFrom_le (S : List Nat) : ∀ l : List Nat, runFrom S l ≤ l.length
  | [] => Nat.le_refl _
  | c :: r => by
    unfold runFrom
    split
    · have := runFrom_le S r
      rw [List.length_cons]
      omega
    · exact Nat.zero_le _
theorem runFrom_all {S : List Nat} : ∀ {l : List Nat} {c : Nat}, c ∈ l.take (runFrom S l) → c ∈ S
  | [], c, h => by simp at h
  | x :: r, c, h => by
    by_cases hx : x ∈ S
    · rw [runFrom_pos hx, List.take_succ_cons] at h
      rcases List.mem_cons.mp h with rfl | h
      · exact hx
      · exact runFrom_all h
    · rw [runFrom_neg hx] at h
      simp at h
/-- the sign that stands ahead, and its length -/
def signOf (c : Nat) (l : List Nat) : Option (Tok × Nat) :=
  if c ∈ digitsS.cps.toList then
    (if runFrom digitsS.cps.toList l > 2 ∨ (c = 48 ∧ runFrom digitsS.cps.toList l > 1) then none else some (.num (decVal (l.take (runFrom digitsS.cps.toList l))), runFrom digitsS.cps.toList l))
  else if c ∈ lettersS'.cps.toList then
    (if runFrom lettersS'.cps.toList l > 8 then none else some (.word ⟨(l.take (runFrom lettersS'.cps.toList l)).toArray⟩, runFrom lettersS'.cps.toList l))
  else if l.take 2 = [60, 61] then some (.sign "<=", 2)
  else if c ∈ marksS.cps.toList then some (.sign ⟨#[c]⟩, 1) else none
def signAt : List Nat → Option (Tok × Nat)
  | [] => none
  | c :: r => signOf c (c :: r)
theorem signAt_eq {l r : List Nat} {c : Nat} (e : l = c :: r) : signAt l = signOf c l := by
  subst e
  rfl
theorem dec_one : ∀ a ∈ digitsS.cps.toList, PySem.intText? (⟨[a].toArray⟩ : Str) = some ((decVal [a] : Nat) : Int) := by decide +kernel
theorem dec_two : ∀ a ∈ digitsS.cps.toList, ∀ b ∈ digitsS.cps.toList, PySem.intText? (⟨[a, b].toArray⟩ : Str) = some ((decVal [a, b] : Nat) : Int) := by decide +kernel
end My
namespace My
open PySem L2
def lexL : Nat → Nat → List Nat → Option (List (Tok × Nat))
  | 0, _, _ => none
  | _ + 1, i, [] => some [(.fin, i)]
  | f + 1, i, c :: r => match signAt (c :: r) with
    | none => none
    | some (tok, L) => (lexL f (i + L + runFrom [32] ((c :: r).drop L)) (((c :: r).drop L).drop (runFrom [32] ((c :: r).drop L)))).map ((tok, i) :: ·)
abbrev TokRel (H : Hp) (v : V) (t : Tok × Nat) : Prop := ∃ a, v = V.ref a ∧ H a = some (.tup [.str (kindT t.1), tokV t.1, .int (t.2 : Nat)])
def ToksAt (H : Hp) (us : List V) (ts : List (Tok × Nat)) : Prop := Paired (TokRel H) us ts
theorem ToksAt.keep {H H' : Hp} {us : List V} {ts : List (Tok × Nat)} (h : ToksAt H us ts) (s : ∀ b xs, H b = some (.tup xs) → H' b = some (.tup xs)) : ToksAt H' us ts := L2.Paired.mapP h fun _ _ ⟨a, e, q⟩ => ⟨a, e, s _ _ q⟩
theorem tup_put {H : Hp} {L : Addr} {vs : List V} {o : HO} (e : H L = some (.lst vs)) : ∀ b xs, H b = some (.tup xs) → (upd H L o) b = some (.tup xs) := fun b xs h => by
  rw [upd_ne (L2.ne_of h e (fun z => nomatch z))]
  exact h
theorem toks_snoc {H : Hp} {v : V} {t : Tok × Nat} : ∀ {us : List V} {ts : List (Tok × Nat)}, ToksAt H us ts → TokRel H v t → ToksAt H (us ++ [v]) (ts ++ [t])
  | _, _, .nil, h => .cons h .nil
  | _, _, .cons r q, h => .cons r (toks_snoc q h)
theorem signAt_pos {l : List Nat} {tok : Tok} {L : Nat} (h : signAt l = some (tok, L)) : 1 ≤ L ∧ L ≤ l.length := by
  cases l with
  | nil => cases h
  | cons c r =>
    have h : signOf c (c :: r) = some (tok, L) := h
    unfold signOf at h
    split at h
    · rename_i c1
      split at h
      · cases h
      · cases h
        have := runFrom_le digitsS.cps.toList (c :: r)
        rw [runFrom_pos c1] at this ⊢
        exact ⟨by omega, this⟩
    · split at h
      · rename_i c1
        split at h
        · cases h
        · cases h
          have := runFrom_le lettersS'.cps.toList (c :: r)
          rw [runFrom_pos c1] at this ⊢
          exact ⟨by omega, this⟩
      · split at h
        · rename_i c3
          cases h
          refine ⟨by decide, ?_⟩
          cases r with
          | nil => simp at c3
          | cons d r => simp
        · split at h
          · cases h
            simp
          · cases h
end My
namespace My
open PySem L2
/-! ### the reader: tokens of plans, its object -/
def toksE (e : En) : List Tok := if e.1 = "" then [.num e.2.toNat] else if e.2 = 0 then [.word e.1] else if 0 < e.2 then [.word e.1, .sign "+", .num e.2.toNat] else [.word e.1, .sign "-", .num (0 - e.2).toNat]
mutual
def toksTh : Thing → List Tok
  | .step n => [.word "step", .num n.toNat]
  | .call nm e => [.word "call", .word nm, .word "with"] ++ toksE e
  | .double b => [.word "double", .sign "("] ++ (toksB b ++ [.sign ")"])
  | .loop nm e1 e2 b => [.word "for", .word nm, .word "from"] ++ (toksE e1 ++ ([.word "to"] ++ (toksE e2 ++ ([.sign "("] ++ (toksB b ++ [.sign ")"])))))
  | .test e1 e2 b1 b2 => [.word "if"] ++ (toksE e1 ++ ([.sign "<="] ++ (toksE e2 ++ ([.sign "("] ++ (toksB b1 ++ ([.sign ")"] ++ (if b2.isEmpty then [] else [.word "else", .sign "("] ++ (toksB b2 ++ [.sign ")"]))))))))
  | .again n w => [.word "again", .num n.toNat, .word "on", .word w]
def toksB : List Thing → List Tok
  | [] => []
  | [t] => toksTh t
  | t :: u :: r => toksTh t ++ ([.sign ";"] ++ toksB (u :: r))
end
def RdE (e : En) : Prop := (e.1 = "" ∧ 0 ≤ e.2 ∧ e.2 ≤ 99) ∨ ((e.1 = "n" ∨ NameOk e.1) ∧ e.2.natAbs ≤ 99)
mutual
def RdT : Thing → Nat → Prop
  | .step n => fun _ => 0 ≤ n ∧ n ≤ 99
  | .call nm e => fun _ => NameOk nm ∧ RdE e
  | .double b => fun deep => deep < 4 ∧ b ≠ [] ∧ RdB b (deep + 1)
  | .loop nm e1 e2 b => fun deep => NameOk nm ∧ RdE e1 ∧ RdE e2 ∧ deep < 4 ∧ b ≠ [] ∧ RdB b (deep + 1)
  | .test e1 e2 b1 b2 => fun deep => RdE e1 ∧ RdE e2 ∧ deep < 4 ∧ b1 ≠ [] ∧ RdB b1 (deep + 1) ∧ RdB b2 (deep + 1)
  | .again n w => fun _ => 1 ≤ n ∧ n ≤ 9 ∧ (w = "halves" ∨ w = "thirds" ∨ w = "less")
def RdB : List Thing → Nat → Prop
  | [] => fun _ => True
  | t :: r => fun deep => RdT t deep ∧ RdB r deep
end
/-- what may stand behind an end, a thing, a body -/
def EndF : List Tok → Prop
  | [] => False
  | t :: _ => t ≠ .sign "+" ∧ t ≠ .sign "-"
def ThF : List Tok → Prop
  | [] => False
  | t :: _ => t ≠ .sign "+" ∧ t ≠ .sign "-" ∧ t ≠ .word "else"
def BdF : List Tok → Prop
  | [] => False
  | t :: _ => t ≠ .sign "+" ∧ t ≠ .sign "-" ∧ t ≠ .word "else" ∧ t ≠ .sign ";"
theorem ThF.e : ∀ {l : List Tok}, ThF l → EndF l
  | _ :: _, h => ⟨h.1, h.2.1⟩
theorem BdF.t : ∀ {l : List Tok}, BdF l → ThF l
  | _ :: _, h => ⟨h.1, h.2.1, h.2.2.1⟩
def flR (S : Addr) (i m : Nat) : List (Str × V) := [("signs", .ref S), ("spot", .int (i : Nat)), ("many", .int (m : Nat))]
def TokOk : Tok → Prop
  | .word w => PyData.strOk w = true
  | .sign z => PyData.strOk z = true
  | _ => True
structure Rdr (H : Hp) (r C S : Addr) (us : List V) (ts : List (Tok × Nat)) (i m : Nat) : Prop where
  ob : ∃ dx, H r = some (.ins C dx (flR S i m))
  sg : H S = some (.lst us)
  tk : ToksAt H us ts
  ok : ∀ t ∈ ts, TokOk t.1
theorem flR_signs (S : Addr) (i m : Nat) : (flR S i m).lookup ("signs" : Str) = some (.ref S) := rfl
theorem flR_spot (S : Addr) (i m : Nat) : (flR S i m).lookup ("spot" : Str) = some (.int (i : Nat)) := rfl
theorem flR_many (S : Addr) (i m : Nat) : (flR S i m).lookup ("many" : Str) = some (.int (m : Nat)) := rfl
theorem flR_put (S : Addr) (i m : Nat) {x : Int} {j : Nat} (h : x = (j : Nat)) : putF "spot" (.int x) (flR S i m) = flR S j m := by
  subst h
  rfl
theorem flR_putm (S : Addr) (i m : Nat) {x : Int} {j : Nat} (h : x = (j : Nat)) : putF "many" (.int x) (flR S i m) = flR S i j := by
  subst h
  rfl
theorem Rdr.len {H : Hp} {r C S : Addr} {us : List V} {ts : List (Tok × Nat)} {i m : Nat} (h : Rdr H r C S us ts i m) : us.length = ts.length := Paired.length h.tk
theorem paired_get' {α β : Type} {F : α → β → Prop} : ∀ {l : List α} {m : List β} {i : Nat} {b : β}, Paired F l m → m[i]? = some b → ∃ a, l[i]? = some a ∧ F a b
  | _, _, _, _, .nil, h => by simp at h
  | _, _, 0, b, .cons (a := a) r q, h => ⟨a, rfl, by rw [← (show _ = b by simpa using h)]; exact r⟩
  | _, _, i + 1, b, .cons r q, h => by
    obtain ⟨a, e, p⟩ := paired_get' (i := i) q (by simpa using h)
    exact ⟨a, by simpa using e, p⟩
theorem Rdr.peek {H : Hp} {r C S : Addr} {us : List V} {ts : List (Tok × Nat)} {i m : Nat} {t : Tok × Nat} (h : Rdr H r C S us ts i m) (e : ts[i]? = some t) : ∃ a, us[i]? = some (.ref a) ∧ H a = some (.tup [.str (kindT t.1), tokV t.1, .int (t.2 : Nat)]) := by
  obtain ⟨u, e1, a, rfl, e2⟩ := paired_get' h.tk e
  exact ⟨a, e1, e2⟩
theorem Rdr.cell {H : Hp} {r C S : Addr} {us : List V} {ts : List (Tok × Nat)} {i m : Nat} (h : Rdr H r C S us ts i m) : ∀ c, Only1 r c → Cell (H c) := fun c e => by
  obtain ⟨dx, q⟩ := h.ob
  rw [show c = r from e]
  exact cell_ins q
theorem Rdr.ne_tup {H : Hp} {r C S : Addr} {us : List V} {ts : List (Tok × Nat)} {i m : Nat} {a : Addr} {xs : List V} (h : Rdr H r C S us ts i m) (e : H a = some (.tup xs)) : a ≠ r := by
  obtain ⟨dx, q⟩ := h.ob
  rintro rfl
  rw [e] at q
  cases q
theorem Rdr.ne_sg {H : Hp} {r C S : Addr} {us : List V} {ts : List (Tok × Nat)} {i m : Nat} (h : Rdr H r C S us ts i m) : S ≠ r := by
  obtain ⟨dx, q⟩ := h.ob
  rintro rfl
  rw [h.sg] at q
  cases q
/-- what stands but the object -/
theorem Rdr.but {H H' : Hp} {r C S : Addr} {us : List V} {ts : List (Tok × Nat)} {i m j n : Nat} (h : Rdr H r C S us ts i m) (b : But (Only1 r) H H') (o : ∃ dx, H' r = some (.ins C dx (flR S j n))) : Rdr H' r C S us ts j n :=
  ⟨o, b _ _ h.sg h.ne_sg, h.tk.keep fun c xs e => b _ _ e (h.ne_tup e), h.ok⟩
theorem Rdr.same {H H' : Hp} {r C S : Addr} {us : List V} {ts : List (Tok × Nat)} {i m : Nat} (h : Rdr H r C S us ts i m) (s : Same H H') : Rdr H' r C S us ts i m :=
  h.but (same_but s) (let ⟨dx, q⟩ := h.ob; ⟨dx, s _ _ q⟩)
/-- data stay while the object changes -/
theorem no_ins_l {K : PySem.W.Frag} {M : Addr → Prop} {H H' : Hp} {r a : Addr} {C dx : Addr} {fs : List (Str × V)} {xs : List V} (hr : H r = some (.ins C dx fs)) (b : But (Only1 r) H H') (h : SqL K H a xs) : SqL K H' a xs := by
  rcases h with (h | ⟨o, h⟩) | h
  · exact .inl (.inl (b a _ h fun e => by rw [show a = r from e, hr] at h; cases h))
  · exact .inl (.inr ⟨o, b a _ h fun e => by rw [show a = r from e, hr] at h; cases h⟩)
  · exact .inr h
theorem no_ins_t {K : PySem.W.Frag} {M : Addr → Prop} {H H' : Hp} {r a : Addr} {C dx : Addr} {fs : List (Str × V)} {xs : List V} (hr : H r = some (.ins C dx fs)) (b : But (Only1 r) H H') (h : SqT K H a xs) : SqT K H' a xs := by
  rcases h with (h | ⟨o, h⟩) | h
  · exact .inl (.inl (b a _ h fun e => by rw [show a = r from e, hr] at h; cases h))
  · exact .inl (.inr ⟨o, b a _ h fun e => by rw [show a = r from e, hr] at h; cases h⟩)
  · exact .inr h
mutual
theorem dp_but {K : PySem.W.Frag} {H H' : Hp} {r C dx : Addr} {fs : List (Str × V)} (hr : H r = some (.ins C dx fs)) (b : But (Only1 r) H H') : ∀ {d : PyData} {v : V}, Dp K H v d → Dp K H' v d
  | _, _, .non => .non
  | _, _, .bl b => .bl b
  | _, _, .int i => .int i
  | _, _, .str x => .str x
  | _, _, .lst h a => .lst (no_ins_l (M := NoM) hr b h) (dps_but hr b a)
  | _, _, .tup h a => .tup (no_ins_t (M := NoM) hr b h) (dps_but hr b a)
theorem dps_but {K : PySem.W.Frag} {H H' : Hp} {r C dx : Addr} {fs : List (Str × V)} (hr : H r = some (.ins C dx fs)) (b : But (Only1 r) H H') : ∀ {ds : List PyData} {vs : List V}, DpAll K H vs ds → DpAll K H' vs ds
  | _, _, .nil => .nil
  | _, _, .cons a c => .cons (dp_but hr b a) (dps_but hr b c)
end
def tokDat : Tok → PyData
  | .num n => .int (n : Nat)
  | .word w => .str w
  | .sign s => .str s
  | .fin => .str ""
theorem tokDat_dp {K : PySem.W.Frag} {H : Hp} : ∀ t : Tok, Dp K H (tokV t) (tokDat t)
  | .num _ => .int _
  | .word _ => .str _
  | .sign _ => .str _
  | .fin => .str _
def tokIs (t : Tok) (k z : Str) : Bool := PyData.eqv (.tuple [.str (kindT t), tokDat t]) (.tuple [.str k, .str z])
theorem tokIs_iff {t : Tok} {k z : Str} : tokIs t k z = true ↔ kindT t = k ∧ tokDat t = .str z := by
  unfold tokIs
  cases t <;> simp [PyData.eqv, PyData.eqvAll, tokDat]
theorem kind_ok (t : Tok) : PyData.strOk (kindT t) = true := by
  cases t <;> exact strOk_of _
theorem shaped_tok {t : Tok} {k : Str} (h : TokOk t) (hk : PyData.strOk k = true) : SeqAt.shaped (.tuple [.str k, tokDat t]) = true := by
  cases t
  all_goals simp only [TokOk] at h
  all_goals simp [SeqAt.shaped, PyData.canLay0, PyData.canLayAll0, PyData.depth, PyData.depthAll, tokDat, hk]
  all_goals first | exact h | exact strOk_of _
theorem Rdr.tokOk {H : Hp} {r C S : Addr} {us : List V} {ts : List (Tok × Nat)} {i m : Nat} {t : Tok × Nat} (h : Rdr H r C S us ts i m) (e : ts[i]? = some t) : TokOk t.1 := h.ok t (List.mem_of_getElem? e)
/-- the tokens from a place on -/
def At (ts : List (Tok × Nat)) (i : Nat) (l : List Tok) : Prop := (ts.drop i).map Prod.fst = l
theorem at_cons {ts : List (Tok × Nat)} {i : Nat} {t : Tok} {l : List Tok} (h : At ts i (t :: l)) : ∃ pos, ts[i]? = some (t, pos) ∧ At ts (i + 1) l := by
  unfold At at h ⊢
  by_cases c : i < ts.length
  · rw [List.drop_eq_getElem_cons c, List.map_cons] at h
    have h1 := (List.cons.inj h).1
    have h2 := (List.cons.inj h).2
    refine ⟨ts[i].2, ?_, h2⟩
    rw [List.getElem?_eq_getElem c, ← h1]
  · rw [List.drop_of_length_le (by omega)] at h
    cases h
theorem str_no {a b : Str} (h : a ≠ b) : decide (V.str a = V.str b) = false := decide_eq_false fun e => h (V.str.inj e)
theorem tokIs_word {w z : Str} : tokIs (.word w) "word" z = decide (w = z) := by
  by_cases h : w = z
  · rw [decide_eq_true h]
    exact tokIs_iff.mpr ⟨rfl, by rw [h]; rfl⟩
  · rw [decide_eq_false h]
    exact Bool.eq_false_iff.mpr fun q => h (PyData.str.inj (tokIs_iff.mp q).2)
theorem tokIs_sign {w z : Str} : tokIs (.sign w) "sign" z = decide (w = z) := by
  by_cases h : w = z
  · rw [decide_eq_true h]
    exact tokIs_iff.mpr ⟨rfl, by rw [h]; rfl⟩
  · rw [decide_eq_false h]
    exact Bool.eq_false_iff.mpr fun q => h (PyData.str.inj (tokIs_iff.mp q).2)
theorem tokIs_no {t : Tok} {k z : Str} (h : kindT t ≠ k) : tokIs t k z = false := Bool.eq_false_iff.mpr fun q => h (tokIs_iff.mp q).1
theorem tokIs_ns {t : Tok} {z : Str} (h : t ≠ .sign z) : tokIs t "sign" z = false := by
  cases t with
  | sign w => rw [tokIs_sign]; exact decide_eq_false fun e => h (by rw [e])
  | num _ => exact tokIs_no (by show (Str.ofString "number") ≠ Str.ofString "sign"; decide)
  | word _ => exact tokIs_no (by show (Str.ofString "word") ≠ Str.ofString "sign"; decide)
  | fin => exact tokIs_no (by show (Str.ofString "end") ≠ Str.ofString "sign"; decide)
theorem tokIs_nw {t : Tok} {z : Str} (h : t ≠ .word z) : tokIs t "word" z = false := by
  cases t with
  | word w => rw [tokIs_word]; exact decide_eq_false fun e => h (by rw [e])
  | num _ => exact tokIs_no (by show (Str.ofString "number") ≠ Str.ofString "word"; decide)
  | sign _ => exact tokIs_no (by show (Str.ofString "sign") ≠ Str.ofString "word"; decide)
  | fin => exact tokIs_no (by show (Str.ofString "end") ≠ Str.ofString "word"; decide)
theorem str_rn {H : Hp} : ∀ e : En, e.1 ≠ "" → ∃ c l, e.1.cps.toList = c :: l := fun e h => by
  cases q : e.1.cps.toList with
  | nil => exact absurd (congrArg Str.mk (Array.toList_inj.mp (show e.1.cps.toList = (#[] : Array Nat).toList from q))) h
  | cons c l => exact ⟨c, l, rfl⟩
end My
namespace My
open PySem L2
/-! ### plans written: their signs -/
def chs (x : Str) : List Nat := x.cps.toList
theorem chs_app (a b : Str) : chs (a ++ b) = chs a ++ chs b := by
  show (a.cps ++ b.cps).toList = _
  rw [Array.toList_append]
  rfl
def tokC : Tok → List Nat
  | .num n => chs (num (n : Nat))
  | .word w => chs w
  | .sign z => chs z
  | .fin => []
def isLet (t : Tok) : Bool := match t with | .word _ => true | _ => false
def isNum (t : Tok) : Bool := match t with | .num _ => true | _ => false
/-- tokens that a plan has -/
def TokG : Tok → Prop
  | .num n => n ≤ 99
  | .word w => 1 ≤ w.length ∧ w.length ≤ 8 ∧ ∀ c ∈ w.cps.toList, 97 ≤ c ∧ c ≤ 122
  | .sign z => z = "(" ∨ z = ")" ∨ z = ";" ∨ z = "+" ∨ z = "-" ∨ z = "<="
  | .fin => False
/-- blanks ahead of each token -/
def flat : List (Nat × Tok) → List Nat
  | [] => []
  | g :: r => List.replicate g.1 32 ++ (tokC g.2 ++ flat r)
/-- no two words, no two numbers without a blank -/
def fine : List (Nat × Tok) → Prop
  | [] => True
  | [g] => TokG g.2
  | g :: h :: r => TokG g.2 ∧ (h.1 = 0 → ¬ (isLet g.2 = true ∧ isLet h.2 = true) ∧ ¬ (isNum g.2 = true ∧ isNum h.2 = true)) ∧ fine (h :: r)
theorem fine.tail {g : Nat × Tok} {r : List (Nat × Tok)} (h : fine (g :: r)) : fine r := by
  cases r with
  | nil => trivial
  | cons x y => exact h.2.2
theorem fine.head {g : Nat × Tok} {r : List (Nat × Tok)} (h : fine (g :: r)) : TokG g.2 := by
  cases r with
  | nil => exact h
  | cons x y => exact h.1
theorem runFrom_app {S : List Nat} : ∀ {a b : List Nat}, (∀ c ∈ a, c ∈ S) → (∀ c r, b = c :: r → ¬ c ∈ S) → runFrom S (a ++ b) = a.length
  | [], [], _, _ => rfl
  | [], c :: r, _, h => runFrom_neg (h c r rfl)
  | x :: a, b, h1, h2 => by
    rw [List.cons_append, runFrom_pos (h1 x (List.mem_cons_self ..)), runFrom_app (fun c hc => h1 c (List.mem_cons_of_mem _ hc)) h2]
    rfl
theorem num_small : ∀ n, n < 100 → (∀ c ∈ chs (num (n : Nat)), c ∈ digitsS.cps.toList) ∧ decVal (chs (num (n : Nat))) = n ∧ (chs (num (n : Nat))).length ≤ 2 ∧ chs (num (n : Nat)) ≠ [] ∧ ((chs (num (n : Nat))).head? = some 48 → (chs (num (n : Nat))).length ≤ 1) := by decide +kernel
theorem lets_mem : ∀ c, 97 ≤ c ∧ c ≤ 122 ↔ c ∈ lettersS'.cps.toList := by
  have e : lettersS'.cps.toList = List.map (· + 97) (List.range 26) := by decide +kernel
  intro c
  rw [e, List.mem_map]
  constructor
  · rintro ⟨a, b⟩
    exact ⟨c - 97, List.mem_range.mpr (by omega), by omega⟩
  · rintro ⟨x, hx, rfl⟩
    have := List.mem_range.mp hx
    omega
theorem digs_mem : ∀ c, 48 ≤ c ∧ c ≤ 57 ↔ c ∈ digitsS.cps.toList := by
  have e : digitsS.cps.toList = List.map (· + 48) (List.range 10) := by decide +kernel
  intro c
  rw [e, List.mem_map]
  constructor
  · rintro ⟨a, b⟩
    exact ⟨c - 48, List.mem_range.mpr (by omega), by omega⟩
  · rintro ⟨x, hx, rfl⟩
    have := List.mem_range.mp hx
    omega
theorem tokC_ne {t : Tok} (h : TokG t) : tokC t ≠ [] := by
  cases t with
  | num n => exact (num_small n (Nat.lt_succ_of_le h)).2.2.2.1
  | word w =>
    intro e
    have e : w.cps.toList = [] := e
    have h1 := h.1
    have : w.length = 0 := by
      show w.cps.size = 0
      rw [← Array.length_toList, e]
      rfl
    omega
  | sign z => rcases h with rfl | rfl | rfl | rfl | rfl | rfl <;> decide
  | fin => exact h.elim
/-- what may not follow -/
def HeadOk (t : Tok) (l : List Nat) : Prop := ∀ c r, l = c :: r → (isNum t = true → ¬ (48 ≤ c ∧ c ≤ 57)) ∧ (isLet t = true → ¬ (97 ≤ c ∧ c ≤ 122))
theorem signAt_tok {t : Tok} {l : List Nat} (h : TokG t) (hl : HeadOk t l) : signAt (tokC t ++ l) = some (t, (tokC t).length) := by
  cases t with
  | fin => exact h.elim
  | num n =>
    obtain ⟨q1, q2, q3, q4, q5⟩ := num_small n (Nat.lt_succ_of_le h)
    have hr : runFrom digitsS.cps.toList (chs (num (n : Nat)) ++ l) = (chs (num (n : Nat))).length := runFrom_app q1 fun c r e => fun z => (hl c r e).1 rfl ((digs_mem c).mpr z)
    cases hc : chs (num (n : Nat)) with
    | nil => exact absurd hc q4
    | cons c r =>
      have e : tokC (.num n) = c :: r := hc
      rw [hc] at hr q5 q3 q2
      rw [e, List.cons_append, signAt_eq rfl]
      have hm : c ∈ digitsS.cps.toList := q1 c (by rw [hc]; exact List.mem_cons_self ..)
      unfold signOf
      rw [List.cons_append] at hr
      rw [if_pos hm, hr, if_neg]
      · rw [show (c :: (r ++ l)).take (c :: r).length = c :: r by rw [← List.cons_append, List.take_left], q2]
      · rintro (z | ⟨z1, z2⟩)
        · omega
        · have := q5 (by rw [z1]; rfl)
          omega
  | word w =>
    obtain ⟨h1, h2, h3⟩ := h
    have q1 : ∀ c ∈ w.cps.toList, c ∈ lettersS'.cps.toList := fun c hc => (lets_mem c).mp (h3 c hc)
    have hr : runFrom lettersS'.cps.toList (chs w ++ l) = (chs w).length := runFrom_app q1 fun c r e => fun z => (hl c r e).2 rfl ((lets_mem c).mpr z)
    have wl : (chs w).length = w.length := Array.length_toList
    cases hc : chs w with
    | nil =>
      rw [hc] at wl
      have : (0 : Nat) = w.length := wl
      omega
    | cons c r =>
      have e : tokC (.word w) = c :: r := hc
      rw [hc] at hr wl
      rw [e, List.cons_append, signAt_eq rfl]
      have hm : c ∈ w.cps.toList := by rw [show w.cps.toList = c :: r from hc]; exact List.mem_cons_self ..
      have hd : ¬ c ∈ digitsS.cps.toList := fun z => by
        have a := (digs_mem c).mpr z
        have b := h3 c hm
        omega
      unfold signOf
      rw [List.cons_append] at hr
      rw [if_neg hd, if_pos (q1 c hm), hr, if_neg (by omega)]
      rw [show (c :: (r ++ l)).take (c :: r).length = c :: r by rw [← List.cons_append, List.take_left]]
      have ew : (⟨(c :: r).toArray⟩ : Str) = w := by
        rw [← hc]
        show (⟨w.cps.toList.toArray⟩ : Str) = w
        rw [Array.toArray_toList]
      rw [ew]
  | sign z =>
    rcases h with rfl | rfl | rfl | rfl | rfl | rfl
    · rw [show tokC (.sign "(") = [40] by decide]; rfl
    · rw [show tokC (.sign ")") = [41] by decide]; rfl
    · rw [show tokC (.sign ";") = [59] by decide]; rfl
    · rw [show tokC (.sign "+") = [43] by decide]; rfl
    · rw [show tokC (.sign "-") = [45] by decide]; rfl
    · rw [show tokC (.sign "<=") = [60, 61] by decide]; rfl
end My
namespace My
open PySem L2
theorem tokC_first {t : Tok} (h : TokG t) : ∀ c r, tokC t = c :: r → c ≠ 32 ∧ (48 ≤ c ∧ c ≤ 57 → isNum t = true) ∧ (97 ≤ c ∧ c ≤ 122 → isLet t = true) := by
  intro c r e
  cases t with
  | fin => exact h.elim
  | num n =>
    have q := (num_small n (Nat.lt_succ_of_le h)).1 c (by rw [show chs (num (n : Nat)) = c :: r from e]; exact List.mem_cons_self ..)
    have q := (digs_mem c).mpr q
    exact ⟨by omega, fun _ => rfl, fun z => by omega⟩
  | word w =>
    have q := h.2.2 c (by rw [show w.cps.toList = c :: r from e]; exact List.mem_cons_self ..)
    exact ⟨by omega, fun z => by omega, fun _ => rfl⟩
  | sign z =>
    rcases h with rfl | rfl | rfl | rfl | rfl | rfl
    · rw [show tokC (.sign "(") = [40] by decide] at e; cases e; exact ⟨by decide, fun z => by omega, fun z => by omega⟩
    · rw [show tokC (.sign ")") = [41] by decide] at e; cases e; exact ⟨by decide, fun z => by omega, fun z => by omega⟩
    · rw [show tokC (.sign ";") = [59] by decide] at e; cases e; exact ⟨by decide, fun z => by omega, fun z => by omega⟩
    · rw [show tokC (.sign "+") = [43] by decide] at e; cases e; exact ⟨by decide, fun z => by omega, fun z => by omega⟩
    · rw [show tokC (.sign "-") = [45] by decide] at e; cases e; exact ⟨by decide, fun z => by omega, fun z => by omega⟩
    · rw [show tokC (.sign "<=") = [60, 61] by decide] at e; cases e; exact ⟨by decide, fun z => by omega, fun z => by omega⟩
theorem blanks (n : Nat) {l : List Nat} (h : ∀ c r, l = c :: r → c ≠ 32) : runFrom [32] (List.replicate n 32 ++ l) = n := by
  have := runFrom_app (S := [32]) (a := List.replicate n 32) (b := l) (fun c hc => by rw [(List.mem_replicate.mp hc).2]; exact List.mem_singleton.mpr rfl) (fun c r e z => h c r e (List.mem_singleton.mp z))
  rw [this, List.length_replicate]
theorem flat_head {g : Nat × Tok} {r : List (Nat × Tok)} (k : Nat) (h : fine (g :: r)) : HeadOk g.2 (flat r ++ List.replicate k 32) := by
  intro c l e
  cases r with
  | nil =>
    have e : List.replicate k 32 = c :: l := e
    cases k with
    | zero => cases e
    | succ k =>
      rw [List.replicate_succ] at e
      have := (List.cons.inj e).1
      exact ⟨fun _ => by omega, fun _ => by omega⟩
  | cons g' r' =>
    obtain ⟨h1, h2, h3⟩ := h
    have e : (List.replicate g'.1 32 ++ (tokC g'.2 ++ flat r')) ++ List.replicate k 32 = c :: l := e
    cases hg : g'.1 with
    | succ n =>
      rw [hg, List.replicate_succ] at e
      have := (List.cons.inj e).1
      exact ⟨fun _ => by omega, fun _ => by omega⟩
    | zero =>
      obtain ⟨a1, a2⟩ := h2 hg
      rw [hg] at e
      cases ht : tokC g'.2 with
      | nil => exact absurd ht (tokC_ne h3.head)
      | cons x y =>
        rw [ht] at e
        have e0 : x = c := (List.cons.inj e).1
        subst e0
        obtain ⟨_, b1, b2⟩ := tokC_first h3.head x y ht
        exact ⟨fun n1 z => a2 ⟨n1, b1 z⟩, fun n1 z => a1 ⟨n1, b2 z⟩⟩
theorem lex_flat (k : Nat) : ∀ (g : List (Nat × Tok)) (i : Nat), fine g → ∃ ts, lexL (g.length + 1) (i + runFrom [32] (flat g ++ List.replicate k 32)) ((flat g ++ List.replicate k 32).drop (runFrom [32] (flat g ++ List.replicate k 32))) = some ts ∧ ts.map Prod.fst = g.map Prod.snd ++ [.fin]
  | [], i, _ => by
    have e : runFrom [32] (flat [] ++ List.replicate k 32) = k := by
      have := blanks k (l := []) (fun c r e => nomatch e)
      rw [List.append_nil] at this
      exact this
    rw [e]
    have d : (flat [] ++ List.replicate k 32).drop k = [] := by
      show (List.replicate k 32).drop k = []
      rw [List.drop_eq_nil_iff, List.length_replicate]
      exact Nat.le_refl _
    rw [d]
    exact ⟨_, rfl, rfl⟩
  | g :: r, i, h => by
    have hg := h.head
    obtain ⟨c, y, hc⟩ : ∃ c y, tokC g.2 = c :: y := by
      cases ht : tokC g.2 with
      | nil => exact absurd ht (tokC_ne hg)
      | cons c y => exact ⟨c, y, rfl⟩
    have c32 := (tokC_first hg c y hc).1
    have el : flat (g :: r) ++ List.replicate k 32 = List.replicate g.1 32 ++ (tokC g.2 ++ (flat r ++ List.replicate k 32)) := by
      show (List.replicate g.1 32 ++ (tokC g.2 ++ flat r)) ++ _ = _
      simp only [List.append_assoc]
    have er : runFrom [32] (flat (g :: r) ++ List.replicate k 32) = g.1 := by
      rw [el]
      refine blanks _ fun x l e => ?_
      rw [hc] at e
      rw [← (List.cons.inj e).1]
      exact c32
    have ed : (flat (g :: r) ++ List.replicate k 32).drop g.1 = tokC g.2 ++ (flat r ++ List.replicate k 32) := by
      rw [el]
      have := List.drop_left (l₁ := List.replicate g.1 32) (l₂ := tokC g.2 ++ (flat r ++ List.replicate k 32))
      rw [List.length_replicate] at this
      exact this
    rw [er, ed]
    have sa := signAt_tok hg (flat_head k h)
    obtain ⟨ts, h1, h2⟩ := lex_flat k r (i + g.1 + (tokC g.2).length) h.tail
    refine ⟨(g.2, i + g.1) :: ts, ?_, by rw [List.map_cons, h2]; rfl⟩
    rw [hc, List.cons_append]
    unfold lexL
    rw [← List.cons_append, ← hc, sa]
    show (lexL _ (i + g.1 + (tokC g.2).length + runFrom [32] ((tokC g.2 ++ (flat r ++ List.replicate k 32)).drop (tokC g.2).length)) (((tokC g.2 ++ (flat r ++ List.replicate k 32)).drop (tokC g.2).length).drop (runFrom [32] ((tokC g.2 ++ (flat r ++ List.replicate k 32)).drop (tokC g.2).length)))).map ((g.2, i + g.1) :: ·) = _
    rw [List.drop_left, List.length_cons, h1]
    rfl
/-! ### how a plan is written -/
def opens (t : Tok) : Bool := match t with | .sign z => decide (z = "(") | _ => false
def close (t : Tok) : Bool := match t with | .sign z => decide (z = ")") || decide (z = ";") | _ => false
/-- the blanks of written text: none at the beginning, behind an opening bracket, ahead of a closing one and of a semicolon -/
def lay (p : Bool) : List Tok → List (Nat × Tok)
  | [] => []
  | t :: r => ((bif p || close t then 0 else 1), t) :: lay (opens t) r
def lastP (p : Bool) : List Tok → Bool
  | [] => p
  | t :: r => lastP (opens t) r
theorem lay_app : ∀ (a b : List Tok) (p : Bool), lay p (a ++ b) = lay p a ++ lay (lastP p a) b
  | [], _, _ => rfl
  | t :: a, b, p => by
    rw [List.cons_append, lay, lay, lay_app a b (opens t)]
    rfl
theorem lastP_app : ∀ (a b : List Tok) (p : Bool), lastP p (a ++ b) = lastP (lastP p a) b
  | [], _, _ => rfl
  | t :: a, b, p => by
    rw [List.cons_append, lastP, lastP_app a b (opens t)]
    rfl
theorem flat_app : ∀ a b : List (Nat × Tok), flat (a ++ b) = flat a ++ flat b
  | [], _ => rfl
  | g :: a, b => by
    rw [List.cons_append, flat, flat, flat_app a b]
    simp only [List.append_assoc]
theorem lay_snd : ∀ (a : List Tok) (p : Bool), (lay p a).map Prod.snd = a
  | [], _ => rfl
  | t :: a, p => by
    rw [lay, List.map_cons, lay_snd a]
theorem lay_fine : ∀ (a : List Tok) (p : Bool), (∀ t ∈ a, TokG t) → fine (lay p a)
  | [], _, _ => trivial
  | [t], _, h => h t (List.mem_cons_self ..)
  | t :: u :: a, p, h => by
    have ih := lay_fine (u :: a) (opens t) fun x hx => h x (List.mem_cons_of_mem _ hx)
    refine ⟨h t (List.mem_cons_self ..), ?_, ih⟩
    intro z
    have z : (bif opens t || close u then 0 else 1) = 0 := z
    cases t <;> cases u <;> simp [isLet, isNum, opens, close] at z ⊢
theorem lastP_last : ∀ (a : List Tok) (p : Bool), a ≠ [] → (∀ t, a.getLast? = some t → opens t = false) → lastP p a = false
  | [], _, h, _ => absurd rfl h
  | [t], p, _, h => h t rfl
  | t :: u :: a, p, _, h => by
    rw [lastP]
    exact lastP_last (u :: a) (opens t) (by simp) (fun x hx => h x (by rw [List.getLast?_cons_cons]; exact hx))
end My
namespace My
open PySem L2
/-- tokens l, written, are the text x -/
structure Wr (l : List Tok) (x : Str) : Prop where
  flat : ∀ p, flat (lay p l) = (bif p then [] else [32]) ++ chs x
  last : ∀ p, lastP p l = false
  good : ∀ t ∈ l, TokG t
theorem kept_G : ∀ w ∈ keptL, TokG (.word w) := by
  intro w h
  simp only [keptL, List.mem_cons, List.not_mem_nil, or_false] at h
  unfold TokG
  rcases h with rfl | rfl | rfl | rfl | rfl | rfl | rfl | rfl | rfl | rfl | rfl | rfl | rfl | rfl | rfl <;> decide +kernel
theorem kw {w : Str} (h : w ∈ keptL) : TokG (.word w) := kept_G w h
theorem name_G {nm : Str} (h : NameOk nm) : TokG (.word nm) := ⟨h.1, h.2.1, h.2.2.1⟩
theorem num_G {n : Int} (h0 : 0 ≤ n) (h : n ≤ 99) : TokG (.num n.toNat) := by
  show n.toNat ≤ 99
  omega
theorem num_nat {n : Int} (h : 0 ≤ n) : chs (num ((n.toNat : Nat) : Int)) = chs (num n) := by rw [show ((n.toNat : Nat) : Int) = n by omega]
theorem lay1 (p : Bool) (t : Tok) : lay p [t] = [((bif p || close t then 0 else 1), t)] := rfl
theorem lay_c (p : Bool) (t : Tok) (r : List Tok) : lay p (t :: r) = ((bif p || close t then 0 else 1), t) :: lay (opens t) r := rfl
theorem lastP_c (p : Bool) (t : Tok) (r : List Tok) : lastP p (t :: r) = lastP (opens t) r := rfl
theorem flat_c (g : Nat × Tok) (r : List (Nat × Tok)) : flat (g :: r) = List.replicate g.1 32 ++ (tokC g.2 ++ flat r) := rfl
theorem flat_n : flat [] = [] := rfl
theorem lay_n (p : Bool) : lay p [] = [] := rfl
theorem lastP_n (p : Bool) : lastP p [] = p := rfl
theorem op_w (w : Str) : opens (.word w) = false := rfl
theorem op_n (n : Nat) : opens (.num n) = false := rfl
theorem cl_w (w : Str) : close (.word w) = false := rfl
theorem cl_n (n : Nat) : close (.num n) = false := rfl
theorem op_s (z : Str) : opens (.sign z) = decide (z = "(") := rfl
theorem cl_s (z : Str) : close (.sign z) = (decide (z = ")") || decide (z = ";")) := rfl
theorem gap0 (p : Bool) : List.replicate (bif p || false then 0 else 1) 32 = bif p then [] else [32] := by cases p <;> rfl
theorem tokC_w (w : Str) : tokC (.word w) = chs w := rfl
theorem tokC_n (n : Nat) : tokC (.num n) = chs (num (n : Nat)) := rfl
theorem tokC_s (z : Str) : tokC (.sign z) = chs z := rfl
theorem rep1 (n : Nat) : List.replicate (bif (false || false) then 0 else 1) n = [n] := rfl
theorem wr_end {e : En} (h : RdE e) : Wr (toksE e) (endT e) := by
  have l1 : chs " + " = [32] ++ (chs "+" ++ [32]) := by decide +kernel
  have l2 : chs " - " = [32] ++ (chs "-" ++ [32]) := by decide +kernel
  have c1 : close (.sign "+") = false := by decide
  have c2 : close (.sign "-") = false := by decide
  have o1 : opens (.sign "+") = false := by decide
  have o2 : opens (.sign "-") = false := by decide
  unfold toksE endT
  by_cases h0 : e.1 = ""
  · have hb : 0 ≤ e.2 ∧ e.2 ≤ 99 := by
      rcases h with h | ⟨h, _⟩
      · exact h.2
      · rcases h with h | h
        · rw [h0] at h
          exact absurd h (by decide)
        · have := h.1
          rw [h0] at this
          exact absurd this (by decide)
    rw [if_pos h0, if_pos h0]
    refine ⟨fun p => ?_, fun p => rfl, fun t ht => ?_⟩
    · rw [lay1, flat_c, cl_n, gap0, tokC_n, num_nat hb.1, flat_n, List.append_nil]
    · rw [List.mem_singleton.mp ht]
      exact num_G hb.1 hb.2
  · rw [if_neg h0, if_neg h0]
    obtain ⟨hn, hm⟩ : (e.1 = "n" ∨ NameOk e.1) ∧ e.2.natAbs ≤ 99 := by
      rcases h with h | h
      · exact absurd h.1 h0
      · exact h
    have hg : TokG (.word e.1) := by
      rcases hn with hn | hn
      · rw [hn]
        exact kw (by decide)
      · exact name_G hn
    by_cases c0 : e.2 = 0
    · rw [if_pos c0, if_pos c0]
      refine ⟨fun p => ?_, fun p => rfl, fun t ht => ?_⟩
      · rw [lay1, flat_c, cl_w, gap0, tokC_w, flat_n, List.append_nil]
      · rw [List.mem_singleton.mp ht]
        exact hg
    · rw [if_neg c0, if_neg c0]
      by_cases c : 0 < e.2
      · rw [if_pos c, if_pos c]
        refine ⟨fun p => ?_, fun p => rfl, fun t ht => ?_⟩
        · simp only [lay_c, lay_n, flat_c, flat_n, cl_w, cl_n, op_w, o1, c1, gap0, cond_false, tokC_w, tokC_n, tokC_s, num_nat (Int.le_of_lt c), chs_app, l1, List.append_assoc, List.append_nil, List.nil_append]
        · simp only [List.mem_cons, List.not_mem_nil, or_false] at ht
          rcases ht with rfl | rfl | rfl
          · exact hg
          · show _ ∨ _
            simp
          · exact num_G (by omega) (by omega)
      · rw [if_neg c, if_neg c]
        refine ⟨fun p => ?_, fun p => rfl, fun t ht => ?_⟩
        · simp only [lay_c, lay_n, flat_c, flat_n, cl_w, cl_n, op_w, o2, c2, gap0, cond_false, tokC_w, tokC_n, tokC_s, num_nat (show 0 ≤ 0 - e.2 by omega), chs_app, l2, List.append_assoc, List.append_nil, List.nil_append]
        · simp only [List.mem_cons, List.not_mem_nil, or_false] at ht
          rcases ht with rfl | rfl | rfl
          · exact hg
          · show _ ∨ _
            simp
          · exact num_G (by omega) (by omega)
end My
namespace My
open PySem L2
theorem lits : chs "step " = chs "step" ++ [32] ∧ chs "call " = chs "call" ++ [32] ∧ chs " with " = [32] ++ (chs "with" ++ [32]) ∧ chs "double (" = chs "double" ++ ([32] ++ chs "(") ∧ chs "for " = chs "for" ++ [32] ∧ chs " from " = [32] ++ (chs "from" ++ [32]) ∧ chs " to " = [32] ++ (chs "to" ++ [32]) ∧ chs " (" = [32] ++ chs "(" ∧
    chs "if " = chs "if" ++ [32] ∧ chs " <= " = [32] ++ (chs "<=" ++ [32]) ∧ chs " else (" = [32] ++ (chs "else" ++ ([32] ++ chs "(")) ∧ chs "again " = chs "again" ++ [32] ∧ chs " on " = [32] ++ (chs "on" ++ [32]) ∧ chs "; " = chs ";" ++ [32] := by decide +kernel
theorem oc : opens (.sign "(") = true ∧ close (.sign "(") = false ∧ opens (.sign ")") = false ∧ close (.sign ")") = true ∧ opens (.sign ";") = false ∧ close (.sign ";") = true ∧ opens (.sign "<=") = false ∧ close (.sign "<=") = false := by decide +kernel
theorem gapc (p : Bool) : List.replicate (bif p || true then 0 else 1) 32 = [] := by cases p <;> rfl
theorem sg_G : TokG (.sign "(") ∧ TokG (.sign ")") ∧ TokG (.sign ";") ∧ TokG (.sign "<=") := by simp [TokG]
theorem good_app {a b : List Tok} (h1 : ∀ t ∈ a, TokG t) (h2 : ∀ t ∈ b, TokG t) : ∀ t ∈ a ++ b, TokG t := fun t h => (List.mem_append.mp h).elim (h1 t) (h2 t)
theorem good_c {x : Tok} {a : List Tok} (h1 : TokG x) (h2 : ∀ t ∈ a, TokG t) : ∀ t ∈ x :: a, TokG t := fun t h => (List.mem_cons.mp h).elim (fun e => by rw [e]; exact h1) (h2 t)
theorem good_n : ∀ t ∈ ([] : List Tok), TokG t := fun _ h => nomatch h
mutual
theorem wr_thing : ∀ {t : Thing} {deep : Nat}, RdT t deep → Wr (toksTh t) (thingT t)
  | .step n, deep, h => by
    obtain ⟨h1, h2⟩ : 0 ≤ n ∧ n ≤ 99 := by simpa only [RdT] using h
    obtain ⟨z1, z2, z3, z4, z5, z6, z7, z8, z9, za, zb, zc, zd, ze⟩ := lits
    rw [toksTh, thingT]
    · refine ⟨fun p => ?_, fun p => rfl, good_c (kw (by decide)) (good_c (num_G h1 h2) good_n)⟩
      simp only [lay_c, lay_n, flat_c, flat_n, cl_w, cl_n, op_w, gap0, cond_false, tokC_w, tokC_n, num_nat h1, chs_app, z1, List.append_assoc, List.append_nil]
    all_goals simp
  | .again n w, deep, h => by
    obtain ⟨h1, h2, h3⟩ : 1 ≤ n ∧ n ≤ 9 ∧ (w = "halves" ∨ w = "thirds" ∨ w = "less") := by simpa only [RdT] using h
    obtain ⟨z1, z2, z3, z4, z5, z6, z7, z8, z9, za, zb, zc, zd, ze⟩ := lits
    have hw : TokG (.word w) := by rcases h3 with rfl | rfl | rfl <;> exact kw (by decide)
    rw [toksTh, thingT]
    · refine ⟨fun p => ?_, fun p => rfl, good_c (kw (by decide)) (good_c (num_G (by omega) (by omega)) (good_c (kw (by decide)) (good_c hw good_n)))⟩
      simp only [lay_c, lay_n, flat_c, flat_n, cl_w, cl_n, op_w, op_n, gap0, cond_false, tokC_w, tokC_n, num_nat (show 0 ≤ n by omega), chs_app, zc, zd, List.append_assoc, List.append_nil]
    all_goals simp
  | .call nm e, deep, h => by
    obtain ⟨h1, h2⟩ : NameOk nm ∧ RdE e := by simpa only [RdT] using h
    obtain ⟨z1, z2, z3, z4, z5, z6, z7, z8, z9, za, zb, zc, zd, ze⟩ := lits
    have w1 := wr_end h2
    rw [toksTh, thingT]
    · refine ⟨fun p => ?_, fun p => ?_, good_app (good_c (kw (by decide)) (good_c (name_G h1) (good_c (kw (by decide)) good_n))) w1.good⟩
      · simp only [lay_app, flat_app, lastP_c, lastP_n, lay_c, lay_n, flat_c, flat_n, cl_w, op_w, gap0, cond_false, tokC_w, w1.flat, chs_app, z2, z3, List.append_assoc, List.append_nil]
      · rw [lastP_app]
        exact w1.last _
    all_goals simp
  | .double b, deep, h => by
    obtain ⟨h1, h2, h3⟩ : deep < 4 ∧ b ≠ [] ∧ RdB b (deep + 1) := by simpa only [RdT] using h
    obtain ⟨z1, z2, z3, z4, z5, z6, z7, z8, z9, za, zb, zc, zd, ze⟩ := lits
    obtain ⟨o1, o2, o3, o4, o5, o6, o7, o8⟩ := oc
    have w1 := wr_body h2 h3
    rw [toksTh, thingT]
    refine ⟨fun p => ?_, fun p => ?_, good_app (good_c (kw (by decide)) (good_c sg_G.1 good_n)) (good_app w1.good (good_c sg_G.2.1 good_n))⟩
    · simp only [lay_app, flat_app, lastP_c, lastP_n, lay_c, lay_n, flat_c, flat_n, cl_w, op_w, o1, o2, o4, gap0, gapc, cond_false, cond_true, tokC_w, tokC_s, w1.flat, chs_app, z4, List.append_assoc, List.append_nil, List.nil_append]
    · simp only [lastP_app, lastP_c, lastP_n, o3]
  | .loop nm e1 e2 b, deep, h => by
    obtain ⟨h1, h2, h3, h4, h5, h6⟩ : NameOk nm ∧ RdE e1 ∧ RdE e2 ∧ deep < 4 ∧ b ≠ [] ∧ RdB b (deep + 1) := by simpa only [RdT] using h
    obtain ⟨z1, z2, z3, z4, z5, z6, z7, z8, z9, za, zb, zc, zd, ze⟩ := lits
    obtain ⟨o1, o2, o3, o4, o5, o6, o7, o8⟩ := oc
    have w1 := wr_end h2
    have w2 := wr_end h3
    have w3 := wr_body h5 h6
    rw [toksTh, thingT]
    refine ⟨fun p => ?_, fun p => ?_, good_app (good_c (kw (by decide)) (good_c (name_G h1) (good_c (kw (by decide)) good_n))) (good_app w1.good (good_app (good_c (kw (by decide)) good_n) (good_app w2.good (good_app (good_c sg_G.1 good_n) (good_app w3.good (good_c sg_G.2.1 good_n))))))⟩
    · simp only [lay_app, flat_app, lastP_c, lastP_n, w1.last, w2.last, w3.last, lay_c, lay_n, flat_c, flat_n, cl_w, op_w, o1, o2, o4, gap0, gapc, cond_false, cond_true, tokC_w, tokC_s, w1.flat, w2.flat, w3.flat, chs_app, z5, z6, z7, z8, List.append_assoc, List.append_nil, List.nil_append]
    · simp only [lastP_app, lastP_c, lastP_n, o3]
  | .test e1 e2 b1 b2, deep, h => by
    obtain ⟨h1, h2, h3, h4, h5, h6⟩ : RdE e1 ∧ RdE e2 ∧ deep < 4 ∧ b1 ≠ [] ∧ RdB b1 (deep + 1) ∧ RdB b2 (deep + 1) := by simpa only [RdT] using h
    obtain ⟨z1, z2, z3, z4, z5, z6, z7, z8, z9, za, zb, zc, zd, ze⟩ := lits
    obtain ⟨o1, o2, o3, o4, o5, o6, o7, o8⟩ := oc
    have w1 := wr_end h1
    have w2 := wr_end h2
    have w3 := wr_body h4 h5
    rw [toksTh, thingT]
    have hd : ∀ t ∈ ([Tok.word "if"] ++ (toksE e1 ++ ([Tok.sign "<="] ++ (toksE e2 ++ ([Tok.sign "("] ++ (toksB b1 ++ [Tok.sign ")"])))))), TokG t := good_app (good_c (kw (by decide)) good_n) (good_app w1.good (good_app (good_c sg_G.2.2.2 good_n) (good_app w2.good (good_app (good_c sg_G.1 good_n) (good_app w3.good (good_c sg_G.2.1 good_n))))))
    cases hb : b2 with
    | nil =>
      refine ⟨fun p => ?_, fun p => ?_, by simpa using hd⟩
      · simp only [List.isEmpty_nil, if_true, lay_app, flat_app, lastP_c, lastP_n, w1.last, w2.last, w3.last, lay_c, lay_n, flat_c, flat_n, cl_w, op_w, o1, o2, o3, o4, o7, o8, gap0, gapc, cond_false, cond_true, tokC_w, tokC_s, w1.flat, w2.flat, w3.flat, chs_app, z8, z9, za, List.append_assoc, List.append_nil, List.nil_append]
      · simp only [List.isEmpty_nil, if_true, lastP_app, lastP_c, lastP_n, o3]
    | cons x y =>
      have w4 := wr_body (b := b2) (deep := deep + 1) (by rw [hb]; simp) h6
      rw [hb] at w4
      have hd2 : ∀ t ∈ ([Tok.word "else", Tok.sign "("] ++ (toksB (x :: y) ++ [Tok.sign ")"])), TokG t := good_app (good_c (kw (by decide)) (good_c sg_G.1 good_n)) (good_app w4.good (good_c sg_G.2.1 good_n))
      refine ⟨fun p => ?_, fun p => ?_, by simpa using good_app hd hd2⟩
      · simp only [List.isEmpty_cons, if_neg Bool.false_ne_true, lay_app, flat_app, lastP_c, lastP_n, w1.last, w2.last, w3.last, w4.last, lay_c, lay_n, flat_c, flat_n, cl_w, op_w, o1, o2, o3, o4, o7, o8, gap0, gapc, cond_false, cond_true, tokC_w, tokC_s, w1.flat, w2.flat, w3.flat, w4.flat, chs_app, z8, z9, za, zb, List.append_assoc, List.append_nil, List.nil_append]
      · simp only [List.isEmpty_cons, if_neg Bool.false_ne_true, lastP_app, lastP_c, lastP_n, o3]
theorem wr_body : ∀ {b : List Thing} {deep : Nat}, b ≠ [] → RdB b deep → Wr (toksB b) (planT b)
  | [], _, h, _ => absurd rfl h
  | [t], deep, _, h => by
    have h : RdT t deep ∧ RdB [] deep := by simpa only [RdB] using h
    rw [toksB, planT]
    exact wr_thing h.1
  | t :: u :: r, deep, _, h => by
    have h : RdT t deep ∧ RdB (u :: r) deep := by
      rw [RdB] at h
      exact h
    obtain ⟨z1, z2, z3, z4, z5, z6, z7, z8, z9, za, zb, zc, zd, ze⟩ := lits
    obtain ⟨o1, o2, o3, o4, o5, o6, o7, o8⟩ := oc
    have w1 := wr_thing h.1
    have w2 := wr_body (b := u :: r) (by simp) h.2
    rw [toksB, planT]
    refine ⟨fun p => ?_, fun p => ?_, good_app w1.good (good_app (good_c sg_G.2.2.1 good_n) w2.good)⟩
    · simp only [lay_app, flat_app, lastP_c, lastP_n, w1.last, lay_c, lay_n, flat_c, flat_n, o5, o6, gapc, cond_false, tokC_s, w1.flat, w2.flat, chs_app, ze, List.append_assoc, List.append_nil, List.nil_append]
    · simp only [lastP_app, w2.last]
end
/-- the tokens of a written plan -/
theorem lex_plan {b : List Thing} {deep : Nat} (hne : b ≠ []) (h : RdB b deep) : ∃ f ts, lexL f (runFrom [32] (planT b).cps.toList) ((planT b).cps.toList.drop (runFrom [32] (planT b).cps.toList)) = some ts ∧ ts.map Prod.fst = toksB b ++ [.fin] := by
  have w := wr_body hne h
  have e : (planT b).cps.toList = flat (lay true (toksB b)) := by rw [w.flat]; rfl
  obtain ⟨ts, h1, h2⟩ := lex_flat 0 (lay true (toksB b)) 0 (lay_fine _ _ w.good)
  rw [lay_snd] at h2
  simp only [List.replicate_zero, List.append_nil, Nat.zero_add] at h1
  refine ⟨(lay true (toksB b)).length + 1, ts, ?_, h2⟩
  rw [e]
  exact h1
end My
namespace My
open PySem L2
theorem rdE_of {wide : Bool} {sc : List Str} {e : En} (hs : ∀ x ∈ sc, x = "n" ∨ NameOk x) (h : EndOk wide sc e) : RdE e := by
  obtain ⟨h1, h2⟩ := h
  have h1 : e.2.natAbs ≤ 99 := by
    cases wide
    · have : e.2.natAbs < 5 := h1
      omega
    · have : e.2.natAbs < 100 := h1
      omega
  rcases h2 with h2 | h2
  · exact .inl ⟨h2.1, h2.2, by omega⟩
  · exact .inr ⟨hs _ h2, h1⟩
mutual
theorem rdT_of {k : Kit} (hk : ∀ e ∈ k.kn, NameOk e.1) : ∀ {t : Thing} {sc : List Str} {deep : Nat}, (∀ x ∈ sc, x = "n" ∨ NameOk x) → ThOk k t sc deep → RdT t deep
  | .step n, sc, deep, hs, h => by
    rw [ThOk] at h
    rw [RdT]
    exact ⟨h.1, by omega⟩
  | .call nm e, sc, deep, hs, h => by
    rw [ThOk] at h
    obtain ⟨en, h1, _, _, h2, _⟩ := h
    rw [RdT]
    exact ⟨hk _ h1, rdE_of hs h2⟩
  | .double b, sc, deep, hs, h => by
    rw [ThOk] at h
    obtain ⟨h1, _, h2, _, h3⟩ := h
    rw [RdT]
    exact ⟨by omega, (fun z => by rw [z] at h2; exact absurd h2 (by decide)), rdB_of hk hs h3⟩
  | .loop nm e1 e2 b, sc, deep, hs, h => by
    rw [ThOk] at h
    obtain ⟨h1, h2, h3, h4, h5, h6, _, h7⟩ := h
    rw [RdT]
    refine ⟨h2, rdE_of hs h4, rdE_of hs h5, by omega, (fun z => by rw [z] at h6; exact absurd h6 (by decide)), rdB_of hk (fun x hx => ?_) h7⟩
    rcases List.mem_append.mp hx with hx | hx
    · exact hs x hx
    · rw [List.mem_singleton.mp hx]
      exact .inr h2
  | .test e1 e2 b1 b2, sc, deep, hs, h => by
    rw [ThOk] at h
    obtain ⟨h1, h2, h3, h4, _, _, h5, h6⟩ := h
    rw [RdT]
    exact ⟨rdE_of hs h2, rdE_of hs h3, by omega, (fun z => by rw [z] at h4; exact absurd h4 (by decide)), rdB_of hk hs h5, rdB_of hk hs h6⟩
  | .again n w, sc, deep, hs, h => by
    rw [ThOk] at h
    exact h.elim
theorem rdB_of {k : Kit} (hk : ∀ e ∈ k.kn, NameOk e.1) : ∀ {b : List Thing} {sc : List Str} {deep : Nat}, (∀ x ∈ sc, x = "n" ∨ NameOk x) → BdOk k b sc deep → RdB b deep
  | [], _, _, _, _ => by simp [RdB]
  | t :: r, sc, deep, hs, h => by
    rw [BdOk] at h
    rw [RdB]
    exact ⟨rdT_of hk hs h.1, rdB_of hk hs h.2⟩
end
end My
namespace My
open PySem L2
/-! ### how deep and wide plans are as data -/
theorem dep_end (e : En) : dep (endD e) = 1 := by simp [endD, dep, depAll]
theorem wid_end (e : En) : wid (endD e) = 2 := by simp [endD, wid, widAll]
mutual
theorem dep_thing : ∀ {t : Thing} {deep : Nat}, deep ≤ 4 → RdT t deep → dep (thingD t) ≤ 2 * (4 - deep) + 2
  | .step n, _, _, _ => by
    rw [thingD]
    simp only [dep, depAll]
    omega
  | .call nm e, _, _, _ => by
    rw [thingD]
    simp only [dep, depAll, dep_end]
    omega
  | .double b, deep, hd, h => by
    rw [RdT] at h
    have ih := dep_things (b := b) (deep := deep + 1) (by omega) h.2.2
    rw [thingD]
    simp only [dep, depAll]
    omega
  | .loop nm e1 e2 b, deep, hd, h => by
    rw [RdT] at h
    have ih := dep_things (b := b) (deep := deep + 1) (by omega) h.2.2.2.2.2
    rw [thingD]
    simp only [dep, depAll, dep_end]
    omega
  | .test e1 e2 b1 b2, deep, hd, h => by
    rw [RdT] at h
    have i1 := dep_things (b := b1) (deep := deep + 1) (by omega) h.2.2.2.2.1
    have i2 := dep_things (b := b2) (deep := deep + 1) (by omega) h.2.2.2.2.2
    rw [thingD]
    simp only [dep, depAll, dep_end]
    omega
  | .again n w, _, _, _ => by
    rw [thingD]
    simp only [dep, depAll]
    omega
theorem dep_things : ∀ {b : List Thing} {deep : Nat}, deep ≤ 4 → RdB b deep → depAll (thingsD b) ≤ 2 * (4 - deep) + 2
  | [], _, _, _ => by
    simp only [thingsD, depAll]
    omega
  | t :: r, deep, hd, h => by
    rw [RdB] at h
    have i1 := dep_thing hd h.1
    have i2 := dep_things hd h.2
    rw [thingsD]
    simp only [depAll]
    omega
end
mutual
theorem wid_thing : ∀ t : Thing, wid (thingD t) ≤ thingC t + 5
  | .step n => by
    rw [thingD]
    simp [wid, widAll]
  | .call nm e => by
    rw [thingD]
    simp [wid, widAll, wid_end]
  | .double b => by
    have i1 := wid_things b
    have l1 := thingsC_len b
    rw [thingD, thingC]
    have l2 : (thingsD b).length = b.length := by rw [thingsD_eq, List.length_map]
    simp only [wid, widAll, List.length_cons, List.length_nil, l2]
    omega
  | .loop nm e1 e2 b => by
    have i1 := wid_things b
    have l1 := thingsC_len b
    rw [thingD, thingC]
    have l2 : (thingsD b).length = b.length := by rw [thingsD_eq, List.length_map]
    simp only [wid, widAll, List.length_cons, List.length_nil, l2, wid_end]
    omega
  | .test e1 e2 b1 b2 => by
    have i1 := wid_things b1
    have i2 := wid_things b2
    have l1 := thingsC_len b1
    have l2 := thingsC_len b2
    rw [thingD, thingC]
    have l3 : (thingsD b1).length = b1.length := by rw [thingsD_eq, List.length_map]
    have l4 : (thingsD b2).length = b2.length := by rw [thingsD_eq, List.length_map]
    simp only [wid, widAll, List.length_cons, List.length_nil, l3, l4, wid_end]
    omega
  | .again n w => by
    rw [thingD]
    simp [wid, widAll]
theorem wid_things : ∀ b : List Thing, widAll (thingsD b) ≤ thingsC b + 5
  | [] => by
    simp only [thingsD, widAll]
    omega
  | t :: r => by
    have i1 := wid_thing t
    have i2 := wid_things r
    rw [thingsD, thingsC]
    simp only [widAll]
    omega
end
theorem dep_plan {b : List Thing} (h : RdB b 0) : dep (planD b) < 12 := by
  have := dep_things (by decide) h
  unfold planD
  simp only [dep]
  omega
theorem wid_plan {b : List Thing} (h : thingsC b ≤ 100) : wid (planD b) ≤ 100000 := by
  have := wid_things b
  have l1 := thingsC_len b
  have l2 : (thingsD b).length = b.length := by rw [thingsD_eq, List.length_map]
  unfold planD
  simp only [wid, l2]
  omega
theorem str_dep (x : Str) : dep (.str x) < 12 := Nat.lt_of_le_of_lt (Nat.le_of_eq (by simp [dep])) (by decide : 0 < 12)
theorem str_wid (x : Str) : wid (.str x) ≤ 100000 := Nat.le_trans (Nat.le_of_eq (by simp [wid])) (by decide : 0 ≤ 100000)
end My
namespace My
open PySem L2
/-! ### written texts with blanks more -/
def rep (n : Nat) : List Nat := List.replicate n 32
theorem rep_add (a b : Nat) : rep a ++ rep b = rep (a + b) := List.replicate_append_replicate
/-- what becomes of one sign -/
def SpStep (c : Nat) (l : List Nat) : Prop := (c ∈ marksS.cps.toList ∧ ∃ a b, l = rep a ++ ([c] ++ rep b)) ∨ (c = 32 ∧ ∃ a, l = rep (a + 1)) ∨ (¬ c ∈ marksS.cps.toList ∧ c ≠ 32 ∧ l = [c])
inductive Spd : List Nat → List Nat → Prop
  | nil : Spd [] []
  | cons {c : Nat} {r l m : List Nat} : SpStep c l → Spd r m → Spd (c :: r) (l ++ m)
theorem Spd.app : ∀ {a b l : List Nat}, Spd (a ++ b) l → ∃ l1 l2, l = l1 ++ l2 ∧ Spd a l1 ∧ Spd b l2
  | [], b, l, h => ⟨[], l, rfl, .nil, h⟩
  | c :: a, b, l, h => by
    cases h with
    | cons h1 h2 =>
      obtain ⟨l1, l2, rfl, q1, q2⟩ := Spd.app h2
      exact ⟨_ ++ l1, l2, (List.append_assoc ..).symm, .cons h1 q1, q2⟩
theorem Spd.snoc : ∀ {a l : List Nat} {c : Nat} {m : List Nat}, Spd a l → SpStep c m → Spd (a ++ [c]) (l ++ m)
  | _, _, _, m, .nil, h => by
    have := Spd.cons h .nil
    rw [List.append_nil] at this
    exact this
  | _, _, _, m, .cons h1 h2, h => by
    rw [List.append_assoc]
    exact .cons h1 (Spd.snoc h2 h)
theorem marks_ne : ¬ 32 ∈ marksS.cps.toList := by decide
theorem spd_rep : ∀ {n : Nat} {l : List Nat}, Spd (rep n) l → ∃ m, n ≤ m ∧ (n = 0 → m = 0) ∧ l = rep m
  | 0, l, h => by
    cases h
    exact ⟨0, Nat.le_refl _, fun h => h, rfl⟩
  | n + 1, l, h => by
    have h : Spd (32 :: rep n) l := h
    cases h with
    | cons h1 h2 =>
      obtain ⟨m, q1, q2, rfl⟩ := spd_rep h2
      rcases h1 with ⟨h1, _⟩ | ⟨_, a, rfl⟩ | ⟨_, h1, _⟩
      · exact absurd h1 marks_ne
      · exact ⟨a + 1 + m, by omega, (fun z => by omega), rep_add _ _⟩
      · exact absurd rfl h1
/-- signs that stay as they are -/
theorem spd_stay : ∀ {a l : List Nat}, (∀ c ∈ a, ¬ c ∈ marksS.cps.toList ∧ c ≠ 32) → Spd a l → l = a
  | [], l, _, h => by cases h; rfl
  | c :: a, l, hs, h => by
    cases h with
    | cons h1 h2 =>
      obtain ⟨s1, s2⟩ := hs c (List.mem_cons_self ..)
      have ih := spd_stay (fun x hx => hs x (List.mem_cons_of_mem _ hx)) h2
      rcases h1 with ⟨h1, _⟩ | ⟨h1, _⟩ | ⟨_, _, rfl⟩
      · exact absurd h1 s1
      · exact absurd h1 s2
      · rw [ih]; rfl
theorem marks_all : ∀ c ∈ marksS.cps.toList, c ≠ 32 ∧ ¬ (48 ≤ c ∧ c ≤ 57) ∧ ¬ (97 ≤ c ∧ c ≤ 122) ∧ c ≠ 60 ∧ c ≠ 61 := by decide +kernel
theorem spd_tok {t : Tok} {l : List Nat} (h : TokG t) (s : Spd (tokC t) l) : ∃ a b, l = rep a ++ (tokC t ++ rep b) := by
  cases t with
  | fin => exact h.elim
  | num n =>
    refine ⟨0, 0, ?_⟩
    have e := spd_stay (fun c hc => ?_) s
    · rw [e]
      exact (List.append_nil _).symm
    · have q := (digs_mem c).mpr ((num_small n (Nat.lt_succ_of_le h)).1 c hc)
      exact ⟨fun z => (marks_all c z).2.1 q, by omega⟩
  | word w =>
    refine ⟨0, 0, ?_⟩
    have e := spd_stay (fun c hc => ?_) s
    · rw [e]
      exact (List.append_nil _).symm
    · have q := h.2.2 c hc
      exact ⟨fun z => (marks_all c z).2.2.1 q, by omega⟩
  | sign z =>
    have one : ∀ {c : Nat} {l : List Nat}, Spd [c] l → ∃ m, l = m ∧ SpStep c m := fun h => by
      cases h with
      | cons h1 h2 =>
        cases h2
        exact ⟨_, List.append_nil _, h1⟩
    have mk : ∀ {c : Nat}, c ∈ marksS.cps.toList → tokC (.sign z) = [c] → ∃ a b, l = rep a ++ (tokC (.sign z) ++ rep b) := fun hc e => by
      rw [e] at s ⊢
      obtain ⟨m, rfl, q⟩ := one s
      rcases q with ⟨_, a, b, e⟩ | ⟨e, _⟩ | ⟨e, _⟩
      · exact ⟨a, b, e⟩
      · exact absurd e (marks_all _ hc).1
      · exact absurd hc e
    rcases h with rfl | rfl | rfl | rfl | rfl | rfl
    · exact mk (c := 40) (by decide) (by decide)
    · exact mk (c := 41) (by decide) (by decide)
    · exact mk (c := 59) (by decide) (by decide)
    · exact mk (c := 43) (by decide) (by decide)
    · exact mk (c := 45) (by decide) (by decide)
    · refine ⟨0, 0, ?_⟩
      have e := spd_stay (fun c hc => ?_) s
      · rw [e]
        exact (List.append_nil _).symm
      · rw [show tokC (.sign "<=") = [60, 61] by decide] at hc
        have : c = 60 ∨ c = 61 := by simpa using hc
        rcases this with rfl | rfl <;> exact ⟨by decide, by decide⟩
/-- the first gap is of no weight -/
theorem fine_gap {n m : Nat} {t : Tok} {r : List (Nat × Tok)} (h : fine ((n, t) :: r)) : fine ((m, t) :: r) := by
  cases r with
  | nil => exact h
  | cons x y => exact h
/-- wider gaps -/
inductive Wider : List (Nat × Tok) → List (Nat × Tok) → Prop
  | nil : Wider [] []
  | cons {n m : Nat} {t : Tok} {r s : List (Nat × Tok)} : n ≤ m → Wider r s → Wider ((n, t) :: r) ((m, t) :: s)
theorem Wider.snd : ∀ {g h : List (Nat × Tok)}, Wider g h → h.map Prod.snd = g.map Prod.snd
  | _, _, .nil => rfl
  | _, _, .cons _ q => by rw [List.map_cons, List.map_cons, q.snd]
theorem Wider.fine : ∀ {g h : List (Nat × Tok)}, Wider g h → My.fine g → My.fine h
  | _, _, .nil, _ => trivial
  | _, _, .cons _ .nil, f => f
  | _, _, .cons (n := n) (m := m) (t := t) h1 (.cons (n := n2) (m := m2) (t := t2) h2 q), f => by
    obtain ⟨f1, f2, f3⟩ := f
    exact ⟨f1, fun z => f2 (by show n2 = 0; have z : m2 = 0 := z; omega), Wider.fine (.cons h2 q) f3⟩
theorem spd_flat : ∀ {g : List (Nat × Tok)} {l : List Nat}, fine g → Spd (flat g) l → ∃ h k, Wider g h ∧ l = flat h ++ rep k
  | [], l, _, s => by
    cases s
    exact ⟨[], 0, .nil, rfl⟩
  | (n, t) :: r, l, f, s => by
    have s : Spd (rep n ++ (tokC t ++ flat r)) l := s
    obtain ⟨l1, l2, rfl, s1, s2⟩ := s.app
    obtain ⟨l3, l4, rfl, s3, s4⟩ := s2.app
    obtain ⟨m, hm, _, rfl⟩ := spd_rep s1
    obtain ⟨a, b, rfl⟩ := spd_tok f.head s3
    obtain ⟨h, k, w, rfl⟩ := spd_flat f.tail s4
    cases w with
    | nil =>
      refine ⟨[(m + a, t)], b + k, .cons (by omega) .nil, ?_⟩
      show rep m ++ ((rep a ++ (tokC t ++ rep b)) ++ ([] ++ rep k)) = (rep (m + a) ++ (tokC t ++ [])) ++ rep (b + k)
      simp only [← rep_add, List.append_assoc, List.append_nil, List.nil_append]
    | @cons n2 m2 t2 r2 h2 h1 q =>
      refine ⟨(m + a, t) :: (b + m2, t2) :: h2, k, .cons (by omega) (.cons (by omega) q), ?_⟩
      show rep m ++ ((rep a ++ (tokC t ++ rep b)) ++ ((rep m2 ++ (tokC t2 ++ flat h2)) ++ rep k)) = (rep (m + a) ++ (tokC t ++ (rep (b + m2) ++ (tokC t2 ++ flat h2)))) ++ rep k
      simp only [← rep_add, List.append_assoc]
end My
namespace My
open PySem L2
open PySem.StrLaws (replL replL_nil replL_hit replL_miss)
/-! ### blanks about the sign <= -/
abbrev leY : List Nat := [32, 60, 61, 32]
theorem miss_c {z r : List Nat} {c : Nat} (h : c ≠ 32) : replL leY z (c :: r) = c :: replL leY z r := by
  refine replL_miss fun e => ?_
  have e : c :: r.take 3 = [32, 60, 61, 32] := e
  exact h (List.cons.inj e).1
theorem miss_all {z r : List Nat} : ∀ {a : List Nat}, (∀ c ∈ a, c ≠ 32) → replL leY z (a ++ r) = a ++ replL leY z r
  | [], _ => rfl
  | c :: a, h => by
    rw [List.cons_append, miss_c (h c (List.mem_cons_self ..)), miss_all fun x hx => h x (List.mem_cons_of_mem _ hx)]
    rfl
theorem miss_b {z r : List Nat} (h : ¬ ∃ m, r = [60, 61, 32] ++ m) : replL leY z (32 :: r) = 32 :: replL leY z r := by
  refine replL_miss fun e => ?_
  have e : 32 :: r.take 3 = [32, 60, 61, 32] := e
  have e := (List.cons.inj e).2
  refine h ⟨r.drop 3, ?_⟩
  rw [← e, List.take_append_drop]
theorem hit_b {z m : List Nat} : replL leY z (32 :: ([60, 61, 32] ++ m)) = z ++ replL leY z m := replL_hit (by decide) rfl
/-- blanks ahead of something that is not the sign -/
theorem miss_rep {z r : List Nat} (h : ¬ ∃ m, r = [60, 61, 32] ++ m) : ∀ n : Nat, replL leY z (rep n ++ r) = rep n ++ replL leY z r
  | 0 => rfl
  | n + 1 => by
    show replL leY z (32 :: (rep n ++ r)) = 32 :: (rep n ++ replL leY z r)
    rw [miss_b, miss_rep h n]
    rintro ⟨m, e⟩
    cases n with
    | zero => exact h ⟨m, e⟩
    | succ n =>
      have e : 32 :: (rep n ++ r) = 60 :: ([61, 32] ++ m) := e
      exact absurd (List.cons.inj e).1 (by decide)
theorem tokC_no32 {t : Tok} (h : TokG t) : ∀ c ∈ tokC t, c ≠ 32 := by
  cases t with
  | fin => exact h.elim
  | num n =>
    intro c hc
    have q := (digs_mem c).mpr ((num_small n (Nat.lt_succ_of_le h)).1 c hc)
    omega
  | word w =>
    intro c hc
    have q := h.2.2 c hc
    omega
  | sign z => rcases h with rfl | rfl | rfl | rfl | rfl | rfl <;> decide
theorem tokC_60 {t : Tok} {m r : List Nat} (h : TokG t) (e : tokC t ++ r = [60, 61, 32] ++ m) : t = .sign "<=" ∧ r = 32 :: m := by
  cases ht : tokC t with
  | nil => exact absurd ht (tokC_ne h)
  | cons c y =>
    rw [ht] at e
    have c60 : c = 60 := (List.cons.inj e).1
    have hm : c ∈ tokC t := by rw [ht]; exact List.mem_cons_self ..
    cases t with
    | fin => exact h.elim
    | num n =>
      have q := (digs_mem c).mpr ((num_small n (Nat.lt_succ_of_le h)).1 c hm)
      omega
    | word w =>
      have q := h.2.2 c hm
      omega
    | sign z =>
      rcases h with rfl | rfl | rfl | rfl | rfl | rfl
      · rw [show tokC (.sign "(") = [40] by decide] at ht; cases ht; exact absurd c60 (by decide)
      · rw [show tokC (.sign ")") = [41] by decide] at ht; cases ht; exact absurd c60 (by decide)
      · rw [show tokC (.sign ";") = [59] by decide] at ht; cases ht; exact absurd c60 (by decide)
      · rw [show tokC (.sign "+") = [43] by decide] at ht; cases ht; exact absurd c60 (by decide)
      · rw [show tokC (.sign "-") = [45] by decide] at ht; cases ht; exact absurd c60 (by decide)
      · rw [show tokC (.sign "<=") = [60, 61] by decide] at ht
        cases ht
        exact ⟨rfl, (List.cons.inj (List.cons.inj e).2).2⟩
theorem le_free : isLet (.sign "<=") = false ∧ isNum (.sign "<=") = false := ⟨rfl, rfl⟩
theorem fine_cons {n : Nat} {t : Tok} {r : List (Nat × Tok)} (h : TokG t) (hr : fine r) (ha : ∀ m u s, r = (m, u) :: s → m = 0 → ¬ (isLet t = true ∧ isLet u = true) ∧ ¬ (isNum t = true ∧ isNum u = true)) : fine ((n, t) :: r) := by
  cases r with
  | nil => exact h
  | cons x y => exact ⟨h, fun z => ha x.1 x.2 y rfl z, hr⟩
/-- the blanks of z about the sign -/
theorem repl_flat (a b : Nat) : ∀ (N : Nat) (g : List (Nat × Tok)) (k : Nat), g.length ≤ N → fine g → ∃ h j, replL leY (rep a ++ ([60, 61] ++ rep b)) (flat g ++ rep k) = flat h ++ rep j ∧ h.map Prod.snd = g.map Prod.snd ∧ fine h ∧
    ∀ n t r, g = (n, t) :: r → t ≠ .sign "<=" → ∃ s, h = (n, t) :: s
  | N, [], k, _, _ => by
    refine ⟨[], k, ?_, rfl, trivial, fun _ _ _ e => nomatch e⟩
    have := miss_rep (z := rep a ++ ([60, 61] ++ rep b)) (r := []) (by rintro ⟨m, e⟩; cases e) k
    rw [List.append_nil, replL_nil, List.append_nil] at this
    exact this
  | 0, g :: r, _, h, _ => by simp at h
  | N + 1, (n, t) :: r, k, hl, f => by
    have hl2 : r.length ≤ N := by simpa using hl
    have ht := f.head
    have el : flat ((n, t) :: r) ++ rep k = rep n ++ (tokC t ++ (flat r ++ rep k)) := by
      show (rep n ++ (tokC t ++ flat r)) ++ rep k = _
      simp only [List.append_assoc]
    rw [el]
    by_cases c : ∃ m, n ≠ 0 ∧ t = .sign "<=" ∧ flat r ++ rep k = 32 :: m
    · obtain ⟨m, hn, rfl, em⟩ := c
      obtain ⟨n', rfl⟩ : ∃ n', n = n' + 1 := ⟨n - 1, by omega⟩
      have e0 : rep (n' + 1) ++ (tokC (.sign "<=") ++ (32 :: m)) = rep n' ++ (32 :: ([60, 61, 32] ++ m)) := by
        rw [show rep (n' + 1) = rep n' ++ rep 1 from (rep_add n' 1).symm, List.append_assoc]
        rfl
      have e1 : replL leY (rep a ++ ([60, 61] ++ rep b)) (rep n' ++ (32 :: ([60, 61, 32] ++ m))) = rep n' ++ ((rep a ++ ([60, 61] ++ rep b)) ++ replL leY (rep a ++ ([60, 61] ++ rep b)) m) := by
        rw [miss_rep (by rintro ⟨x, e⟩; exact absurd (List.cons.inj e).1 (by decide)), hit_b]
      rw [em, e0, e1]
      cases r with
      | nil =>
        have em : rep k = 32 :: m := em
        cases k with
        | zero => cases em
        | succ k =>
          have em : m = rep k := (List.cons.inj em).2.symm
          subst em
          have e2 := miss_rep (z := rep a ++ ([60, 61] ++ rep b)) (r := []) (by rintro ⟨m, e⟩; cases e) k
          rw [List.append_nil, replL_nil, List.append_nil] at e2
          rw [e2]
          refine ⟨[(n' + a, .sign "<=")], b + k, ?_, rfl, ht, fun n t r e q => ?_⟩
          · show rep n' ++ ((rep a ++ ([60, 61] ++ rep b)) ++ rep k) = (rep (n' + a) ++ ([60, 61] ++ [])) ++ rep (b + k)
            simp only [← rep_add, List.append_assoc, List.nil_append]
          · injection e with e1 e2
            injection e1 with e3 e4
            exact absurd e4.symm q
      | cons g2 r2 =>
        obtain ⟨n2, t2⟩ := g2
        have em : (rep n2 ++ (tokC t2 ++ flat r2)) ++ rep k = 32 :: m := em
        cases n2 with
        | zero =>
          have em : (tokC t2 ++ flat r2) ++ rep k = 32 :: m := em
          have ht2 := f.tail.head
          cases hc : tokC t2 with
          | nil => exact absurd hc (tokC_ne ht2)
          | cons x y =>
            rw [hc] at em
            have x32 : x = 32 := (List.cons.inj em).1
            exact absurd x32 (tokC_no32 ht2 x (by rw [hc]; exact List.mem_cons_self ..))
        | succ n2 =>
          have em : m = flat ((n2, t2) :: r2) ++ rep k := (List.cons.inj em).2.symm
          subst em
          obtain ⟨h, j, q1, q2, q3, _⟩ := repl_flat a b N ((n2, t2) :: r2) k hl2 (fine_gap f.tail)
          rw [q1]
          cases h with
          | nil => cases q2
          | cons h1 h2 =>
            obtain ⟨n3, t3⟩ := h1
            refine ⟨(n' + a, .sign "<=") :: (b + n3, t3) :: h2, j, ?_, ?_, ?_, fun n t r e q => ?_⟩
            · show rep n' ++ ((rep a ++ ([60, 61] ++ rep b)) ++ ((rep n3 ++ (tokC t3 ++ flat h2)) ++ rep j)) = (rep (n' + a) ++ ([60, 61] ++ (rep (b + n3) ++ (tokC t3 ++ flat h2)))) ++ rep j
              simp only [← rep_add, List.append_assoc]
            · simp only [List.map_cons] at q2 ⊢
              rw [q2]
            · refine fine_cons ht (fine_gap q3) fun m u s e z => ⟨fun w => ?_, fun w => ?_⟩
              · exact absurd w.1 (by decide)
              · exact absurd w.1 (by decide)
            · injection e with e1 e2
              injection e1 with e3 e4
              exact absurd e4.symm q
    · have nm : ¬ ∃ m, n ≠ 0 ∧ tokC t ++ (flat r ++ rep k) = [60, 61, 32] ++ m := by
        rintro ⟨m, hn, e⟩
        obtain ⟨e1, e2⟩ := tokC_60 ht e
        exact c ⟨m, hn, e1, e2⟩
      have e1 : replL leY (rep a ++ ([60, 61] ++ rep b)) (rep n ++ (tokC t ++ (flat r ++ rep k))) = rep n ++ replL leY (rep a ++ ([60, 61] ++ rep b)) (tokC t ++ (flat r ++ rep k)) := by
        by_cases hn : n = 0
        · subst hn
          rfl
        · exact miss_rep (fun ⟨m, e⟩ => nm ⟨m, hn, e⟩) n
      rw [e1, miss_all (tokC_no32 ht)]
      obtain ⟨h, j, q1, q2, q3, q4⟩ := repl_flat a b N r k hl2 f.tail
      rw [q1]
      refine ⟨(n, t) :: h, j, ?_, ?_, fine_cons ht q3 fun m u s e z => ?_, fun n' t' r' e q => ?_⟩
      · show rep n ++ (tokC t ++ (flat h ++ rep j)) = (rep n ++ (tokC t ++ flat h)) ++ rep j
        simp only [List.append_assoc]
      · simp only [List.map_cons]
        rw [q2]
      · subst e
        cases r with
        | nil => cases q2
        | cons g2 r2 =>
          obtain ⟨n2, t2⟩ := g2
          have et : u = t2 := by
            simp only [List.map_cons] at q2
            exact (List.cons.inj q2).1
          by_cases hle : t2 = .sign "<="
          · rw [et, hle]
            exact ⟨fun w => absurd w.2 (by decide), fun w => absurd w.2 (by decide)⟩
          · obtain ⟨s', e'⟩ := q4 n2 t2 r2 rfl hle
            injection e' with e1 e2
            injection e1 with e3 e4
            obtain ⟨f1, f2, f3⟩ := f
            rw [e4]
            exact f2 (by show n2 = 0; omega)
      · injection e with e1 e2
        injection e1 with e3 e4
        rw [← e3, ← e4]
        exact ⟨h, rfl⟩
end My
namespace My
open PySem PySem.Spec PyProof.Rows L2
/-! ### text.replace(y, [z1, z2, z3][i]) -/
theorem none_booked_of {K : PySem.W.Frag} {h : Heap} (X : K.In h) (L : h.NoLimit) (e : PySem.W.nsIn K cStatics sharingNotToldKey = some none) : NoneBooked h := by
  obtain ⟨mc, hn, _⟩ := L
  refine ⟨mc, hn, ?_⟩
  obtain ⟨o, es, n, at_, od, sk, fnd⟩ := hn
  unfold PySem.W.nsIn at e
  cases q : K.lookup cStatics with
  | none => rw [q] at e; cases e
  | some u =>
    have same := X _ _ q
    rw [at_] at same
    cases same
    rw [q] at e
    obtain ⟨c, d, dt, sl⟩ := o
    have od : dt = .dict es n := od
    subst od
    have e : (match es.toList.find? (·.key.isStr sharingNotToldKey) with
      | some e => some (some e.val)
      | none => if es.toList.any (·.refKey) then none else some none) = some none := e
    cases w : es.toList.find? (·.key.isStr sharingNotToldKey) with
    | some y => rw [w] at e; cases e
    | none =>
      rw [← fnd]
      unfold nsFind findBy
      rw [← Array.find?_toList, w]
      rfl
def tReplPick (K : PySem.W.Frag) (to : TE) (y z1 z2 z3 : Str) (ti : TE) : TE := fun σ H Q => to σ H fun v H1 => ∃ x, v = .str x ∧ (∀ z ∈ [z1, z2, z3], x.length + (x.length + 1) * z.length ≤ 16777216) ∧
  ∀ L o, H1 L = none → ti σ (upd H1 L (.frz o (.lst [.str z1, .str z2, .str z3]))) fun w H2 => ∃ (n : Nat) (z : Str), w = .int (n : Nat) ∧ H2 L = some (.frz o (.lst [.str z1, .str z2, .str z3])) ∧ [z1, z2, z3][n]? = some z ∧ Q (.str (Txt.replace x y z)) H2
section
variable {X : Cx} {o idx : Expr} {to ti : TE} {y z1 z2 z3 : Str} {j k1 k2 k3 : Nat} {c0 c1 c2 c3 lpos spos apos pos : Pos}
theorem pet_replPick (ho : PET X o to) (hi : PE X idx ti) (hb : PySem.W.nsIn X.K cStatics sharingNotToldKey = some none)
    (hst : starEach [.Constant (.str y) j c0, .Subscript (.List [.Constant (.str z1) k1 c1, .Constant (.str z2) k2 c2, .Constant (.str z3) k3 c3] lpos) idx spos] X.env = [(false, eval (.Constant (.str y) j c0) X.env), (false, eval (.Subscript (.List [.Constant (.str z1) k1 c1, .Constant (.str z2) k2 c2, .Constant (.str z3) k3 c3] lpos) idx spos) X.env)] := by rfl)
    (hs : PlainIx idx)
    (hbase : attributeBase o "replace" X.env (eval o X.env) = eval o X.env := by rfl) (hline : (apos.endLine == pos.line) = true := by rfl) :
    PET X (.Call (.Attribute o "replace" apos) [.Constant (.str y) j c0, .Subscript (.List [.Constant (.str z1) k1 c1, .Constant (.str z2) k2 c2, .Constant (.str z3) k3 c3] lpos) idx spos] [] pos) (tReplPick X.K to y z1 z2 z3 ti) := by
  intro pins s σ H Q h0 I h
  refine PySem.Call_method2 hbase hst hline (wpAny_mono (PySem.wpAny_toks (ho pins s σ H _ h0 I h)) (fun v s1 q => ?_) fun _ _ z => z.2)
  obtain ⟨hk, v', H1, I1, r1, x, rfl, hlen, q⟩ := q
  obtain ⟨tx, rfl⟩ := r1
  refine ⟨"str", _, PySem.F.plainAttrs_str, PySem.F.slot_str_replace, PySem.F.type_str_replace, typeIs_str _ _ _, (fun _ e => nomatch e), Calls.callWith_builtin rfl (Calls.evalArgs_plain (Calls.spliced_cons ?_))⟩
  refine Calls.Constant_str (Calls.spliced_cons ?_)
  refine Subscript_ (wpAny_List_spliced ?_)
  show wpAny _ _ (spliced ((false, eval (.Constant (.str z1) k1 c1) X.env) :: backTo lpos (starEach [.Constant (.str z2) k2 c2, .Constant (.str z3) k3 c3] X.env))) _ _ _
  refine Calls.spliced_cons (Calls.Constant_str ?_)
  show wpAny _ _ (spliced ((false, eval (.Constant (.str z2) k2 c2) X.env) :: backTo lpos (starEach [.Constant (.str z3) k3 c3] X.env))) _ _ _
  refine Calls.spliced_cons (Calls.Constant_str ?_)
  show wpAny _ _ (spliced ((false, eval (.Constant (.str z3) k3 c3) X.env) :: backTo lpos (starEach [] X.env))) _ _ _
  refine Calls.spliced_cons (Calls.Constant_str (Calls.spliced_nil ?_))
  have h3 : (3 : Nat) ≤ sizeLine := by decide
  refine ⟨h3, ?_⟩
  have free : H1 s1.heap.objs.size = none := I1.hok.fresh (Nat.le_refl _)
  have IL := I1.laid (t' := s1.toks + 1 + 1 + 1 + 1) (h' := s1.heap.push { cls := .type "list", data := .seq #[.str z1 (s1.toks + 1), .str z2 (s1.toks + 1 + 1), .str z3 (s1.toks + 1 + 1 + 1)] })
    (o := .frz { cls := .type "list", data := .seq #[.str z1 (s1.toks + 1), .str z2 (s1.toks + 1 + 1), .str z3 (s1.toks + 1 + 1 + 1)] } (.lst [.str z1, .str z2, .str z3])) (fun b u e => Heap.get?_push_of_some _ e) (Nat.le_refl _)
    ⟨Heap.get?_push_size _ rfl, h3, [.str z1 (s1.toks + 1), .str z2 (s1.toks + 1 + 1), .str z3 (s1.toks + 1 + 1 + 1)], 0, .cons ⟨_, rfl⟩ (.cons ⟨_, rfl⟩ (.cons ⟨_, rfl⟩ .nil)), Heap.get?_push_size _ rfl⟩
  refine thn (hi.run pins _ σ _ _ IL (q _ _ free)) fun w s3 ⟨x3, H3, I3, r3, n, z, e3, eL, hz, q3⟩ => ?_
  subst e3
  obtain ⟨tn, rfl⟩ := r3
  obtain ⟨hg, _⟩ := I3.hok _ _ eL
  have isL : s3.heap.IsList s1.heap.objs.size #[.str z1 (s1.toks + 1), .str z2 (s1.toks + 1 + 1), .str z3 (s1.toks + 1 + 1 + 1)] := ⟨_, hg, rfl, 0, rfl⟩
  have nb := none_booked_of I3.kIn I3.nolimit hb
  have fin : ∀ (t : PySem.Tok), t ≠ 0 → s1.toks ≠ t → z ∈ [z1, z2, z3] → wpAny (model X.prog X.w) X.A (PySem.call (.builtin "str.replace") [.str x tx, .str y s1.toks, .str z t]) (EP X pins σ Q) X.xe s3 := fun t ht hne hm =>
    PySem.SC.replaceA (by show s1.toks ≠ 0; omega) ht hne (hlen z hm) (fun t' k => ⟨.str (Txt.replace x y z), H3, I3.tok k, ⟨t', rfl⟩, q3⟩) nb
  have hm := List.mem_of_getElem? hz
  match n, hz with
  | 0, hz =>
    cases hz
    exact item_listR isL (by decide) (by decide) rfl (Calls.spliced_nil (fin (s1.toks + 1) (by show s1.toks + 1 ≠ 0; omega) (by show s1.toks ≠ s1.toks + 1; omega) hm)) (hs _ _)
  | 1, hz =>
    cases hz
    exact item_listR isL (by decide) (by decide) rfl (Calls.spliced_nil (fin (s1.toks + 1 + 1) (by show s1.toks + 1 + 1 ≠ 0; omega) (by show s1.toks ≠ s1.toks + 1 + 1; omega) hm)) (hs _ _)
  | 2, hz =>
    cases hz
    exact item_listR isL (by decide) (by decide) rfl (Calls.spliced_nil (fin (s1.toks + 1 + 1 + 1) (by show s1.toks + 1 + 1 + 1 ≠ 0; omega) (by show s1.toks ≠ s1.toks + 1 + 1 + 1; omega) hm)) (hs _ _)
  | n + 3, hz => simp at hz
end
end My
namespace My
open PySem PySem.Spec PyProof.Rows L2
theorem rep0 (x : Str) : repS x 0 = Str.empty := rfl
theorem rep1S (x : Str) : repS x 1 = x := by
  unfold repS
  show (⟨#[] ++ x.cps⟩ : Str) = x
  rw [Array.empty_append]
/-- text * k, k no less than nought -/
def rRepB : R2 := fun x y H Q => ∃ (i : Str) (k : Int), x = .str i ∧ y = .int k ∧ 0 ≤ k ∧ k < 2 ^ 20 ∧ 0 < i.length ∧ i.length * k.toNat ≤ 2 ^ 20 ∧ (repS i k.toNat).length ≤ sizeLine ∧ Q (.str (repS i k.toNat)) H
theorem op_repB {X : Cx} : OpR X (binaryOp .Mult) rRepB := by
  intro pins s σ H x y v u Q I rx ry h
  obtain ⟨i, k, rfl, rfl, h1, h2, h3, h4, h5, q⟩ := h
  by_cases k2 : 2 ≤ k
  · exact op_repS pins s σ H _ _ v u Q I rx ry ⟨i, k, rfl, rfl, k2, h2, h3, h4, h5, q⟩
  obtain ⟨t, rfl⟩ := rx
  obtain ⟨t', rfl⟩ := ry
  have fits : (decide (k < -(2 ^ 63 : Int)) || decide (k ≥ 2 ^ 63)) = false := by
    rw [decide_eq_false (by omega), decide_eq_false (by omega)]
    rfl
  rcases (show k = 0 ∨ k = 1 by omega) with rfl | rfl
  · refine PySem.P.mul_str fits (fun z => absurd (by decide) z) (fun z => absurd (by decide) z) ?_
    rw [if_pos (by decide)]
    exact ⟨by decide, ⟨.str Str.empty, H, I.tok _, ⟨_, rfl⟩, q⟩⟩
  · have e1 : (((1 : Int) == 1) || i.length == 0) = true := rfl
    refine PySem.P.mul_str fits (fun _ z => by rw [e1] at z; cases z) (fun _ z => by rw [e1] at z; cases z) ?_
    rw [if_neg (by decide), if_pos e1]
    have q : Q (.str (repS i 1)) H := q
    rw [rep1S] at q
    exact ⟨.str i, H, I, ⟨t, rfl⟩, q⟩
theorem repS_blank (n : Nat) : (repS " " n).cps.toList = List.replicate n 32 := by
  unfold repS
  have key : ∀ (n : Nat) (acc : Array Nat), ((List.replicate n (Str.ofString " ").cps).foldl (· ++ ·) acc).toList = acc.toList ++ List.replicate n 32 := by
    intro n
    induction n with
    | zero => intro acc; exact (List.append_nil _).symm
    | succ n ih =>
      intro acc
      rw [List.replicate_succ, List.foldl_cons, ih, Array.toList_append, List.append_assoc]
      rfl
  rw [key]
  rfl
theorem repS_blank_len (n : Nat) : (repS " " n).length = n := by
  show (repS " " n).cps.size = n
  rw [← Array.length_toList, repS_blank, List.length_replicate]
/-- a def of which a token is out when it begins -/
theorem fun_okT {P : Program} {w : World} {K : PySem.W.Frag} {mg : Str → Option Value} {base : Heap} {x qual : Str} {st : Stmt} {f : Addr} {fd : FuncData} {N ps : List Str} {k : Nat} {sp : Sp} (F : Fun K x qual st f fd) (S : FnScope N ps (defScope st)) (hnc : ∀ y ∈ (defScope st).names, y.2 ≠ .cell) (hps : 1 ≤ ps.length)
    (len : ∀ vs H Q E, sp vs H Q E → vs.length = ps.length)
    (hbody : ∀ (cdv : Value) (A : Around) (outer : List Env) (s : Shared) (H : Hp) (vs : List V) (Q : VK) (E : XK), Room k (A.deeper (envOfC qual (defScope st) s.heap.objs.size f cdv)) → sp vs H Q E →
      ∃ t, PSsT (cxOf CX0 P w K mg base N qual (defScope st) f cdv A outer s H E) (defBody st) t ∧ t { nx := fun _ H' => Q .non H', rt := Q } (start N vs) H) : FnOk P w K mg base CX0 (k + 1) f fd ps sp := by
  obtain ⟨oc, od, kV, doc, pm, an, cdv, ct, osl, rfl, lk, hcd⟩ := F.ex
  exact fn_ofT lk hcd S hnc hps len fun A outer s H vs Q E hr h => hbody cdv A outer s H vs Q E hr h
end My
namespace My
open PySem L2
def topS (i : Nat) : Stmt := PySem.Challenge.pw_outgrow_k03_plans_read.main.body.getD i (.Pass ⟨0, 0, 0, 0⟩)
abbrev s_law_begin : Stmt := topS 24
abbrev N_law_begin : List Str := ["_law_script"]
theorem sc_law_begin : FnScope N_law_begin ["_law_script"] (defScope s_law_begin) := ⟨rfl, rfl, rfl, by decide +kernel, rfl, by decide +kernel, by decide +kernel⟩
abbrev s_law_same : Stmt := topS 39
abbrev N_law_same : List Str := ["_law_found", "_law_due", "_law_one", "_law_other"]
theorem sc_law_same : FnScope N_law_same ["_law_found", "_law_due"] (defScope s_law_same) := ⟨rfl, rfl, rfl, by decide +kernel, rfl, by decide +kernel, by decide +kernel⟩
abbrev s_law_take : Stmt := topS 25
abbrev N_law_take : List Str := ["_law_draw", "_law_sides", "_law_cell", "_law_got"]
theorem sc_law_take : FnScope N_law_take ["_law_draw", "_law_sides"] (defScope s_law_take) := ⟨rfl, rfl, rfl, by decide +kernel, rfl, by decide +kernel, by decide +kernel⟩
abbrev s_law_pick : Stmt := topS 26
abbrev N_law_pick : List Str := ["_law_draw", "_law_row"]
theorem sc_law_pick : FnScope N_law_pick ["_law_draw", "_law_row"] (defScope s_law_pick) := ⟨rfl, rfl, rfl, by decide +kernel, rfl, by decide +kernel, by decide +kernel⟩
abbrev s_law_some_end : Stmt := topS 27
abbrev N_law_some_end : List Str := ["_law_draw", "_law_scope", "_law_wide", "_law_more"]
theorem sc_law_some_end : FnScope N_law_some_end ["_law_draw", "_law_scope", "_law_wide"] (defScope s_law_some_end) := ⟨rfl, rfl, rfl, by decide +kernel, rfl, by decide +kernel, by decide +kernel⟩
abbrev s_law_leaf : Stmt := topS 28
abbrev N_law_leaf : List Str := ["_law_draw", "_law_kit", "_law_scope", "_law_deep", "_law_name", "_law_fit", "_law_end"]
theorem sc_law_leaf : FnScope N_law_leaf ["_law_draw", "_law_kit", "_law_scope", "_law_deep"] (defScope s_law_leaf) := ⟨rfl, rfl, rfl, by decide +kernel, rfl, by decide +kernel, by decide +kernel⟩
abbrev s_law_kept_words : Stmt := topS 29
abbrev N_law_kept_words : List Str := []
theorem sc_law_kept_words : FnScope N_law_kept_words [] (defScope s_law_kept_words) := ⟨rfl, rfl, rfl, by decide +kernel, rfl, by decide +kernel, by decide +kernel⟩
abbrev s_law_fresh : Stmt := topS 30
abbrev N_law_fresh : List Str := ["_law_draw", "_law_taken", "_law_size", "_law_name", "_law_spare", "_law_sign", "_law_k", "_law_one"]
theorem sc_law_fresh : FnScope N_law_fresh ["_law_draw", "_law_taken"] (defScope s_law_fresh) := ⟨rfl, rfl, rfl, by decide +kernel, rfl, by decide +kernel, by decide +kernel⟩
abbrev s_law_drawn_thing : Stmt := topS 31
abbrev N_law_drawn_thing : List Str := ["_law_draw", "_law_kit", "_law_scope", "_law_deep", "_law_fork", "_law_one", "_law_other", "_law_name", "_law_body", "_law_rest"]
theorem sc_law_drawn_thing : FnScope N_law_drawn_thing ["_law_draw", "_law_kit", "_law_scope", "_law_deep"] (defScope s_law_drawn_thing) := ⟨rfl, rfl, rfl, by decide +kernel, rfl, by decide +kernel, by decide +kernel⟩
abbrev s_law_drawn_body : Stmt := topS 32
abbrev N_law_drawn_body : List Str := ["_law_draw", "_law_kit", "_law_scope", "_law_deep", "_law_found", "_law_k"]
theorem sc_law_drawn_body : FnScope N_law_drawn_body ["_law_draw", "_law_kit", "_law_scope", "_law_deep"] (defScope s_law_drawn_body) := ⟨rfl, rfl, rfl, by decide +kernel, rfl, by decide +kernel, by decide +kernel⟩
abbrev s_law_drawn : Stmt := topS 33
abbrev N_law_drawn : List Str := ["_law_draw", "_law_room", "_law_figures", "_law_wide"]
theorem sc_law_drawn : FnScope N_law_drawn ["_law_draw", "_law_room", "_law_figures", "_law_wide"] (defScope s_law_drawn) := ⟨rfl, rfl, rfl, by decide +kernel, rfl, by decide +kernel, by decide +kernel⟩
abbrev s_Reader_passed : Stmt := inClass (topS 21) 2
abbrev N_Reader_passed : List Str := ["self", "kind", "thing"]
theorem sc_Reader_passed : FnScope N_Reader_passed ["self", "kind", "thing"] (defScope s_Reader_passed) := ⟨rfl, rfl, rfl, by decide +kernel, rfl, by decide +kernel, by decide +kernel⟩
abbrev s_Reader_bad : Stmt := inClass (topS 21) 1
abbrev N_Reader_bad : List Str := ["self"]
theorem sc_Reader_bad : FnScope N_Reader_bad ["self"] (defScope s_Reader_bad) := ⟨rfl, rfl, rfl, by decide +kernel, rfl, by decide +kernel, by decide +kernel⟩
abbrev s_Reader_want : Stmt := inClass (topS 21) 3
abbrev N_Reader_want : List Str := ["self", "kind", "thing"]
theorem sc_Reader_want : FnScope N_Reader_want ["self", "kind", "thing"] (defScope s_Reader_want) := ⟨rfl, rfl, rfl, by decide +kernel, rfl, by decide +kernel, by decide +kernel⟩
abbrev s_Reader_number : Stmt := inClass (topS 21) 4
abbrev N_Reader_number : List Str := ["self", "least", "most", "kind", "thing", "at"]
theorem sc_Reader_number : FnScope N_Reader_number ["self", "least", "most"] (defScope s_Reader_number) := ⟨rfl, rfl, rfl, by decide +kernel, rfl, by decide +kernel, by decide +kernel⟩
abbrev s_is_name : Stmt := topS 11
abbrev N_is_name : List Str := ["text", "sign"]
theorem sc_is_name : FnScope N_is_name ["text"] (defScope s_is_name) := ⟨rfl, rfl, rfl, by decide +kernel, rfl, by decide +kernel, by decide +kernel⟩
abbrev s_Reader_plain_name : Stmt := inClass (topS 21) 5
abbrev N_Reader_plain_name : List Str := ["self", "kind", "thing", "at"]
theorem sc_Reader_plain_name : FnScope N_Reader_plain_name ["self"] (defScope s_Reader_plain_name) := ⟨rfl, rfl, rfl, by decide +kernel, rfl, by decide +kernel, by decide +kernel⟩
abbrev s_Reader_end : Stmt := inClass (topS 21) 6
abbrev N_Reader_end : List Str := ["self", "name"]
theorem sc_Reader_end : FnScope N_Reader_end ["self"] (defScope s_Reader_end) := ⟨rfl, rfl, rfl, by decide +kernel, rfl, by decide +kernel, by decide +kernel⟩
abbrev s_Reader_bracket : Stmt := inClass (topS 21) 7
abbrev N_Reader_bracket : List Str := ["self", "deep", "found"]
theorem sc_Reader_bracket : FnScope N_Reader_bracket ["self", "deep"] (defScope s_Reader_bracket) := ⟨rfl, rfl, rfl, by decide +kernel, rfl, by decide +kernel, by decide +kernel⟩
abbrev s_Reader_going : Stmt := inClass (topS 21) 10
abbrev N_Reader_going : List Str := ["self", "deep", "name", "low", "high"]
theorem sc_Reader_going : FnScope N_Reader_going ["self", "deep"] (defScope s_Reader_going) := ⟨rfl, rfl, rfl, by decide +kernel, rfl, by decide +kernel, by decide +kernel⟩
abbrev s_Reader_choice : Stmt := inClass (topS 21) 11
abbrev N_Reader_choice : List Str := ["self", "deep", "one", "other", "body", "rest"]
theorem sc_Reader_choice : FnScope N_Reader_choice ["self", "deep"] (defScope s_Reader_choice) := ⟨rfl, rfl, rfl, by decide +kernel, rfl, by decide +kernel, by decide +kernel⟩
abbrev s_Reader_thing : Stmt := inClass (topS 21) 9
abbrev N_Reader_thing : List Str := ["self", "deep", "name", "many", "way"]
theorem sc_Reader_thing : FnScope N_Reader_thing ["self", "deep"] (defScope s_Reader_thing) := ⟨rfl, rfl, rfl, by decide +kernel, rfl, by decide +kernel, by decide +kernel⟩
abbrev s_Reader_body : Stmt := inClass (topS 21) 8
abbrev N_Reader_body : List Str := ["self", "deep", "found"]
theorem sc_Reader_body : FnScope N_Reader_body ["self", "deep"] (defScope s_Reader_body) := ⟨rfl, rfl, rfl, by decide +kernel, rfl, by decide +kernel, by decide +kernel⟩
abbrev s_run_of : Stmt := topS 18
abbrev N_run_of : List Str := ["text", "at", "some"]
theorem sc_run_of : FnScope N_run_of ["text", "at", "some"] (defScope s_run_of) := ⟨rfl, rfl, rfl, by decide +kernel, rfl, by decide +kernel, by decide +kernel⟩
abbrev s_sign_at : Stmt := topS 19
abbrev N_sign_at : List Str := ["text", "at", "behind"]
theorem sc_sign_at : FnScope N_sign_at ["text", "at"] (defScope s_sign_at) := ⟨rfl, rfl, rfl, by decide +kernel, rfl, by decide +kernel, by decide +kernel⟩
abbrev s_signs_of : Stmt := topS 20
abbrev N_signs_of : List Str := ["text", "found", "at", "kind", "thing", "behind"]
theorem sc_signs_of : FnScope N_signs_of ["text"] (defScope s_signs_of) := ⟨rfl, rfl, rfl, by decide +kernel, rfl, by decide +kernel, by decide +kernel⟩
abbrev s_Reader_init : Stmt := inClass (topS 21) 0
abbrev N_Reader_init : List Str := ["self", "text"]
theorem sc_Reader_init : FnScope N_Reader_init ["self", "text"] (defScope s_Reader_init) := ⟨rfl, rfl, rfl, by decide +kernel, rfl, by decide +kernel, by decide +kernel⟩
abbrev s_read_plan : Stmt := topS 22
abbrev N_read_plan : List Str := ["text", "reader", "found"]
theorem sc_read_plan : FnScope N_read_plan ["text"] (defScope s_read_plan) := ⟨rfl, rfl, rfl, by decide +kernel, rfl, by decide +kernel, by decide +kernel⟩
abbrev s_law_spaced : Stmt := topS 34
abbrev N_law_spaced : List Str := ["_law_draw", "_law_text", "_law_found", "_law_sign"]
theorem sc_law_spaced : FnScope N_law_spaced ["_law_draw", "_law_text"] (defScope s_law_spaced) := ⟨rfl, rfl, rfl, by decide +kernel, rfl, by decide +kernel, by decide +kernel⟩
abbrev s_law_end_text : Stmt := topS 35
abbrev N_law_end_text : List Str := ["_law_end"]
theorem sc_law_end_text : FnScope N_law_end_text ["_law_end"] (defScope s_law_end_text) := ⟨rfl, rfl, rfl, by decide +kernel, rfl, by decide +kernel, by decide +kernel⟩
abbrev s_law_thing_text : Stmt := topS 36
abbrev N_law_thing_text : List Str := ["_law_thing", "_law_word", "_law_head", "_law_told"]
theorem sc_law_thing_text : FnScope N_law_thing_text ["_law_thing"] (defScope s_law_thing_text) := ⟨rfl, rfl, rfl, by decide +kernel, rfl, by decide +kernel, by decide +kernel⟩
abbrev s_law_written : Stmt := topS 37
abbrev N_law_written : List Str := ["_law_plan", "_law_thing"]
theorem sc_law_written : FnScope N_law_written ["_law_plan"] (defScope s_law_written) := ⟨rfl, rfl, rfl, by decide +kernel, rfl, by decide +kernel, by decide +kernel⟩
abbrev s_law_loose : Stmt := topS 38
abbrev N_law_loose : List Str := ["_law_draw", "_law_plan", "_law_text"]
theorem sc_law_loose : FnScope N_law_loose ["_law_draw", "_law_plan"] (defScope s_law_loose) := ⟨rfl, rfl, rfl, by decide +kernel, rfl, by decide +kernel, by decide +kernel⟩
abbrev s_law : Stmt := topS 40
abbrev N_law : List Str := ["_law_script", "_law_draw", "_law_turn", "_law_plan", "_law_found"]
theorem sc_law : FnScope N_law ["_law_script"] (defScope s_law) := ⟨rfl, rfl, rfl, by decide +kernel, rfl, by decide +kernel, by decide +kernel⟩
structure Txt (K : PySem.W.Frag) (mg : Str → Option Value) : Type where
  a_law_begin : Addr
  d_law_begin : FuncData
  F_law_begin : Fun K "_law_begin" "_law_begin" s_law_begin a_law_begin d_law_begin
  b_law_begin : Binds K d_law_begin ["_law_script"] []
  g_law_begin : mg "_law_begin" = some (.ref a_law_begin)
  a_law_same : Addr
  d_law_same : FuncData
  F_law_same : Fun K "_law_same" "_law_same" s_law_same a_law_same d_law_same
  b_law_same : Binds K d_law_same ["_law_found", "_law_due"] []
  g_law_same : mg "_law_same" = some (.ref a_law_same)
  a_law_take : Addr
  d_law_take : FuncData
  F_law_take : Fun K "_law_take" "_law_take" s_law_take a_law_take d_law_take
  b_law_take : Binds K d_law_take ["_law_draw", "_law_sides"] []
  g_law_take : mg "_law_take" = some (.ref a_law_take)
  a_law_pick : Addr
  d_law_pick : FuncData
  F_law_pick : Fun K "_law_pick" "_law_pick" s_law_pick a_law_pick d_law_pick
  b_law_pick : Binds K d_law_pick ["_law_draw", "_law_row"] []
  g_law_pick : mg "_law_pick" = some (.ref a_law_pick)
  a_law_some_end : Addr
  d_law_some_end : FuncData
  F_law_some_end : Fun K "_law_some_end" "_law_some_end" s_law_some_end a_law_some_end d_law_some_end
  b_law_some_end : Binds K d_law_some_end ["_law_draw", "_law_scope", "_law_wide"] []
  g_law_some_end : mg "_law_some_end" = some (.ref a_law_some_end)
  a_law_leaf : Addr
  d_law_leaf : FuncData
  F_law_leaf : Fun K "_law_leaf" "_law_leaf" s_law_leaf a_law_leaf d_law_leaf
  b_law_leaf : Binds K d_law_leaf ["_law_draw", "_law_kit", "_law_scope", "_law_deep"] []
  g_law_leaf : mg "_law_leaf" = some (.ref a_law_leaf)
  a_law_kept_words : Addr
  d_law_kept_words : FuncData
  F_law_kept_words : Fun K "_law_kept_words" "_law_kept_words" s_law_kept_words a_law_kept_words d_law_kept_words
  b_law_kept_words : Binds K d_law_kept_words [] []
  g_law_kept_words : mg "_law_kept_words" = some (.ref a_law_kept_words)
  a_law_fresh : Addr
  d_law_fresh : FuncData
  F_law_fresh : Fun K "_law_fresh" "_law_fresh" s_law_fresh a_law_fresh d_law_fresh
  b_law_fresh : Binds K d_law_fresh ["_law_draw", "_law_taken"] []
  g_law_fresh : mg "_law_fresh" = some (.ref a_law_fresh)
  a_law_drawn_thing : Addr
  d_law_drawn_thing : FuncData
  F_law_drawn_thing : Fun K "_law_drawn_thing" "_law_drawn_thing" s_law_drawn_thing a_law_drawn_thing d_law_drawn_thing
  b_law_drawn_thing : Binds K d_law_drawn_thing ["_law_draw", "_law_kit", "_law_scope", "_law_deep"] []
  g_law_drawn_thing : mg "_law_drawn_thing" = some (.ref a_law_drawn_thing)
  a_law_drawn_body : Addr
  d_law_drawn_body : FuncData
  F_law_drawn_body : Fun K "_law_drawn_body" "_law_drawn_body" s_law_drawn_body a_law_drawn_body d_law_drawn_body
  b_law_drawn_body : Binds K d_law_drawn_body ["_law_draw", "_law_kit", "_law_scope", "_law_deep"] []
  g_law_drawn_body : mg "_law_drawn_body" = some (.ref a_law_drawn_body)
  a_law_drawn : Addr
  d_law_drawn : FuncData
  F_law_drawn : Fun K "_law_drawn" "_law_drawn" s_law_drawn a_law_drawn d_law_drawn
  b_law_drawn : Binds K d_law_drawn ["_law_draw", "_law_room", "_law_figures", "_law_wide"] []
  g_law_drawn : mg "_law_drawn" = some (.ref a_law_drawn)
  a_Reader_passed : Addr
  d_Reader_passed : FuncData
  F_Reader_passed : Fun K "passed" "Reader.passed" s_Reader_passed a_Reader_passed d_Reader_passed
  b_Reader_passed : Binds K d_Reader_passed ["self", "kind", "thing"] []
  a_Reader_bad : Addr
  d_Reader_bad : FuncData
  F_Reader_bad : Fun K "bad" "Reader.bad" s_Reader_bad a_Reader_bad d_Reader_bad
  b_Reader_bad : Binds K d_Reader_bad ["self"] []
  a_Reader_want : Addr
  d_Reader_want : FuncData
  F_Reader_want : Fun K "want" "Reader.want" s_Reader_want a_Reader_want d_Reader_want
  b_Reader_want : Binds K d_Reader_want ["self", "kind", "thing"] []
  a_Reader_number : Addr
  d_Reader_number : FuncData
  F_Reader_number : Fun K "number" "Reader.number" s_Reader_number a_Reader_number d_Reader_number
  b_Reader_number : Binds K d_Reader_number ["self", "least", "most"] []
  a_is_name : Addr
  d_is_name : FuncData
  F_is_name : Fun K "is_name" "is_name" s_is_name a_is_name d_is_name
  b_is_name : Binds K d_is_name ["text"] []
  g_is_name : mg "is_name" = some (.ref a_is_name)
  a_Reader_plain_name : Addr
  d_Reader_plain_name : FuncData
  F_Reader_plain_name : Fun K "plain_name" "Reader.plain_name" s_Reader_plain_name a_Reader_plain_name d_Reader_plain_name
  b_Reader_plain_name : Binds K d_Reader_plain_name ["self"] []
  a_Reader_end : Addr
  d_Reader_end : FuncData
  F_Reader_end : Fun K "end" "Reader.end" s_Reader_end a_Reader_end d_Reader_end
  b_Reader_end : Binds K d_Reader_end ["self"] []
  a_Reader_bracket : Addr
  d_Reader_bracket : FuncData
  F_Reader_bracket : Fun K "bracket" "Reader.bracket" s_Reader_bracket a_Reader_bracket d_Reader_bracket
  b_Reader_bracket : Binds K d_Reader_bracket ["self", "deep"] []
  a_Reader_going : Addr
  d_Reader_going : FuncData
  F_Reader_going : Fun K "going" "Reader.going" s_Reader_going a_Reader_going d_Reader_going
  b_Reader_going : Binds K d_Reader_going ["self", "deep"] []
  a_Reader_choice : Addr
  d_Reader_choice : FuncData
  F_Reader_choice : Fun K "choice" "Reader.choice" s_Reader_choice a_Reader_choice d_Reader_choice
  b_Reader_choice : Binds K d_Reader_choice ["self", "deep"] []
  a_Reader_thing : Addr
  d_Reader_thing : FuncData
  F_Reader_thing : Fun K "thing" "Reader.thing" s_Reader_thing a_Reader_thing d_Reader_thing
  b_Reader_thing : Binds K d_Reader_thing ["self", "deep"] []
  a_Reader_body : Addr
  d_Reader_body : FuncData
  F_Reader_body : Fun K "body" "Reader.body" s_Reader_body a_Reader_body d_Reader_body
  b_Reader_body : Binds K d_Reader_body ["self", "deep"] []
  a_run_of : Addr
  d_run_of : FuncData
  F_run_of : Fun K "run_of" "run_of" s_run_of a_run_of d_run_of
  b_run_of : Binds K d_run_of ["text", "at", "some"] []
  g_run_of : mg "run_of" = some (.ref a_run_of)
  a_sign_at : Addr
  d_sign_at : FuncData
  F_sign_at : Fun K "sign_at" "sign_at" s_sign_at a_sign_at d_sign_at
  b_sign_at : Binds K d_sign_at ["text", "at"] []
  g_sign_at : mg "sign_at" = some (.ref a_sign_at)
  a_signs_of : Addr
  d_signs_of : FuncData
  F_signs_of : Fun K "signs_of" "signs_of" s_signs_of a_signs_of d_signs_of
  b_signs_of : Binds K d_signs_of ["text"] []
  g_signs_of : mg "signs_of" = some (.ref a_signs_of)
  a_Reader_init : Addr
  d_Reader_init : FuncData
  F_Reader_init : Fun K "__init__" "Reader.__init__" s_Reader_init a_Reader_init d_Reader_init
  b_Reader_init : Binds K d_Reader_init ["self", "text"] []
  a_read_plan : Addr
  d_read_plan : FuncData
  F_read_plan : Fun K "read_plan" "read_plan" s_read_plan a_read_plan d_read_plan
  b_read_plan : Binds K d_read_plan ["text"] []
  g_read_plan : mg "read_plan" = some (.ref a_read_plan)
  a_law_spaced : Addr
  d_law_spaced : FuncData
  F_law_spaced : Fun K "_law_spaced" "_law_spaced" s_law_spaced a_law_spaced d_law_spaced
  b_law_spaced : Binds K d_law_spaced ["_law_draw", "_law_text"] []
  g_law_spaced : mg "_law_spaced" = some (.ref a_law_spaced)
  a_law_end_text : Addr
  d_law_end_text : FuncData
  F_law_end_text : Fun K "_law_end_text" "_law_end_text" s_law_end_text a_law_end_text d_law_end_text
  b_law_end_text : Binds K d_law_end_text ["_law_end"] []
  g_law_end_text : mg "_law_end_text" = some (.ref a_law_end_text)
  a_law_thing_text : Addr
  d_law_thing_text : FuncData
  F_law_thing_text : Fun K "_law_thing_text" "_law_thing_text" s_law_thing_text a_law_thing_text d_law_thing_text
  b_law_thing_text : Binds K d_law_thing_text ["_law_thing"] []
  g_law_thing_text : mg "_law_thing_text" = some (.ref a_law_thing_text)
  a_law_written : Addr
  d_law_written : FuncData
  F_law_written : Fun K "_law_written" "_law_written" s_law_written a_law_written d_law_written
  b_law_written : Binds K d_law_written ["_law_plan"] []
  g_law_written : mg "_law_written" = some (.ref a_law_written)
  a_law_loose : Addr
  d_law_loose : FuncData
  F_law_loose : Fun K "_law_loose" "_law_loose" s_law_loose a_law_loose d_law_loose
  b_law_loose : Binds K d_law_loose ["_law_draw", "_law_plan"] []
  g_law_loose : mg "_law_loose" = some (.ref a_law_loose)
  a_law : Addr
  d_law : FuncData
  F_law : Fun K "law" "law" s_law a_law d_law
  b_law : Binds K d_law ["_law_script"] []
  g_law : mg "law" = some (.ref a_law)
  c_Reader : Addr
  cl_Reader : Cls K c_Reader
  gc_Reader : mg "Reader" = some (.ref c_Reader)
  me_Reader_passed : Meth K c_Reader "passed" a_Reader_passed
  me_Reader_bad : Meth K c_Reader "bad" a_Reader_bad
  me_Reader_want : Meth K c_Reader "want" a_Reader_want
  me_Reader_number : Meth K c_Reader "number" a_Reader_number
  me_Reader_plain_name : Meth K c_Reader "plain_name" a_Reader_plain_name
  me_Reader_end : Meth K c_Reader "end" a_Reader_end
  me_Reader_bracket : Meth K c_Reader "bracket" a_Reader_bracket
  me_Reader_going : Meth K c_Reader "going" a_Reader_going
  me_Reader_choice : Meth K c_Reader "choice" a_Reader_choice
  me_Reader_thing : Meth K c_Reader "thing" a_Reader_thing
  me_Reader_body : Meth K c_Reader "body" a_Reader_body
  mk_Reader : Mk K c_Reader a_Reader_init
  na_Reader_signs : NoAttr K c_Reader "signs"
  na_Reader_spot : NoAttr K c_Reader "spot"
  na_Reader_many : NoAttr K c_Reader "many"
  z_abs : mg "abs" = none
  z_all : mg "all" = none
  z_bool : mg "bool" = none
  z_int : mg "int" = none
  z_isinstance : mg "isinstance" = none
  z_len : mg "len" = none
  z_list : mg "list" = none
  z_range : mg "range" = none
  z_sorted : mg "sorted" = none
  z_str : mg "str" = none
  z_tuple : mg "tuple" = none
  z_zip : mg "zip" = none
  u_DIGITS : Value
  m_DIGITS : mg "DIGITS" = some u_DIGITS
  r_DIGITS : RelV (.str "0123456789") u_DIGITS
  u_LETTERS : Value
  m_LETTERS : mg "LETTERS" = some u_LETTERS
  r_LETTERS : RelV (.str "abcdefghijklmnopqrstuvwxyz") u_LETTERS
  u_LONGEST : Value
  m_LONGEST : mg "LONGEST" = some u_LONGEST
  r_LONGEST : RelV (.int 8) u_LONGEST
  u_MOST_AGAIN : Value
  m_MOST_AGAIN : mg "MOST_AGAIN" = some u_MOST_AGAIN
  r_MOST_AGAIN : RelV (.int 9) u_MOST_AGAIN
  u_MOST_DEEP : Value
  m_MOST_DEEP : mg "MOST_DEEP" = some u_MOST_DEEP
  r_MOST_DEEP : RelV (.int 4) u_MOST_DEEP
  u_MOST_PLUS : Value
  m_MOST_PLUS : mg "MOST_PLUS" = some u_MOST_PLUS
  r_MOST_PLUS : RelV (.int 99) u_MOST_PLUS
  u_MOST_STEP : Value
  m_MOST_STEP : mg "MOST_STEP" = some u_MOST_STEP
  r_MOST_STEP : RelV (.int 99) u_MOST_STEP
  u_MOST_THINGS : Value
  m_MOST_THINGS : mg "MOST_THINGS" = some u_MOST_THINGS
  r_MOST_THINGS : RelV (.int 12) u_MOST_THINGS
  u_SIZE : Value
  m_SIZE : mg "SIZE" = some u_SIZE
  r_SIZE : RelV (.str "n") u_SIZE
  u_WAYS : Value
  m_WAYS : mg "WAYS" = some u_WAYS
  p_WAYS : Addr
  r_WAYS : RelV (.ref p_WAYS) u_WAYS
  q_WAYS : ∀ H : Hp, SqT K H p_WAYS ((["halves", "thirds", "less"] : List Str).map V.str)
  u_WORDS : Value
  m_WORDS : mg "WORDS" = some u_WORDS
  p_WORDS : Addr
  r_WORDS : RelV (.ref p_WORDS) u_WORDS
  q_WORDS : ∀ H : Hp, SqT K H p_WORDS ((["step", "for", "from", "to", "if", "else", "double", "call", "with", "again", "on", "halves", "thirds", "less", "n"] : List Str).map V.str)
  nb : PySem.W.nsIn K PySem.cStatics PySem.sharingNotToldKey = some none
section
variable {P : Program} {w : World} {K : PySem.W.Frag} {mg : Str → Option Value} {base : Heap}
/-- a fresh draw -/
def spBegin (K : PySem.W.Frag) : Sp := fun vs H Q _ => ∃ (a : Addr) (ns : List Int), vs = [.ref a] ∧ SqL K H a (ns.map V.int) ∧ ns.length ≤ 63 ∧
  ∀ d l H', H d = none → H l = none → Same H H' → DrawAt H' d l → Q (.ref d) H'
theorem ok_law_begin (T : Txt K mg) : FnOk P w K mg base CX0 1 T.a_law_begin T.d_law_begin ["_law_script"] (spBegin K) := by
  refine T.F_law_begin.ok sc_law_begin (fun vs H Q E h => ?_) (fun cdv A outer s H vs Q E hr h => ?_)
  · obtain ⟨a, ns, rfl, _⟩ := h
    rfl
  obtain ⟨a, ns, rfl, hS, hl, k⟩ := h
  refine ⟨_, (pss_one (ps_ret (pe_lst (pa_cons (pe_callTy call_list_of (by rfl) T.z_list (by decide +kernel) (pa_cons (pe_slice sl_list (pv 0) po_none (po_some pe_int)) pa_nil)) (pa_cons pe_int (pa_cons pe_int (pa_cons pe_int pa_nil))))))), ?_⟩
  refine ⟨.ref a, rfl, 63, rfl, a, _, rfl, hS, fun p hp => ?_⟩
  refine ⟨p, _, rfl, .inl (SqL.of upd_same), fun l hl2 => ?_⟩
  refine ⟨by show 4 ≤ sizeLine; decide, fun d hd => ?_⟩
  have s1 : Same H _ := (same_upd (o := .lst (cutV (ns.map V.int) none (some 63))) hp)
  have s2 := s1.trans (same_upd (o := .lst (cutV (ns.map V.int) none (some 63))) hl2)
  have s3 := s2.trans (same_upd (o := .lst [.ref l, .int 0, .int 0, .int 37]) hd)
  have nld : l ≠ d := fun e => by
    rw [← e, upd_same] at hd
    cases hd
  refine k d l _ (s2.free hd) (s1.free hl2) s3 ⟨⟨ns.take 63, 0, 0, 37, upd_same, ?_, by decide, by decide, by decide, by decide, ?_⟩⟩
  · rw [upd_ne nld, upd_same]
    have e : cutV (ns.map V.int) none (some 63) = (ns.take 63).map V.int := by
      unfold cutV
      rw [HT.sIx_none, show HT.sIx (ns.map V.int).length (ns.map V.int).length (some 63) = min 63 (ns.map V.int).length from HT.sIx_nat _ _ 63, List.drop_zero, Nat.sub_zero]
      rw [List.map_take, List.length_map, List.take_eq_take_iff]
      simp
    rw [e]
  · rw [List.length_take]
    omega
/-- alike data are the same -/
def spSame (K : PySem.W.Frag) (n : Nat) : Sp := fun vs H Q _ => ∃ (x y : V) (d : PyData), vs = [x, y] ∧ Dp K H x d ∧ Dp K H y d ∧ dep d < n ∧ wid d ≤ 100000 ∧ ∀ H', Same H H' → Q (.bl true) H'
theorem same_step (T : Txt K mg) (n : Nat) (G_law_same : FnOk P w K mg base CX0 n T.a_law_same T.d_law_same ["_law_found", "_law_due"] (spSame K n)) :
    FnOk P w K mg base CX0 (n + 1) T.a_law_same T.d_law_same ["_law_found", "_law_due"] (spSame K (n + 1)) := by
  refine T.F_law_same.ok sc_law_same (fun vs H Q E h => ?_) (fun cdv A outer s H vs Q E hr h => ?_)
  · obtain ⟨x, y, d, rfl, _⟩ := h
    rfl
  obtain ⟨x, y, d, rfl, dx, dy, hn, hw, k⟩ := h
  refine ⟨_, (pss_cons (ps_if (pt_val (pe_callB call_isiT (by rfl) T.z_isinstance (by decide +kernel) (pa_cons (pv 1) (pa_cons (pe_tup (pa_cons (pe_bltn (v := .ty "list") (by rfl) T.z_list (by decide +kernel) rfl) (pa_cons (pe_bltn (v := .ty "tuple") (by rfl) T.z_tuple (by decide +kernel) rfl) pa_nil))) pa_nil)))) (pss_cons (ps_if (PW.pt (pw_or (pt_cmpR op_ne (pe_callB call_isi (by rfl) T.z_isinstance (by decide +kernel) (pa_cons (pv 0) (pa_cons (pe_bltn (v := .ty "list") (by rfl) T.z_list (by decide +kernel) rfl) pa_nil))) (pe_callB call_isi (by rfl) T.z_isinstance (by decide +kernel) (pa_cons (pv 1) (pa_cons (pe_bltn (v := .ty "list") (by rfl) T.z_list (by decide +kernel) rfl) pa_nil))) (nomark _)) (pw_or1 (pt_not (pt_val (pe_callB call_isiT (by rfl) T.z_isinstance (by decide +kernel) (pa_cons (pv 0) (pa_cons (pe_tup (pa_cons (pe_bltn (v := .ty "list") (by rfl) T.z_list (by decide +kernel) rfl) (pa_cons (pe_bltn (v := .ty "tuple") (by rfl) T.z_tuple (by decide +kernel) rfl) pa_nil))) pa_nil)))))))) (pss_one (ps_ret pe_bl)) pss_nil)
      (pss_one (ps_ret (pe_and (pe_cmpR op_eq (pe_callB call_len (by rfl) T.z_len (by decide +kernel) (pa_cons (pv 0) pa_nil)) (pe_callB call_len (by rfl) T.z_len (by decide +kernel) (pa_cons (pv 1) pa_nil)) (nomark _)) (pe_one (pe_callB (cr_all rfl) (by rfl) T.z_all (by decide +kernel) (pa_cons (pe_lc (own := [("_law_one", 2), ("_law_other", 3)]) (g := gTup K 2 ((gCons (gName 2) (gCons (gName 3) gNil)))) (tt := tYes) rfl sc_law_same.nd (RZ.pi_zipA (by rfl) T.z_zip (pa_cons (pv 0) (pa_cons (pv 1) pa_nil))) (blkOk_by (N := N_law_same) (sc := defScope s_law_same) (by decide +kernel)) (fun _ _ _ _ _ => (pg_tup rfl (pgs_cons (pg_name (i := 2) sc_law_same.nd rfl (Or.inl rfl)) (pgs_cons (pg_name (i := 3) sc_law_same.nd rfl (Or.inl rfl)) pgs_nil)))) (fun _ _ _ _ _ => pts_nil) (fun _ _ _ _ _ => (pe_call G_law_same hr (by rfl) T.g_law_same T.F_law_same.kp T.b_law_same .nil pass0 (pa_cons (pv 2) (pa_cons (pv 3) pa_nil))))) pa_nil))))))) pss_nil)
      (pss_cons (ps_if (pt_cmpR op_isN (pv 1) pe_non (nomark _)) (pss_one (ps_ret (pe_cmpR op_isN (pv 0) pe_non (nomark _)))) pss_nil)
      (pss_cons (ps_if (PW.pt (pw_or (pt_cmpR op_ne (pe_callB call_isi (by rfl) T.z_isinstance (by decide +kernel) (pa_cons (pv 0) (pa_cons (pe_bltn (v := .ty "bool") (by rfl) T.z_bool (by decide +kernel) rfl) pa_nil))) (pe_callB call_isi (by rfl) T.z_isinstance (by decide +kernel) (pa_cons (pv 1) (pa_cons (pe_bltn (v := .ty "bool") (by rfl) T.z_bool (by decide +kernel) rfl) pa_nil))) (nomark _)) (pw_or1 (pt_cmpR op_ne (pe_callB call_isi (by rfl) T.z_isinstance (by decide +kernel) (pa_cons (pv 0) (pa_cons (pe_bltn (v := .ty "int") (by rfl) T.z_int (by decide +kernel) rfl) pa_nil))) (pe_callB call_isi (by rfl) T.z_isinstance (by decide +kernel) (pa_cons (pv 1) (pa_cons (pe_bltn (v := .ty "int") (by rfl) T.z_int (by decide +kernel) rfl) pa_nil))) (nomark _))))) (pss_one (ps_ret pe_bl)) pss_nil)
      (pss_one (ps_ret (pe_and (pe_cmpR op_eq (pe_callB call_isi (by rfl) T.z_isinstance (by decide +kernel) (pa_cons (pv 0) (pa_cons (pe_bltn (v := .ty "str") (by rfl) T.z_str (by decide +kernel) rfl) pa_nil))) (pe_callB call_isi (by rfl) T.z_isinstance (by decide +kernel) (pa_cons (pv 1) (pa_cons (pe_bltn (v := .ty "str") (by rfl) T.z_str (by decide +kernel) rfl) pa_nil))) (nomark _)) (pe_one (pe_cmpR op_eq (pv 0) (pv 1) (nomark _))))))))), ?_⟩
  have kd := fun d => kit_d (K := K) d
  -- isinstance(due, (list, tuple))
  refine ⟨_, rfl, by show 2 ≤ sizeLine; decide, fun p hp => ?_⟩
  have s1 : Same H (upd H p (.tup clsLT)) := same_upd hp
  refine ⟨y, p, clsLT, _, _, _, rfl, upd_same, pairLT, dp_ty (Dp.mono s1 dy), kit2 (kd d).1 (kd d).2.1, _, rfl, ?_⟩
  refine ite2 (fun c1 => ?_) (fun c1 => ?_)
  · -- lists, tuples
    refine ⟨_, rfl, x, _, _, _, _, rfl, .ty _, dp_ty (Dp.mono s1 dx), (kd d).1, ?_⟩
    refine ⟨_, rfl, y, _, _, _, _, rfl, .ty _, dp_ty (Dp.mono s1 dy), (kd d).1, rfl, _, rfl, ?_⟩
    refine iteNS rfl ?_
    refine ⟨_, rfl, by show 2 ≤ sizeLine; decide, fun p2 hp2 => ?_⟩
    have s2 := s1.trans (same_upd (o := .tup clsLT) hp2)
    refine ⟨x, p2, clsLT, _, _, _, rfl, upd_same, pairLT, dp_ty (Dp.mono s2 dx), kit2 (kd d).1 (kd d).2.1, _, rfl, ?_⟩
    rw [c1]
    refine iteF ?_
    generalize hH : upd (upd H p (.tup clsLT)) p2 (.tup clsLT) = H2 at s2
    have dx2 := Dp.mono s2 dx
    have dy2 := Dp.mono s2 dy
    -- the turns of the comprehension
    have turn : ∀ (D : Addr) (xs ys : List V) (ds : List PyData), H2 D = none → DpAll K H2 xs ds → DpAll K H2 ys ds → depAll ds < n → widAll ds ≤ 100000 → ds.length ≤ 100000 → ∀ (i : Nat) (z : V) (H H' : Hp), i < min xs.length ys.length →
        (Same H2 H ∧ H D = some (.lst (List.replicate i (V.bl true)))) → YPair (fun i => xs[i]?) (fun i => ys[i]?) i H z H' → ∃ T u v du, z = .ref T ∧ H' T = some (.tup [u, v]) ∧ Dp K H' u du ∧ Dp K H' v du ∧ dep du < n ∧ wid du ≤ 100000 ∧ i < 100000 ∧ Same H2 H' ∧ H' D = some (.lst (List.replicate i (V.bl true))) := by
      rintro D xs ys ds hD ax ay hdp hwd hln i z H3 H4 hi ⟨sm, eD⟩ ⟨Tt, u, v, rfl, nT, rfl, gx, gy⟩
      have lx := ax.length
      obtain ⟨du, gd, pu⟩ := ax.get gx
      obtain ⟨dv, gd', pv⟩ := ay.get gy
      rw [gd] at gd'
      cases gd'
      have sm' := sm.trans (same_upd (o := .tup [u, v]) nT)
      have := dep_get gd
      have := wid_get gd
      refine ⟨Tt, u, v, du, rfl, upd_same, Dp.mono sm' pu, Dp.mono sm' pv, by omega, by omega, by omega, sm', ?_⟩
      rw [upd_ne (ne_of_none eD nT)]
      exact eD
    have fin : ∀ (m : Nat) (H' : Hp) (D : Addr), Same H2 H' → H' D = some (.lst (List.replicate m (V.bl true))) → ∃ (a : Addr) (bs : List Bool), ([.ref D] : List V) = [V.ref a] ∧ SqL K H' a (bs.map V.bl) ∧ Q (.bl (bs.all id)) H' := by
      intro m H' D sm eD
      refine ⟨D, List.replicate m true, rfl, SqL.of (by rw [List.map_replicate]; exact eD), ?_⟩
      rw [show (List.replicate m true).all id = true by simp]
      exact k _ (s2.trans sm)
    have body : ∀ (D : Addr) (i : Nat) (u v : V) (du : PyData) (H' : Hp), H2 D = none → Dp K H' u du → Dp K H' v du → dep du < n → wid du ≤ 100000 → i < 100000 → Same H2 H' → H' D = some (.lst (List.replicate i (V.bl true))) →
        spSame K n [u, v] H' (fun y H4 => ∃ acc, H4 D = some (.lst acc) ∧ acc.length < sizeLine ∧ (Same H2 (upd H4 D (.lst (acc ++ [y]))) ∧ (upd H4 D (.lst (acc ++ [y]))) D = some (.lst (List.replicate (i + 1) (V.bl true))))) E0 := by
      intro D i u v du H' hD pu pv hdp hwd hi sm eD
      refine ⟨u, v, du, rfl, pu, pv, hdp, hwd, fun H4 sm4 => ?_⟩
      refine ⟨List.replicate i (V.bl true), sm4 _ _ eD, ?_, ?_, ?_⟩
      · rw [List.length_replicate]
        exact Nat.lt_of_lt_of_le hi (by decide)
      · intro b o e
        rw [upd_ne (ne_of_none e hD)]
        exact sm4 _ _ (sm _ _ e)
      · rw [upd_same, List.replicate_succ']
    cases dx2 with
    | @lst a xs ds hs ha =>
      cases dy2 with
      | @lst b ys _ hs' ha' =>
        have hdp : depAll ds < n := by
          rw [dep] at hn
          omega
        have hwd : widAll ds ≤ 100000 ∧ ds.length ≤ 100000 := by
          rw [wid] at hw
          omega
        have lx := ha.length
        have ly := ha'.length
        have el : decide (V.int ((xs.length : Nat) : Int) = V.int ((ys.length : Nat) : Int)) = true := by
          rw [lx, ly]
          exact decide_eq_true rfl
        refine ⟨_, rfl, _, _, rfl, .inl ⟨xs, hs, rfl⟩, _, rfl, _, _, rfl, .inl ⟨ys, hs', rfl⟩, rfl, _, rfl, ?_⟩
        rw [el]
        refine iteT ?_
        refine ⟨_, rfl, _, rfl, a, b, xs, ys, rfl, .inl ⟨hs, hs', fun D hD => ?_⟩⟩
        refine lc_it (walk_zip rfl) (fun i H => Same H2 H ∧ H D = some (.lst (List.replicate i (V.bl true)))) ⟨same_upd hD, upd_same⟩ (fun i H _ p => ⟨same_l p.1 hs, same_l p.1 hs'⟩) ?_ (fun H' p => fin _ H' D p.1 p.2)
        intro i z H3 H4 hi p y
        obtain ⟨Tt, u, v, du, rfl, eT, pu, pv, h1, h2, h3, sm, eD⟩ := turn D xs ys ds hD ha ha' hdp hwd.1 hwd.2 i z H3 H4 hi p y
        refine ⟨Tt, [u, v], rfl, SqT.of eT, rfl, u, [v], rfl, v, [], rfl, rfl, rfl, ?_⟩
        exact ⟨_, rfl, _, rfl, body D i u v du H4 hD pu pv h1 h2 h3 sm eD⟩
    | @tup a xs ds hs ha =>
      cases dy2 with
      | @tup b ys _ hs' ha' =>
        have hdp : depAll ds < n := by
          rw [dep] at hn
          omega
        have hwd : widAll ds ≤ 100000 ∧ ds.length ≤ 100000 := by
          rw [wid] at hw
          omega
        have lx := ha.length
        have ly := ha'.length
        have el : decide (V.int ((xs.length : Nat) : Int) = V.int ((ys.length : Nat) : Int)) = true := by
          rw [lx, ly]
          exact decide_eq_true rfl
        refine ⟨_, rfl, _, _, rfl, .inr ⟨xs, hs, rfl⟩, _, rfl, _, _, rfl, .inr ⟨ys, hs', rfl⟩, rfl, _, rfl, ?_⟩
        rw [el]
        refine iteT ?_
        refine ⟨_, rfl, _, rfl, a, b, xs, ys, rfl, .inr ⟨hs, hs', fun D hD => ?_⟩⟩
        refine lc_it (walk_zipT rfl) (fun i H => Same H2 H ∧ H D = some (.lst (List.replicate i (V.bl true)))) ⟨same_upd hD, upd_same⟩ (fun i H _ p => ⟨same_t p.1 hs, same_t p.1 hs'⟩) ?_ (fun H' p => fin _ H' D p.1 p.2)
        intro i z H3 H4 hi p y
        obtain ⟨Tt, u, v, du, rfl, eT, pu, pv, h1, h2, h3, sm, eD⟩ := turn D xs ys ds hD ha ha' hdp hwd.1 hwd.2 i z H3 H4 hi p y
        refine ⟨Tt, [u, v], rfl, SqT.of eT, rfl, u, [v], rfl, v, [], rfl, rfl, rfl, ?_⟩
        exact ⟨_, rfl, _, rfl, body D i u v du H4 hD pu pv h1 h2 h3 sm eD⟩
    | non => exact absurd c1 (by decide)
    | bl b => exact absurd c1 (by decide : ¬ (isTn "list" "bool" || isTn "tuple" "bool") = true)
    | int i => exact absurd c1 (by decide : ¬ (isTn "list" "int" || isTn "tuple" "int") = true)
    | str x => exact absurd c1 (by decide : ¬ (isTn "list" "str" || isTn "tuple" "str") = true)
  · generalize upd H p (.tup clsLT) = H2 at s1
    have dx2 := Dp.mono s1 dx
    have dy2 := Dp.mono s1 dy
    cases dx2 with
    | lst hs ha => exact absurd rfl c1
    | tup hs ha => exact absurd rfl c1
    | non =>
      cases dy2
      refine ⟨_, rfl, rfl, _, rfl, ?_⟩
      refine iteT ?_
      exact ⟨_, rfl, rfl, k _ s1⟩
    | bl b =>
      cases dy2
      refine ⟨_, rfl, rfl, _, rfl, ?_⟩
      refine iteF ?_
      -- isinstance(.., bool), isinstance(.., int)
      refine ⟨_, rfl, _, _, _, _, _, rfl, .ty _, .base (.bl b), (kd (.bool b)).2.2.1, _, rfl, _, _, _, _, _, rfl, .ty _, .base (.bl b), (kd (.bool b)).2.2.1, rfl, _, rfl, ?_⟩
      refine iteNS rfl ?_
      refine ⟨_, rfl, _, _, _, _, _, rfl, .ty _, .base (.bl b), (kd (.bool b)).2.2.2.1, _, rfl, _, _, _, _, _, rfl, .ty _, .base (.bl b), (kd (.bool b)).2.2.2.1, rfl, _, rfl, ?_⟩
      refine iteNS rfl ?_
      refine ⟨_, rfl, _, _, _, _, _, rfl, .ty _, .base (.bl b), (kd (.bool b)).2.2.2.2, _, rfl, _, _, _, _, _, rfl, .ty _, .base (.bl b), (kd (.bool b)).2.2.2.2, rfl, _, rfl, ?_⟩
      rw [decide_eq_true rfl]
      refine iteT ?_
      refine ⟨_, rfl, _, rfl, rfl, ?_⟩
      rw [decide_eq_true rfl]
      exact k _ s1
    | int b =>
      cases dy2
      refine ⟨_, rfl, rfl, _, rfl, ?_⟩
      refine iteF ?_
      -- isinstance(.., bool), isinstance(.., int)
      refine ⟨_, rfl, _, _, _, _, _, rfl, .ty _, .base (.int b), (kd (.int b)).2.2.1, _, rfl, _, _, _, _, _, rfl, .ty _, .base (.int b), (kd (.int b)).2.2.1, rfl, _, rfl, ?_⟩
      refine iteNS rfl ?_
      refine ⟨_, rfl, _, _, _, _, _, rfl, .ty _, .base (.int b), (kd (.int b)).2.2.2.1, _, rfl, _, _, _, _, _, rfl, .ty _, .base (.int b), (kd (.int b)).2.2.2.1, rfl, _, rfl, ?_⟩
      refine iteNS rfl ?_
      refine ⟨_, rfl, _, _, _, _, _, rfl, .ty _, .base (.int b), (kd (.int b)).2.2.2.2, _, rfl, _, _, _, _, _, rfl, .ty _, .base (.int b), (kd (.int b)).2.2.2.2, rfl, _, rfl, ?_⟩
      rw [decide_eq_true rfl]
      refine iteT ?_
      refine ⟨_, rfl, _, rfl, rfl, ?_⟩
      rw [decide_eq_true rfl]
      exact k _ s1
    | str b =>
      cases dy2
      refine ⟨_, rfl, rfl, _, rfl, ?_⟩
      refine iteF ?_
      -- isinstance(.., bool), isinstance(.., int)
      refine ⟨_, rfl, _, _, _, _, _, rfl, .ty _, .base (.str b), (kd (.str b)).2.2.1, _, rfl, _, _, _, _, _, rfl, .ty _, .base (.str b), (kd (.str b)).2.2.1, rfl, _, rfl, ?_⟩
      refine iteNS rfl ?_
      refine ⟨_, rfl, _, _, _, _, _, rfl, .ty _, .base (.str b), (kd (.str b)).2.2.2.1, _, rfl, _, _, _, _, _, rfl, .ty _, .base (.str b), (kd (.str b)).2.2.2.1, rfl, _, rfl, ?_⟩
      refine iteNS rfl ?_
      refine ⟨_, rfl, _, _, _, _, _, rfl, .ty _, .base (.str b), (kd (.str b)).2.2.2.2, _, rfl, _, _, _, _, _, rfl, .ty _, .base (.str b), (kd (.str b)).2.2.2.2, rfl, _, rfl, ?_⟩
      rw [decide_eq_true rfl]
      refine iteT ?_
      refine ⟨_, rfl, _, rfl, rfl, ?_⟩
      rw [decide_eq_true rfl]
      exact k _ s1
theorem same_all (T : Txt K mg) : ∀ n, FnOk P w K mg base CX0 n T.a_law_same T.d_law_same ["_law_found", "_law_due"] (spSame K n)
  | 0 => by
    have no : ∀ vs H Q E, ¬ spSame K 0 vs H Q E := fun vs H Q E h => by
      obtain ⟨x, y, d, _, _, _, h, _⟩ := h
      omega
    exact ⟨fun vs H Q E h => absurd h (no vs H Q E), fun A outer s H args us vs Q E _ _ _ _ h => absurd h (no vs H Q E)⟩
  | n + 1 => same_step T n (same_all T n)
theorem ok_law_same (T : Txt K mg) : FnOk P w K mg base CX0 12 T.a_law_same T.d_law_same ["_law_found", "_law_due"] (spSame K 12) := same_all T 12
/-- a draw below n -/
def spTake : Sp := fun vs H Q _ => ∃ (d l : Addr) (n : Int), vs = [.ref d, .int n] ∧ DrawAt H d l ∧ 0 < n ∧ n < 2 ^ 200 ∧
  ∀ (r : Int) H', 0 ≤ r → r < n → DrawAt H' d l → But (Only1 d) H H' → Q (.int r) H'
theorem ok_law_take (T : Txt K mg) : FnOk P w K mg base CX0 1 T.a_law_take T.d_law_take ["_law_draw", "_law_sides"] spTake := by
  refine T.F_law_take.ok sc_law_take (fun vs H Q E h => ?_) (fun cdv A outer s H vs Q E hr h => ?_)
  · obtain ⟨d, l, n, rfl, _⟩ := h
    rfl
  obtain ⟨d, l, n, rfl, D, hn0, hn, k⟩ := h
  refine ⟨_, (C8.pss_cut (ps_if (PW.pt (pw_and (pt_cmpR op_lt (pe_ix ix_list (pv 0) pe_int (fun _ _ => rfl)) (pv 1) (nomark _)) (pw_and1 (pt_cmpR op_lt (pe_ix ix_list (pv 0) pe_int (fun _ _ => rfl)) (pe_callB call_len_seq (by rfl) T.z_len (by decide +kernel) (pa_cons (pe_ix ix_list (pv 0) pe_int (fun _ _ => rfl)) pa_nil)) (nomark _))))) (pss_cons (ps_set (i := 2) sc_law_take.nd rfl (Or.inl rfl) (pe_ix ix_list (pe_ix ix_list (pv 0) pe_int (fun _ _ => rfl)) (pe_ix ix_list (pv 0) pe_int (fun _ _ => rfl)) (fun _ _ => rfl)))
      (pss_cons (ps_asg (pe_op op_add (pe_ix ix_list (pv 0) pe_int (fun _ _ => rfl)) pe_int) (pg_sub (pv 0) pe_int set_list))
      (pss_cons (ps_asg pe_int (pg_sub (pv 0) pe_int set_list))
      (pss_one (ps_if (pt_cmpR op_ge (pe_callB call_abs (by rfl) T.z_abs (by decide +kernel) (pa_cons (pv 2) pa_nil)) (pe_op op_pow pe_int pe_int) (nomark _)) (pss_one (ps_asg (pe_callB call_abs (by rfl) T.z_abs (by decide +kernel) (pa_cons (pv 2) pa_nil)) (pg_sub (pv 0) pe_int set_list))) (pss_one (ps_asg (pe_op op_mod (pe_op op_add (pe_op op_add (pe_op op_mul (pe_ix ix_list (pv 0) pe_int (fun _ _ => rfl)) pe_int) (pe_op op_mul (pe_op op_mod (pv 2) pe_int) pe_int)) pe_int) pe_int) (pg_sub (pv 0) pe_int set_list)))))))) pss_nil)
      (pss_cons (ps_if (pt_cmpR op_ge (pe_ix ix_list (pv 0) pe_int (fun _ _ => rfl)) (pv 1) (nomark _)) (pss_cons (ps_set (i := 3) sc_law_take.nd rfl (Or.inl rfl) (pe_op op_mod (pe_ix ix_list (pv 0) pe_int (fun _ _ => rfl)) (pv 1)))
      (pss_cons (ps_asg (pe_op op_fdivW (pe_ix ix_list (pv 0) pe_int (fun _ _ => rfl)) (pv 1)) (pg_sub (pv 0) pe_int set_list))
      (pss_one (ps_ret (pv 3))))) pss_nil)
      (pss_cons (ps_asg (pe_op op_mod (pe_op op_add (pe_op op_add (pe_op op_mul (pe_op op_mod (pe_op op_mul (pe_ix ix_list (pv 0) pe_int (fun _ _ => rfl)) (pe_ix ix_list (pv 0) pe_int (fun _ _ => rfl))) pe_int) pe_int) (pe_op op_mul (pe_ix ix_list (pv 0) pe_int (fun _ _ => rfl)) pe_int)) pe_int) pe_int) (pg_sub (pv 0) pe_int set_list))
      (pss_one (ps_ret (pe_op op_mod (pe_op op_add (pe_op op_fdivW (pe_ix ix_list (pv 0) pe_int (fun _ _ => rfl)) pe_int) (pe_op op_mul (pe_op op_mod (pe_ix ix_list (pv 0) pe_int (fun _ _ => rfl)) pe_int) pe_int)) (pv 1))))))), ?_⟩
  obtain ⟨ns, p, g, s, e1, e2, p0, g0, s0, s1, hl⟩ := D.ex
  have nld : l ≠ d := fun e => by
    rw [e, e1] at e2
    cases ns with
    | nil => cases e2
    | cons x r => cases e2
  have cw : CDivW 0 n := log_small hn0 hn (by decide) (by decide)
  refine ⟨fun σ' H' => ∃ c p g s, σ' = [some (.ref d), some (.int n), c, none] ∧ H' d = some (.lst [.ref l, .int p, .int g, .int s]) ∧ H' l = some (.lst (ns.map V.int)) ∧ 0 ≤ p ∧ 0 ≤ g ∧ 0 ≤ s ∧ s < 2147483647 ∧ But (Only1 d) H H', ?_, ?_⟩
  · refine ⟨_, rfl, d, _, 2, .int g, rfl, rfl, SqL.of e1, rfl, _, rfl, g, n, rfl, rfl, _, rfl, ?_⟩
    refine ite2 (fun c1 => ?_) (fun _ => ⟨_, p, g, s, rfl, e1, e2, p0, g0, s0, s1, But.refl _ _⟩)
    refine ⟨_, rfl, d, _, 1, .int p, rfl, rfl, SqL.of e1, rfl, _, rfl, d, _, 0, .ref l, rfl, rfl, SqL.of e1, rfl, l, _, rfl, .inl (SqL.of e2), p, _, rfl, rfl, _, rfl, ?_⟩
    refine ite2 (fun c2 => ?_) (fun _ => ⟨_, p, g, s, rfl, e1, e2, p0, g0, s0, s1, But.refl _ _⟩)
    have c2' : p < (((ns.map V.int).length : Nat) : Int) := of_decide_eq_true c2
    rw [List.length_map] at c2'
    obtain ⟨j, ej⟩ : ∃ j : Nat, p = (j : Int) := ⟨p.toNat, by omega⟩
    have hj : j < ns.length := by omega
    have ha : atI (ns.map V.int) p = some (.int ns[j]) := by
      rw [ej]
      exact atI_nat (by rw [List.getElem?_map, List.getElem?_eq_getElem hj]; rfl)
    -- cell = draw[0][draw[1]]
    refine ⟨_, rfl, d, _, 0, .ref l, rfl, rfl, SqL.of e1, rfl, _, rfl, d, _, 1, .int p, rfl, rfl, SqL.of e1, rfl, l, _, p, _, rfl, rfl, SqL.of e2, ha, ?_⟩
    generalize ns[j] = x
    -- draw[1] = draw[1] + 1; draw[2] = 0
    refine ⟨_, rfl, d, _, 1, .int p, rfl, rfl, SqL.of e1, rfl, p, 1, rfl, rfl, _, rfl, d, _, 1, 1, rfl, rfl, e1, rfl, ?_⟩
    refine ⟨_, rfl, d, _, 2, 2, rfl, rfl, upd_same, rfl, ?_⟩
    have b2 : ∀ o, But (Only1 d) H (upd (upd H d (.lst [.ref l, .int (p + 1), .int g, .int s])) d o) := fun o => ((But.refl _ _).put only1).put only1
    have e2' : ∀ o o', upd (upd H d o) d o' l = some (.lst (ns.map V.int)) := fun o o' => by
      rw [upd_ne nld, upd_ne nld]
      exact e2
    -- abs(cell) >= 10 ** 18
    refine ⟨_, rfl, x, rfl, 10, 18, rfl, rfl, ⟨by decide, by decide, by decide⟩, _, _, rfl, rfl, _, rfl, ?_⟩
    refine ite2 (fun _ => ?_) (fun _ => ?_)
    · refine ⟨_, rfl, x, rfl, _, rfl, d, _, 2, 2, rfl, rfl, upd_same, rfl, ?_⟩
      refine ⟨_, p + 1, _, s, rfl, upd_same, ?_, by omega, ?_, s0, s1, ((b2 _).put only1)⟩
      · rw [upd_ne nld]
        exact e2' _ _
      · split <;> omega
    · refine ⟨_, rfl, d, _, 3, .int s, rfl, rfl, SqL.of upd_same, rfl, s, 48271, rfl, rfl, .inr ⟨by decide, by decide⟩, _, rfl, x, 2147483629, rfl, rfl, (by show (0 : Int) < 2147483629; decide), _, 69621, rfl, rfl, .inr ⟨by decide, by decide⟩, _, _, rfl, rfl, _, 12345, rfl, rfl, _, 2147483647, rfl, rfl, (by show (0 : Int) < 2147483647; decide), _, rfl, d, _, 3, 3, rfl, rfl, upd_same, rfl, ?_⟩
      refine ⟨_, p + 1, 0, _, rfl, upd_same, ?_, by omega, by omega, Int.emod_nonneg _ (by decide), Int.emod_lt_of_pos _ (by decide), ((b2 _).put only1)⟩
      rw [upd_ne nld]
      exact e2' _ _
  · rintro σ' H1 ⟨c, p, g, s, rfl, e1, e2, p0, g0, s0, s1, b⟩
    refine ⟨_, rfl, d, _, 2, .int g, rfl, rfl, SqL.of e1, rfl, _, rfl, g, n, rfl, rfl, _, rfl, ?_⟩
    refine ite2 (fun c1 => ?_) (fun _ => ?_)
    · refine ⟨_, rfl, d, _, 2, .int g, rfl, rfl, SqL.of e1, rfl, _, rfl, g, n, rfl, rfl, hn0, ?_⟩
      refine ⟨_, rfl, d, _, 2, .int g, rfl, rfl, SqL.of e1, rfl, _, rfl, g, n, rfl, rfl, cw, _, rfl, d, _, 2, 2, rfl, rfl, e1, rfl, ?_⟩
      refine ⟨_, rfl, k _ _ (Int.emod_nonneg _ (by omega)) (Int.emod_lt_of_pos _ hn0) ⟨⟨ns, p, _, s, upd_same, by rw [upd_ne nld]; exact e2, p0, Int.ediv_nonneg g0 (by omega), s0, s1, hl⟩⟩ (b.put only1)⟩
    · refine ⟨_, rfl, d, _, 3, .int s, rfl, rfl, SqL.of e1, rfl, _, rfl, d, _, 3, .int s, rfl, rfl, SqL.of e1, rfl, s, s, rfl, rfl, .inl ⟨by omega, by omega⟩, _, 2147483629, rfl, rfl, (by show (0 : Int) < 2147483629; decide), _, 5, rfl, rfl, .inr ⟨by decide, by decide⟩, _, rfl, d, _, 3, .int s, rfl, rfl, SqL.of e1, rfl, s, 16811, rfl, rfl, .inr ⟨by decide, by decide⟩, _, _, rfl, rfl, _, 2531011, rfl, rfl, _, 2147483647, rfl, rfl, (by show (0 : Int) < 2147483647; decide), _, rfl, d, _, 3, 3, rfl, rfl, e1, rfl, ?_⟩
      have z0 : ∀ x : Int, 0 ≤ x % 2147483647 := fun x => Int.emod_nonneg _ (by decide)
      have z1 : ∀ x : Int, x % 2147483647 < 2147483647 := fun x => Int.emod_lt_of_pos _ (by decide)
      refine ⟨_, rfl, d, _, 3, _, rfl, rfl, SqL.of upd_same, rfl, _, 61, rfl, rfl, log_small (k := 10) (by decide) (by decide) (by decide) (by decide), _, rfl, d, _, 3, _, rfl, rfl, SqL.of upd_same, rfl, _, 8191, rfl, rfl, (by show (0 : Int) < 8191; decide), _, 31, rfl, rfl, .inr ⟨by decide, by decide⟩, _, _, rfl, rfl, _, rfl, _, n, rfl, rfl, hn0, ?_⟩
      exact k _ _ (Int.emod_nonneg _ (by omega)) (Int.emod_lt_of_pos _ hn0) ⟨⟨ns, p, g, _, upd_same, by rw [upd_ne nld]; exact e2, p0, g0, z0 _, z1 _, hl⟩⟩ (b.put only1)
/-- one of a row: a text's sign, a list's or tuple's item -/
def spPick (K : PySem.W.Frag) : Sp := fun vs H Q _ => ∃ (d l : Addr) (x : V), vs = [.ref d, x] ∧ DrawAt H d l ∧
  ((∃ z : Str, x = .str z ∧ 0 < z.length ∧ z.length ≤ 100000 ∧ ∀ (c : Nat) H', c ∈ z.cps.toList → DrawAt H' d l → But (Only1 d) H H' → Q (.str ⟨#[c]⟩) H') ∨
   ∃ (a : Addr) (xs : List V), x = .ref a ∧ a ≠ d ∧ (SqL K H a xs ∨ SqT K H a xs) ∧ 0 < xs.length ∧ xs.length ≤ 100000 ∧ ∀ (v : V) H', v ∈ xs → DrawAt H' d l → But (Only1 d) H H' → Q v H')
theorem ok_law_pick (T : Txt K mg) : FnOk P w K mg base CX0 2 T.a_law_pick T.d_law_pick ["_law_draw", "_law_row"] (spPick K) := by
  refine T.F_law_pick.ok sc_law_pick (fun vs H Q E h => ?_) (fun cdv A outer s H vs Q E hr h => ?_)
  · obtain ⟨d, l, x, rfl, _⟩ := h
    rfl
  obtain ⟨d, l, x, rfl, D, h⟩ := h
  refine ⟨_, (pss_one (ps_ret (pe_ix ix_seq (pv 1) (pe_call (ok_law_take T) (hr.mono (by decide)) (by rfl) T.g_law_take T.F_law_take.kp T.b_law_take .nil pass0 (pa_cons (pv 0) (pa_cons (pe_callB call_len (by rfl) T.z_len (by decide +kernel) (pa_cons (pv 1) pa_nil)) pa_nil))) (fun _ _ => rfl)))), ?_⟩
  have big : (100000 : Int) < 2 ^ 200 := by decide
  rcases h with ⟨z, rfl, h0, h1, k⟩ | ⟨a, xs, rfl, na, hs, h0, h1, k⟩
  · refine ⟨_, rfl, _, rfl, _, rfl, _, z.length, rfl, ⟨Nat.le_trans h1 (by decide), rfl⟩, d, l, _, rfl, D, by omega, by omega, fun r H' r0 r1 D' b => ?_⟩
    obtain ⟨j, rfl⟩ : ∃ j : Nat, r = (j : Int) := ⟨r.toNat, by omega⟩
    have hj : j < z.cps.toList.length := by
      rw [Array.length_toList]
      show j < z.length
      omega
    exact .inr (.inr ⟨z, _, _, rfl, rfl, Nat.le_trans h1 (by decide), atI_nat (List.getElem?_eq_getElem hj), k _ H' (List.getElem_mem hj) D' b⟩)
  · have hl : LenV K (.ref a) H xs.length := by
      rcases hs with hs | hs
      · exact .inl ⟨xs, hs, rfl⟩
      · exact .inr ⟨xs, hs, rfl⟩
    refine ⟨_, rfl, _, rfl, _, rfl, _, xs.length, rfl, hl, d, l, _, rfl, D, by omega, by omega, fun r H' r0 r1 D' b => ?_⟩
    obtain ⟨j, rfl⟩ : ∃ j : Nat, r = (j : Int) := ⟨r.toNat, by omega⟩
    have hj : j < xs.length := by omega
    rcases hs with hs | hs
    · exact .inl ⟨a, xs, _, _, rfl, rfl, but_l b na hs, atI_nat (List.getElem?_eq_getElem hj), k _ H' (List.getElem_mem hj) D' b⟩
    · exact .inr (.inl ⟨a, xs, _, _, rfl, rfl, but_t b na hs, atI_nat (List.getElem?_eq_getElem hj), k _ H' (List.getElem_mem hj) D' b⟩)
/-- an end, frozen -/
def spSomeEnd (K : PySem.W.Frag) : Sp := fun vs H Q _ => ∃ (d l sa : Addr) (sc : List Str) (wide : Bool) (G : Hp), vs = [.ref d, .ref sa, .bl wide] ∧ Same G H ∧ G d = none ∧ DrawAt H d l ∧ G sa = some (.lst (sc.map V.str)) ∧ sc ≠ [] ∧ sc.length ≤ 1000 ∧
  ∀ (v : V) (e : En) (G' H' : Hp), Grow (Only1 d) G H G' H' → DrawAt H' d l → Dp K G' v (endD e) → EndOk wide sc e → Q v H'
theorem ok_law_some_end (T : Txt K mg) : FnOk P w K mg base CX0 3 T.a_law_some_end T.d_law_some_end ["_law_draw", "_law_scope", "_law_wide"] (spSomeEnd K) := by
  refine T.F_law_some_end.ok sc_law_some_end (fun vs H Q E h => ?_) (fun cdv A outer s H vs Q E hr h => ?_)
  · obtain ⟨d, l, sa, sc, wide, G, rfl, _⟩ := h
    rfl
  obtain ⟨d, l, sa, sc, wide, G, rfl, sg, gd, D, es, sne, sl, k⟩ := h
  refine ⟨_, (pss_cons (ps_set (i := 3) sc_law_some_end.nd rfl (Or.inl rfl) (pe_ix ix_list (pe_lst (pa_cons pe_int (pa_cons (pe_call (ok_law_take T) (hr.mono (by decide)) (by rfl) T.g_law_take T.F_law_take.kp T.b_law_take .nil pass0 (pa_cons (pv 0) (pa_cons pe_int pa_nil))) (pa_cons (pe_call (ok_law_take T) (hr.mono (by decide)) (by rfl) T.g_law_take T.F_law_take.kp T.b_law_take .nil pass0 (pa_cons (pv 0) (pa_cons (pe_ix ix_list (pe_lst (pa_cons pe_int (pa_cons pe_int pa_nil))) (pe_callTy call_int1 (by rfl) T.z_int (by decide +kernel) (pa_cons (pv 2) pa_nil)) (fun _ _ => rfl)) pa_nil))) pa_nil)))) (pe_call (ok_law_take T) (hr.mono (by decide)) (by rfl) T.g_law_take T.F_law_take.kp T.b_law_take .nil pass0 (pa_cons (pv 0) (pa_cons pe_int pa_nil))) (fun _ _ => rfl)))
      (pss_cons (ps_if (pt_cmpR op_eq (pe_call (ok_law_take T) (hr.mono (by decide)) (by rfl) T.g_law_take T.F_law_take.kp T.b_law_take .nil pass0 (pa_cons (pv 0) (pa_cons pe_int pa_nil))) pe_int (nomark _)) (pss_one (ps_ret (pe_tup (pa_cons pe_str (pa_cons (pv 3) pa_nil))))) pss_nil)
      (pss_one (ps_ret (pe_tup (pa_cons (pe_call (ok_law_pick T) (hr.mono (by decide)) (by rfl) T.g_law_pick T.F_law_pick.kp T.b_law_pick .nil pass0 (pa_cons (pv 0) (pa_cons (pv 1) pa_nil))) (pa_cons (pe_op op_mul (pv 3) (pe_ix ix_list (pe_lst (pa_cons pe_int (pa_cons (pe_un un_neg pe_int) pa_nil))) (pe_call (ok_law_take T) (hr.mono (by decide)) (by rfl) T.g_law_take T.F_law_take.kp T.b_law_take .nil pass0 (pa_cons (pv 0) (pa_cons pe_int pa_nil))) (fun _ _ => rfl))) pa_nil))))))), ?_⟩
  have nsd : sa ≠ d := fun e => by rw [e, gd] at es; cases es
  have gr0 : Grow (Only1 d) G H G H := Grow.refl sg
  refine ⟨_, rfl, d, l, 5, rfl, D, by decide, by decide, fun m1 H1 a0 a1 D1 b1 => ?_⟩
  have gr1 := gr0.trans (Grow.draw gr0.gh gd b1) D.some'
  refine ⟨_, rfl, by show 2 ≤ sizeLine; decide, fun L1 hL1 => ?_⟩
  have gr2 := gr1.cell (o := .lst [.int 5, .int 100]) hL1
  have D2 := D1.upd (o := .lst [.int 5, .int 100]) hL1
  have at5 : atI [V.int 5, V.int 100] (if wide then 1 else 0) = some (.int (if wide then 100 else 5)) := by cases wide <;> rfl
  have w5 : (0 : Int) < (if wide then 100 else 5) ∧ (if wide then (100 : Int) else 5) ≤ 100 := by cases wide <;> decide
  have w6 : (5 : Int) ≤ (if wide then 100 else 5) := by cases wide <;> decide
  refine ⟨_, rfl, .inr ⟨wide, rfl, ?_⟩⟩
  refine ⟨L1, _, _, _, rfl, rfl, SqL.of upd_same, at5, d, l, _, rfl, D2, w5.1, Int.lt_of_le_of_lt w5.2 (by decide), fun m2 H3 c0 c1 D3 b3 => ?_⟩
  have gr3 := gr2.trans (Grow.draw gr2.gh gd b3) D2.some'
  refine ⟨by show 3 ≤ sizeLine; decide, fun L2 hL2 => ?_⟩
  have gr4 := gr3.cell (o := .lst [.int 0, .int m1, .int m2]) hL2
  have D4 := D3.upd (o := .lst [.int 0, .int m1, .int m2]) hL2
  refine ⟨_, rfl, d, l, 3, rfl, D4, by decide, by decide, fun j H5 j0 j1 D5 b5 => ?_⟩
  have gr5 := gr4.trans (Grow.draw gr4.gh gd b5) D4.some'
  obtain ⟨m, hm, hm0, hm1⟩ : ∃ m : Int, atI [V.int 0, V.int m1, V.int m2] j = some (.int m) ∧ 0 ≤ m ∧ m < (if wide then 100 else 5) := by
    obtain ⟨n, rfl⟩ : ∃ n : Nat, j = (n : Int) := ⟨j.toNat, by omega⟩
    match n, j1 with
    | 0, _ => exact ⟨0, rfl, by decide, w5.1⟩
    | 1, _ => exact ⟨m1, rfl, a0, by omega⟩
    | 2, _ => exact ⟨m2, rfl, c0, c1⟩
    | n + 3, e => omega
  refine ⟨L2, _, _, _, rfl, rfl, SqL.of (b5 _ _ upd_same (D3.ned hL2)), hm, ?_⟩
  have hmn : m.natAbs < (if wide then 100 else 5) := by cases wide <;> simp at hm1 ⊢ <;> omega
  refine ⟨_, rfl, d, l, 3, rfl, D5, by decide, by decide, fun q H6 q0 q1 D6 b6 => ?_⟩
  have gr6 := gr5.trans (Grow.draw gr5.gh gd b6) D5.some'
  have tupOk : ∀ (H7 : Hp) (x : Str) (i : Int) (p : Addr), Grow (Only1 d) G H G H7 → DrawAt H7 d l → H7 p = none → EndOk wide sc (x, i) → Q (.ref p) (upd H7 p (.tup [.str x, .int i])) := fun H7 x i p g7 D7 hp eo => by
    have g8 := g7.new (o := .tup [.str x, .int i]) hp D7.some'
    exact k _ (x, i) _ _ g8 (D7.upd hp) (.tup (xs := [.str x, .int i]) (SqT.of upd_same) (.cons (.str _) (.cons (.int _) .nil))) eo
  refine ⟨rfl, _, rfl, ite2 (fun _ => ?_) (fun _ => ?_)⟩
  · refine ⟨_, rfl, by show 2 ≤ sizeLine; decide, fun p hp => ?_⟩
    exact tupOk _ "" m p gr6 D6 hp ⟨hmn, .inl ⟨rfl, hm0⟩⟩
  · have es6 : H6 sa = some (.lst (sc.map V.str)) := gr6.gh _ _ es
    have sp : 0 < sc.length := List.length_pos_iff.mpr sne
    refine ⟨_, rfl, _, rfl, d, l, _, rfl, D6, .inr ⟨sa, _, rfl, nsd, .inl (SqL.of es6), by rw [List.length_map]; exact sp, by rw [List.length_map]; omega, fun v H7 hv D7 b7 => ?_⟩⟩
    obtain ⟨x, hx, rfl⟩ := List.mem_map.mp hv
    have gr7 := gr6.trans (Grow.draw gr6.gh gd b7) D6.some'
    refine ⟨_, rfl, _, rfl, by show 2 ≤ sizeLine; decide, fun L3 hL3 => ?_⟩
    have gr8 := gr7.cell (o := .lst [.int 1, .int (-1)]) hL3
    have D8 := D7.upd (o := .lst [.int 1, .int (-1)]) hL3
    refine ⟨_, rfl, d, l, 2, rfl, D8, by decide, by decide, fun z H9 z0 z1 D9 b9 => ?_⟩
    have gr9 := gr8.trans (Grow.draw gr8.gh gd b9) D8.some'
    obtain ⟨y, hy, hy2⟩ : ∃ y : Int, atI [V.int 1, V.int (-1)] z = some (.int y) ∧ (y = 1 ∨ y = -1) := by
      obtain ⟨n, rfl⟩ : ∃ n : Nat, z = (n : Int) := ⟨z.toNat, by omega⟩
      match n, z1 with
      | 0, _ => exact ⟨1, rfl, .inl rfl⟩
      | 1, _ => exact ⟨-1, rfl, .inr rfl⟩
      | n + 2, e => omega
    have yn : (m * y).natAbs < (if wide then 100 else 5) := by
      rcases hy2 with rfl | rfl
      · rw [Int.mul_one]; exact hmn
      · rw [Int.mul_neg, Int.mul_one, Int.natAbs_neg]; exact hmn
    refine ⟨L3, _, _, _, rfl, rfl, SqL.of (b9 _ _ upd_same (D7.ned hL3)), hy, _, _, rfl, rfl, .inr (by rcases hy2 with rfl | rfl <;> decide), by show 2 ≤ sizeLine; decide, fun p hp => ?_⟩
    exact tupOk _ x (m * y) p gr9 D9 hp ⟨yn, .inr hx⟩
def spLeaf (K : PySem.W.Frag) : Sp := fun vs H Q _ => ∃ (d l kc dk sa : Addr) (sc : List Str) (k : Kit) (r : Int) (deep : Nat) (G : Hp), vs = [.ref d, .ref kc, .ref sa, .int (deep : Nat)] ∧ Same G H ∧ G d = none ∧ DrawAt H d l ∧ KitAt H kc dk r k ∧ KnAt G dk k.kn ∧
  G sa = some (.lst (sc.map V.str)) ∧ (Str.ofString "n") ∈ sc ∧ sc.length ≤ 25 ∧
  ∀ (v : V) (t : Thing) (G' H' : Hp), Grow (Only1 d) G H G' H' → DrawAt H' d l → Dp K G' v (thingD t) → ThOk k t sc deep → thingC t = 1 → Q v H'
theorem ok_law_leaf (T : Txt K mg) : FnOk P w K mg base CX0 4 T.a_law_leaf T.d_law_leaf ["_law_draw", "_law_kit", "_law_scope", "_law_deep"] (spLeaf K) := by
  refine T.F_law_leaf.ok sc_law_leaf (fun vs H Q E h => ?_) (fun cdv A outer s H vs Q E hr h => ?_)
  · obtain ⟨d, l, kc, dk, sa, sc, k, r, deep, G, rfl, _⟩ := h
    rfl
  obtain ⟨d, l, kc, dk, sa, sc, k, r, deep, G, rfl, sg, gd, D, kit, kn, es, hn, sl, q⟩ := h
  refine ⟨_, (pss_cons (ps_setLc (i := 5) (own := [("_law_name", 4)]) (g := gName 4) (tt := _) rfl sc_law_leaf.nd rfl rfl (sw_true rfl rfl rfl (by decide +kernel)) (pi_list (pe_callB (call_sortedD rfl) (by rfl) T.z_sorted (by decide +kernel) (pa_cons (pe_ix ix_list (pv 1) pe_int (fun _ _ => rfl)) pa_nil))) (blkOk_by (N := N_law_leaf) (sc := defScope s_law_leaf) (by decide +kernel)) (fun _ _ _ _ _ => (pg_name (i := 4) sc_law_leaf.nd rfl (Or.inl rfl))) (fun _ _ _ _ _ => (pts_one (PW.pt (pw_and (pt_cmpR op_lt (pe_op op_add (pe_ix (r := rIxT K) ix_tup (pe_dget (hu_of hr) (pe_ix (r := rIxL K) ix_list (pv 1) pe_int (fun _ _ => rfl)) (pv 4) (fun _ _ => rfl)) pe_int (fun _ _ => rfl)) (pv 3)) pe_int (nomark _)) (pw_and1 (pt_cmpR op_lt (pe_ix (r := rIxT K) ix_tup (pe_dget (hu_of hr) (pe_ix (r := rIxL K) ix_list (pv 1) pe_int (fun _ _ => rfl)) (pv 4) (fun _ _ => rfl)) pe_int (fun _ _ => rfl)) pe_int (nomark _))))))) (fun _ _ _ _ _ => (pv 4)))
      (C8.pss_cut (ps_if (PW.pt (pw_and (pt_cmpR (op_neD hr.units) (pv 5) (pe_lst pa_nil) (nomark _)) (pw_and1 (pt_cmpR op_eq (pe_call (ok_law_take T) (hr.mono (by decide)) (by rfl) T.g_law_take T.F_law_take.kp T.b_law_take .nil pass0 (pa_cons (pv 0) (pa_cons pe_int pa_nil))) pe_int (nomark _))))) (pss_cons (ps_set (i := 4) sc_law_leaf.nd rfl (Or.inl rfl) (pe_call (ok_law_pick T) (hr.mono (by decide)) (by rfl) T.g_law_pick T.F_law_pick.kp T.b_law_pick .nil pass0 (pa_cons (pv 0) (pa_cons (pv 5) pa_nil))))
      (pss_cons (ps_set (i := 6) sc_law_leaf.nd rfl (Or.inl rfl) (pe_call (ok_law_some_end T) (hr.mono (by decide)) (by rfl) T.g_law_some_end T.F_law_some_end.kp T.b_law_some_end .nil pass0 (pa_cons (pv 0) (pa_cons (pv 2) (pa_cons (pe_ix ix_list (pv 1) pe_int (fun _ _ => rfl)) pa_nil)))))
      (pss_one (ps_ret (pe_tup (pa_cons pe_str (pa_cons (pv 4) (pa_cons (pe_ifExp (PW.pt (pw_and (pt_val (pe_ix ix_tup (pe_dget (hu_of hr) (pe_ix ix_list (pv 1) pe_int (fun _ _ => rfl)) (pv 4) (fun _ _ => rfl)) pe_int (fun _ _ => rfl))) (pw_and1 (pt_cmpR op_ne (pe_ix ix_tup (pv 6) pe_int (fun _ _ => rfl)) pe_str (nomark _))))) (pe_tup (pa_cons pe_str (pa_cons pe_int pa_nil))) (pv 6)) pa_nil)))))))) pss_nil)
      (pss_one (ps_ret (pe_tup (pa_cons pe_str (pa_cons (pe_ix ix_list (pe_lst (pa_cons (pe_call (ok_law_take T) (hr.mono (by decide)) (by rfl) T.g_law_take T.F_law_take.kp T.b_law_take .nil pass0 (pa_cons (pv 0) (pa_cons pe_int pa_nil))) (pa_cons (pe_call (ok_law_take T) (hr.mono (by decide)) (by rfl) T.g_law_take T.F_law_take.kp T.b_law_take .nil pass0 (pa_cons (pv 0) (pa_cons pe_int pa_nil))) pa_nil))) (pe_call (ok_law_take T) (hr.mono (by decide)) (by rfl) T.g_law_take T.F_law_take.kp T.b_law_take .nil pass0 (pa_cons (pv 0) (pa_cons pe_int pa_nil))) (fun _ _ => rfl)) pa_nil))))))), ?_⟩
  obtain ⟨kvs, e1, e2, e3⟩ := kn.ex
  have ki : ∀ {H'}, Same H H' → SqL K H' kc [.int r, .ref dk, .bl k.fig, .bl k.wide] := fun s => SqL.of (s _ _ kit)
  refine ⟨_, rfl, kc, _, _, _, rfl, rfl, SqL.of kit, (rfl : atI [V.int r, .ref dk, .bl k.fig, .bl k.wide] 1 = some (.ref dk)), dk, kvs, k.kn.map (·.1), rfl, .inl (sg _ _ e1), e2, by rw [List.length_map]; have := kn.len; omega, fun ys p hperm _ hp => ?_⟩
  have s1 : Same H _ := same_upd (o := .lst (ys.map V.str)) hp
  refine ⟨p, rfl, ⟨_, SqL.of upd_same⟩, fun R hR => ?_⟩
  have yl : ys.length < 60 := by
    rw [hperm.length_eq, List.length_map]
    exact kn.len
  let ok1 : Str → Prop := fun x => ∃ en : Bool × Int × Int, ((x, en) ∈ k.kn ∧ en.2.1 + deep < 9 ∧ en.2.2 < 4) ∧ ∃ p, valV kvs (Sum.inr x) = some (.ref p) ∧ G p = some (.tup [.bl en.1, .int en.2.1, .int en.2.2])
  refine lc_it (walk_list (xs := ys.map V.str)) (fun i H' => Same (upd H p (.lst (ys.map V.str))) H' ∧ ∃ fs : List Str, fs.length ≤ i ∧ (∀ x ∈ fs, ok1 x) ∧ H' R = some (.lst (fs.map V.str))) ⟨same_upd hR, [], Nat.le_refl _, (fun _ h => nomatch h), upd_same⟩ (fun i H' _ p => SqL.of (p.1 _ _ upd_same)) ?_ ?_
  · rintro i x H1 H2 hi ⟨sm, fs, fl, fo, eR⟩ ⟨rfl, hx⟩
    have hi : i < ys.length := by simpa using hi
    rw [List.getElem?_map] at hx
    obtain ⟨y, hy, rfl⟩ : ∃ y, ys[i]? = some y ∧ x = .str y := by
      cases h : ys[i]? with
      | none => rw [h] at hx; cases hx
      | some y => rw [h] at hx; exact ⟨y, rfl, (Option.some.inj hx).symm⟩
    have ym : y ∈ k.kn.map (·.1) := hperm.mem_iff.mp (List.mem_of_getElem? hy)
    obtain ⟨en, p2, q1, q2, q3⟩ := e3 y ym
    have s2 := s1.trans sm
    have dg : DGet H2 dk (.str y) (some (.ref p2)) := by
      have := DGet.k (k := Sum.inr y) (s2 _ _ (sg _ _ e1))
      rw [q2] at this
      exact this
    have st : SqT K H2 p2 [.bl en.1, .int en.2.1, .int en.2.2] := SqT.of (s2 _ _ (sg _ _ q3))
    have ak : ∀ {H' : Hp} (s : Same H H'), SqL K H' kc [.int r, .ref dk, .bl k.fig, .bl k.wide] := fun s => ki s
    refine ⟨rfl, ?_⟩
    refine ⟨_, rfl, kc, _, _, _, rfl, rfl, ki s2, (rfl : atI [V.int r, .ref dk, .bl k.fig, .bl k.wide] 1 = some (.ref dk)), _, rfl, dk, _, rfl, dg, p2, _, _, _, rfl, rfl, st, (rfl : atI [V.bl en.1, .int en.2.1, .int en.2.2] 1 = some (.int en.2.1)), _, rfl, _, _, rfl, rfl, _, _, rfl, rfl, _, rfl, ?_⟩
    refine ite2 (fun c1 => ?_) (fun c1 => ?_)
    · have c1' : en.2.1 + deep < 9 := of_decide_eq_true c1
      refine ⟨_, rfl, kc, _, _, _, rfl, rfl, ki s2, (rfl : atI [V.int r, .ref dk, .bl k.fig, .bl k.wide] 1 = some (.ref dk)), _, rfl, dk, _, rfl, dg, p2, _, _, _, rfl, rfl, st, (rfl : atI [V.bl en.1, .int en.2.1, .int en.2.2] 2 = some (.int en.2.2)), _, _, rfl, rfl, _, rfl, ?_⟩
      refine ite2 (fun c2 => ?_) (fun c2 => ?_)
      · have c2' : en.2.2 < 4 := of_decide_eq_true c2
        refine ⟨_, rfl, _, eR, ?_, same_put sm hR, fs ++ [y], ?_, ?_, ?_⟩
        · rw [List.length_map]
          exact small1000 (by omega)
        · rw [List.length_append, List.length_singleton]
          omega
        · intro z hz
          rcases List.mem_append.mp hz with hz | hz
          · exact fo z hz
          · rw [List.mem_singleton.mp hz]
            exact ⟨en, ⟨q1, c1', c2'⟩, p2, q2, q3⟩
        · rw [upd_same, List.map_append]
          rfl
      · exact ⟨sm, fs, by omega, fo, eR⟩
    · exact iteF ⟨sm, fs, by omega, fo, eR⟩
  rintro H1 ⟨sm, fs, fl, fo, eR⟩
  have fl : fs.length < 60 := by
    have : fs.length ≤ (ys.map V.str).length := fl
    rw [List.length_map] at this
    omega
  have s2 := s1.trans sm
  have gr1 : Grow (Only1 d) G H G H1 := ⟨Same.refl _, sg.trans s2, same_but s2, fun _ _ => rfl⟩
  have D1 := (D.mono s1).mono sm
  have dF : ∀ {H' : Hp} {l : List Str}, DpAll K H' (l.map V.str) (l.map PyData.str) := fun {H' l} => by
    induction l with
    | nil => exact .nil
    | cons x l ih => exact .cons (.str _) ih
  have nmOk : ∀ x, ok1 x → NameOk x := fun x ⟨en, h, _⟩ => kn.ok _ h.1
  have stepP : ∀ (H5 : Hp), Grow (Only1 d) G H G H5 → DrawAt H5 d l → ∀ (n : Int), 0 ≤ n → n < 100 → ∀ p, H5 p = none → Q (.ref p) (upd H5 p (.tup [.str "step", .int n])) := fun H5 g5 D5 n h0 h1 p hp => by
    have g6 := g5.new (o := .tup [.str "step", .int n]) hp D5.some'
    refine q _ (.step n) _ _ g6 (D5.upd hp) ?_ ?_ ?_
    · rw [thingD]
      exact .tup (xs := [.str "step", .int n]) (SqT.of upd_same) (.cons (.str _) (.cons (.int _) .nil))
    · rw [ThOk]
      exact ⟨h0, h1⟩
    · simp [thingC]
  refine ⟨fun σ H' => Grow (Only1 d) G H G H' ∧ DrawAt H' d l ∧ ∃ v4 v5 v6, σ = [some (.ref d), some (.ref kc), some (.ref sa), some (.int (deep : Nat)), v4, v5, v6], ?_, ?_⟩
  · refine ⟨_, rfl, by show 0 ≤ sizeLine; decide, fun N hN => ?_⟩
    have sN := same_upd (o := .lst []) hN
    have gr2 := gr1.cell (o := .lst []) hN
    have D2 := D1.upd (o := .lst []) hN
    refine ⟨.list (fs.map PyData.str), .list [], .lst (SqL.of (sN _ _ eR)) dF, .lst (SqL.of upd_same) .nil, shaped_list fun x hx => ⟨strOk_name (nmOk x (fo x hx)), Nat.zero_le _⟩, shaped_nil, _, rfl, ?_⟩
    rw [eqv_nil]
    refine ite2 (fun c1 => ?_) (fun c1 => iteF ⟨gr2, D2, _, _, _, rfl⟩)
    have fne : fs ≠ [] := by
      rintro rfl
      exact absurd c1 (by decide)
    refine ⟨_, rfl, d, l, 2, rfl, D2, by decide, by decide, fun z H3 z0 z1 D3 b3 => ?_⟩
    have gr3 := gr2.trans (Grow.draw gr2.gh gd b3) D2.some'
    refine ⟨rfl, _, rfl, ite2 (fun c2 => ?_) (fun c2 => ⟨gr3, D3, _, _, _, rfl⟩)⟩
    have nRd : R ≠ d := (D.mono s1).ned hR
    have eR3 := b3 _ _ (sN _ _ eR) nRd
    refine ⟨_, rfl, _, rfl, d, l, _, rfl, D3, .inr ⟨R, _, rfl, nRd, .inl (SqL.of eR3), ?_, ?_, fun v H4 hv D4 b4 => ?_⟩⟩
    · rw [List.length_map]
      exact List.length_pos_iff.mpr fne
    · rw [List.length_map]
      omega
    obtain ⟨nm, hnm, rfl⟩ := List.mem_map.mp hv
    have gr4 := gr3.trans (Grow.draw gr3.gh gd b4) D3.some'
    have nkd := kit.ne D
    have kit4 : KitAt H4 kc dk r k := gr4.h _ _ kit nkd
    have sg4 := gr4.gh
    refine ⟨_, rfl, _, rfl, _, rfl, kc, _, _, _, rfl, rfl, SqL.of kit4, (rfl : atI [V.int r, .ref dk, .bl k.fig, .bl k.wide] 3 = some (.bl k.wide)), ?_⟩
    refine ⟨d, l, sa, sc, k.wide, G, rfl, sg4, gd, D4, es, List.ne_nil_of_mem hn, by omega, fun v e G5 H5 g5 D5 de eo => ?_⟩
    have gr5 := gr4.trans g5 D4.some'
    obtain ⟨pe, x, y, rfl, he, hx, hy⟩ := de.tup2
    cases hx.str'
    cases hy.int'
    obtain ⟨en, ⟨hen, hw, hc⟩, p2, q2, q3⟩ := fo nm hnm
    have sg5 := gr5.gh
    have kit5 : KitAt H5 kc dk r k := gr5.h _ _ kit nkd
    have dg : DGet H5 dk (.str nm) (some (.ref p2)) := by
      have := DGet.k (k := Sum.inr nm) (sg5 _ _ (gr5.g _ _ e1))
      rw [q2] at this
      exact this
    have st : SqT K H5 p2 [.bl en.1, .int en.2.1, .int en.2.2] := SqT.of (sg5 _ _ (gr5.g _ _ q3))
    have he5 : SqT K H5 pe [.str e.1, .int e.2] := same_t sg5 he
    have fin : ∀ (H6 : Hp) (G6 : Hp) (e' : En) (v : V) (p : Addr), Grow (Only1 d) G H G6 H6 → DrawAt H6 d l → Dp K G6 v (endD e') → EndOk k.wide sc e' → (en.1 = true → e'.1 = "" ∨ e' = ((Str.ofString "n", 0) : En)) → H6 p = none → Q (.ref p) (upd H6 p (.tup [.str "call", .str nm, v])) := fun H6 G6 e' v p g6 D6 dv eo ef hp => by
      have g7 := g6.new (o := .tup [.str "call", .str nm, v]) hp D6.some'
      have s7 : Same G6 _ := same_upd (o := .tup [.str "call", .str nm, v]) (g6.gh.free hp)
      refine q _ (.call nm e') _ _ g7 (D6.upd hp) ?_ ?_ ?_
      · rw [thingD]
        exact .tup (xs := [.str "call", .str nm, v]) (SqT.of upd_same) (.cons (.str _) (.cons (.str _) (.cons (dv.mono s7) .nil)))
      · rw [ThOk]
        exact ⟨en, hen, hw, hc, eo, ef⟩
      · simp [thingC]
    have dE : Dp K G5 (.ref pe) (endD e) := .tup he (.cons (.str _) (.cons (.int _) .nil))
    refine ⟨_, rfl, ?_⟩
    refine ⟨_, rfl, kc, _, _, _, rfl, rfl, SqL.of kit5, (rfl : atI [V.int r, .ref dk, .bl k.fig, .bl k.wide] 1 = some (.ref dk)), _, rfl, dk, _, rfl, dg, p2, _, _, _, rfl, rfl, st, (rfl : atI [V.bl en.1, .int en.2.1, .int en.2.2] 0 = some (.bl en.1)), _, rfl, ?_⟩
    have useE : (en.1 = true → e.1 = "" ∨ e = ((Str.ofString "n", 0) : En)) → ∃ v, [some (V.ref d), some (V.ref kc), some (V.ref sa), some (V.int (deep : Nat)), some (V.str nm), some (V.ref R), some (V.ref pe)][6]? = some (some v) ∧ 3 ≤ sizeLine ∧ ∀ p, H5 p = none → Q (.ref p) (upd H5 p (.tup [.str "call", .str nm, v])) := fun hf =>
      ⟨_, rfl, by decide, fun p hp => fin H5 G5 e _ p gr5 D5 dE eo hf hp⟩
    refine ite2 (fun c3 => ?_) (fun c3 => iteF (useE (fun h => absurd h c3)))
    refine ⟨_, rfl, pe, _, _, _, rfl, rfl, he5, (rfl : atI [V.str e.1, .int e.2] 0 = some (.str e.1)), rfl, _, rfl, ?_⟩
    refine ite2 (fun c4 => ?_) (fun c4 => useE (fun _ => .inl ?_))
    · refine ⟨by show 2 ≤ sizeLine; decide, fun p hp => ?_⟩
      have g6 := gr5.new (o := .tup [.str "n", .int 0]) hp D5.some'
      refine ⟨by show 3 ≤ sizeLine; decide, fun p' hp' => ?_⟩
      exact fin _ _ ("n", 0) _ p' g6 (D5.upd hp) (.tup (xs := [.str "n", .int 0]) (SqT.of upd_same) (.cons (.str _) (.cons (.int _) .nil))) ⟨by show (0 : Int).natAbs < _; split <;> decide, .inr hn⟩ (fun _ => .inr rfl) hp'
    · have : ¬ (!decide (V.str e.1 = V.str "")) = true := c4
      simp at this
      exact this
  · rintro σ H3 ⟨gr3, D3, v4, v5, v6, rfl⟩
    refine ⟨_, rfl, d, l, 5, rfl, D3, by decide, by decide, fun x1 H4 a0 a1 D4 b4 => ?_⟩
    have gr4 := gr3.trans (Grow.draw gr3.gh gd b4) D3.some'
    refine ⟨_, rfl, d, l, 100, rfl, D4, by decide, by decide, fun x2 H5 c0 c1 D5 b5 => ?_⟩
    have gr5 := gr4.trans (Grow.draw gr4.gh gd b5) D4.some'
    refine ⟨by show 2 ≤ sizeLine; decide, fun L hL => ?_⟩
    have gr6 := gr5.cell (o := .lst [.int x1, .int x2]) hL
    have D6 := D5.upd (o := .lst [.int x1, .int x2]) hL
    refine ⟨_, rfl, d, l, 2, rfl, D6, by decide, by decide, fun x3 H7 e0 e1 D7 b7 => ?_⟩
    have gr7 := gr6.trans (Grow.draw gr6.gh gd b7) D6.some'
    obtain ⟨n, hn, n0, n1⟩ : ∃ n : Int, atI [V.int x1, V.int x2] x3 = some (.int n) ∧ 0 ≤ n ∧ n < 100 := by
      obtain ⟨j, rfl⟩ : ∃ j : Nat, x3 = (j : Int) := ⟨x3.toNat, by omega⟩
      match j, e1 with
      | 0, _ => exact ⟨x1, rfl, a0, by omega⟩
      | 1, _ => exact ⟨x2, rfl, c0, c1⟩
      | j + 2, e => omega
    refine ⟨L, _, _, _, rfl, rfl, SqL.of (b7 _ _ upd_same (D5.ned hL)), hn, by show 2 ≤ sizeLine; decide, fun p hp => ?_⟩
    exact stepP _ gr7 D7 n n0 n1 p hp
theorem kept_split : Txt.split "step for from to if else double call with again on halves thirds less n" " " = keptL := by decide +kernel
/-- the kept words, a new list -/
def spKept : Sp := fun vs H Q _ => vs = [] ∧ ∀ p, H p = none → Q (.ref p) (upd H p (.lst (keptL.map V.str)))
theorem ok_law_kept_words (T : Txt K mg) : FnOk P w K mg base CX0 1 T.a_law_kept_words T.d_law_kept_words [] spKept := by
  refine T.F_law_kept_words.ok sc_law_kept_words (fun vs H Q E h => ?_) (fun cdv A outer s H vs Q E hr h => ?_)
  · obtain ⟨rfl, _⟩ := h
    rfl
  obtain ⟨rfl, k⟩ := h
  refine ⟨_, (pss_one (ps_ret (pe_split pe_str pe_str))), ?_⟩
  refine ⟨⟨_, rfl⟩, _, _, rfl, rfl, by decide +kernel, by decide +kernel, fun p hp => ?_⟩
  rw [kept_split]
  exact k p hp
/-- a name that is free -/
def spFresh (K : PySem.W.Frag) : Sp := fun vs H Q _ => ∃ (d l ta : Addr) (taken : List Str), vs = [.ref d, .ref ta] ∧ DrawAt H d l ∧ H ta = some (.lst (taken.map V.str)) ∧ taken.length ≤ 25 ∧
  ∀ (nm : Str) (H' : Hp), But (Only1 d) H H' → DrawAt H' d l → NameOk nm → nm ∉ taken → Q (.str nm) H'
theorem signs_sum : ∀ cs : List Nat, ((cs.map fun c => (⟨#[c]⟩ : Str)).map (·.length)).sum = cs.length
  | [] => rfl
  | c :: r => by
    rw [List.map_cons, List.map_cons, List.sum_cons, signs_sum r, List.length_cons]
    show 1 + _ = _
    omega
theorem ok_law_fresh (T : Txt K mg) : FnOk P w K mg base CX0 3 T.a_law_fresh T.d_law_fresh ["_law_draw", "_law_taken"] (spFresh K) := by
  refine T.F_law_fresh.ok sc_law_fresh (fun vs H Q E h => ?_) (fun cdv A outer s H vs Q E hr h => ?_)
  · obtain ⟨d, l, ta, taken, rfl, _⟩ := h
    rfl
  obtain ⟨d, l, ta, taken, rfl, D, et, tl, k⟩ := h
  refine ⟨_, (pss_cons (ps_set (i := 2) sc_law_fresh.nd rfl (Or.inl rfl) (pe_ix ix_list (pe_lst (pa_cons pe_int (pa_cons pe_int (pa_cons pe_int (pa_cons pe_int (pa_cons pe_int (pa_cons (pe_op op_add pe_int (pe_call (ok_law_take T) (hr.mono (by decide)) (by rfl) T.g_law_take T.F_law_take.kp T.b_law_take .nil pass0 (pa_cons (pv 0) (pa_cons pe_int pa_nil)))) pa_nil))))))) (pe_call (ok_law_take T) (hr.mono (by decide)) (by rfl) T.g_law_take T.F_law_take.kp T.b_law_take .nil pass0 (pa_cons (pv 0) (pa_cons pe_int pa_nil))) (fun _ _ => rfl)))
      (pss_cons (ps_set (i := 3) sc_law_fresh.nd rfl (Or.inl rfl) (pe_join pe_str (pe_lc (own := [("_law_k", 6)]) (g := gName 6) (tt := tYes) rfl sc_law_fresh.nd (pi_range1 (by rfl) T.z_range (pa_cons (pv 2) pa_nil)) (blkOk_by (N := N_law_fresh) (sc := defScope s_law_fresh) (by decide +kernel)) (fun _ _ _ _ _ => (pg_name (i := 6) sc_law_fresh.nd rfl (Or.inl rfl))) (fun _ _ _ _ _ => pts_nil) (fun _ _ _ _ _ => (pe_call (ok_law_pick T) (hr.mono (by decide)) (by rfl) T.g_law_pick T.F_law_pick.kp T.b_law_pick .nil pass0 (pa_cons (pv 0) (pa_cons pe_str pa_nil)))))))
      (C8.pss_cut (ps_if (PW.pt (pw_and (pt_cmpR op_notIn_seq (pv 3) (pv 1) (by rfl)) (pw_and1 (pt_cmpR op_notIn_seq (pv 3) (pe_call0 (ok_law_kept_words T) (hr.mono (by decide)) (by rfl) T.g_law_kept_words T.F_law_kept_words.kp T.b_law_kept_words .nil pass0) (by rfl))))) (pss_one (ps_ret (pv 3))) pss_nil)
      (pss_cons (ps_setLc (i := 4) (own := [("_law_sign", 5)]) (g := gName 5) (tt := tYes) rfl sc_law_fresh.nd rfl rfl (sw_true rfl rfl rfl (by decide +kernel)) (pi_str pe_str) (blkOk_by (N := N_law_fresh) (sc := defScope s_law_fresh) (by decide +kernel)) (fun _ _ _ _ _ => (pg_name (i := 5) sc_law_fresh.nd rfl (Or.inl rfl))) (fun _ _ _ _ _ => pts_nil) (fun _ _ _ _ _ => (pe_op op_repS (pv 5) pe_int)))
      (pss_one (ps_ret (pe_ix ix_list (pe_lc (own := [("_law_one", 7)]) (g := gName 7) (tt := _) rfl sc_law_fresh.nd (pi_list (pv 4)) (blkOk_by (N := N_law_fresh) (sc := defScope s_law_fresh) (by decide +kernel)) (fun _ _ _ _ _ => (pg_name (i := 7) sc_law_fresh.nd rfl (Or.inl rfl))) (fun _ _ _ _ _ => (pts_one (pt_cmpR (r := rIn K true) op_notIn_seq (pv 7) (pv 1) (by rfl)))) (fun _ _ _ _ _ => (pv 7))) pe_int (fun _ _ => rfl)))))))), ?_⟩
  have ntd : ta ≠ d := by
    rintro rfl
    obtain ⟨ns, p, z, s, e, _⟩ := D.ex
    rw [et] at e
    cases taken with
    | nil => cases e
    | cons x r => cases e
  refine ⟨_, rfl, d, l, 8, rfl, D, by decide, by decide, fun m1 H1 a0 a1 D1 b1 => ?_⟩
  refine ⟨_, _, rfl, rfl, by show 6 ≤ sizeLine; decide, fun L1 hL1 => ?_⟩
  have D2 := D1.upd (o := .lst [.int 1, .int 1, .int 2, .int 3, .int 8, .int (1 + m1)]) hL1
  refine ⟨_, rfl, d, l, 6, rfl, D2, by decide, by decide, fun j H3 j0 j1 D3 b3 => ?_⟩
  obtain ⟨m, hm, hm0, hm1⟩ : ∃ m : Nat, atI [V.int 1, .int 1, .int 2, .int 3, .int 8, .int (1 + m1)] j = some (.int (m : Nat)) ∧ 1 ≤ m ∧ m ≤ 8 := by
    obtain ⟨n, rfl⟩ : ∃ n : Nat, j = (n : Int) := ⟨j.toNat, by omega⟩
    match n, j1 with
    | 0, _ => exact ⟨1, rfl, by decide, by decide⟩
    | 1, _ => exact ⟨1, rfl, by decide, by decide⟩
    | 2, _ => exact ⟨2, rfl, by decide, by decide⟩
    | 3, _ => exact ⟨3, rfl, by decide, by decide⟩
    | 4, _ => exact ⟨8, rfl, by decide, by decide⟩
    | 5, _ => exact ⟨(1 + m1).toNat, by rw [show (((1 + m1).toNat : Nat) : Int) = 1 + m1 by omega]; rfl, by omega, by omega⟩
    | n + 6, e => omega
  have b03 : But (Only1 d) H H3 := (b1.trans (But.new hL1)).trans b3
  refine ⟨L1, _, _, _, rfl, rfl, SqL.of (b3 _ _ upd_same (D1.ned hL1)), hm, ?_⟩
  refine ⟨⟨_, rfl⟩, ?_⟩
  refine ⟨_, rfl, (m : Int), rfl, by omega, by omega, fun R hR => ?_⟩
  have nRd := D3.ned hR
  refine lc_it walk_range (fun i H' => But (Only1 d) H3 H' ∧ DrawAt H' d l ∧ ∃ cs : List Nat, cs.length = i ∧ (∀ c ∈ cs, 97 ≤ c ∧ c ≤ 122) ∧ H' R = some (.lst (cs.map fun c => V.str ⟨#[c]⟩))) ⟨But.new hR, D3.upd hR, [], rfl, (fun _ h => nomatch h), upd_same⟩ (fun _ _ _ _ => trivial) ?_ ?_
  · rintro i x H5 H6 hi ⟨b5, D5, cs, lc, cl, eR⟩ ⟨rfl, rfl⟩
    have hi : i < m := by
      have hi : i < ((m : Int) - 0).toNat := hi
      omega
    refine ⟨rfl, ?_⟩
    refine ⟨_, rfl, d, l, _, rfl, D5, .inl ⟨letters, rfl, by decide +kernel, by decide +kernel, fun c H7 hc D7 b7 => ?_⟩⟩
    have eR7 := b7 _ _ eR nRd
    refine ⟨_, eR7, by rw [List.length_map, lc]; exact Nat.lt_of_lt_of_le hi (Nat.le_trans hm1 (by decide)), ?_⟩
    refine ⟨(b5.trans b7).put0 hR, D7.put nRd (D3.nel hR), cs ++ [c], by rw [List.length_append, lc]; rfl, fun c' h => ?_, by rw [upd_same, List.map_append]; rfl⟩
    rcases List.mem_append.mp h with h | h
    · exact cl c' h
    · rw [List.mem_singleton.mp h]
      exact letters_ok c hc
  rintro H5 ⟨b5, D5, cs, lc, cl, eR⟩
  have lc : cs.length = m := by
    have lc : cs.length = ((m : Int) - 0).toNat := lc
    omega
  refine ⟨_, R, cs.map fun c => (⟨#[c]⟩ : Str), rfl, rfl, .inl (SqL.of (by rw [eR, List.map_map]; rfl)), ?_, ?_⟩
  · rw [List.length_map, signs_sum]
    have e0 : (Str.ofString "").length = 0 := by decide
    rw [e0]
    omega
  rw [join_signs]
  have b05 := b03.trans b5
  have et5 := b05 _ _ et ntd
  have nl : (⟨cs.toArray⟩ : Str).length = m := by
    show cs.toArray.size = m
    rw [List.size_toArray]
    exact lc
  have kn : ∀ H8, But (Only1 d) H H8 → DrawAt H8 d l → ¬ (⟨cs.toArray⟩ : Str) ∈ taken → ¬ (⟨cs.toArray⟩ : Str) ∈ keptL → Q (.str ⟨cs.toArray⟩) H8 := fun H8 b8 D8 h1 h2 =>
    k _ H8 b8 D8 ⟨by rw [nl]; exact hm0, by rw [nl]; exact hm1, cl, h2⟩ h1
  refine ⟨fun σ H' => But (Only1 d) H H' ∧ DrawAt H' d l ∧ ∃ v2 v3 v4 v5 v6 v7, σ = [some (.ref d), some (.ref ta), v2, v3, v4, v5, v6, v7], ?_, ?_⟩
  · refine ⟨_, rfl, _, rfl, ta, _, rfl, .inl (SqL.of et5), rfl, flat_strs _, _, rfl, ?_⟩
    rw [show (if true = true then !inV (V.str ⟨cs.toArray⟩) (taken.map V.str) else inV (V.str ⟨cs.toArray⟩) (taken.map V.str)) = !decide ((⟨cs.toArray⟩ : Str) ∈ taken) by rw [if_pos rfl, inV_strs]]
    refine ite2 (fun c1 => ?_) (fun c1 => ?_)
    · have c1' : ¬ (⟨cs.toArray⟩ : Str) ∈ taken := by simpa using c1
      refine ⟨_, rfl, rfl, fun p hp => ⟨p, _, rfl, .inl (SqL.of upd_same), rfl, flat_strs _, _, rfl, ?_⟩⟩
      rw [show (if true = true then !inV (V.str ⟨cs.toArray⟩) (keptL.map V.str) else inV (V.str ⟨cs.toArray⟩) (keptL.map V.str)) = !decide ((⟨cs.toArray⟩ : Str) ∈ keptL) by rw [if_pos rfl, inV_strs]]
      have b6 := b05.trans (But.new (o := .lst (keptL.map V.str)) hp)
      have D6 := D5.upd (o := .lst (keptL.map V.str)) hp
      refine ite2 (fun c2 => ?_) (fun c2 => ?_)
      · have c2' : ¬ (⟨cs.toArray⟩ : Str) ∈ keptL := by simpa using c2
        exact ⟨_, rfl, kn _ b6 D6 c1' c2'⟩
      · exact ⟨b6, D6, _, _, _, _, _, _, rfl⟩
    · exact iteF ⟨b05, D5, _, _, _, _, _, _, rfl⟩
  · rintro σ H6 ⟨b6, D6, v2, v3, v4, v5, v6, v7, rfl⟩
    refine ⟨letters, rfl, fun S hS => ?_⟩
    have n26 : letters.cps.size = 26 := by decide +kernel
    have sp26 : spares.length = 26 := spares_len
    have rep_ok : ∀ c : Nat, (repS (⟨#[c]⟩ : Str) 2).length = 2 := fun c => rfl
    refine lc_pure walk_str (fun j => .str (spares.getD j Str.empty)) (by rw [n26]; decide) hS (fun _ _ => trivial) ?_ ?_
    · rintro j x H7 H8 Q' hj s7 ⟨rfl, c, hc, rfl⟩ kq
      have e : spares.getD j Str.empty = repS (⟨#[c]⟩ : Str) 2 := by
        refine getD_of' ?_
        unfold spares
        rw [List.getElem?_map, Array.getElem?_toList, hc]
        rfl
      refine ⟨rfl, ?_⟩
      refine ⟨_, rfl, _, 2, rfl, rfl, by decide, by decide, (by show 0 < 1; decide), (by show 1 * 2 ≤ 2 ^ 20; decide), (by show 2 ≤ sizeLine; decide), ?_⟩
      have q := kq _ (Same.refl _)
      rw [e] at q
      exact q
    intro H7 s7 eS
    have eS : H7 S = some (.lst (spares.map V.str)) := by
      rw [eS, n26, ← sp26]
      show some (HO.lst ((List.range _).map (V.str ∘ fun j => spares.getD j Str.empty))) = _
      rw [← List.map_map, range_getD]
    have b7 := b6.trans (same_but s7)
    have et7 := b7 _ _ et ntd
    refine ⟨_, rfl, S, rfl, ⟨_, SqL.of eS⟩, fun R2 hR2 => ?_⟩
    refine lc_it (walk_list (xs := spares.map V.str)) (fun i H' => Same H7 H' ∧ H' R2 = some (.lst (((spares.take i).filter fun x => !decide (x ∈ taken)).map V.str))) ⟨same_upd hR2, upd_same⟩ (fun i H' _ p => SqL.of (p.1 _ _ eS)) ?_ ?_
    · rintro i x H8 H9 hi ⟨s8, eR2⟩ ⟨rfl, hx⟩
      rw [List.getElem?_map] at hx
      obtain ⟨y, hy, rfl⟩ : ∃ y, spares[i]? = some y ∧ x = .str y := by
        cases h : spares[i]? with
        | none => rw [h] at hx; cases hx
        | some y => rw [h] at hx; exact ⟨y, rfl, (Option.some.inj hx).symm⟩
      refine ⟨rfl, ?_⟩
      refine ⟨_, rfl, _, rfl, ta, _, rfl, .inl (SqL.of (s8 _ _ et7)), rfl, flat_strs _, _, rfl, ?_⟩
      rw [show (if true = true then !inV (V.str y) (taken.map V.str) else inV (V.str y) (taken.map V.str)) = !decide (y ∈ taken) by rw [if_pos rfl, inV_strs]]
      have e : (spares.take (i + 1)).filter (fun x => !decide (x ∈ taken)) = (spares.take i).filter (fun x => !decide (x ∈ taken)) ++ (if (!decide (y ∈ taken)) = true then [y] else []) := by
        rw [take_snoc hy, List.filter_append, List.filter_cons, List.filter_nil]
      refine ite2 (fun c => ?_) (fun c => ?_)
      · rw [if_pos c] at e
        refine ⟨_, rfl, _, eR2, ?_, same_put s8 hR2, ?_⟩
        · rw [List.length_map]
          refine Nat.lt_of_le_of_lt (List.length_filter_le ..) ?_
          rw [List.length_take, sp26]
          exact Nat.lt_of_le_of_lt (Nat.min_le_right ..) (by decide)
        · rw [upd_same, e, List.map_append]
          rfl
      · rw [if_neg c, List.append_nil] at e
        rw [e]
        exact ⟨s8, eR2⟩
    rintro H8 ⟨s8, eR2⟩
    have ef : (spares.take (spares.map V.str).length).filter (fun x => !decide (x ∈ taken)) = spares.filter fun x => !decide (x ∈ taken) := by
      rw [List.length_map, List.take_length]
    rw [ef] at eR2
    obtain ⟨x, hx1, hx2⟩ := spare_free tl
    cases hz : spares.filter (fun x => !decide (x ∈ taken)) with
    | nil =>
      have : x ∈ spares.filter (fun x => !decide (x ∈ taken)) := List.mem_filter.mpr ⟨hx1, by simpa using hx2⟩
      rw [hz] at this
      cases this
    | cons y r =>
      rw [hz] at eR2
      have hy : y ∈ spares.filter (fun x => !decide (x ∈ taken)) := by rw [hz]; exact List.mem_cons_self ..
      obtain ⟨hy1, hy2⟩ := List.mem_filter.mp hy
      obtain ⟨o1, o2, o3⟩ := spares_ok y hy1
      refine ⟨R2, _, _, _, rfl, rfl, SqL.of eR2, atI_nat (j := 0) (xs := V.str y :: r.map V.str) rfl, ?_⟩
      exact k y _ (b7.trans (same_but s8)) ((D6.mono s7).mono s8) ⟨by omega, by omega, o2, o3⟩ (by simpa using hy2)
theorem thing_step (T : Txt K mg) (f : Nat) (G_law_drawn_body : FnOk P w K mg base CX0 (2 * f + 11) T.a_law_drawn_body T.d_law_drawn_body ["_law_draw", "_law_kit", "_law_scope", "_law_deep"] (spBody K f)) :
    FnOk P w K mg base CX0 (2 * f + 12) T.a_law_drawn_thing T.d_law_drawn_thing ["_law_draw", "_law_kit", "_law_scope", "_law_deep"] (spThing K (f + 1)) := by
  refine T.F_law_drawn_thing.ok sc_law_drawn_thing (fun vs H Q E h => ?_) (fun cdv A outer s H vs Q E hr h => ?_)
  · obtain ⟨d, l, kc, dk, sa, sc, k, r, deep, G, rfl, _⟩ := h
    rfl
  obtain ⟨d, l, kc, dk, sa, sc, k, r, deep, G, rfl, sg, gd, gk, D, kit, kn, es, hn, sl, r1, dp4, hf, q⟩ := h
  refine ⟨_, (pss_cons (ps_asg (pe_op op_sub (pe_ix ix_list (pv 1) pe_int (fun _ _ => rfl)) pe_int) (pg_sub (pv 1) pe_int set_list))
      (pss_cons (ps_set (i := 4) sc_law_drawn_thing.nd rfl (Or.inl rfl) (pe_call (ok_law_take T) (hr.mono (by omega)) (by rfl) T.g_law_take T.F_law_take.kp T.b_law_take .nil pass0 (pa_cons (pv 0) (pa_cons pe_int pa_nil))))
      (C8.pss_cut (ps_if (PW.pt (pw_or (pt_cmpR op_lt (pe_ix ix_list (pv 1) pe_int (fun _ _ => rfl)) pe_int (nomark _)) (pw_or (pt_cmpR op_gt (pv 3) pe_int (nomark _)) (pw_or1 (pt_cmpR op_lt (pv 4) pe_int (nomark _)))))) (pss_one (ps_ret (pe_call (ok_law_leaf T) (hr.mono (by omega)) (by rfl) T.g_law_leaf T.F_law_leaf.kp T.b_law_leaf .nil pass0 (pa_cons (pv 0) (pa_cons (pv 1) (pa_cons (pv 2) (pa_cons (pv 3) pa_nil))))))) pss_nil)
      (C8.pss_cut (ps_if (PW.pt (pw_and (pt_cmpR op_eq (pv 4) pe_int (nomark _)) (pw_and1 (pt_val (pe_ix ix_list (pv 1) pe_int (fun _ _ => rfl)))))) (pss_one (ps_ret (pe_tup (pa_cons pe_str (pa_cons (pe_call G_law_drawn_body (hr.mono (by omega)) (by rfl) T.g_law_drawn_body T.F_law_drawn_body.kp T.b_law_drawn_body .nil pass0 (pa_cons (pv 0) (pa_cons (pv 1) (pa_cons (pv 2) (pa_cons (pe_op op_add (pv 3) pe_int) pa_nil))))) pa_nil))))) pss_nil)
      (pss_cons (ps_par (i := 5) (j := 6) (by rfl) sc_law_drawn_thing.nd rfl rfl (by decide) rfl rfl (pa_cons (pe_call (ok_law_some_end T) (hr.mono (by omega)) (by rfl) T.g_law_some_end T.F_law_some_end.kp T.b_law_some_end .nil pass0 (pa_cons (pv 0) (pa_cons (pv 2) (pa_cons (pe_ix ix_list (pv 1) pe_int (fun _ _ => rfl)) pa_nil)))) (pa_cons (pe_call (ok_law_some_end T) (hr.mono (by omega)) (by rfl) T.g_law_some_end T.F_law_some_end.kp T.b_law_some_end .nil pass0 (pa_cons (pv 0) (pa_cons (pv 2) (pa_cons (pe_ix ix_list (pv 1) pe_int (fun _ _ => rfl)) pa_nil)))) pa_nil)) (by rfl))
      (pss_cons (ps_if (pt_cmpR op_lt (pv 4) pe_int (nomark _)) (pss_cons (ps_set (i := 7) sc_law_drawn_thing.nd rfl (Or.inl rfl) (pe_call (ok_law_fresh T) (hr.mono (by omega)) (by rfl) T.g_law_fresh T.F_law_fresh.kp T.b_law_fresh .nil pass0 (pa_cons (pv 0) (pa_cons (pv 2) pa_nil))))
      (pss_one (ps_ret (pe_tup (pa_cons pe_str (pa_cons (pv 7) (pa_cons (pv 5) (pa_cons (pv 6) (pa_cons (pe_call G_law_drawn_body (hr.mono (by omega)) (by rfl) T.g_law_drawn_body T.F_law_drawn_body.kp T.b_law_drawn_body .nil pass0 (pa_cons (pv 0) (pa_cons (pv 1) (pa_cons (pe_op op_cat (pv 2) (pe_lst (pa_cons (pv 7) pa_nil))) (pa_cons (pe_op op_add (pv 3) pe_int) pa_nil))))) pa_nil))))))))) pss_nil)
      (pss_cons (ps_asg (pe_op op_sub (pe_ix ix_list (pv 1) pe_int (fun _ _ => rfl)) pe_int) (pg_sub (pv 1) pe_int set_list))
      (pss_cons (ps_set (i := 8) sc_law_drawn_thing.nd rfl (Or.inl rfl) (pe_call G_law_drawn_body (hr.mono (by omega)) (by rfl) T.g_law_drawn_body T.F_law_drawn_body.kp T.b_law_drawn_body .nil pass0 (pa_cons (pv 0) (pa_cons (pv 1) (pa_cons (pv 2) (pa_cons (pe_op op_add (pv 3) pe_int) pa_nil))))))
      (pss_cons (ps_asg (pe_op op_add (pe_ix ix_list (pv 1) pe_int (fun _ _ => rfl)) pe_int) (pg_sub (pv 1) pe_int set_list))
      (pss_cons (ps_set (i := 9) sc_law_drawn_thing.nd rfl (Or.inl rfl) (pe_ifExp (pt_cmpR op_eq (pe_call (ok_law_take T) (hr.mono (by omega)) (by rfl) T.g_law_take T.F_law_take.kp T.b_law_take .nil pass0 (pa_cons (pv 0) (pa_cons pe_int pa_nil))) pe_int (nomark _)) (pe_tup pa_nil) (pe_call G_law_drawn_body (hr.mono (by omega)) (by rfl) T.g_law_drawn_body T.F_law_drawn_body.kp T.b_law_drawn_body .nil pass0 (pa_cons (pv 0) (pa_cons (pv 1) (pa_cons (pv 2) (pa_cons (pe_op op_add (pv 3) pe_int) pa_nil)))))))
      (pss_one (ps_ret (pe_tup (pa_cons pe_str (pa_cons (pv 5) (pa_cons (pv 6) (pa_cons (pv 8) (pa_cons (pv 9) pa_nil)))))))))))))))))), ?_⟩
  have nkd := kit.ne D
  have nkl := kit.nel D
  refine ⟨_, rfl, kc, _, 0, .int r, rfl, rfl, SqL.of kit, rfl, r, 1, rfl, rfl, _, rfl, kc, _, 0, 0, rfl, rfl, kit, rfl, ?_⟩
  have kit1 : KitAt (upd H kc (.lst [.int (r - 1), .ref dk, .bl k.fig, .bl k.wide])) kc dk (r - 1) k := upd_same
  have D1 : DrawAt (upd H kc (.lst [.int (r - 1), .ref dk, .bl k.fig, .bl k.wide])) d l := D.put nkd nkl
  have g1 : Grow (Two d kc) G H G (upd H kc (.lst [.int (r - 1), .ref dk, .bl k.fig, .bl k.wide])) := (Grow.refl sg).put gk (.inr (.inr rfl))
  refine ⟨_, rfl, d, l, 9, rfl, D1, by decide, by decide, fun fk H2 f0 f1 D2 b2 => ?_⟩
  have g2 := g1.trans (Grow.one (Grow.draw g1.gh gd b2)) (two_cell D1 kit1)
  have kit2 := kit1.but nkd b2
  clear b2 g1 D1 kit1
  -- a leaf?
  have lf : ∀ Q' : VK, (∀ v H', Q v H' → Q' v H') → spLeaf K [.ref d, .ref kc, .ref sa, .int (deep : Nat)] H2 Q' E0 := fun Q' hq =>
    ⟨d, l, kc, dk, sa, sc, k, _, deep, G, rfl, g2.gh, gd, D2, kit2, kn, es, hn, by omega, fun v t G3 H3 g3 D3 dv ok c1 => hq _ _ (q v t G3 H3 (g2.trans (Grow.one g3) (two_cell D2 kit2)) D3 (by rw [c1]; exact g3.h _ _ kit2 nkd) (by rw [c1]; exact r1) dv ok)⟩
  refine ⟨fun σ H' => H2 = H' ∧ 2 ≤ r - 1 ∧ deep ≤ 3 ∧ σ = [some (.ref d), some (.ref kc), some (.ref sa), some (.int (deep : Nat)), some (.int fk), none, none, none, none, none], ?_, ?_⟩
  · refine ⟨_, rfl, kc, _, 0, .int (r - 1), rfl, rfl, SqL.of kit2, rfl, _, _, rfl, rfl, _, rfl, ?_⟩
    refine ite2 (fun _ => ⟨_, rfl, _, rfl, _, rfl, _, rfl, lf _ (fun _ _ h => h)⟩) (fun c1 => ?_)
    have c1' : ¬ (r - 1 < 2) := fun e => c1 (decide_eq_true e)
    refine ⟨_, rfl, _, _, rfl, rfl, _, rfl, ?_⟩
    refine ite2 (fun _ => ⟨_, rfl, _, rfl, _, rfl, _, rfl, lf _ (fun _ _ h => h)⟩) (fun c2 => ?_)
    have c2' : ¬ ((deep : Int) > 3) := fun e => c2 (decide_eq_true e)
    refine ⟨_, rfl, _, _, rfl, rfl, _, rfl, ?_⟩
    refine ite2 (fun _ => ⟨_, rfl, _, rfl, _, rfl, _, rfl, lf _ (fun _ _ h => h)⟩) (fun c3 => ?_)
    exact ⟨rfl, by omega, by omega, rfl⟩
  rintro σ H' ⟨rfl, r3, d3, rfl⟩
  clear lf
  -- a body below
  have bd : ∀ (G3 H3 : Hp) (sb : Addr) (sc' : List Str) (r' : Int) (Q' : VK), Grow (Two d kc) G H G3 H3 → DrawAt H3 d l → KitAt H3 kc dk r' k → G3 sb = some (.lst (sc'.map V.str)) → (Str.ofString "n") ∈ sc' → sc'.length ≤ deep + 11 → 1 ≤ r' →
      (∀ (v : V) (b : List Thing) (G4 H4 : Hp), Grow (Two d kc) G H G4 H4 → Same G3 G4 → DrawAt H4 d l → KitAt H4 kc dk (r' - thingsC b) k → (thingsC b : Int) ≤ r' → Dp K G4 v (planD b) → BdOk k b sc' (deep + 1) → 1 ≤ b.length → b.length ≤ 3 → Q' v H4) →
      spBody K f [.ref d, .ref kc, .ref sb, .int ((deep : Int) + 1)] H3 Q' E0 := fun G3 H3 sb sc' r' Q' g3 D3 kit3 es' hn' sl' hr' hq => by
    refine ⟨d, l, kc, dk, sb, sc', k, r', deep + 1, G3, rfl, g3.gh, g3.none gd D.cell, g3.none gk (cell_lst kit), D3, kit3, kn.mono g3.g, es', hn', by omega, hr', by omega, by omega, fun v b G4 H4 g4 D4 kit4 cb dv ok l1 l2 => ?_⟩
    exact hq v b G4 H4 (g3.trans g4 (two_cell D3 kit3)) g4.g D4 kit4 cb dv ok l1 l2
  have fin : ∀ (G6 H6 : Hp) (xs : List V) (t : Thing) (ds : List PyData) (p : Addr), Grow (Two d kc) G H G6 H6 → DrawAt H6 d l → KitAt H6 kc dk (r - thingC t) k → (thingC t : Int) ≤ r → thingD t = .tuple ds → DpAll K G6 xs ds → ThOk k t sc deep → H6 p = none → Q (.ref p) (upd H6 p (.tup xs)) := fun G6 H6 xs t ds p g6 D6 kit6 hc ht hd ho hp => by
    have g7 := g6.new (o := .tup xs) hp (two_cell D6 kit6)
    have s7 : Same G6 _ := same_upd (o := .tup xs) (g6.gh.free hp)
    refine q _ t _ _ g7 (D6.upd hp) ((same_upd hp) _ _ kit6) hc ?_ ho
    rw [ht]
    exact .tup (SqT.of upd_same) (hd.mono s7)
  refine ⟨fun σ H' => H2 = H' ∧ σ = [some (.ref d), some (.ref kc), some (.ref sa), some (.int (deep : Nat)), some (.int fk), none, none, none, none, none], ?_, ?_⟩
  · refine ⟨_, rfl, rfl, _, rfl, ?_⟩
    refine ite2 (fun _ => ?_) (fun _ => iteF ⟨rfl, rfl⟩)
    refine ⟨_, rfl, kc, _, 2, .bl k.fig, rfl, rfl, SqL.of kit2, rfl, _, rfl, ?_⟩
    refine ite2 (fun c => ?_) (fun _ => ⟨rfl, rfl⟩)
    refine ⟨_, rfl, _, rfl, _, rfl, _, rfl, _, _, rfl, rfl, ?_⟩
    refine bd G H2 sa sc (r - 1) _ g2 D2 kit2 es hn (by omega) (by omega) fun v b G4 H4 g4 _ D4 kit4 cb dv ok l1 l2 => ?_
    refine ⟨by show 2 ≤ sizeLine; decide, fun p hp => ?_⟩
    refine fin G4 H4 [.str "double", v] (.double b) [.str "double", planD b] p g4 D4 ?_ ?_ (by rw [thingD]; rfl) (.cons (.str _) (.cons dv .nil)) ?_ hp
    · rw [thingC]
      rw [show r - ((thingsC b + 1 : Nat) : Int) = r - 1 - thingsC b by omega]
      exact kit4
    · rw [thingC]
      omega
    · rw [ThOk]
      exact ⟨d3, c, l1, l2, ok⟩
  rintro σ H' ⟨rfl, rfl⟩
  -- the two ends
  refine ⟨_, rfl, _, rfl, _, rfl, kc, _, 3, .bl k.wide, rfl, rfl, SqL.of kit2, rfl, ?_⟩
  refine ⟨d, l, sa, sc, k.wide, G, rfl, g2.gh, gd, D2, es, List.ne_nil_of_mem hn, by omega, fun v1 e1 G3 H3 g3 D3 dv1 eo1 => ?_⟩
  have g23 := g2.trans (Grow.one g3) (two_cell D2 kit2)
  have kit3 := kit2.but nkd g3.h
  refine ⟨_, rfl, _, rfl, _, rfl, kc, _, 3, .bl k.wide, rfl, rfl, SqL.of kit3, rfl, ?_⟩
  refine ⟨d, l, sa, sc, k.wide, G3, rfl, g23.gh, g23.none gd D.cell, D3, g23.g _ _ es, List.ne_nil_of_mem hn, by omega, fun v2 e2 G4 H4 g4 D4 dv2 eo2 => ?_⟩
  have g24 := g23.trans (Grow.one g4) (two_cell D3 kit3)
  have kit4 := kit3.but nkd g4.h
  have dv1' := dv1.mono g4.g
  try unfold tNil
  refine ⟨_, _, rfl, _, rfl, _, _, rfl, rfl, _, rfl, ?_⟩
  have lm : ((sc ++ [(Str.ofString "")]).map V.str).length ≤ 1000 := by
    rw [List.length_map, List.length_append, List.length_singleton]
    omega
  refine ite2 (fun _ => ?_) (fun _ => ?_)
  · refine ⟨_, rfl, _, rfl, d, l, sa, sc, rfl, D4, g24.gh _ _ (g24.g _ _ es), by omega, fun nm H5 b5 D5 no ns => ?_⟩
    have g5 := g24.trans (Grow.one (Grow.draw g24.gh (g24.none gd D.cell) b5)) (two_cell D4 kit4)
    have kit5 := kit4.but nkd b5
    refine ⟨_, rfl, _, rfl, _, rfl, _, rfl, _, rfl, _, rfl, _, rfl, by show 1 ≤ sizeLine; decide, fun L hL => ?_⟩
    have g6 := g5.cell (o := .lst [.str nm]) hL
    have D6 := D5.upd (o := .lst [.str nm]) hL
    have kit6 : KitAt (upd H5 L (.lst [.str nm])) kc dk (r - 1) k := (same_upd hL) _ _ kit5
    have es6 : (upd H5 L (.lst [.str nm])) sa = some (.lst (sc.map V.str)) := g6.gh _ _ (g5.g _ _ es)
    refine ⟨sa, L, _, _, rfl, rfl, es6, upd_same, ?_, fun S hS => ?_⟩
    · rw [List.length_map, List.length_singleton]
      exact Nat.le_trans (m := 1000) (by omega) (by decide)
    have g7 := g6.new (o := .lst (sc.map V.str ++ [.str nm])) hS (two_cell D6 kit6)
    have s7 : Same G4 _ := same_upd (o := .lst (sc.map V.str ++ [.str nm])) (g6.gh.free hS)
    refine ⟨_, rfl, _, _, rfl, rfl, ?_⟩
    refine bd _ _ S (sc ++ [nm]) (r - 1) _ g7 (D6.upd hS) ((same_upd hS) _ _ kit6) (by rw [upd_same, List.map_append]; rfl) (List.mem_append_left _ hn) (by rw [List.length_append, List.length_singleton]; omega) (by omega) fun v b G8 H8 g8 s8 D8 kit8 cb dv ok l1 l2 => ?_
    refine ⟨by show 5 ≤ sizeLine; decide, fun p hp => ?_⟩
    have s48 := s7.trans s8
    refine fin G8 H8 [.str "for", .str nm, v1, v2, v] (.loop nm e1 e2 b) [.str "for", .str nm, endD e1, endD e2, planD b] p g8 D8 ?_ ?_ (by rw [thingD]; rfl) (.cons (.str _) (.cons (.str _) (.cons (dv1'.mono s48) (.cons (dv2.mono s48) (.cons dv .nil))))) ?_ hp
    · rw [thingC]
      rw [show r - ((thingsC b + 1 : Nat) : Int) = r - 1 - thingsC b by omega]
      exact kit8
    · rw [thingC]
      omega
    · rw [ThOk]
      exact ⟨d3, no, ns, eo1, eo2, l1, l2, ok⟩
  · -- a test
    refine ⟨_, rfl, kc, _, 0, .int (r - 1), rfl, rfl, SqL.of kit4, rfl, _, 1, rfl, rfl, _, rfl, kc, _, 0, 0, rfl, rfl, kit4, rfl, ?_⟩
    have kit5 : KitAt (upd H4 kc (.lst [.int (r - 1 - 1), .ref dk, .bl k.fig, .bl k.wide])) kc dk (r - 1 - 1) k := upd_same
    have D5 : DrawAt (upd H4 kc (.lst [.int (r - 1 - 1), .ref dk, .bl k.fig, .bl k.wide])) d l := D4.put nkd (kit4.nel D4)
    have gk4 := g24.none gk (cell_lst kit)
    have g5 : Grow (Two d kc) G H G4 (upd H4 kc (.lst [.int (r - 1 - 1), .ref dk, .bl k.fig, .bl k.wide])) := g24.put gk4 (.inr (.inr rfl))
    refine ⟨_, rfl, _, rfl, _, rfl, _, rfl, _, _, rfl, rfl, ?_⟩
    refine bd _ _ sa sc (r - 1 - 1) _ g5 D5 kit5 (g24.g _ _ es) hn (by omega) (by omega) fun v3 b3 G6 H6 g6 s6 D6 kit6 cb3 dv3 ok3 l31 l32 => ?_
    have gk6 := g6.none gk (cell_lst kit)
    refine ⟨_, rfl, kc, _, 0, .int (r - 1 - 1 - thingsC b3), rfl, rfl, SqL.of kit6, rfl, _, 1, rfl, rfl, _, rfl, kc, _, 0, 0, rfl, rfl, kit6, rfl, ?_⟩
    have kit7 : KitAt (upd H6 kc (.lst [.int (r - 1 - 1 - thingsC b3 + 1), .ref dk, .bl k.fig, .bl k.wide])) kc dk (r - 1 - 1 - thingsC b3 + 1) k := upd_same
    have D7 : DrawAt (upd H6 kc (.lst [.int (r - 1 - 1 - thingsC b3 + 1), .ref dk, .bl k.fig, .bl k.wide])) d l := D6.put nkd (kit6.nel D6)
    have g7 : Grow (Two d kc) G H G6 (upd H6 kc (.lst [.int (r - 1 - 1 - thingsC b3 + 1), .ref dk, .bl k.fig, .bl k.wide])) := g6.put gk6 (.inr (.inr rfl))
    refine ⟨_, rfl, d, l, 2, rfl, D7, by decide, by decide, fun z H8 z0 z1 D8 b8 => ?_⟩
    have g8 := g7.trans (Grow.one (Grow.draw g7.gh (g7.none gd D.cell) b8)) (two_cell D7 kit7)
    have kit8 := kit7.but nkd b8
    refine ⟨rfl, _, rfl, ite2 (fun _ => ?_) (fun _ => ?_)⟩
    · refine ⟨by show 0 ≤ sizeLine; decide, fun R hR => ?_⟩
      have g9 := g8.new (o := .tup []) hR (two_cell D8 kit8)
      have s9 : Same G6 _ := same_upd (o := .tup []) (g8.gh.free hR)
      refine ⟨_, rfl, _, rfl, _, rfl, _, rfl, by show 5 ≤ sizeLine; decide, fun p hp => ?_⟩
      have s49 := s6.trans s9
      refine fin _ _ [.str "if", v1, v2, v3, .ref R] (.test e1 e2 b3 []) [.str "if", endD e1, endD e2, planD b3, planD []] p g9 (D8.upd hR) ?_ ?_ (by rw [thingD]; rfl) (.cons (.str _) (.cons (dv1'.mono s49) (.cons (dv2.mono s49) (.cons (dv3.mono s9) (.cons ?_ .nil))))) ?_ hp
      · rw [thingC, thingsC]
        rw [show r - ((thingsC b3 + 0 + 1 : Nat) : Int) = r - 1 - 1 - thingsC b3 + 1 by omega]
        exact (same_upd hR) _ _ kit8
      · rw [thingC, thingsC]
        omega
      · unfold planD thingsD
        exact .tup (xs := []) (SqT.of upd_same) .nil
      · rw [ThOk]
        exact ⟨d3, eo1, eo2, l31, l32, by decide, ok3, .nil⟩
    · refine ⟨_, rfl, _, rfl, _, rfl, _, rfl, _, _, rfl, rfl, ?_⟩
      refine bd _ _ sa sc _ _ g8 D8 kit8 (s6 _ _ (g24.g _ _ es)) hn (by omega) (by omega) fun v4 b4 G9 H9 g9 s9 D9 kit9 cb4 dv4 ok4 l41 l42 => ?_
      refine ⟨_, rfl, _, rfl, _, rfl, _, rfl, by show 5 ≤ sizeLine; decide, fun p hp => ?_⟩
      have s49 := s6.trans s9
      refine fin _ _ [.str "if", v1, v2, v3, v4] (.test e1 e2 b3 b4) [.str "if", endD e1, endD e2, planD b3, planD b4] p g9 D9 ?_ ?_ (by rw [thingD]; rfl) (.cons (.str _) (.cons (dv1'.mono s49) (.cons (dv2.mono s49) (.cons (dv3.mono s9) (.cons dv4 .nil))))) ?_ hp
      · rw [thingC]
        rw [show r - ((thingsC b3 + thingsC b4 + 1 : Nat) : Int) = r - 1 - 1 - thingsC b3 + 1 - thingsC b4 by omega]
        exact kit9
      · rw [thingC]
        omega
      · rw [ThOk]
        exact ⟨d3, eo1, eo2, l31, l32, l42, ok3, ok4⟩
theorem body_step (T : Txt K mg) (f : Nat) (G_law_drawn_thing : FnOk P w K mg base CX0 (2 * f + 10) T.a_law_drawn_thing T.d_law_drawn_thing ["_law_draw", "_law_kit", "_law_scope", "_law_deep"] (spThing K f)) :
    FnOk P w K mg base CX0 (2 * f + 11) T.a_law_drawn_body T.d_law_drawn_body ["_law_draw", "_law_kit", "_law_scope", "_law_deep"] (spBody K f) := by
  refine T.F_law_drawn_body.ok sc_law_drawn_body (fun vs H Q E h => ?_) (fun cdv A outer s H vs Q E hr h => ?_)
  · obtain ⟨d, l, kc, dk, sa, sc, k, r, deep, G, rfl, _⟩ := h
    rfl
  obtain ⟨d, l, kc, dk, sa, sc, k, r, deep, G, rfl, sg, gd, gk, D, kit, kn, es, hn, sl, r1, dp4, hf, q⟩ := h
  refine ⟨_, (pss_cons (ps_set (i := 4) sc_law_drawn_body.nd rfl (Or.inl rfl) (pe_lst (pa_cons (pe_call G_law_drawn_thing (hr.mono (by omega)) (by rfl) T.g_law_drawn_thing T.F_law_drawn_thing.kp T.b_law_drawn_thing .nil pass0 (pa_cons (pv 0) (pa_cons (pv 1) (pa_cons (pv 2) (pa_cons (pv 3) pa_nil))))) pa_nil)))
      (pss_cons (ps_for PassesOwn.never rfl (pi_range1 (by rfl) T.z_range (pa_cons (pe_call (ok_law_take T) (hr.mono (by omega)) (by rfl) T.g_law_take T.F_law_take.kp T.b_law_take .nil pass0 (pa_cons (pv 0) (pa_cons pe_int pa_nil))) pa_nil)) (pg_name (i := 5) sc_law_drawn_body.nd rfl (Or.inl rfl)) (pss_one (ps_if (pt_cmpR op_gt (pe_ix ix_list (pv 1) pe_int (fun _ _ => rfl)) pe_int (nomark _)) (pss_one (ps_expr (pe_bm PySem.F.plainAttrs_list PySem.F.slot_list_append PySem.F.type_list_append mt_append (pv 4) (pa_cons (pe_call G_law_drawn_thing (hr.mono (by omega)) (by rfl) T.g_law_drawn_thing T.F_law_drawn_thing.kp T.b_law_drawn_thing .nil pass0 (pa_cons (pv 0) (pa_cons (pv 1) (pa_cons (pv 2) (pa_cons (pv 3) pa_nil))))) pa_nil)))) pss_nil)))
      (pss_one (ps_ret (pe_callTy call_tuple_of (by rfl) T.z_tuple (by decide +kernel) (pa_cons (pv 4) pa_nil)))))), ?_⟩
  have nkd := kit.ne D
  refine ⟨_, rfl, _, rfl, _, rfl, _, rfl, d, l, kc, dk, sa, sc, k, r, deep, G, rfl, sg, gd, gk, D, kit, kn, es, hn, sl, r1, dp4, hf, fun v t G1 H1 g1 D1 kit1 c1 dv ok => ?_⟩
  refine ⟨by show 1 ≤ sizeLine; decide, fun L hL => ?_⟩
  have g2 := g1.cell (o := .lst [v]) hL
  have D2 := D1.upd (o := .lst [v]) hL
  have kit2 : KitAt (upd H1 L (.lst [v])) kc dk (r - thingC t) k := (same_upd hL) _ _ kit1
  have nLd := D1.ned hL
  have nLk : L ≠ kc := by
    rintro rfl
    rw [kit1] at hL
    cases hL
  have hLH : H L = none := g1.h.none (two_cell D1 kit1) hL
  have gL := g1.gh.free hL
  refine ⟨_, rfl, d, l, 3, rfl, D2, by decide, by decide, fun n H3 n0 n1 D3 b3 => ?_⟩
  have g3 := g2.trans (Grow.one (Grow.draw g2.gh (g2.none gd D.cell) b3)) (two_cell D2 kit2)
  have kit3 := kit2.but nkd b3
  refine ⟨n, rfl, by omega, by omega, for_it walk_range (fun i σ H' => ∃ (vs : List V) (b : List Thing) (G' : Hp), Grow (Two d kc) G H G' H' ∧ DrawAt H' d l ∧ KitAt H' kc dk (r - thingsC b) k ∧ (thingsC b : Int) ≤ r ∧ H' L = some (.lst vs) ∧ G' L = none ∧ DpAll K G' vs (thingsD b) ∧ BdOk k b sc deep ∧ 1 ≤ b.length ∧ b.length ≤ i + 1 ∧
    ∃ v5, σ = [some (.ref d), some (.ref kc), some (.ref sa), some (.int (deep : Nat)), some (.ref L), v5]) ?_ (fun _ _ _ _ _ => trivial) ?_ ?_⟩
  · refine ⟨[v], [t], G1, g3, D3, ?_, ?_, b3 _ _ upd_same nLd, gL, ?_, ?_, Nat.le_refl _, Nat.le_refl _, _, rfl⟩
    · rw [thingsC, thingsC]
      exact kit3
    · rw [thingsC, thingsC]
      exact c1
    · rw [thingsD, thingsD]
      exact .cons dv .nil
    · rw [BdOk]
      exact ⟨ok, .nil⟩
  · rintro i x σ H4 H5 hi ⟨vs, b, G4, g4, D4, kit4, c4, eL, gL4, dvs, okb, l1, l2, v5, rfl⟩ ⟨rfl, rfl⟩
    have hi : i < n.toNat := hi
    refine ⟨_, rfl, kc, _, 0, .int (r - thingsC b), rfl, rfl, SqL.of kit4, rfl, _, 0, rfl, rfl, _, rfl, ?_⟩
    refine ite2 (fun c => ?_) (fun _ => ⟨vs, b, G4, g4, D4, kit4, c4, eL, gL4, dvs, okb, l1, by omega, _, rfl⟩)
    have c' : 0 < r - (thingsC b : Int) := of_decide_eq_true c
    refine ⟨_, rfl, .inl ⟨rfl, _, SqL.of eL⟩, ?_⟩
    refine ⟨_, rfl, _, rfl, _, rfl, _, rfl, d, l, kc, dk, sa, sc, k, r - thingsC b, deep, G4, rfl, g4.gh, g4.none gd D.cell, g4.none gk (cell_lst kit), D4, kit4, kn.mono g4.g, g4.g _ _ es, hn, sl, by omega, dp4, hf, fun v6 t6 G6 H6 g6 D6 kit6 c6 dv6 ok6 => ?_⟩
    have eL6 : H6 L = some (.lst vs) := g6.h _ _ eL (by rintro (e | e); exact nLd e; exact nLk e)
    have g46 := g4.trans g6 (two_cell D4 kit4)
    have gL6 := g6.none gL4 (cell_lst eL)
    have lv := dvs.length
    rw [thingsD_eq, List.length_map] at lv
    try unfold tNil
    refine ⟨L, _, _, rfl, rfl, eL6, small1000 (by omega), ?_⟩
    refine ⟨vs ++ [v6], b ++ [t6], G6, g46.put gL6 (.inl hLH), D6.put nLd (D1.nel hL), ?_, ?_, upd_same, gL6, ?_, okb.snoc ok6, by simp, by simp; omega, _, rfl⟩
    · unfold KitAt
      rw [upd_ne (Ne.symm nLk), thingsC_snoc, show r - ((thingsC b + thingC t6 : Nat) : Int) = r - thingsC b - thingC t6 by omega]
      exact kit6
    · rw [thingsC_snoc]
      omega
    · rw [thingsD_eq, List.map_append, ← thingsD_eq]
      exact DpAll.snoc (dvs.mono g6.g) dv6
  · rintro σ H4 ⟨vs, b, G4, g4, D4, kit4, c4, eL, gL4, dvs, okb, l1, l2, v5, rfl⟩
    have l2 : b.length ≤ n.toNat + 1 := l2
    refine ⟨_, rfl, L, vs, rfl, .inl ⟨SqL.of eL, fun p hp => ?_⟩⟩
    have g5 := g4.new (o := .tup vs) hp (two_cell D4 kit4)
    have s5 : Same G4 _ := same_upd (o := .tup vs) (g4.gh.free hp)
    refine q _ b _ _ g5 (D4.upd hp) ((same_upd hp) _ _ kit4) c4 ?_ okb l1 (by omega)
    exact .tup (SqT.of upd_same) (dvs.mono s5)
theorem thing_all (T : Txt K mg) : ∀ f : Nat, FnOk P w K mg base CX0 (2 * f + 10) T.a_law_drawn_thing T.d_law_drawn_thing ["_law_draw", "_law_kit", "_law_scope", "_law_deep"] (spThing K f)
  | 0 => by
    have no : ∀ vs H Q E, ¬ spThing K 0 vs H Q E := fun vs H Q E h => by
      obtain ⟨d, l, kc, dk, sa, sc, k, r, deep, G, _, _, _, _, _, _, _, _, _, _, _, h1, h2, _⟩ := h
      omega
    exact ⟨fun vs H Q E h => absurd h (no vs H Q E), fun A outer s H args us vs Q E _ _ _ _ h => absurd h (no vs H Q E)⟩
  | f + 1 => thing_step T f (body_step T f (thing_all T f))
theorem ok_law_drawn_body (T : Txt K mg) : FnOk P w K mg base CX0 21 T.a_law_drawn_body T.d_law_drawn_body ["_law_draw", "_law_kit", "_law_scope", "_law_deep"] (spBody K 5) := body_step T 5 (thing_all T 5)
theorem grow_drop {d kc : Addr} {G H G1 H1 G2 H2 : Hp} (a : Grow (Only1 d) G H G1 H1) (b : Grow (Two d kc) G1 H1 G2 H2) (hk : H kc = none) (hm : ∀ c, Only1 d c → Cell (H1 c)) : Grow (Only1 d) G H G2 H2 :=
  ⟨a.g.trans b.g, b.gh, fun x o e n => b.h x o (a.h x o e n) (by
    rintro (z | z)
    · exact n z
    · rw [z, hk] at e
      cases e), fun c hc => (b.old c (a.h.cell hm hc)).trans (a.old c hc)⟩
/-- a plan, frozen -/
def spDrawn (K : PySem.W.Frag) : Sp := fun vs H Q _ => ∃ (d l : Addr) (G : Hp) (room : Int) (fig wide : Bool), vs = [.ref d, .int room, .bl fig, .bl wide] ∧ Same G H ∧ G d = none ∧ DrawAt H d l ∧ 1 ≤ room ∧
  ∀ (v : V) (b : List Thing) (G' H' : Hp), Grow (Only1 d) G H G' H' → DrawAt H' d l → Dp K G' v (planD b) → BdOk ⟨[], fig, wide⟩ b [Str.ofString "n"] 0 → 1 ≤ b.length → b.length ≤ 3 → (thingsC b : Int) ≤ room → Q v H'
theorem ok_law_drawn (T : Txt K mg) : FnOk P w K mg base CX0 22 T.a_law_drawn T.d_law_drawn ["_law_draw", "_law_room", "_law_figures", "_law_wide"] (spDrawn K) := by
  refine T.F_law_drawn.ok sc_law_drawn (fun vs H Q E h => ?_) (fun cdv A outer s H vs Q E hr h => ?_)
  · obtain ⟨d, l, G, room, fig, wide, rfl, _⟩ := h
    rfl
  obtain ⟨d, l, G, room, fig, wide, rfl, sg, gd, D, r1, q⟩ := h
  refine ⟨_, (pss_one (ps_ret (pe_call (ok_law_drawn_body T) (hr.mono (by decide)) (by rfl) T.g_law_drawn_body T.F_law_drawn_body.kp T.b_law_drawn_body .nil pass0 (pa_cons (pv 0) (pa_cons (pe_lst (pa_cons (pv 1) (pa_cons pe_dnewK (pa_cons (pv 2) (pa_cons (pv 3) pa_nil))))) (pa_cons (pe_lst (pa_cons pe_str pa_nil)) (pa_cons pe_int pa_nil))))))), ?_⟩
  refine ⟨_, rfl, _, rfl, fun dk hdk => ⟨_, rfl, _, rfl, by show 4 ≤ sizeLine; decide, fun kc hkc => ⟨by show 1 ≤ sizeLine; decide, fun sa hsa => ?_⟩⟩⟩
  have g1 := (Grow.refl (M := Only1 d) sg).new (o := .dK []) hdk D.some'
  have D1 := D.upd (o := .dK []) hdk
  have hk : H kc = none := by
    cases e : H kc with
    | none => rfl
    | some o =>
      rw [(same_upd hdk) _ _ e] at hkc
      cases hkc
  have g2 := g1.cell (o := .lst [.int room, .ref dk, .bl fig, .bl wide]) hkc
  have D2 := D1.upd (o := .lst [.int room, .ref dk, .bl fig, .bl wide]) hkc
  have g3 := g2.new (o := .lst [.str "n"]) hsa D2.some'
  have D3 := D2.upd (o := .lst [.str "n"]) hsa
  have s3 : Same _ _ := same_upd (o := .lst [.str "n"]) (g2.gh.free hsa)
  have gk : (upd (upd G dk (.dK [])) sa (.lst [.str "n"])) kc = none := by
    have n1 : kc ≠ sa := fun z => by rw [← z, upd_same] at hsa; cases hsa
    rw [upd_ne n1]
    exact g1.gh.free hkc
  refine ⟨d, l, kc, dk, sa, [Str.ofString "n"], ⟨[], fig, wide⟩, room, 0, _, rfl, g3.gh, g3.none gd D.cell, gk, D3, (same_upd hsa) _ _ upd_same, ⟨(by show 0 < 60; decide), (fun _ h => nomatch h), [], s3 _ _ upd_same, rfl, (fun _ h => nomatch h)⟩, upd_same, by decide, by decide, r1, by decide, by decide, fun v b G4 H4 g4 D4 _ c4 dv ok l1 l2 => ?_⟩
  exact q v b G4 H4 (grow_drop g3 g4 hk D3.some') D4 dv ok l1 l2 c4
/-- goes on behind a sign if it comes next -/
def spPassed (K : PySem.W.Frag) (C : Addr) : Sp := fun vs H Q _ => ∃ (r S : Addr) (us : List V) (ts : List (Tok × Nat)) (i m : Nat) (t : Tok × Nat) (k z : Str), vs = [.ref r, .str k, .str z] ∧ Rdr H r C S us ts i m ∧ ts[i]? = some t ∧ PyData.strOk k = true ∧ PyData.strOk z = true ∧
  ∀ H', But (Only1 r) H H' → Rdr H' r C S us ts (if tokIs t.1 k z = true then i + 1 else i) m → Q (.bl (tokIs t.1 k z)) H'
theorem ok_Reader_passed (T : Txt K mg) : FnOk P w K mg base CX0 1 T.a_Reader_passed T.d_Reader_passed ["self", "kind", "thing"] (spPassed K T.c_Reader) := by
  refine T.F_Reader_passed.ok sc_Reader_passed (fun vs H Q E h => ?_) (fun cdv A outer s H vs Q E hr h => ?_)
  · obtain ⟨r, S, us, ts, i, m, t, k, z, rfl, _⟩ := h
    rfl
  obtain ⟨r, S, us, ts, i, m, t, k, z, rfl, R, ht, hk1, hz1, q⟩ := h
  refine ⟨_, (pss_cons (ps_if (pt_cmpR (op_neD hr.units) (pe_slice sl_tupA (pe_ix ix_list (pe_fld (pv 0) rfl) (pe_fld (pv 0) rfl) (fun _ _ => rfl)) po_none (po_some pe_int)) (pe_tup (pa_cons (pv 1) (pa_cons (pv 2) pa_nil))) (nomark _)) (pss_one (ps_ret pe_bl)) pss_nil)
      (pss_cons (ps_fldaug (pv 0) pe_int in_add)
      (pss_one (ps_ret pe_bl)))), ?_⟩
  obtain ⟨dx, ob⟩ := R.ob
  obtain ⟨a, e1, e2⟩ := R.peek ht
  refine ⟨_, rfl, r, _, dx, _, _, rfl, ob, T.cl_Reader, T.na_Reader_signs, rfl, _, rfl, r, _, dx, _, _, rfl, ob, T.cl_Reader, T.na_Reader_spot, rfl, S, _, _, _, rfl, rfl, SqL.of R.sg, atI_nat e1, ?_⟩
  unfold tNoPart
  refine ⟨2, rfl, a, _, rfl, SqT.of e2, (fun c => absurd c.2 (by show ¬ HT.sIx 3 3 (some 2) = 3; decide)), fun _ p hp => ?_⟩
  have s1 := same_upd (o := .tup [.str (kindT t.1), tokV t.1]) hp
  refine ⟨_, rfl, _, rfl, by show 2 ≤ sizeLine; decide, fun p2 hp2 => ?_⟩
  have s2 := same_upd (o := .tup [.str k, .str z]) hp2
  refine ⟨.tuple [.str (kindT t.1), tokDat t.1], .tuple [.str k, .str z], .tup (SqT.of (s2 _ _ upd_same)) (.cons (.str _) (.cons (tokDat_dp _) .nil)), .tup (SqT.of upd_same) (.cons (.str _) (.cons (.str _) .nil)), shaped_tok (R.tokOk ht) (kind_ok _), shaped_tok (t := .word z) hz1 hk1, ?_⟩
  have s3 := s1.trans s2
  refine ⟨_, rfl, ?_⟩
  cases hk : tokIs t.1 k z with
  | false =>
    rw [hk] at q
    have hk' : PyData.eqv (.tuple [.str (kindT t.1), tokDat t.1]) (.tuple [.str k, .str z]) = false := hk
    rw [hk']
    exact iteT (q _ (same_but s3) (R.same s3))
  | true =>
    rw [hk] at q
    have hk' : PyData.eqv (.tuple [.str (kindT t.1), tokDat t.1]) (.tuple [.str k, .str z]) = true := hk
    rw [hk']
    refine iteF ?_
    refine ⟨_, rfl, r, _, dx, _, _, rfl, s3 _ _ ob, T.cl_Reader, T.na_Reader_spot, rfl, _, _, rfl, rfl, dx, _, s3 _ _ ob, by show 3 < 1000; decide, ?_⟩
    rw [flR_put S i m (j := i + 1) (by omega)]
    refine q _ ((same_but s3).put rfl) (R.but ((same_but s3).put rfl) ⟨dx, upd_same⟩)
def spNo : Sp := fun _ _ _ _ => False
theorem ok_Reader_bad (T : Txt K mg) : FnOk P w K mg base CX0 1 T.a_Reader_bad T.d_Reader_bad ["self"] spNo :=
  ⟨fun _ _ _ _ h => h.elim, fun _ _ _ _ _ _ _ _ _ _ _ _ _ h => h.elim⟩
/-- goes on behind a sign that is to come next -/
def spWant (K : PySem.W.Frag) (C : Addr) : Sp := fun vs H Q _ => ∃ (r S : Addr) (us : List V) (ts : List (Tok × Nat)) (i m : Nat) (t : Tok × Nat) (k z : Str), vs = [.ref r, .str k, .str z] ∧ Rdr H r C S us ts i m ∧ ts[i]? = some t ∧ PyData.strOk k = true ∧ PyData.strOk z = true ∧ tokIs t.1 k z = true ∧
  ∀ H', But (Only1 r) H H' → Rdr H' r C S us ts (i + 1) m → Q .non H'
theorem ok_Reader_want (T : Txt K mg) : FnOk P w K mg base CX0 2 T.a_Reader_want T.d_Reader_want ["self", "kind", "thing"] (spWant K T.c_Reader) := by
  refine T.F_Reader_want.ok sc_Reader_want (fun vs H Q E h => ?_) (fun cdv A outer s H vs Q E hr h => ?_)
  · obtain ⟨r, S, us, ts, i, m, t, k, z, rfl, _⟩ := h
    rfl
  obtain ⟨r, S, us, ts, i, m, t, k, z, rfl, R, ht, hk1, hz1, hk, q⟩ := h
  refine ⟨_, (pss_one (ps_if (pt_not (pt_val (pe_meth (pv 0) T.cl_Reader T.me_Reader_passed (ok_Reader_passed T) (hr.mono (by decide)) T.b_Reader_passed .nil pass0 (pa_cons (pv 1) (pa_cons (pv 2) pa_nil))))) (pss_one (ps_expr (pe_meth0 (pv 0) T.cl_Reader T.me_Reader_bad (ok_Reader_bad T) (hr.mono (by decide)) T.b_Reader_bad .nil pass0))) pss_nil)), ?_⟩
  obtain ⟨dx, ob⟩ := R.ob
  refine ⟨_, rfl, r, dx, _, rfl, ob, rfl, _, rfl, _, rfl, r, S, us, ts, i, m, t, k, z, rfl, R, ht, hk1, hz1, fun H1 b1 R1 => ?_⟩
  rw [hk] at R1 ⊢
  exact ⟨_, rfl, iteF (q H1 b1 R1)⟩
/-- a number within bounds that is to come next -/
def spNumber (K : PySem.W.Frag) (C : Addr) : Sp := fun vs H Q _ => ∃ (r S : Addr) (us : List V) (ts : List (Tok × Nat)) (i m n pos : Nat) (lo hi : Int), vs = [.ref r, .int lo, .int hi] ∧ Rdr H r C S us ts i m ∧ ts[i]? = some (.num n, pos) ∧ lo ≤ n ∧ n ≤ hi ∧
  ∀ H', But (Only1 r) H H' → Rdr H' r C S us ts (i + 1) m → Q (.int (n : Nat)) H'
theorem ok_Reader_number (T : Txt K mg) : FnOk P w K mg base CX0 2 T.a_Reader_number T.d_Reader_number ["self", "least", "most"] (spNumber K T.c_Reader) := by
  refine T.F_Reader_number.ok sc_Reader_number (fun vs H Q E h => ?_) (fun cdv A outer s H vs Q E hr h => ?_)
  · obtain ⟨r, S, us, ts, i, m, n, pos, lo, hi, rfl, _⟩ := h
    rfl
  obtain ⟨r, S, us, ts, i, m, n, pos, lo, hi, rfl, R, ht, h1, h2, q⟩ := h
  refine ⟨_, (pss_cons (ps_asg (pe_ix ix_list (pe_fld (pv 0) rfl) (pe_fld (pv 0) rfl) (fun _ _ => rfl)) (pg_tup rfl (pgs_cons (pg_name (i := 3) sc_Reader_number.nd rfl (Or.inl rfl)) (pgs_cons (pg_name (i := 4) sc_Reader_number.nd rfl (Or.inl rfl)) (pgs_cons (pg_name (i := 5) sc_Reader_number.nd rfl (Or.inl rfl)) pgs_nil)))))
      (pss_cons (ps_if (PW.pt (pw_or (pt_cmpR op_ne (pv 3) pe_str (nomark _)) (pw_or1 (pt_not (pt_chain op_le op_le (pv 1) (pv 4) (pv 2)))))) (pss_one (ps_expr (pe_meth0 (pv 0) T.cl_Reader T.me_Reader_bad (ok_Reader_bad T) (hr.mono (by decide)) T.b_Reader_bad .nil pass0))) pss_nil)
      (pss_cons (ps_fldaug (pv 0) pe_int in_add)
      (pss_one (ps_ret (pv 4)))))), ?_⟩
  obtain ⟨dx, ob⟩ := R.ob
  obtain ⟨a, e1, e2⟩ := R.peek ht
  refine ⟨_, rfl, r, _, dx, _, _, rfl, ob, T.cl_Reader, T.na_Reader_signs, rfl, _, rfl, r, _, dx, _, _, rfl, ob, T.cl_Reader, T.na_Reader_spot, rfl, S, _, _, _, rfl, rfl, SqL.of R.sg, atI_nat e1, ?_⟩
  refine ⟨a, _, rfl, SqT.of e2, rfl, _, _, rfl, _, _, rfl, _, _, rfl, rfl, ?_⟩
  refine ⟨_, rfl, rfl, _, rfl, ?_⟩
  refine ite2 (fun c => absurd c (by show ¬ (!decide ((V.str "number") = V.str "number")) = true; simp)) (fun _ => ?_)
  refine ⟨_, rfl, _, rfl, _, _, rfl, rfl, _, rfl, ?_⟩
  refine ite2 (fun _ => ?_) (fun c => absurd (decide_eq_true h1) c)
  refine ⟨_, rfl, _, _, rfl, rfl, _, rfl, ?_⟩
  rw [decide_eq_true h2]
  refine iteF ?_
  refine ⟨_, rfl, r, _, dx, _, _, rfl, ob, T.cl_Reader, T.na_Reader_spot, rfl, _, _, rfl, rfl, dx, _, ob, by show 3 < 1000; decide, ?_⟩
  rw [flR_put S i m (j := i + 1) (by omega)]
  exact ⟨_, rfl, q _ ((But.refl _ _).put rfl) (R.but ((But.refl _ _).put rfl) ⟨dx, upd_same⟩)⟩
abbrev wordsL : List Str := ["step", "for", "from", "to", "if", "else", "double", "call", "with", "again", "on", "halves", "thirds", "less", "n"]
def lettersS : Str := "abcdefghijklmnopqrstuvwxyz"
/-- whether a text is a name -/
def isName (z : Str) : Bool := decide ((1 : Int) ≤ z.length) && (decide ((z.length : Int) ≤ 8) && (!inV (.str z) (wordsL.map V.str) && z.cps.toList.all fun c => decide (c ∈ lettersS.cps.toList)))
def spIsName : Sp := fun vs H Q _ => ∃ z : Str, vs = [.str z] ∧ z.length ≤ 100000 ∧ ∀ H', Same H H' → Q (.bl (isName z)) H'
theorem flat_words : (wordsL.map V.str).all flatV = true := by decide +kernel
theorem ok_is_name (T : Txt K mg) : FnOk P w K mg base CX0 1 T.a_is_name T.d_is_name ["text"] spIsName := by
  refine T.F_is_name.ok sc_is_name (fun vs H Q E h => ?_) (fun cdv A outer s H vs Q E hr h => ?_)
  · obtain ⟨z, rfl, _⟩ := h
    rfl
  obtain ⟨z, rfl, hz, k⟩ := h
  refine ⟨_, (pss_one (ps_ret (pe_and (pe_chain op_le op_le pe_int (pe_callB call_len_str (by rfl) T.z_len (by decide +kernel) (pa_cons (pv 0) pa_nil)) (pe_glob rfl T.m_LONGEST T.r_LONGEST)) (pe_and (pe_cmpR op_notIn_seq (pv 0) (pe_glob rfl T.m_WORDS T.r_WORDS) (by rfl)) (pe_one (pe_callB (cr_all rfl) (by rfl) T.z_all (by decide +kernel) (pa_cons (pe_lc (own := [("sign", 1)]) (g := gName 1) (tt := tYes) rfl sc_is_name.nd (pi_str (pv 0)) (blkOk_by (N := N_is_name) (sc := defScope s_is_name) (by decide +kernel)) (fun _ _ _ _ _ => (pg_name (i := 1) sc_is_name.nd rfl (Or.inl rfl))) (fun _ _ _ _ _ => pts_nil) (fun _ _ _ _ _ => (pe_cmpR op_in_sign (pv 1) (pe_glob rfl T.m_LETTERS T.r_LETTERS) (by rfl)))) pa_nil))))))), ?_⟩
  have hzl : z.length ≤ sizeLine := Nat.le_trans hz (by decide)
  have k' : ∀ (b : Bool) H', isName z = b → Same H H' → Q (.bl b) H' := fun b H' e sm => by
    rw [← e]
    exact k H' sm
  have no : isName z = false → Q (.bl false) H := fun e => k' _ _ e (Same.refl _)
  -- 1 <= len(text) <= LONGEST
  refine ⟨_, rfl, _, rfl, hzl, 1, _, rfl, rfl, _, rfl, ?_⟩
  refine ite2 (fun c1 => ?_) (fun c1 => ?_)
  · refine ⟨_, 8, rfl, rfl, _, rfl, ?_⟩
    refine ite2 (fun c2 => ?_) (fun c2 => ?_)
    · refine ⟨_, rfl, T.p_WORDS, _, rfl, .inr (T.q_WORDS H), rfl, flat_words, _, rfl, ?_⟩
      refine ite2 (fun c3 => ?_) (fun c3 => ?_)
      · unfold tCB tCons
        refine lc_sign z (fun c => decide (c ∈ lettersS.cps.toList)) hz (fun Q' q => ⟨_, rfl, q⟩) (fun _ => rfl) (fun c H' Q' q => ⟨_, rfl, c, _, rfl, rfl, q⟩) (fun D H' sm hD eD => ?_)
        refine ⟨D, _, rfl, SqL.of eD, ?_⟩
        rw [list_all_map]
        refine k' _ _ ?_ sm
        unfold isName
        rw [c1, c2, show (!inV (.str z) (wordsL.map V.str)) = true from c3]
        rfl
      · refine no ?_
        unfold isName
        rw [c1, c2, show (!inV (.str z) (wordsL.map V.str)) = false from Bool.eq_false_iff.mpr c3]
        rfl
    · refine no ?_
      unfold isName
      rw [c1, Bool.eq_false_iff.mpr c2]
      rfl
  · refine ⟨_, rfl, ?_⟩
    refine iteF (no ?_)
    unfold isName
    rw [Bool.eq_false_iff.mpr c1]
    rfl
theorem isName_ok {nm : Str} (h : NameOk nm) : isName nm = true := by
  obtain ⟨h1, h2, h3, h4⟩ := h
  unfold isName
  have l1 : decide ((1 : Int) ≤ nm.length) = true := decide_eq_true (by omega)
  have l2 : decide ((nm.length : Int) ≤ 8) = true := decide_eq_true (by omega)
  have l3 : inV (.str nm) (wordsL.map V.str) = false := by
    rw [inV_strs]
    exact decide_eq_false h4
  have l4 : (nm.cps.toList.all fun c => decide (c ∈ lettersS.cps.toList)) = true := by
    rw [List.all_eq_true]
    intro c hc
    have := h3 c hc
    have key : ∀ c, 97 ≤ c ∧ c ≤ 122 → c ∈ lettersS.cps.toList := by
      intro c ⟨a, b⟩
      have e : lettersS.cps.toList = List.map (· + 97) (List.range 26) := by decide +kernel
      rw [e]
      exact List.mem_map.mpr ⟨c - 97, List.mem_range.mpr (by omega), by omega⟩
    exact decide_eq_true (key c this)
  rw [l1, l2, l3, l4]
  rfl
/-- a name that is to come next -/
def spPlainName (K : PySem.W.Frag) (C : Addr) : Sp := fun vs H Q _ => ∃ (r S : Addr) (us : List V) (ts : List (Tok × Nat)) (i m pos : Nat) (nm : Str), vs = [.ref r] ∧ Rdr H r C S us ts i m ∧ ts[i]? = some (.word nm, pos) ∧ NameOk nm ∧
  ∀ H', But (Only1 r) H H' → Rdr H' r C S us ts (i + 1) m → Q (.str nm) H'
theorem ok_Reader_plain_name (T : Txt K mg) : FnOk P w K mg base CX0 2 T.a_Reader_plain_name T.d_Reader_plain_name ["self"] (spPlainName K T.c_Reader) := by
  refine T.F_Reader_plain_name.ok sc_Reader_plain_name (fun vs H Q E h => ?_) (fun cdv A outer s H vs Q E hr h => ?_)
  · obtain ⟨r, S, us, ts, i, m, pos, nm, rfl, _⟩ := h
    rfl
  obtain ⟨r, S, us, ts, i, m, pos, nm, rfl, R, ht, hn, q⟩ := h
  refine ⟨_, (pss_cons (ps_asg (pe_ix ix_list (pe_fld (pv 0) rfl) (pe_fld (pv 0) rfl) (fun _ _ => rfl)) (pg_tup rfl (pgs_cons (pg_name (i := 1) sc_Reader_plain_name.nd rfl (Or.inl rfl)) (pgs_cons (pg_name (i := 2) sc_Reader_plain_name.nd rfl (Or.inl rfl)) (pgs_cons (pg_name (i := 3) sc_Reader_plain_name.nd rfl (Or.inl rfl)) pgs_nil)))))
      (pss_cons (ps_if (PW.pt (pw_or (pt_cmpR op_ne (pv 1) pe_str (nomark _)) (pw_or1 (pt_not (pt_val (pe_call (ok_is_name T) (hr.mono (by decide)) (by rfl) T.g_is_name T.F_is_name.kp T.b_is_name .nil pass0 (pa_cons (pv 2) pa_nil))))))) (pss_one (ps_expr (pe_meth0 (pv 0) T.cl_Reader T.me_Reader_bad (ok_Reader_bad T) (hr.mono (by decide)) T.b_Reader_bad .nil pass0))) pss_nil)
      (pss_cons (ps_fldaug (pv 0) pe_int in_add)
      (pss_one (ps_ret (pv 2)))))), ?_⟩
  obtain ⟨dx, ob⟩ := R.ob
  obtain ⟨a, e1, e2⟩ := R.peek ht
  refine ⟨_, rfl, r, _, dx, _, _, rfl, ob, T.cl_Reader, T.na_Reader_signs, rfl, _, rfl, r, _, dx, _, _, rfl, ob, T.cl_Reader, T.na_Reader_spot, rfl, S, _, _, _, rfl, rfl, SqL.of R.sg, atI_nat e1, ?_⟩
  refine ⟨a, _, rfl, SqT.of e2, rfl, _, _, rfl, _, _, rfl, _, _, rfl, rfl, ?_⟩
  refine ⟨_, rfl, rfl, _, rfl, ?_⟩
  refine ite2 (fun c => absurd c (by show ¬ (!decide ((V.str "word") = V.str "word")) = true; simp)) (fun _ => ?_)
  refine ⟨_, rfl, nm, rfl, by have := hn.2.1; omega, fun H1 s1 => ?_⟩
  rw [isName_ok hn]
  refine ⟨_, rfl, iteF ?_⟩
  have ob1 := s1 _ _ ob
  refine ⟨_, rfl, r, _, dx, _, _, rfl, ob1, T.cl_Reader, T.na_Reader_spot, rfl, _, _, rfl, rfl, dx, _, ob1, by show 3 < 1000; decide, ?_⟩
  rw [flR_put S i m (j := i + 1) (by omega)]
  exact ⟨_, rfl, q _ ((same_but s1).put rfl) (R.but ((same_but s1).put rfl) ⟨dx, upd_same⟩)⟩
/-- an end that is to come next -/
def spEnd (K : PySem.W.Frag) (C : Addr) : Sp := fun vs H Q _ => ∃ (r S : Addr) (us : List V) (ts : List (Tok × Nat)) (i m : Nat) (e : En) (rest : List Tok), vs = [.ref r] ∧ Rdr H r C S us ts i m ∧ At ts i (toksE e ++ rest) ∧ EndF rest ∧ RdE e ∧
  ∀ v H', But (Only1 r) H H' → Rdr H' r C S us ts (i + (toksE e).length) m → Dp K H' v (endD e) → Q v H'
theorem ok_Reader_end (T : Txt K mg) : FnOk P w K mg base CX0 3 T.a_Reader_end T.d_Reader_end ["self"] (spEnd K T.c_Reader) := by
  refine T.F_Reader_end.ok sc_Reader_end (fun vs H Q E h => ?_) (fun cdv A outer s H vs Q E hr h => ?_)
  · obtain ⟨r, S, us, ts, i, m, e, rest, rfl, _⟩ := h
    rfl
  obtain ⟨r, S, us, ts, i, m, e, rest, rfl, R, ha, hf, he, q⟩ := h
  refine ⟨_, (pss_cons (ps_if (pt_cmpR op_eq (pe_ix ix_tup (pe_ix ix_list (pe_fld (pv 0) rfl) (pe_fld (pv 0) rfl) (fun _ _ => rfl)) pe_int (fun _ _ => rfl)) pe_str (nomark _)) (pss_one (ps_ret (pe_tup (pa_cons pe_str (pa_cons (pe_meth (pv 0) T.cl_Reader T.me_Reader_number (ok_Reader_number T) (hr.mono (by decide)) T.b_Reader_number .nil pass0 (pa_cons pe_int (pa_cons (pe_glob rfl T.m_MOST_PLUS T.r_MOST_PLUS) pa_nil))) pa_nil))))) pss_nil)
      (C8.pss_cut (ps_set (i := 1) sc_Reader_end.nd rfl (Or.inl rfl) (pe_ifExp (pt_val (pe_meth (pv 0) T.cl_Reader T.me_Reader_passed (ok_Reader_passed T) (hr.mono (by decide)) T.b_Reader_passed .nil pass0 (pa_cons pe_str (pa_cons (pe_glob rfl T.m_SIZE T.r_SIZE) pa_nil)))) (pe_glob rfl T.m_SIZE T.r_SIZE) (pe_meth0 (pv 0) T.cl_Reader T.me_Reader_plain_name (ok_Reader_plain_name T) (hr.mono (by decide)) T.b_Reader_plain_name .nil pass0)))
      (pss_cons (ps_if (pt_val (pe_meth (pv 0) T.cl_Reader T.me_Reader_passed (ok_Reader_passed T) (hr.mono (by decide)) T.b_Reader_passed .nil pass0 (pa_cons pe_str (pa_cons pe_str pa_nil)))) (pss_one (ps_ret (pe_tup (pa_cons (pv 1) (pa_cons (pe_meth (pv 0) T.cl_Reader T.me_Reader_number (ok_Reader_number T) (hr.mono (by decide)) T.b_Reader_number .nil pass0 (pa_cons pe_int (pa_cons (pe_glob rfl T.m_MOST_PLUS T.r_MOST_PLUS) pa_nil))) pa_nil))))) pss_nil)
      (pss_cons (ps_if (pt_val (pe_meth (pv 0) T.cl_Reader T.me_Reader_passed (ok_Reader_passed T) (hr.mono (by decide)) T.b_Reader_passed .nil pass0 (pa_cons pe_str (pa_cons pe_str pa_nil)))) (pss_one (ps_ret (pe_tup (pa_cons (pv 1) (pa_cons (pe_op op_sub pe_int (pe_meth (pv 0) T.cl_Reader T.me_Reader_number (ok_Reader_number T) (hr.mono (by decide)) T.b_Reader_number .nil pass0 (pa_cons pe_int (pa_cons (pe_glob rfl T.m_MOST_PLUS T.r_MOST_PLUS) pa_nil)))) pa_nil))))) pss_nil)
      (pss_one (ps_ret (pe_tup (pa_cons (pv 1) (pa_cons pe_int pa_nil))))))))), ?_⟩
  obtain ⟨dx, ob⟩ := R.ob
  by_cases h0 : e.1 = ""
  · have et : toksE e = [.num e.2.toNat] := by unfold toksE; rw [if_pos h0]
    have hb : 0 ≤ e.2 ∧ e.2 ≤ 99 := by
      rcases he with he | ⟨he, _⟩
      · exact he.2
      · rcases he with he | he
        · rw [h0] at he
          exact absurd he (by decide)
        · have := he.1
          rw [h0] at this
          exact absurd this (by decide)
    rw [et] at ha q
    obtain ⟨pos, ht, _⟩ := at_cons ha
    obtain ⟨a, e1, e2⟩ := R.peek ht
    refine ⟨_, rfl, r, _, dx, _, _, rfl, ob, T.cl_Reader, T.na_Reader_signs, rfl, _, rfl, r, _, dx, _, _, rfl, ob, T.cl_Reader, T.na_Reader_spot, rfl, S, _, _, _, rfl, rfl, SqL.of R.sg, atI_nat e1, a, _, _, _, rfl, rfl, SqT.of e2, rfl, rfl, _, rfl, ?_⟩
    refine iteT ?_
    refine ⟨_, rfl, r, dx, _, rfl, ob, rfl, r, S, us, ts, i, m, e.2.toNat, pos, 0, 99, rfl, R, ht, by omega, by omega, fun H1 b1 R1 => ?_⟩
    refine ⟨by show 2 ≤ sizeLine; decide, fun p hp => ?_⟩
    have sp := same_upd (o := .tup [.str "", .int (e.2.toNat : Nat)]) hp
    refine q _ _ (b1.trans (same_but sp)) (R1.same sp) ?_
    have e3 : e = ((Str.ofString "", ((e.2.toNat : Nat) : Int)) : En) := Prod.ext h0 (by show e.2 = ((e.2.toNat : Nat) : Int); omega)
    rw [e3]
    exact .tup (SqT.of upd_same) (.cons (.str _) (.cons (.int _) .nil))
  · have hw : ∃ l, toksE e = .word e.1 :: l ∧ (l ++ rest) ≠ [] := by
      have hr0 : rest ≠ [] := fun z => by rw [z] at hf; exact hf
      unfold toksE
      rw [if_neg h0]
      split
      · exact ⟨[], rfl, by simpa using hr0⟩
      · split
        · exact ⟨_, rfl, by simp⟩
        · exact ⟨_, rfl, by simp⟩
    obtain ⟨he, hn⟩ : (e.1 = "n" ∨ NameOk e.1) ∧ e.2.natAbs ≤ 99 := by
      rcases he with he | he
      · exact absurd he.1 h0
      · exact he
    obtain ⟨l, et, hne⟩ := hw
    have ha' := ha
    rw [et] at ha'
    obtain ⟨pos, ht, ha1⟩ := at_cons ha'
    obtain ⟨a, e1, e2⟩ := R.peek ht
    refine ⟨_, rfl, r, _, dx, _, _, rfl, ob, T.cl_Reader, T.na_Reader_signs, rfl, _, rfl, r, _, dx, _, _, rfl, ob, T.cl_Reader, T.na_Reader_spot, rfl, S, _, _, _, rfl, rfl, SqL.of R.sg, atI_nat e1, a, _, _, _, rfl, rfl, SqT.of e2, rfl, rfl, _, rfl, ?_⟩
    rw [show decide (V.str (kindT (Tok.word e.1)) = V.str "number") = false from str_no (by show (Str.ofString "word") ≠ Str.ofString "number"; decide)]
    refine iteF ?_
    refine ⟨fun σ H' => But (Only1 r) H H' ∧ Rdr H' r T.c_Reader S us ts (i + 1) m ∧ σ = [some (.ref r), some (.str e.1)], ?_, ?_⟩
    · refine ⟨_, rfl, r, dx, _, rfl, ob, rfl, r, S, us, ts, i, m, _, "word", "n", rfl, R, ht, strOk_of _, strOk_of _, fun H1 b1 R1 => ?_⟩
      rw [tokIs_word] at R1 ⊢
      refine ⟨_, rfl, ?_⟩
      by_cases c : e.1 = "n"
      · rw [decide_eq_true c] at R1 ⊢
        refine iteT ?_
        exact ⟨b1, R1, by rw [c]; rfl⟩
      · rw [decide_eq_false c] at R1 ⊢
        refine iteF ?_
        have hnm : NameOk e.1 := he.resolve_left c
        obtain ⟨dx1, ob1⟩ := R1.ob
        refine ⟨_, rfl, r, dx1, _, rfl, ob1, rfl, r, S, us, ts, i, m, pos, e.1, rfl, R1, ht, hnm, fun H2 b2 R2 => ?_⟩
        exact ⟨b1.trans b2, R2, rfl⟩
    rintro σ H1 ⟨b1, R1, rfl⟩
    obtain ⟨dx1, ob1⟩ := R1.ob
    obtain ⟨t1, l1, hl1⟩ : ∃ t1 l1, l ++ rest = t1 :: l1 := by
      cases hq : l ++ rest with
      | nil => exact absurd hq hne
      | cons x y => exact ⟨x, y, rfl⟩
    have ha1 : At ts (i + 1) (l ++ rest) := ha1
    rw [hl1] at ha1
    obtain ⟨pos1, ht1, ha2⟩ := at_cons ha1
    refine ⟨_, rfl, r, dx1, _, rfl, ob1, rfl, r, S, us, ts, i + 1, m, _, "sign", "+", rfl, R1, ht1, strOk_of _, strOk_of _, fun H2 b2 R2 => ?_⟩
    refine ⟨_, rfl, ?_⟩
    by_cases c0 : e.2 = 0
    · have el : toksE e = [.word e.1] := by unfold toksE; rw [if_neg h0, if_pos c0]
      rw [el] at et q
      have l0 : l = [] := ((List.cons.inj et).2).symm
      rw [l0] at hl1
      have hf' := hf
      rw [show rest = t1 :: l1 from hl1] at hf'
      rw [tokIs_ns hf'.1] at R2 ⊢
      refine iteF ?_
      obtain ⟨dx2, ob2⟩ := R2.ob
      refine ⟨_, rfl, r, dx2, _, rfl, ob2, rfl, r, S, us, ts, i + 1, m, _, "sign", "-", rfl, R2, ht1, strOk_of _, strOk_of _, fun H3 b3 R3 => ?_⟩
      rw [tokIs_ns hf'.2] at R3 ⊢
      refine ⟨_, rfl, iteF ?_⟩
      refine ⟨_, rfl, by show 2 ≤ sizeLine; decide, fun p hp => ?_⟩
      have sp := same_upd (o := .tup [.str e.1, .int 0]) hp
      refine q _ _ ((b1.trans (b2.trans b3)).trans (same_but sp)) (R3.same sp) ?_
      have e3 : e = ((e.1, 0) : En) := Prod.ext rfl c0
      rw [e3]
      exact .tup (SqT.of upd_same) (.cons (.str _) (.cons (.int _) .nil))
    · by_cases c1 : 0 < e.2
      · have el : toksE e = [.word e.1, .sign "+", .num e.2.toNat] := by unfold toksE; rw [if_neg h0, if_neg c0, if_pos c1]
        rw [el] at et q
        have l0 : l = [.sign "+", .num e.2.toNat] := ((List.cons.inj et).2).symm
        rw [l0] at hl1
        have et1 : t1 = .sign "+" := ((List.cons.inj hl1).1).symm
        have el1 : l1 = .num e.2.toNat :: rest := ((List.cons.inj hl1).2).symm
        subst et1
        rw [el1] at ha2
        obtain ⟨pos2, ht2, _⟩ := at_cons ha2
        rw [tokIs_sign, decide_eq_true rfl] at R2 ⊢
        refine iteT ?_
        obtain ⟨dx2, ob2⟩ := R2.ob
        refine ⟨_, rfl, _, rfl, r, dx2, _, rfl, ob2, rfl, r, S, us, ts, i + 1 + 1, m, e.2.toNat, pos2, 1, 99, rfl, R2, ht2, by omega, by omega, fun H3 b3 R3 => ?_⟩
        refine ⟨by show 2 ≤ sizeLine; decide, fun p hp => ?_⟩
        have sp := same_upd (o := .tup [.str e.1, .int (e.2.toNat : Nat)]) hp
        refine q _ _ ((b1.trans (b2.trans b3)).trans (same_but sp)) (R3.same sp) ?_
        have e3 : e = ((e.1, ((e.2.toNat : Nat) : Int)) : En) := Prod.ext rfl (by show e.2 = ((e.2.toNat : Nat) : Int); omega)
        rw [e3]
        exact .tup (SqT.of upd_same) (.cons (.str _) (.cons (.int _) .nil))
      · have el : toksE e = [.word e.1, .sign "-", .num (0 - e.2).toNat] := by unfold toksE; rw [if_neg h0, if_neg c0, if_neg c1]
        rw [el] at et q
        have l0 : l = [.sign "-", .num (0 - e.2).toNat] := ((List.cons.inj et).2).symm
        rw [l0] at hl1
        have et1 : t1 = .sign "-" := ((List.cons.inj hl1).1).symm
        have el1 : l1 = .num (0 - e.2).toNat :: rest := ((List.cons.inj hl1).2).symm
        subst et1
        rw [el1] at ha2
        obtain ⟨pos2, ht2, _⟩ := at_cons ha2
        rw [tokIs_ns (by intro z; exact absurd (Tok.sign.inj z) (by decide))] at R2 ⊢
        refine iteF ?_
        obtain ⟨dx2, ob2⟩ := R2.ob
        refine ⟨_, rfl, r, dx2, _, rfl, ob2, rfl, r, S, us, ts, i + 1, m, _, "sign", "-", rfl, R2, ht1, strOk_of _, strOk_of _, fun H3 b3 R3 => ?_⟩
        rw [tokIs_sign, decide_eq_true rfl] at R3 ⊢
        refine ⟨_, rfl, iteT ?_⟩
        obtain ⟨dx3, ob3⟩ := R3.ob
        refine ⟨_, rfl, _, rfl, r, dx3, _, rfl, ob3, rfl, r, S, us, ts, i + 1 + 1, m, (0 - e.2).toNat, pos2, 1, 99, rfl, R3, ht2, by omega, by omega, fun H4 b4 R4 => ?_⟩
        refine ⟨_, _, rfl, rfl, by show 2 ≤ sizeLine; decide, fun p hp => ?_⟩
        have sp := same_upd (o := .tup [.str e.1, .int (0 - ((0 - e.2).toNat : Nat))]) hp
        refine q _ _ ((b1.trans (b2.trans (b3.trans b4))).trans (same_but sp)) (R4.same sp) ?_
        have e4 : (0 : Int) - (((0 - e.2).toNat : Nat) : Int) = e.2 := by omega
        refine .tup (SqT.of upd_same) (.cons (.str _) (.cons ?_ .nil))
        show Dp K _ (V.int (0 - (((0 - e.2).toNat : Nat) : Int))) (.int e.2)
        rw [e4]
        exact .int _
theorem bdF_close (rest : List Tok) : BdF ([.sign ")"] ++ rest) := by
  show (Tok.sign ")" ≠ .sign "+" ∧ Tok.sign ")" ≠ .sign "-" ∧ Tok.sign ")" ≠ .word "else" ∧ Tok.sign ")" ≠ .sign ";")
  refine ⟨fun z => ?_, fun z => ?_, fun z => ?_, fun z => ?_⟩
  · exact absurd (Tok.sign.inj z) (by decide)
  · exact absurd (Tok.sign.inj z) (by decide)
  · cases z
  · exact absurd (Tok.sign.inj z) (by decide)
/-- what a body, a bracket, a thing promise; f: how much deeper one may go -/
def spRBody (K : PySem.W.Frag) (C : Addr) (f : Nat) : Sp := fun vs H Q _ => ∃ (r S : Addr) (us : List V) (ts : List (Tok × Nat)) (i m deep : Nat) (b : List Thing) (rest : List Tok), vs = [.ref r, .int (deep : Nat)] ∧ Rdr H r C S us ts i m ∧ At ts i (toksB b ++ rest) ∧ BdF rest ∧ RdB b deep ∧ b ≠ [] ∧ m + thingsC b ≤ 12 ∧ deep ≤ 4 ∧ 5 ≤ deep + f ∧
  ∀ v H', But (Only1 r) H H' → Rdr H' r C S us ts (i + (toksB b).length) (m + thingsC b) → Dp K H' v (planD b) → Q v H'
def spRBracket (K : PySem.W.Frag) (C : Addr) (f : Nat) : Sp := fun vs H Q _ => ∃ (r S : Addr) (us : List V) (ts : List (Tok × Nat)) (i m deep : Nat) (b : List Thing) (rest : List Tok), vs = [.ref r, .int (deep : Nat)] ∧ Rdr H r C S us ts i m ∧ At ts i ([.sign "("] ++ (toksB b ++ ([.sign ")"] ++ rest))) ∧ RdB b (deep + 1) ∧ b ≠ [] ∧ m + thingsC b ≤ 12 ∧ deep < 4 ∧ 4 ≤ deep + f ∧
  ∀ v H', But (Only1 r) H H' → Rdr H' r C S us ts (i + (toksB b).length + 2) (m + thingsC b) → Dp K H' v (planD b) → Q v H'
theorem bracket_step (T : Txt K mg) (f n : Nat) (hn : 2 ≤ n) (G_Reader_body : FnOk P w K mg base CX0 n T.a_Reader_body T.d_Reader_body ["self", "deep"] (spRBody K T.c_Reader f)) :
    FnOk P w K mg base CX0 (n + 1) T.a_Reader_bracket T.d_Reader_bracket ["self", "deep"] (spRBracket K T.c_Reader f) := by
  refine T.F_Reader_bracket.ok sc_Reader_bracket (fun vs H Q E h => ?_) (fun cdv A outer s H vs Q E hr h => ?_)
  · obtain ⟨r, S, us, ts, i, m, deep, b, rest, rfl, _⟩ := h
    rfl
  obtain ⟨r, S, us, ts, i, m, deep, b, rest, rfl, R, ha, hb, hne, hm, hd, hf, q⟩ := h
  refine ⟨_, (pss_cons (ps_if (pt_cmpR op_ge (pv 1) (pe_glob rfl T.m_MOST_DEEP T.r_MOST_DEEP) (nomark _)) (pss_one (ps_expr (pe_meth0 (pv 0) T.cl_Reader T.me_Reader_bad (ok_Reader_bad T) (hr.mono (by omega)) T.b_Reader_bad .nil pass0))) pss_nil)
      (pss_cons (ps_expr (pe_meth (pv 0) T.cl_Reader T.me_Reader_want (ok_Reader_want T) (hr.mono (by omega)) T.b_Reader_want .nil pass0 (pa_cons pe_str (pa_cons pe_str pa_nil))))
      (pss_cons (ps_set (i := 2) sc_Reader_bracket.nd rfl (Or.inl rfl) (pe_meth (pv 0) T.cl_Reader T.me_Reader_body G_Reader_body (hr.mono (by omega)) T.b_Reader_body .nil pass0 (pa_cons (pe_op op_add (pv 1) pe_int) pa_nil)))
      (pss_cons (ps_expr (pe_meth (pv 0) T.cl_Reader T.me_Reader_want (ok_Reader_want T) (hr.mono (by omega)) T.b_Reader_want .nil pass0 (pa_cons pe_str (pa_cons pe_str pa_nil))))
      (pss_one (ps_ret (pv 2))))))), ?_⟩
  obtain ⟨pos, ht, ha1⟩ := at_cons (l := toksB b ++ ([.sign ")"] ++ rest)) ha
  obtain ⟨dx, ob⟩ := R.ob
  refine ⟨_, rfl, _, _, rfl, rfl, _, rfl, ?_⟩
  refine ite2 (fun c => absurd (of_decide_eq_true c) (by omega)) (fun _ => ?_)
  refine ⟨_, rfl, r, dx, _, rfl, ob, rfl, r, S, us, ts, i, m, _, "sign", "(", rfl, R, ht, strOk_of _, strOk_of _, by rw [tokIs_sign]; exact decide_eq_true rfl, fun H1 b1 R1 => ?_⟩
  obtain ⟨dx1, ob1⟩ := R1.ob
  refine ⟨_, rfl, r, dx1, _, rfl, ob1, rfl, _, rfl, _, _, rfl, rfl, r, S, us, ts, i + 1, m, deep + 1, b, [.sign ")"] ++ rest, rfl, R1, ha1, bdF_close rest, hb, hne, hm, by omega, by omega, fun v H2 b2 R2 dv => ?_⟩
  obtain ⟨dx2, ob2⟩ := R2.ob
  have ha2 : At ts (i + 1 + (toksB b).length) (.sign ")" :: rest) := by
    unfold At at ha1 ⊢
    rw [← List.drop_drop, List.map_drop, ha1, List.drop_left]
    rfl
  obtain ⟨pos2, ht2, _⟩ := at_cons ha2
  refine ⟨_, rfl, r, dx2, _, rfl, ob2, rfl, r, S, us, ts, _, _, _, "sign", ")", rfl, R2, ht2, strOk_of _, strOk_of _, by rw [tokIs_sign]; exact decide_eq_true rfl, fun H3 b3 R3 => ?_⟩
  refine ⟨_, rfl, q _ _ (b1.trans (b2.trans b3)) ?_ (dp_but ob2 b3 dv)⟩
  rw [show i + (toksB b).length + 2 = i + 1 + (toksB b).length + 1 by omega]
  exact R3
theorem at_drop {ts : List (Tok × Nat)} {i : Nat} {a l : List Tok} (h : At ts i (a ++ l)) : At ts (i + a.length) l := by
  unfold At at h ⊢
  rw [← List.drop_drop, List.map_drop, h, List.drop_left]
theorem endF_word (w : Str) (l : List Tok) : EndF ([.word w] ++ l) := ⟨(fun z => by cases z), (fun z => by cases z)⟩
theorem endF_sign {w : Str} (l : List Tok) (h1 : w ≠ "+") (h2 : w ≠ "-") : EndF ([.sign w] ++ l) := ⟨fun z => h1 (Tok.sign.inj z), fun z => h2 (Tok.sign.inj z)⟩
/-- a going, behind its word -/
def spRGoing (K : PySem.W.Frag) (C : Addr) (f : Nat) : Sp := fun vs H Q _ => ∃ (r S : Addr) (us : List V) (ts : List (Tok × Nat)) (i m deep : Nat) (nm : Str) (e1 e2 : En) (b : List Thing) (rest : List Tok), vs = [.ref r, .int (deep : Nat)] ∧ Rdr H r C S us ts i m ∧
  At ts i ([.word nm, .word "from"] ++ (toksE e1 ++ ([.word "to"] ++ (toksE e2 ++ ([.sign "("] ++ (toksB b ++ ([.sign ")"] ++ rest))))))) ∧ NameOk nm ∧ RdE e1 ∧ RdE e2 ∧ RdB b (deep + 1) ∧ b ≠ [] ∧ m + thingsC b ≤ 12 ∧ deep < 4 ∧ 4 ≤ deep + f ∧
  ∀ v H', But (Only1 r) H H' → Rdr H' r C S us ts (i + 3 + (toksE e1).length + (toksE e2).length + (toksB b).length + 2) (m + thingsC b) → Dp K H' v (thingD (.loop nm e1 e2 b)) → Q v H'
theorem going_step (T : Txt K mg) (f n : Nat) (hn : 3 ≤ n) (G_Reader_bracket : FnOk P w K mg base CX0 n T.a_Reader_bracket T.d_Reader_bracket ["self", "deep"] (spRBracket K T.c_Reader f)) :
    FnOk P w K mg base CX0 (n + 1) T.a_Reader_going T.d_Reader_going ["self", "deep"] (spRGoing K T.c_Reader f) := by
  refine T.F_Reader_going.ok sc_Reader_going (fun vs H Q E h => ?_) (fun cdv A outer s H vs Q E hr h => ?_)
  · obtain ⟨r, S, us, ts, i, m, deep, nm, e1, e2, b, rest, rfl, _⟩ := h
    rfl
  obtain ⟨r, S, us, ts, i, m, deep, nm, e1, e2, b, rest, rfl, R, ha, hnm, he1, he2, hb, hne, hm, hd, hf, q⟩ := h
  refine ⟨_, (pss_cons (ps_set (i := 2) sc_Reader_going.nd rfl (Or.inl rfl) (pe_meth0 (pv 0) T.cl_Reader T.me_Reader_plain_name (ok_Reader_plain_name T) (hr.mono (by omega)) T.b_Reader_plain_name .nil pass0))
      (pss_cons (ps_expr (pe_meth (pv 0) T.cl_Reader T.me_Reader_want (ok_Reader_want T) (hr.mono (by omega)) T.b_Reader_want .nil pass0 (pa_cons pe_str (pa_cons pe_str pa_nil))))
      (pss_cons (ps_set (i := 3) sc_Reader_going.nd rfl (Or.inl rfl) (pe_meth0 (pv 0) T.cl_Reader T.me_Reader_end (ok_Reader_end T) (hr.mono (by omega)) T.b_Reader_end .nil pass0))
      (pss_cons (ps_expr (pe_meth (pv 0) T.cl_Reader T.me_Reader_want (ok_Reader_want T) (hr.mono (by omega)) T.b_Reader_want .nil pass0 (pa_cons pe_str (pa_cons pe_str pa_nil))))
      (pss_cons (ps_set (i := 4) sc_Reader_going.nd rfl (Or.inl rfl) (pe_meth0 (pv 0) T.cl_Reader T.me_Reader_end (ok_Reader_end T) (hr.mono (by omega)) T.b_Reader_end .nil pass0))
      (pss_one (ps_ret (pe_tup (pa_cons pe_str (pa_cons (pv 2) (pa_cons (pv 3) (pa_cons (pv 4) (pa_cons (pe_meth (pv 0) T.cl_Reader T.me_Reader_bracket G_Reader_bracket (hr.mono (by omega)) T.b_Reader_bracket .nil pass0 (pa_cons (pv 1) pa_nil)) pa_nil))))))))))))), ?_⟩
  obtain ⟨dx, ob⟩ := R.ob
  obtain ⟨pos, ht, ha⟩ := at_cons (l := [.word "from"] ++ (toksE e1 ++ ([.word "to"] ++ (toksE e2 ++ ([.sign "("] ++ (toksB b ++ ([.sign ")"] ++ rest))))))) ha
  obtain ⟨pos1, ht1, ha⟩ := at_cons (l := (toksE e1 ++ ([.word "to"] ++ (toksE e2 ++ ([.sign "("] ++ (toksB b ++ ([.sign ")"] ++ rest))))))) ha
  refine ⟨_, rfl, r, dx, _, rfl, ob, rfl, r, S, us, ts, i, m, pos, nm, rfl, R, ht, hnm, fun H1 b1 R1 => ?_⟩
  obtain ⟨dx1, ob1⟩ := R1.ob
  refine ⟨_, rfl, r, dx1, _, rfl, ob1, rfl, r, S, us, ts, i + 1, m, _, "word", "from", rfl, R1, ht1, strOk_of _, strOk_of _, by rw [tokIs_word]; exact decide_eq_true rfl, fun H2 b2 R2 => ?_⟩
  obtain ⟨dx2, ob2⟩ := R2.ob
  refine ⟨_, rfl, r, dx2, _, rfl, ob2, rfl, r, S, us, ts, i + 1 + 1, m, e1, _, rfl, R2, ha, endF_word _ _, he1, fun v1 H3 b3 R3 d3 => ?_⟩
  obtain ⟨dx3, ob3⟩ := R3.ob
  obtain ⟨pos3, ht3, ha⟩ := at_cons (l := (toksE e2 ++ ([.sign "("] ++ (toksB b ++ ([.sign ")"] ++ rest))))) (at_drop ha)
  refine ⟨_, rfl, r, dx3, _, rfl, ob3, rfl, r, S, us, ts, _, m, _, "word", "to", rfl, R3, ht3, strOk_of _, strOk_of _, by rw [tokIs_word]; exact decide_eq_true rfl, fun H4 b4 R4 => ?_⟩
  obtain ⟨dx4, ob4⟩ := R4.ob
  refine ⟨_, rfl, r, dx4, _, rfl, ob4, rfl, r, S, us, ts, _, m, e2, _, rfl, R4, ha, endF_sign _ (by decide) (by decide), he2, fun v2 H5 b5 R5 d5 => ?_⟩
  obtain ⟨dx5, ob5⟩ := R5.ob
  refine ⟨_, rfl, _, rfl, _, rfl, _, rfl, r, dx5, _, rfl, ob5, rfl, _, rfl, r, S, us, ts, _, m, deep, b, rest, rfl, R5, at_drop ha, hb, hne, hm, hd, hf, fun v6 H6 b6 R6 d6 => ?_⟩
  refine ⟨by show 5 ≤ sizeLine; decide, fun p hp => ?_⟩
  have sp := same_upd (o := .tup [.str "for", .str nm, v1, v2, v6]) hp
  have b36 := b4.trans (b5.trans b6)
  refine q _ _ ((b1.trans (b2.trans (b3.trans b36))).trans (same_but sp)) ?_ ?_
  · have := R6.same sp
    rw [show i + 3 + (toksE e1).length + (toksE e2).length + (toksB b).length + 2 = i + 1 + 1 + (toksE e1).length + 1 + (toksE e2).length + (toksB b).length + 2 by omega]
    exact this
  · rw [thingD]
    exact .tup (SqT.of upd_same) (.cons (.str _) (.cons (.str _) (.cons ((dp_but ob3 b36 d3).mono sp) (.cons ((dp_but ob5 b6 d5).mono sp) (.cons (d6.mono sp) .nil)))))
def elseT (b2 : List Thing) : List Tok := if b2.isEmpty then [] else [.word "else", .sign "("] ++ (toksB b2 ++ [.sign ")"])
/-- one body or the other, behind its word -/
def spRChoice (K : PySem.W.Frag) (C : Addr) (f : Nat) : Sp := fun vs H Q _ => ∃ (r S : Addr) (us : List V) (ts : List (Tok × Nat)) (i m deep : Nat) (e1 e2 : En) (b1 b2 : List Thing) (rest : List Tok), vs = [.ref r, .int (deep : Nat)] ∧ Rdr H r C S us ts i m ∧
  At ts i (toksE e1 ++ ([.sign "<="] ++ (toksE e2 ++ ([.sign "("] ++ (toksB b1 ++ ([.sign ")"] ++ (elseT b2 ++ rest))))))) ∧ ThF rest ∧ RdE e1 ∧ RdE e2 ∧ RdB b1 (deep + 1) ∧ b1 ≠ [] ∧ RdB b2 (deep + 1) ∧ m + thingsC b1 + thingsC b2 ≤ 12 ∧ deep < 4 ∧ 4 ≤ deep + f ∧
  ∀ v H', But (Only1 r) H H' → Rdr H' r C S us ts (i + (toksE e1).length + 1 + (toksE e2).length + (toksB b1).length + 2 + (elseT b2).length) (m + thingsC b1 + thingsC b2) → Dp K H' v (thingD (.test e1 e2 b1 b2)) → Q v H'
theorem choice_step (T : Txt K mg) (f n : Nat) (hn : 3 ≤ n) (G_Reader_bracket : FnOk P w K mg base CX0 n T.a_Reader_bracket T.d_Reader_bracket ["self", "deep"] (spRBracket K T.c_Reader f)) :
    FnOk P w K mg base CX0 (n + 1) T.a_Reader_choice T.d_Reader_choice ["self", "deep"] (spRChoice K T.c_Reader f) := by
  refine T.F_Reader_choice.ok sc_Reader_choice (fun vs H Q E h => ?_) (fun cdv A outer s H vs Q E hr h => ?_)
  · obtain ⟨r, S, us, ts, i, m, deep, e1, e2, b1, b2, rest, rfl, _⟩ := h
    rfl
  obtain ⟨r, S, us, ts, i, m, deep, e1, e2, bb1, bb2, rest, rfl, R, ha, hF, he1, he2, hb1, hne, hb2, hm, hd, hf, q⟩ := h
  refine ⟨_, (pss_cons (ps_set (i := 2) sc_Reader_choice.nd rfl (Or.inl rfl) (pe_meth0 (pv 0) T.cl_Reader T.me_Reader_end (ok_Reader_end T) (hr.mono (by omega)) T.b_Reader_end .nil pass0))
      (pss_cons (ps_expr (pe_meth (pv 0) T.cl_Reader T.me_Reader_want (ok_Reader_want T) (hr.mono (by omega)) T.b_Reader_want .nil pass0 (pa_cons pe_str (pa_cons pe_str pa_nil))))
      (pss_cons (ps_set (i := 3) sc_Reader_choice.nd rfl (Or.inl rfl) (pe_meth0 (pv 0) T.cl_Reader T.me_Reader_end (ok_Reader_end T) (hr.mono (by omega)) T.b_Reader_end .nil pass0))
      (pss_cons (ps_set (i := 4) sc_Reader_choice.nd rfl (Or.inl rfl) (pe_meth (pv 0) T.cl_Reader T.me_Reader_bracket G_Reader_bracket (hr.mono (by omega)) T.b_Reader_bracket .nil pass0 (pa_cons (pv 1) pa_nil)))
      (pss_cons (ps_set (i := 5) sc_Reader_choice.nd rfl (Or.inl rfl) (pe_ifExp (pt_val (pe_meth (pv 0) T.cl_Reader T.me_Reader_passed (ok_Reader_passed T) (hr.mono (by omega)) T.b_Reader_passed .nil pass0 (pa_cons pe_str (pa_cons pe_str pa_nil)))) (pe_meth (pv 0) T.cl_Reader T.me_Reader_bracket G_Reader_bracket (hr.mono (by omega)) T.b_Reader_bracket .nil pass0 (pa_cons (pv 1) pa_nil)) (pe_tup pa_nil)))
      (pss_one (ps_ret (pe_tup (pa_cons pe_str (pa_cons (pv 2) (pa_cons (pv 3) (pa_cons (pv 4) (pa_cons (pv 5) pa_nil))))))))))))), ?_⟩
  obtain ⟨dx2, ob2⟩ := R.ob
  refine ⟨_, rfl, r, dx2, _, rfl, ob2, rfl, r, S, us, ts, i, m, e1, _, rfl, R, ha, endF_sign _ (by decide) (by decide), he1, fun v1 H3 b3 R3 d3 => ?_⟩
  obtain ⟨dx3, ob3⟩ := R3.ob
  obtain ⟨pos3, ht3, ha⟩ := at_cons (l := (toksE e2 ++ ([.sign "("] ++ (toksB bb1 ++ ([.sign ")"] ++ (elseT bb2 ++ rest)))))) (at_drop ha)
  refine ⟨_, rfl, r, dx3, _, rfl, ob3, rfl, r, S, us, ts, _, m, _, "sign", "<=", rfl, R3, ht3, strOk_of _, strOk_of _, by rw [tokIs_sign]; exact decide_eq_true rfl, fun H4 b4 R4 => ?_⟩
  obtain ⟨dx4, ob4⟩ := R4.ob
  refine ⟨_, rfl, r, dx4, _, rfl, ob4, rfl, r, S, us, ts, _, m, e2, _, rfl, R4, ha, endF_sign _ (by decide) (by decide), he2, fun v2 H5 b5 R5 d5 => ?_⟩
  obtain ⟨dx5, ob5⟩ := R5.ob
  have ha := at_drop ha
  refine ⟨_, rfl, r, dx5, _, rfl, ob5, rfl, _, rfl, r, S, us, ts, _, m, deep, bb1, _, rfl, R5, ha, hb1, hne, by omega, hd, hf, fun v6 H6 b6 R6 d6 => ?_⟩
  obtain ⟨dx6, ob6⟩ := R6.ob
  have ha := at_drop (a := [.sign "("]) ha
  have ha := at_drop ha
  have ha := at_drop (a := [.sign ")"]) ha
  have ei : i + (toksE e1).length + 1 + (toksE e2).length + ([Tok.sign "("]).length + (toksB bb1).length + ([Tok.sign ")"]).length = i + (toksE e1).length + 1 + (toksE e2).length + (toksB bb1).length + 2 := by
    show _ + 1 + _ + 1 = _
    omega
  rw [ei] at ha
  have fin : ∀ (v7 : V) (H7 : Hp) (p : Addr), But (Only1 r) H6 H7 → Rdr H7 r T.c_Reader S us ts (i + (toksE e1).length + 1 + (toksE e2).length + (toksB bb1).length + 2 + (elseT bb2).length) (m + thingsC bb1 + thingsC bb2) → Dp K H7 v7 (planD bb2) → H7 p = none →
      Q (.ref p) (upd H7 p (.tup [.str "if", v1, v2, v6, v7])) := fun v7 H7 p b7 R7 d7 hp => by
    have sp := same_upd (o := .tup [.str "if", v1, v2, v6, v7]) hp
    have b36 := b4.trans (b5.trans (b6.trans b7))
    refine q _ _ ((b3.trans b36).trans (same_but sp)) (R7.same sp) ?_
    rw [thingD]
    exact .tup (SqT.of upd_same) (.cons (.str _) (.cons ((dp_but ob3 b36 d3).mono sp) (.cons ((dp_but ob5 (b6.trans b7) d5).mono sp) (.cons ((dp_but ob6 b7 d6).mono sp) (.cons (d7.mono sp) .nil)))))
  cases he : bb2 with
  | nil =>
    subst he
    have ha : At ts (i + (toksE e1).length + 1 + (toksE e2).length + (toksB bb1).length + 2) rest := ha
    obtain ⟨t7, l7, e7⟩ : ∃ t l, rest = t :: l := by
      cases hq : rest with
      | nil => rw [hq] at hF; exact hF.elim
      | cons x y => exact ⟨x, y, rfl⟩
    rw [e7] at ha hF
    obtain ⟨pos7, ht7, _⟩ := at_cons ha
    refine ⟨_, rfl, r, dx6, _, rfl, ob6, rfl, r, S, us, ts, _, _, _, "word", "else", rfl, R6, ht7, strOk_of _, strOk_of _, fun H7 b7 R7 => ?_⟩
    rw [tokIs_nw hF.2.2] at R7 ⊢
    refine ⟨_, rfl, iteF ?_⟩
    refine ⟨by show 0 ≤ sizeLine; decide, fun z hz => ?_⟩
    have sz := same_upd (o := .tup []) hz
    refine ⟨_, rfl, _, rfl, _, rfl, _, rfl, by show 5 ≤ sizeLine; decide, fun p hp => ?_⟩
    refine fin _ _ p (b7.trans (same_but sz)) ?_ (.tup (xs := []) (SqT.of upd_same) .nil) hp
    exact R7.same sz
  | cons x y =>
    have eE : elseT bb2 = [.word "else"] ++ ([.sign "("] ++ (toksB bb2 ++ [.sign ")"])) := by
      unfold elseT
      rw [he]
      rfl
    rw [eE] at ha
    simp only [List.append_assoc] at ha
    obtain ⟨pos7, ht7, ha⟩ := at_cons (l := ([.sign "("] ++ (toksB bb2 ++ ([.sign ")"] ++ rest)))) ha
    refine ⟨_, rfl, r, dx6, _, rfl, ob6, rfl, r, S, us, ts, _, _, _, "word", "else", rfl, R6, ht7, strOk_of _, strOk_of _, fun H7 b7 R7 => ?_⟩
    rw [tokIs_word, decide_eq_true rfl] at R7 ⊢
    refine ⟨_, rfl, iteT ?_⟩
    obtain ⟨dx7, ob7⟩ := R7.ob
    refine ⟨_, rfl, r, dx7, _, rfl, ob7, rfl, _, rfl, r, S, us, ts, _, _, deep, bb2, rest, rfl, R7, ha, hb2, by rw [he]; simp, hm, hd, hf, fun v8 H8 b8 R8 d8 => ?_⟩
    refine ⟨_, rfl, _, rfl, _, rfl, _, rfl, by show 5 ≤ sizeLine; decide, fun p hp => ?_⟩
    refine fin _ _ p (b7.trans b8) ?_ d8 hp
    rw [eE]
    have e3 : ([Tok.word "else"] ++ ([Tok.sign "("] ++ (toksB bb2 ++ [Tok.sign ")"]))).length = 3 + (toksB bb2).length := by simp; omega
    rw [e3]
    rw [show i + (toksE e1).length + 1 + (toksE e2).length + (toksB bb1).length + 2 + (3 + (toksB bb2).length) = i + (toksE e1).length + 1 + (toksE e2).length + (toksB bb1).length + 2 + 1 + (toksB bb2).length + 2 by omega]
    exact R8
def spRThing (K : PySem.W.Frag) (C : Addr) (f : Nat) : Sp := fun vs H Q _ => ∃ (r S : Addr) (us : List V) (ts : List (Tok × Nat)) (i m deep : Nat) (t : Thing) (rest : List Tok), vs = [.ref r, .int (deep : Nat)] ∧ Rdr H r C S us ts i m ∧ At ts i (toksTh t ++ rest) ∧ ThF rest ∧ RdT t deep ∧ m + thingC t ≤ 12 ∧ deep ≤ 4 ∧ 4 ≤ deep + f ∧
  ∀ v H', But (Only1 r) H H' → Rdr H' r C S us ts (i + (toksTh t).length) (m + thingC t) → Dp K H' v (thingD t) → Q v H'
theorem tc2 {a b : V} {σ : L2.St} {H : Hp} {Q : List V → Hp → Prop} (h : Q [a, b] H) : tCons (tC a) (tCons (tC b) tNil) σ H Q := h
theorem word_ne {a b : Str} (h : a ≠ b) : Tok.word a ≠ .word b := fun z => h (Tok.word.inj z)
theorem thing_step_r (T : Txt K mg) (f n : Nat) (hn : 3 ≤ n) (G_Reader_bracket : FnOk P w K mg base CX0 n T.a_Reader_bracket T.d_Reader_bracket ["self", "deep"] (spRBracket K T.c_Reader f))
    (G_Reader_going : FnOk P w K mg base CX0 (n + 1) T.a_Reader_going T.d_Reader_going ["self", "deep"] (spRGoing K T.c_Reader f))
    (G_Reader_choice : FnOk P w K mg base CX0 (n + 1) T.a_Reader_choice T.d_Reader_choice ["self", "deep"] (spRChoice K T.c_Reader f)) :
    FnOk P w K mg base CX0 (n + 2) T.a_Reader_thing T.d_Reader_thing ["self", "deep"] (spRThing K T.c_Reader f) := by
  refine T.F_Reader_thing.ok sc_Reader_thing (fun vs H Q E h => ?_) (fun cdv A outer s H vs Q E hr h => ?_)
  · obtain ⟨r, S, us, ts, i, m, deep, t, rest, rfl, _⟩ := h
    rfl
  obtain ⟨r, S, us, ts, i, m, deep, t, rest, rfl, R, ha, hF, ht, hm, hd, hf, q⟩ := h
  refine ⟨_, (pss_cons (ps_if (pt_cmpR op_ge (pe_fld (pv 0) rfl) (pe_glob rfl T.m_MOST_THINGS T.r_MOST_THINGS) (nomark _)) (pss_one (ps_expr (pe_meth0 (pv 0) T.cl_Reader T.me_Reader_bad (ok_Reader_bad T) (hr.mono (by omega)) T.b_Reader_bad .nil pass0))) pss_nil)
      (pss_cons (ps_fldaug (pv 0) pe_int in_add)
      (pss_cons (ps_if (pt_val (pe_meth (pv 0) T.cl_Reader T.me_Reader_passed (ok_Reader_passed T) (hr.mono (by omega)) T.b_Reader_passed .nil pass0 (pa_cons pe_str (pa_cons pe_str pa_nil)))) (pss_one (ps_ret (pe_tup (pa_cons pe_str (pa_cons (pe_meth (pv 0) T.cl_Reader T.me_Reader_number (ok_Reader_number T) (hr.mono (by omega)) T.b_Reader_number .nil pass0 (pa_cons pe_int (pa_cons (pe_glob rfl T.m_MOST_STEP T.r_MOST_STEP) pa_nil))) pa_nil))))) pss_nil)
      (pss_cons (ps_if (pt_val (pe_meth (pv 0) T.cl_Reader T.me_Reader_passed (ok_Reader_passed T) (hr.mono (by omega)) T.b_Reader_passed .nil pass0 (pa_cons pe_str (pa_cons pe_str pa_nil)))) (pss_one (ps_ret (pe_meth (pv 0) T.cl_Reader T.me_Reader_going G_Reader_going (hr.mono (by omega)) T.b_Reader_going .nil pass0 (pa_cons (pv 1) pa_nil)))) pss_nil)
      (pss_cons (ps_if (pt_val (pe_meth (pv 0) T.cl_Reader T.me_Reader_passed (ok_Reader_passed T) (hr.mono (by omega)) T.b_Reader_passed .nil pass0 (pa_cons pe_str (pa_cons pe_str pa_nil)))) (pss_one (ps_ret (pe_meth (pv 0) T.cl_Reader T.me_Reader_choice G_Reader_choice (hr.mono (by omega)) T.b_Reader_choice .nil pass0 (pa_cons (pv 1) pa_nil)))) pss_nil)
      (pss_cons (ps_if (pt_val (pe_meth (pv 0) T.cl_Reader T.me_Reader_passed (ok_Reader_passed T) (hr.mono (by omega)) T.b_Reader_passed .nil pass0 (pa_cons pe_str (pa_cons pe_str pa_nil)))) (pss_one (ps_ret (pe_tup (pa_cons pe_str (pa_cons (pe_meth (pv 0) T.cl_Reader T.me_Reader_bracket G_Reader_bracket (hr.mono (by omega)) T.b_Reader_bracket .nil pass0 (pa_cons (pv 1) pa_nil)) pa_nil))))) pss_nil)
      (pss_cons (ps_if (pt_val (pe_meth (pv 0) T.cl_Reader T.me_Reader_passed (ok_Reader_passed T) (hr.mono (by omega)) T.b_Reader_passed .nil pass0 (pa_cons pe_str (pa_cons pe_str pa_nil)))) (pss_cons (ps_set (i := 2) sc_Reader_thing.nd rfl (Or.inl rfl) (pe_meth0 (pv 0) T.cl_Reader T.me_Reader_plain_name (ok_Reader_plain_name T) (hr.mono (by omega)) T.b_Reader_plain_name .nil pass0))
      (pss_cons (ps_expr (pe_meth (pv 0) T.cl_Reader T.me_Reader_want (ok_Reader_want T) (hr.mono (by omega)) T.b_Reader_want .nil pass0 (pa_cons pe_str (pa_cons pe_str pa_nil))))
      (pss_one (ps_ret (pe_tup (pa_cons pe_str (pa_cons (pv 2) (pa_cons (pe_meth0 (pv 0) T.cl_Reader T.me_Reader_end (ok_Reader_end T) (hr.mono (by omega)) T.b_Reader_end .nil pass0) pa_nil)))))))) pss_nil)
      (pss_cons (ps_expr (pe_meth (pv 0) T.cl_Reader T.me_Reader_want (ok_Reader_want T) (hr.mono (by omega)) T.b_Reader_want .nil pass0 (pa_cons pe_str (pa_cons pe_str pa_nil))))
      (pss_cons (ps_set (i := 3) sc_Reader_thing.nd rfl (Or.inl rfl) (pe_meth (pv 0) T.cl_Reader T.me_Reader_number (ok_Reader_number T) (hr.mono (by omega)) T.b_Reader_number .nil pass0 (pa_cons pe_int (pa_cons (pe_glob rfl T.m_MOST_AGAIN T.r_MOST_AGAIN) pa_nil))))
      (pss_cons (ps_expr (pe_meth (pv 0) T.cl_Reader T.me_Reader_want (ok_Reader_want T) (hr.mono (by omega)) T.b_Reader_want .nil pass0 (pa_cons pe_str (pa_cons pe_str pa_nil))))
      (pss_cons (ps_for PassesOwn.never rfl (pi_tup (pe_glob rfl T.m_WAYS T.r_WAYS)) (pg_name (i := 4) sc_Reader_thing.nd rfl (Or.inl rfl)) (pss_one (ps_if (pt_val (pe_meth (pv 0) T.cl_Reader T.me_Reader_passed (ok_Reader_passed T) (hr.mono (by omega)) T.b_Reader_passed .nil pass0 (pa_cons pe_str (pa_cons (pv 4) pa_nil)))) (pss_one (ps_ret (pe_tup (pa_cons pe_str (pa_cons (pv 3) (pa_cons (pv 4) pa_nil)))))) pss_nil)))
      (pss_one (ps_expr (pe_meth0 (pv 0) T.cl_Reader T.me_Reader_bad (ok_Reader_bad T) (hr.mono (by omega)) T.b_Reader_bad .nil pass0)))))))))))))), ?_⟩
  obtain ⟨dx, ob⟩ := R.ob
  have tp := thingC_pos t
  refine ⟨_, rfl, r, _, dx, _, _, rfl, ob, T.cl_Reader, T.na_Reader_many, rfl, _, _, rfl, rfl, _, rfl, ?_⟩
  refine ite2 (fun c => absurd (of_decide_eq_true c) (by omega)) (fun _ => ?_)
  refine ⟨_, rfl, r, _, dx, _, _, rfl, ob, T.cl_Reader, T.na_Reader_many, rfl, _, _, rfl, rfl, dx, _, ob, by show 3 < 1000; decide, ?_⟩
  rw [flR_putm S i m (j := m + 1) (by omega)]
  have b0 : But (Only1 r) H (upd H r (.ins T.c_Reader dx (flR S i (m + 1)))) := (But.refl _ _).put rfl
  have R0 : Rdr (upd H r (.ins T.c_Reader dx (flR S i (m + 1)))) r T.c_Reader S us ts i (m + 1) := R.but b0 ⟨dx, upd_same⟩
  generalize (upd H r (.ins T.c_Reader dx (flR S i (m + 1)))) = H0 at b0 R0 ⊢
  obtain ⟨w0, l0, ew⟩ : ∃ w0 l0, toksTh t = .word w0 :: l0 := by cases t <;> simp [toksTh]
  have ha0 := ha
  rw [ew] at ha0
  obtain ⟨pos, ht0, _⟩ := at_cons ha0
  -- passed("word", ..): no, and yes
  have no : ∀ {w1 : Str} {Hh : Hp} {Q' : VK}, w0 ≠ w1 → PyData.strOk w1 = true → But (Only1 r) H Hh → Rdr Hh r T.c_Reader S us ts i (m + 1) → (∀ H', But (Only1 r) H H' → Rdr H' r T.c_Reader S us ts i (m + 1) → Q' (.bl false) H') →
      spPassed K T.c_Reader [.ref r, .str "word", .str w1] Hh Q' E0 := fun h1 h2 b R k => by
    refine ⟨r, S, us, ts, i, m + 1, _, "word", _, rfl, R, ht0, strOk_of _, h2, fun H1 b1 R1 => ?_⟩
    rw [tokIs_nw (word_ne h1)] at R1 ⊢
    exact k H1 (b.trans b1) R1
  have yes : ∀ {Hh : Hp} {Q' : VK}, PyData.strOk w0 = true → But (Only1 r) H Hh → Rdr Hh r T.c_Reader S us ts i (m + 1) → (∀ H', But (Only1 r) H H' → Rdr H' r T.c_Reader S us ts (i + 1) (m + 1) → Q' (.bl true) H') →
      spPassed K T.c_Reader [.ref r, .str "word", .str w0] Hh Q' E0 := fun h2 b R k => by
    refine ⟨r, S, us, ts, i, m + 1, _, "word", _, rfl, R, ht0, strOk_of _, h2, fun H1 b1 R1 => ?_⟩
    rw [tokIs_word, decide_eq_true rfl] at R1 ⊢
    exact k H1 (b.trans b1) R1
  obtain ⟨dx0, ob0⟩ := R0.ob
  cases t with
  | step n =>
    have ht : 0 ≤ n ∧ n ≤ 99 := by simpa only [RdT] using ht
    have e0 : w0 = "step" := by
      rw [toksTh] at ew
      exact (Tok.word.inj (List.cons.inj ew).1).symm
    subst e0
    have ha1 : At ts i ([.word "step"] ++ (.num n.toNat :: rest)) := by rw [toksTh] at ha; exact ha
    obtain ⟨pos1, ht1, _⟩ := at_cons (at_drop ha1)
    refine ⟨_, rfl, r, dx0, _, rfl, ob0, rfl, tc2 (yes (strOk_of _) b0 R0 fun H1 b1 R1 => ?_)⟩
    refine ⟨_, rfl, iteT ?_⟩
    obtain ⟨dx1, ob1⟩ := R1.ob
    refine ⟨_, rfl, r, dx1, _, rfl, ob1, rfl, r, S, us, ts, _, _, n.toNat, pos1, 0, 99, rfl, R1, ht1, by omega, by omega, fun H2 b2 R2 => ?_⟩
    refine ⟨by show 2 ≤ sizeLine; decide, fun p hp => ?_⟩
    have sp := same_upd (o := .tup [.str "step", .int (n.toNat : Nat)]) hp
    refine q _ _ ((b1.trans b2).trans (same_but sp)) ?_ ?_
    · rw [toksTh, thingC]
      · exact R2.same sp
      all_goals simp
    · rw [thingD]
      have e4 : ((n.toNat : Nat) : Int) = n := by omega
      refine .tup (SqT.of upd_same) (.cons (.str _) (.cons ?_ .nil))
      rw [e4]
      exact .int _
  | loop nm e1 e2 b =>
    have ht : NameOk nm ∧ RdE e1 ∧ RdE e2 ∧ deep < 4 ∧ b ≠ [] ∧ RdB b (deep + 1) := by simpa only [RdT] using ht
    obtain ⟨h1, h2, h3, h4, h5, h6⟩ := ht
    have e0 : w0 = "for" := by
      rw [toksTh] at ew
      exact (Tok.word.inj (List.cons.inj ew).1).symm
    subst e0
    refine ⟨_, rfl, r, dx0, _, rfl, ob0, rfl, tc2 (no (by decide) (strOk_of _) b0 R0 fun H1 b1 R1 => ?_)⟩
    refine ⟨_, rfl, iteF ?_⟩
    obtain ⟨dx1, ob1⟩ := R1.ob
    refine ⟨_, rfl, r, dx1, _, rfl, ob1, rfl, tc2 (yes (strOk_of _) b1 R1 fun H2 b2 R2 => ?_)⟩
    refine ⟨_, rfl, iteT ?_⟩
    obtain ⟨dx2, ob2⟩ := R2.ob
    have ha1 : At ts i ([.word "for"] ++ ([.word nm, .word "from"] ++ (toksE e1 ++ ([.word "to"] ++ (toksE e2 ++ ([.sign "("] ++ (toksB b ++ ([.sign ")"] ++ rest)))))))) := by
      rw [toksTh] at ha
      simpa using ha
    rw [thingC] at hm
    refine ⟨_, rfl, r, dx2, _, rfl, ob2, rfl, _, rfl, r, S, us, ts, _, _, deep, nm, e1, e2, b, rest, rfl, R2, at_drop ha1, h1, h2, h3, h6, h5, by omega, h4, hf, fun v H3 b3 R3 dv => ?_⟩
    refine q _ _ (b2.trans b3) ?_ dv
    rw [toksTh, thingC]
    have e3 : i + 1 + 3 + (toksE e1).length + (toksE e2).length + (toksB b).length + 2 = i + ([Tok.word "for", Tok.word nm, Tok.word "from"] ++ (toksE e1 ++ ([Tok.word "to"] ++ (toksE e2 ++ ([Tok.sign "("] ++ (toksB b ++ [Tok.sign ")"])))))).length := by simp; omega
    rw [← e3, show m + (thingsC b + 1) = m + 1 + thingsC b by omega]
    exact R3
  | test e1 e2 bb1 bb2 =>
    have ht : RdE e1 ∧ RdE e2 ∧ deep < 4 ∧ bb1 ≠ [] ∧ RdB bb1 (deep + 1) ∧ RdB bb2 (deep + 1) := by simpa only [RdT] using ht
    obtain ⟨h1, h2, h3, h4, h5, h6⟩ := ht
    have e0 : w0 = "if" := by
      rw [toksTh] at ew
      exact (Tok.word.inj (List.cons.inj ew).1).symm
    subst e0
    refine ⟨_, rfl, r, dx0, _, rfl, ob0, rfl, tc2 (no (by decide) (strOk_of _) b0 R0 fun H1 b1' R1 => ?_)⟩
    refine ⟨_, rfl, iteF ?_⟩
    obtain ⟨dx1, ob1⟩ := R1.ob
    refine ⟨_, rfl, r, dx1, _, rfl, ob1, rfl, tc2 (no (by decide) (strOk_of _) b1' R1 fun H2 b2' R2 => ?_)⟩
    refine ⟨_, rfl, iteF ?_⟩
    obtain ⟨dx2, ob2⟩ := R2.ob
    refine ⟨_, rfl, r, dx2, _, rfl, ob2, rfl, tc2 (yes (strOk_of _) b2' R2 fun H3 b3 R3 => ?_)⟩
    refine ⟨_, rfl, iteT ?_⟩
    obtain ⟨dx3, ob3⟩ := R3.ob
    have et : toksTh (.test e1 e2 bb1 bb2) = [.word "if"] ++ (toksE e1 ++ ([.sign "<="] ++ (toksE e2 ++ ([.sign "("] ++ (toksB bb1 ++ ([.sign ")"] ++ elseT bb2)))))) := by rw [toksTh]; rfl
    have ha1 : At ts i ([.word "if"] ++ (toksE e1 ++ ([.sign "<="] ++ (toksE e2 ++ ([.sign "("] ++ (toksB bb1 ++ ([.sign ")"] ++ (elseT bb2 ++ rest)))))))) := by
      rw [et] at ha
      simpa using ha
    rw [thingC] at hm
    refine ⟨_, rfl, r, dx3, _, rfl, ob3, rfl, _, rfl, r, S, us, ts, _, _, deep, e1, e2, bb1, bb2, rest, rfl, R3, at_drop ha1, hF, h1, h2, h5, h4, h6, by omega, h3, hf, fun v H4 b4 R4 dv => ?_⟩
    refine q _ _ (b3.trans b4) ?_ dv
    rw [et, thingC]
    have e3 : i + 1 + (toksE e1).length + 1 + (toksE e2).length + (toksB bb1).length + 2 + (elseT bb2).length = i + ([Tok.word "if"] ++ (toksE e1 ++ ([Tok.sign "<="] ++ (toksE e2 ++ ([Tok.sign "("] ++ (toksB bb1 ++ ([Tok.sign ")"] ++ elseT bb2))))))).length := by simp; omega
    rw [← e3, show m + (thingsC bb1 + thingsC bb2 + 1) = m + 1 + thingsC bb1 + thingsC bb2 by omega]
    exact R4
  | double b =>
    have ht : deep < 4 ∧ b ≠ [] ∧ RdB b (deep + 1) := by simpa only [RdT] using ht
    obtain ⟨h1, h2, h3⟩ := ht
    have e0 : w0 = "double" := by
      rw [toksTh] at ew
      exact (Tok.word.inj (List.cons.inj ew).1).symm
    subst e0
    refine ⟨_, rfl, r, dx0, _, rfl, ob0, rfl, tc2 (no (by decide) (strOk_of _) b0 R0 fun H1 b1 R1 => ?_)⟩
    refine ⟨_, rfl, iteF ?_⟩
    obtain ⟨dx1, ob1⟩ := R1.ob
    refine ⟨_, rfl, r, dx1, _, rfl, ob1, rfl, tc2 (no (by decide) (strOk_of _) b1 R1 fun H2 b2 R2 => ?_)⟩
    refine ⟨_, rfl, iteF ?_⟩
    obtain ⟨dx2, ob2⟩ := R2.ob
    refine ⟨_, rfl, r, dx2, _, rfl, ob2, rfl, tc2 (no (by decide) (strOk_of _) b2 R2 fun H3 b3 R3 => ?_)⟩
    refine ⟨_, rfl, iteF ?_⟩
    obtain ⟨dx3, ob3⟩ := R3.ob
    refine ⟨_, rfl, r, dx3, _, rfl, ob3, rfl, tc2 (yes (strOk_of _) b3 R3 fun H4 b4 R4 => ?_)⟩
    refine ⟨_, rfl, iteT ?_⟩
    obtain ⟨dx4, ob4⟩ := R4.ob
    have ha1 : At ts i ([.word "double"] ++ ([.sign "("] ++ (toksB b ++ ([.sign ")"] ++ rest)))) := by
      rw [toksTh] at ha
      simpa using ha
    rw [thingC] at hm
    refine ⟨_, rfl, r, dx4, _, rfl, ob4, rfl, _, rfl, r, S, us, ts, _, _, deep, b, rest, rfl, R4, at_drop ha1, h3, h2, by omega, h1, hf, fun v H5 b5 R5 dv => ?_⟩
    refine ⟨by show 2 ≤ sizeLine; decide, fun p hp => ?_⟩
    have sp := same_upd (o := .tup [.str "double", v]) hp
    refine q _ _ ((b4.trans b5).trans (same_but sp)) ?_ ?_
    · rw [toksTh, thingC]
      have e3 : i + 1 + (toksB b).length + 2 = i + ([Tok.word "double", Tok.sign "("] ++ (toksB b ++ [Tok.sign ")"])).length := by simp; omega
      rw [← e3, show m + (thingsC b + 1) = m + 1 + thingsC b by omega]
      exact R5.same sp
    · rw [thingD]
      exact .tup (SqT.of upd_same) (.cons (.str _) (.cons (dv.mono sp) .nil))
  | call nm e =>
    have ht : NameOk nm ∧ RdE e := by simpa only [RdT] using ht
    obtain ⟨h1, h2⟩ := ht
    have e0 : w0 = "call" := by
      rw [toksTh] at ew
      exact (Tok.word.inj (List.cons.inj ew).1).symm
    subst e0
    refine ⟨_, rfl, r, dx0, _, rfl, ob0, rfl, tc2 (no (by decide) (strOk_of _) b0 R0 fun H1 b1 R1 => ?_)⟩
    refine ⟨_, rfl, iteF ?_⟩
    obtain ⟨dx1, ob1⟩ := R1.ob
    refine ⟨_, rfl, r, dx1, _, rfl, ob1, rfl, tc2 (no (by decide) (strOk_of _) b1 R1 fun H2 b2 R2 => ?_)⟩
    refine ⟨_, rfl, iteF ?_⟩
    obtain ⟨dx2, ob2⟩ := R2.ob
    refine ⟨_, rfl, r, dx2, _, rfl, ob2, rfl, tc2 (no (by decide) (strOk_of _) b2 R2 fun H3 b3 R3 => ?_)⟩
    refine ⟨_, rfl, iteF ?_⟩
    obtain ⟨dx3, ob3⟩ := R3.ob
    refine ⟨_, rfl, r, dx3, _, rfl, ob3, rfl, tc2 (no (by decide) (strOk_of _) b3 R3 fun H4 b4 R4 => ?_)⟩
    refine ⟨_, rfl, iteF ?_⟩
    obtain ⟨dx4, ob4⟩ := R4.ob
    refine ⟨_, rfl, r, dx4, _, rfl, ob4, rfl, tc2 (yes (strOk_of _) b4 R4 fun H5 b5 R5 => ?_)⟩
    refine ⟨_, rfl, iteT ?_⟩
    obtain ⟨dx5, ob5⟩ := R5.ob
    have ha1 : At ts i ([.word "call"] ++ ([.word nm] ++ ([.word "with"] ++ (toksE e ++ rest)))) := by
      rw [toksTh] at ha
      simpa using ha
    obtain ⟨pos1, ht1, ha1⟩ := at_cons (l := [.word "with"] ++ (toksE e ++ rest)) (at_drop ha1)
    obtain ⟨pos2, ht2, ha1⟩ := at_cons (l := toksE e ++ rest) ha1
    refine ⟨_, rfl, r, dx5, _, rfl, ob5, rfl, r, S, us, ts, _, _, pos1, nm, rfl, R5, ht1, h1, fun H6 b6 R6 => ?_⟩
    obtain ⟨dx6, ob6⟩ := R6.ob
    refine ⟨_, rfl, r, dx6, _, rfl, ob6, rfl, r, S, us, ts, _, _, _, "word", "with", rfl, R6, ht2, strOk_of _, strOk_of _, by rw [tokIs_word]; exact decide_eq_true rfl, fun H7 b7 R7 => ?_⟩
    obtain ⟨dx7, ob7⟩ := R7.ob
    refine ⟨_, rfl, _, rfl, r, dx7, _, rfl, ob7, rfl, r, S, us, ts, _, _, e, rest, rfl, R7, ha1, hF.e, h2, fun v H8 b8 R8 dv => ?_⟩
    refine ⟨by show 3 ≤ sizeLine; decide, fun p hp => ?_⟩
    have sp := same_upd (o := .tup [.str "call", .str nm, v]) hp
    refine q _ _ ((b5.trans (b6.trans (b7.trans b8))).trans (same_but sp)) ?_ ?_
    · rw [toksTh, thingC]
      · have e3 : i + ([Tok.word "call"]).length + 1 + 1 + (toksE e).length = i + ([Tok.word "call", Tok.word nm, Tok.word "with"] ++ toksE e).length := by simp; omega
        rw [← e3]
        exact R8.same sp
      all_goals simp
    · rw [thingD]
      exact .tup (SqT.of upd_same) (.cons (.str _) (.cons (.str _) (.cons (dv.mono sp) .nil)))
  | again n w =>
    have ht : 1 ≤ n ∧ n ≤ 9 ∧ (w = "halves" ∨ w = "thirds" ∨ w = "less") := by simpa only [RdT] using ht
    obtain ⟨h1, h2, h3⟩ := ht
    have e0 : w0 = "again" := by
      rw [toksTh] at ew
      exact (Tok.word.inj (List.cons.inj ew).1).symm
    subst e0
    refine ⟨_, rfl, r, dx0, _, rfl, ob0, rfl, tc2 (no (by decide) (strOk_of _) b0 R0 fun H1 b1 R1 => ?_)⟩
    refine ⟨_, rfl, iteF ?_⟩
    obtain ⟨dx1, ob1⟩ := R1.ob
    refine ⟨_, rfl, r, dx1, _, rfl, ob1, rfl, tc2 (no (by decide) (strOk_of _) b1 R1 fun H2 b2 R2 => ?_)⟩
    refine ⟨_, rfl, iteF ?_⟩
    obtain ⟨dx2, ob2⟩ := R2.ob
    refine ⟨_, rfl, r, dx2, _, rfl, ob2, rfl, tc2 (no (by decide) (strOk_of _) b2 R2 fun H3 b3 R3 => ?_)⟩
    refine ⟨_, rfl, iteF ?_⟩
    obtain ⟨dx3, ob3⟩ := R3.ob
    refine ⟨_, rfl, r, dx3, _, rfl, ob3, rfl, tc2 (no (by decide) (strOk_of _) b3 R3 fun H4 b4 R4 => ?_)⟩
    refine ⟨_, rfl, iteF ?_⟩
    obtain ⟨dx4, ob4⟩ := R4.ob
    refine ⟨_, rfl, r, dx4, _, rfl, ob4, rfl, tc2 (no (by decide) (strOk_of _) b4 R4 fun H5 b5 R5 => ?_)⟩
    refine ⟨_, rfl, iteF ?_⟩
    obtain ⟨dx5, ob5⟩ := R5.ob
    have ha1 : At ts i ([.word "again"] ++ ([.num n.toNat] ++ ([.word "on"] ++ ([.word w] ++ rest)))) := by
      rw [toksTh] at ha
      simpa using ha
    obtain ⟨pos1, ht1, ha1⟩ := at_cons (l := [.word "on"] ++ ([.word w] ++ rest)) (at_drop ha1)
    obtain ⟨pos2, ht2, ha1⟩ := at_cons (l := [.word w] ++ rest) ha1
    obtain ⟨pos3, ht3, _⟩ := at_cons (l := rest) ha1
    refine ⟨_, rfl, r, dx5, _, rfl, ob5, rfl, r, S, us, ts, _, _, _, "word", "again", rfl, R5, ht0, strOk_of _, strOk_of _, by rw [tokIs_word]; exact decide_eq_true rfl, fun H6 b6 R6 => ?_⟩
    obtain ⟨dx6, ob6⟩ := R6.ob
    refine ⟨_, rfl, r, dx6, _, rfl, ob6, rfl, r, S, us, ts, _, _, n.toNat, pos1, 1, 9, rfl, R6, ht1, by omega, by omega, fun H7 b7 R7 => ?_⟩
    obtain ⟨dx7, ob7⟩ := R7.ob
    refine ⟨_, rfl, r, dx7, _, rfl, ob7, rfl, r, S, us, ts, _, _, _, "word", "on", rfl, R7, ht2, strOk_of _, strOk_of _, by rw [tokIs_word]; exact decide_eq_true rfl, fun H8 b8 R8 => ?_⟩
    have b58 := b5.trans (b6.trans (b7.trans b8))
    refine ⟨T.p_WAYS, rfl, ⟨_, T.q_WAYS _⟩, for_it walk_tup (fun j σ H' => But (Only1 r) H H' ∧ Rdr H' r T.c_Reader S us ts (i + 1 + 1 + 1) (m + 1) ∧ (∃ k, j ≤ k ∧ [Str.ofString "halves", Str.ofString "thirds", Str.ofString "less"][k]? = some w) ∧ ∃ v2 v4, σ = [some (.ref r), some (.int (deep : Nat)), v2, some (.int (n.toNat : Nat)), v4]) ?_ (fun j σ H' _ _ => T.q_WAYS _) ?_ ?_⟩
    · refine ⟨b58, R8, ?_, _, _, rfl⟩
      rcases h3 with rfl | rfl | rfl
      · exact ⟨0, Nat.zero_le _, rfl⟩
      · exact ⟨1, Nat.zero_le _, rfl⟩
      · exact ⟨2, Nat.zero_le _, rfl⟩
    · rintro j y σ H9 H10 hj ⟨b9, R9, ⟨k, jk, hk⟩, v2, v4, rfl⟩ ⟨rfl, hy⟩
      obtain ⟨z, hz, rfl⟩ : ∃ z, [Str.ofString "halves", Str.ofString "thirds", Str.ofString "less"][j]? = some z ∧ y = .str z := by
        rw [List.getElem?_map] at hy
        cases hq : [Str.ofString "halves", Str.ofString "thirds", Str.ofString "less"][j]? with
        | none =>
          have hy : Option.map V.str ([Str.ofString "halves", Str.ofString "thirds", Str.ofString "less"][j]?) = some y := hy
          rw [hq] at hy
          cases hy
        | some z =>
          have hy : Option.map V.str ([Str.ofString "halves", Str.ofString "thirds", Str.ofString "less"][j]?) = some y := hy
          rw [hq] at hy
          exact ⟨z, rfl, (Option.some.inj hy).symm⟩
      obtain ⟨dx9, ob9⟩ := R9.ob
      have zok : PyData.strOk z = true := by
        have := List.mem_of_getElem? hz
        simp only [List.mem_cons, List.not_mem_nil, or_false] at this
        rcases this with rfl | rfl | rfl <;> exact strOk_of _
      refine ⟨_, rfl, r, dx9, _, rfl, ob9, rfl, _, rfl, r, S, us, ts, _, _, _, "word", z, rfl, R9, ht3, strOk_of _, zok, fun H11 b11 R11 => ?_⟩
      rw [tokIs_word] at R11 ⊢
      refine ⟨_, rfl, ?_⟩
      by_cases c : w = z
      · rw [decide_eq_true c] at R11 ⊢
        refine iteT ?_
        refine ⟨_, rfl, _, rfl, by show 3 ≤ sizeLine; decide, fun p hp => ?_⟩
        have sp := same_upd (o := .tup [.str "again", .int (n.toNat : Nat), .str z]) hp
        refine q _ _ ((b9.trans b11).trans (same_but sp)) ?_ ?_
        · rw [toksTh, thingC]
          · exact R11.same sp
          all_goals simp
        · rw [thingD, c]
          have e4 : ((n.toNat : Nat) : Int) = n := by omega
          refine .tup (SqT.of upd_same) (.cons (.str _) (.cons ?_ (.cons (.str _) .nil)))
          rw [e4]
          exact .int _
      · rw [decide_eq_false c] at R11 ⊢
        refine iteF ?_
        refine ⟨b9.trans b11, R11, ⟨k, ?_, hk⟩, _, _, rfl⟩
        by_cases e : j = k
        · subst e
          rw [hz] at hk
          exact absurd (Option.some.inj hk).symm c
        · omega
    · rintro σ H9 ⟨b9, R9, ⟨k, jk, hk⟩, _⟩
      have jk : 3 ≤ k := jk
      rw [List.getElem?_eq_none (by show 3 ≤ k; exact jk)] at hk
      cases hk
mutual
def noL : PyData → Bool
  | .list _ => false
  | .dict _ => false
  | .tuple ds => noLs ds
  | _ => true
def noLs : List PyData → Bool
  | [] => true
  | d :: ds => noL d && noLs ds
end
theorem no_lst_t {H H' : Hp} {L a : Addr} {ys xs : List V} (hL : H L = some (.lst ys)) (b : But (Only1 L) H H') (h : SqT K H a xs) : SqT K H' a xs := by
  rcases h with (h | ⟨o, h⟩) | h
  · exact .inl (.inl (b a _ h fun e => by rw [show a = L from e, hL] at h; cases h))
  · exact .inl (.inr ⟨o, b a _ h fun e => by rw [show a = L from e, hL] at h; cases h⟩)
  · exact .inr h
mutual
theorem dp_skip {H H' : Hp} {L : Addr} {ys : List V} (hL : H L = some (.lst ys)) (b : But (Only1 L) H H') : ∀ {d : PyData} {v : V}, noL d = true → Dp K H v d → Dp K H' v d
  | _, _, _, .non => .non
  | _, _, _, .bl b => .bl b
  | _, _, _, .int i => .int i
  | _, _, _, .str x => .str x
  | _, _, h, .lst _ _ => by simp [noL] at h
  | _, _, h, .tup hs a => .tup (no_lst_t hL b hs) (dps_skip hL b (by simpa only [noL] using h) a)
theorem dps_skip {H H' : Hp} {L : Addr} {ys : List V} (hL : H L = some (.lst ys)) (b : But (Only1 L) H H') : ∀ {ds : List PyData} {vs : List V}, noLs ds = true → DpAll K H vs ds → DpAll K H' vs ds
  | _, _, _, .nil => .nil
  | _, _, h, .cons a c => by
    simp only [noLs, Bool.and_eq_true] at h
    exact .cons (dp_skip hL b h.1 a) (dps_skip hL b h.2 c)
end
theorem end_noL (e : En) : noL (endD e) = true := by simp [endD, noL, noLs]
mutual
theorem thing_noL : ∀ t : Thing, noL (thingD t) = true
  | .step n => by simp [thingD, noL, noLs]
  | .call nm e => by simp [thingD, noL, noLs, end_noL]
  | .double b => by
    have := things_noL b
    rw [thingD]
    simp [noL, noLs, this]
  | .loop nm e1 e2 b => by
    have := things_noL b
    rw [thingD]
    simp [noL, noLs, end_noL, this]
  | .test e1 e2 b1 b2 => by
    have h1 := things_noL b1
    have h2 := things_noL b2
    rw [thingD]
    simp [noL, noLs, end_noL, h1, h2]
  | .again n w => by simp [thingD, noL, noLs]
theorem things_noL : ∀ b : List Thing, noLs (thingsD b) = true
  | [] => by simp [thingsD, noLs]
  | t :: r => by
    have h1 := thing_noL t
    have h2 := things_noL r
    rw [thingsD]
    simp [noLs, h1, h2]
end
def sepT : List Thing → List Tok
  | [] => []
  | t :: r => [.sign ";"] ++ toksB (t :: r)
theorem toksB_cons (t : Thing) (r : List Thing) : toksB (t :: r) = toksTh t ++ sepT r := by
  cases r with
  | nil =>
    rw [toksB]
    exact (List.append_nil _).symm
  | cons u r =>
    rw [toksB]
    rfl
theorem sep_thF {r : List Thing} {rest : List Tok} (h : BdF rest) : ThF (sepT r ++ rest) := by
  cases r with
  | nil => exact h.t
  | cons t r =>
    show (Tok.sign ";" ≠ .sign "+" ∧ Tok.sign ";" ≠ .sign "-" ∧ Tok.sign ";" ≠ .word "else")
    refine ⟨fun z => ?_, fun z => ?_, fun z => ?_⟩
    · exact absurd (Tok.sign.inj z) (by decide)
    · exact absurd (Tok.sign.inj z) (by decide)
    · cases z
theorem body_step_r (T : Txt K mg) (f n : Nat) (hn : 1 ≤ n) (G_Reader_thing : FnOk P w K mg base CX0 n T.a_Reader_thing T.d_Reader_thing ["self", "deep"] (spRThing K T.c_Reader f)) :
    FnOk P w K mg base CX0 (n + 1) T.a_Reader_body T.d_Reader_body ["self", "deep"] (spRBody K T.c_Reader (f + 1)) := by
  refine T.F_Reader_body.ok sc_Reader_body (fun vs H Q E h => ?_) (fun cdv A outer s H vs Q E hr h => ?_)
  · obtain ⟨r, S, us, ts, i, m, deep, b, rest, rfl, _⟩ := h
    rfl
  obtain ⟨r, S, us, ts, i, m, deep, b, rest, rfl, R, ha, hF, hb, hne, hm, hd, hf, q⟩ := h
  refine ⟨_, (pss_cons (ps_set (i := 2) sc_Reader_body.nd rfl (Or.inl rfl) (pe_lst (pa_cons (pe_meth (pv 0) T.cl_Reader T.me_Reader_thing G_Reader_thing (hr.mono (by omega)) T.b_Reader_thing .nil pass0 (pa_cons (pv 1) pa_nil)) pa_nil)))
      (pss_cons (ps_while PassesOwn.never (pt_val (pe_meth (pv 0) T.cl_Reader T.me_Reader_passed (ok_Reader_passed T) (hr.mono (by omega)) T.b_Reader_passed .nil pass0 (pa_cons pe_str (pa_cons pe_str pa_nil)))) (pss_one (ps_expr (pe_bm PySem.F.plainAttrs_list PySem.F.slot_list_append PySem.F.type_list_append mt_append (pv 2) (pa_cons (pe_meth (pv 0) T.cl_Reader T.me_Reader_thing G_Reader_thing (hr.mono (by omega)) T.b_Reader_thing .nil pass0 (pa_cons (pv 1) pa_nil)) pa_nil)))))
      (pss_one (ps_ret (pe_callTy call_tuple_of (by rfl) T.z_tuple (by decide +kernel) (pa_cons (pv 2) pa_nil)))))), ?_⟩
  obtain ⟨t0, b0, rfl⟩ : ∃ t r, b = t :: r := by
    cases b with
    | nil => exact absurd rfl hne
    | cons t r => exact ⟨t, r, rfl⟩
  rw [toksB_cons, List.append_assoc] at ha
  have hb' : RdT t0 deep ∧ RdB b0 deep := by simpa only [RdB] using hb
  have hm' : m + (thingC t0 + thingsC b0) ≤ 12 := by simpa only [thingsC] using hm
  obtain ⟨dx, ob⟩ := R.ob
  refine ⟨_, rfl, r, dx, _, rfl, ob, rfl, _, rfl, r, S, us, ts, i, m, deep, t0, _, rfl, R, ha, sep_thF hF, hb'.1, by omega, hd, by omega, fun v H1 b1 R1 dv => ?_⟩
  refine ⟨by show 1 ≤ sizeLine; decide, fun L hL => ?_⟩
  have hL0 : H L = none := b1.none R1.cell hL
  have sL := same_upd (o := .lst [v]) hL
  obtain ⟨dx1, ob1⟩ := R1.ob
  have nLr : L ≠ r := fun z => by rw [z, ob1] at hL; cases hL
  refine while_by (fun σ H' => But (Only1 r) H H' ∧ ∃ (done more : List Thing) (vs : List V) (j : Nat), t0 :: b0 = done ++ more ∧ done ≠ [] ∧ H' L = some (.lst vs) ∧ DpAll K H' vs (thingsD done) ∧ Rdr H' r T.c_Reader S us ts j (m + thingsC done) ∧ At ts j (sepT more ++ rest) ∧ j + (sepT more).length = i + (toksB (t0 :: b0)).length ∧ RdB more deep ∧ σ = [some (.ref r), some (.int (deep : Nat)), some (.ref L)])
    (fun σ H' => match H' L with | some (.lst vs) => 20 - vs.length | _ => 0) ?_ ?_ ?_
  · refine ⟨b1.trans (same_but sL), [t0], b0, [v], _, rfl, by simp, upd_same, ?_, ?_, at_drop ha, ?_, hb'.2, rfl⟩
    · simp only [thingsD]
      exact .cons (dv.mono sL) .nil
    · have e : m + thingsC [t0] = m + thingC t0 := by simp [thingsC]
      rw [e]
      exact R1.same sL
    · rw [toksB_cons, List.length_append]
      omega
  · rintro σ H2 ⟨b2, done, more, vs, j, eb, hdn, eL, dvs, R2, ha2, hj, hbm, rfl⟩
    obtain ⟨dx2, ob2⟩ := R2.ob
    have lv := dvs.length
    rw [thingsD_eq, List.length_map] at lv
    have cc : thingsC (t0 :: b0) = thingsC done + thingsC more := by
      rw [eb]
      exact thingsC_app done more
    have lc := thingsC_len done
    cases more with
    | nil =>
      have ha2 : At ts j rest := ha2
      obtain ⟨t7, l7, e7⟩ : ∃ t l, rest = t :: l := by
        cases hq : rest with
        | nil => rw [hq] at hF; exact hF.elim
        | cons x y => exact ⟨x, y, rfl⟩
      rw [e7] at ha2
      have hF' := hF
      rw [e7] at hF'
      obtain ⟨pos7, ht7, _⟩ := at_cons ha2
      refine ⟨_, rfl, r, dx2, _, rfl, ob2, rfl, r, S, us, ts, j, _, _, "sign", ";", rfl, R2, ht7, strOk_of _, strOk_of _, fun H3 b3 R3 => ?_⟩
      rw [tokIs_ns hF'.2.2.2] at R3 ⊢
      refine ⟨_, rfl, iteF ?_⟩
      have eL3 : H3 L = some (.lst vs) := b3 _ _ eL nLr
      refine ⟨_, rfl, L, vs, rfl, .inl ⟨SqL.of eL3, fun p hp => ?_⟩⟩
      have sp := same_upd (o := .tup vs) hp
      have ed : done = t0 :: b0 := by rw [eb, List.append_nil]
      refine q _ _ ((b2.trans b3).trans (same_but sp)) ?_ ?_
      · have hj : j + 0 = _ := hj
        rw [← hj, Nat.add_zero, ← ed]
        exact R3.same sp
      · rw [← ed]
        exact .tup (SqT.of upd_same) ((dps_but ob2 b3 dvs).mono sp)
    | cons t more =>
      have ha2 : At ts j ([.sign ";"] ++ (toksB (t :: more) ++ rest)) := ha2
      obtain ⟨pos7, ht7, ha3⟩ := at_cons (l := toksB (t :: more) ++ rest) ha2
      rw [toksB_cons, List.append_assoc] at ha3
      have hbm' : RdT t deep ∧ RdB more deep := by simpa only [RdB] using hbm
      have cm : thingsC (t :: more) = thingC t + thingsC more := by rw [thingsC]
      have cm2 : thingsC (t0 :: b0) = thingC t0 + thingsC b0 := by rw [thingsC]
      refine ⟨_, rfl, r, dx2, _, rfl, ob2, rfl, r, S, us, ts, j, _, _, "sign", ";", rfl, R2, ht7, strOk_of _, strOk_of _, fun H3 b3 R3 => ?_⟩
      rw [tokIs_sign, decide_eq_true rfl] at R3 ⊢
      refine ⟨_, rfl, iteT ?_⟩
      have eL3 : H3 L = some (.lst vs) := b3 _ _ eL nLr
      obtain ⟨dx3, ob3⟩ := R3.ob
      refine ⟨_, rfl, .inl ⟨rfl, _, SqL.of eL3⟩, _, rfl, r, dx3, _, rfl, ob3, rfl, _, rfl, r, S, us, ts, _, _, deep, t, _, rfl, R3, ha3, sep_thF hF, hbm'.1, by omega, hd, by omega, fun v4 H4 b4 R4 d4 => ?_⟩
      have eL4 : H4 L = some (.lst vs) := b4 _ _ eL3 nLr
      have bL : But (Only1 L) H4 (upd H4 L (.lst (vs ++ [v4]))) := (But.refl _ _).put rfl
      try unfold tNil
      refine ⟨L, _, _, rfl, rfl, eL4, small1000 (by omega), ?_⟩
      obtain ⟨dx4, ob4⟩ := R4.ob
      refine ⟨⟨(b2.trans (b3.trans b4)).put0 hL0, done ++ [t], more, vs ++ [v4], j + 1 + (toksTh t).length, ?_, by simp, upd_same, ?_, ?_, at_drop ha3, ?_, hbm'.2, rfl⟩, ?_⟩
      · rw [eb, List.append_assoc]
        rfl
      · rw [thingsD_eq, List.map_append, ← thingsD_eq]
        have d34 := dps_skip eL4 bL (things_noL done) (dps_but ob3 b4 (dps_but ob2 b3 dvs))
        exact DpAll.snoc d34 (dp_skip eL4 bL (thing_noL t) d4)
      · rw [thingsC_snoc, show m + (thingsC done + thingC t) = m + thingsC done + thingC t by omega]
        refine ⟨⟨dx4, ?_⟩, ?_, ?_, R4.ok⟩
        · rw [upd_ne nLr.symm]
          exact ob4
        · have : S ≠ L := fun z => by
            have s0 := R.sg
            rw [z, hL0] at s0
            cases s0
          rw [upd_ne this]
          exact R4.sg
        · exact R4.tk.keep fun c xs e => (tup_put eL4) c xs e
      · have ls : (sepT (t :: more)).length = 1 + (toksTh t ++ sepT more).length := by
          show ([Tok.sign ";"] ++ toksB (t :: more)).length = _
          rw [toksB_cons, List.length_append]
          rfl
        rw [ls, List.length_append] at hj
        omega
      · show (match (upd H4 L (HO.lst (vs ++ [v4]))) L with | some (.lst vs) => 20 - vs.length | _ => 0) < (match H2 L with | some (.lst vs) => 20 - vs.length | _ => 0)
        rw [upd_same, eL]
        show 20 - (vs ++ [v4]).length < 20 - vs.length
        rw [List.length_append]
        show 20 - (vs.length + 1) < 20 - vs.length
        omega
  · rintro σ H Q Q' hQ ⟨v1, e1, v2, e2, y, e3, e4, e5, r', S', us', ts', i', m', t', k', z', g1, g2, g3, g4, g5, h⟩
    refine ⟨v1, e1, v2, e2, y, e3, e4, e5, r', S', us', ts', i', m', t', k', z', g1, g2, g3, g4, g5, fun H' b R => ?_⟩
    obtain ⟨c, ec, qc⟩ := h H' b R
    exact ⟨c, ec, hQ _ _ qc⟩
theorem rbody_all (T : Txt K mg) : ∀ f : Nat, FnOk P w K mg base CX0 (4 * f + 3) T.a_Reader_body T.d_Reader_body ["self", "deep"] (spRBody K T.c_Reader f)
  | 0 => by
    have no : ∀ vs H Q E, ¬ spRBody K T.c_Reader 0 vs H Q E := fun vs H Q E h => by
      obtain ⟨r, S, us, ts, i, m, deep, b, rest, _, _, _, _, _, _, _, h1, h2, _⟩ := h
      omega
    exact ⟨fun vs H Q E h => absurd h (no vs H Q E), fun A outer s H args us vs Q E _ _ _ _ h => absurd h (no vs H Q E)⟩
  | f + 1 => by
    have G1 := bracket_step T f (4 * f + 3) (by omega) (rbody_all T f)
    have G2 := going_step T f (4 * f + 4) (by omega) G1
    have G3 := choice_step T f (4 * f + 4) (by omega) G1
    have G4 := thing_step_r T f (4 * f + 4) (by omega) G1 G2 G3
    exact body_step_r T f (4 * f + 6) (by omega) G4
theorem ok_Reader_body (T : Txt K mg) : FnOk P w K mg base CX0 23 T.a_Reader_body T.d_Reader_body ["self", "deep"] (spRBody K T.c_Reader 5) := rbody_all T 5
def spRunOf : Sp := fun vs H Q _ => ∃ (x z : Str) (at_ : Nat), vs = [.str x, .int (at_ : Nat), .str z] ∧ at_ ≤ x.length ∧ x.length ≤ 1000000 ∧ Q (.int ((at_ + runFrom z.cps.toList (x.cps.toList.drop at_) : Nat) : Int)) H
theorem ok_run_of (T : Txt K mg) : FnOk P w K mg base CX0 1 T.a_run_of T.d_run_of ["text", "at", "some"] spRunOf := by
  refine T.F_run_of.ok sc_run_of (fun vs H Q E h => ?_) (fun cdv A outer s H vs Q E hr h => ?_)
  · obtain ⟨x, z, i, rfl, _⟩ := h
    rfl
  obtain ⟨x, z, i0, rfl, hi0, hx, k⟩ := h
  refine ⟨_, (pss_cons (ps_while PassesOwn.never (PW.pt (pw_and (pt_cmpR op_lt (pv 1) (pe_callB call_len_str (by rfl) T.z_len (by decide +kernel) (pa_cons (pv 0) pa_nil)) (nomark _)) (pw_and1 (pt_cmpR op_in_sign (pe_ix ix_str (pv 0) (pv 1) (fun _ _ => rfl)) (pv 2) (by rfl))))) (pss_one (ps_aug (i := 1) sc_run_of.nd rfl (Or.inl rfl) pe_int ip_add)))
      (pss_one (ps_ret (pv 1)))), ?_⟩
  have hxl : x.length ≤ sizeLine := Nat.le_trans hx (by decide)
  refine while_by (fun σ H' => H' = H ∧ ∃ i : Nat, σ = [some (.str x), some (.int (i : Nat)), some (.str z)] ∧ i ≤ x.length ∧ i + runFrom z.cps.toList (x.cps.toList.drop i) = i0 + runFrom z.cps.toList (x.cps.toList.drop i0)) (fun σ _ => match σ with | _ :: some (.int m) :: _ => x.length - m.toNat | _ => 0) ⟨rfl, i0, rfl, hi0, rfl⟩ ?_ ?_
  · rintro σ H1 ⟨rfl, i, rfl, hi, e⟩
    refine ⟨_, rfl, _, rfl, x, rfl, hxl, _, _, rfl, rfl, _, rfl, ?_⟩
    have xl : x.cps.toList.length = x.length := Array.length_toList
    refine ite2 (fun c => ?_) (fun c => ?_)
    · have c' : i < x.length := by
        have := of_decide_eq_true c
        omega
      have hg : x.cps.toList[i]? = some x.cps.toList[i] := List.getElem?_eq_getElem (by omega)
      have dr : x.cps.toList.drop i = x.cps.toList[i] :: x.cps.toList.drop (i + 1) := List.drop_eq_getElem_cons (by omega)
      refine ⟨_, rfl, _, rfl, x, _, _, rfl, rfl, hxl, atI_nat hg, _, rfl, _, _, rfl, rfl, _, rfl, ?_⟩
      refine ite2 (fun m => ?_) (fun m => ?_)
      · have m' : x.cps.toList[i] ∈ z.cps.toList := of_decide_eq_true m
        rw [dr, runFrom_pos m'] at e
        refine ⟨_, rfl, _, _, rfl, rfl, ⟨rfl, i + 1, rfl, by omega, by rw [← e]; omega⟩, ?_⟩
        show x.length - ((i : Int) + 1).toNat < x.length - ((i : Nat) : Int).toNat
        omega
      · have m' : ¬ x.cps.toList[i] ∈ z.cps.toList := fun q => m (decide_eq_true q)
        rw [dr, runFrom_neg m', Nat.add_zero] at e
        rw [← e] at k
        exact ⟨_, rfl, k⟩
    · have c' : ¬ i < x.length := fun q => c (decide_eq_true (by omega))
      have e0 : x.cps.toList.drop i = [] := List.drop_of_length_le (by omega)
      rw [e0] at e
      have e : i + 0 = _ := e
      rw [← e, Nat.add_zero] at k
      exact iteF ⟨_, rfl, k⟩
  · rintro σ H Q Q' hQ ⟨v1, e1, v2, e2, y, e3, e4, n1, n2, e5, e6, b, e7, q⟩
    refine ⟨v1, e1, v2, e2, y, e3, e4, n1, n2, e5, e6, b, e7, ?_⟩
    by_cases hb : b = true
    · rw [if_pos hb] at q ⊢
      obtain ⟨w1, f1, w2, f2, y2, f3, f4, f5, f6, f7, f8, w3, f9, g1, g2, g3, g4, b2, g5, q⟩ := q
      exact ⟨w1, f1, w2, f2, y2, f3, f4, f5, f6, f7, f8, w3, f9, g1, g2, g3, g4, b2, g5, hQ _ _ q⟩
    · rw [if_neg hb] at q ⊢
      exact hQ _ _ q
def spSignAt : Sp := fun vs H Q _ => ∃ (x : Str) (i L : Nat) (tok : Tok), vs = [.str x, .int (i : Nat)] ∧ i < x.length ∧ x.length ≤ 1000000 ∧ signAt (x.cps.toList.drop i) = some (tok, L) ∧
  ∀ p, H p = none → Q (.ref p) (upd H p (.tup [.str (kindT tok), tokV tok, .int ((i + L : Nat) : Int)]))
theorem cutS_nat (x : Str) (i j : Nat) (h1 : i ≤ j) (h2 : j ≤ x.length) : cutS x (some (i : Nat)) (some (j : Nat)) = ⟨((x.cps.toList.drop i).take (j - i)).toArray⟩ := by
  unfold cutS
  rw [HT.sIx_nat, HT.sIx_nat, Nat.min_eq_left h2, Nat.min_eq_left (Nat.le_trans h1 h2)]
theorem cutS_two (x : Str) (i : Nat) (h : i < x.length) : cutS x (some (i : Nat)) (some ((i + 2 : Nat) : Int)) = ⟨((x.cps.toList.drop i).take 2).toArray⟩ := by
  have dl : (x.cps.toList.drop i).length = x.length - i := by
    rw [List.length_drop, Array.length_toList]
    rfl
  unfold cutS
  rw [HT.sIx_nat, HT.sIx_nat, Nat.min_eq_left (Nat.le_of_lt h)]
  by_cases c : i + 2 ≤ x.length
  · rw [Nat.min_eq_left c, Nat.add_sub_cancel_left]
  · rw [Nat.min_eq_right (by omega), List.take_of_length_le (by omega), List.take_of_length_le (by omega)]
theorem le_two (l : List Nat) : (⟨l.toArray⟩ : Str) = "<=" ↔ l = [60, 61] := by
  constructor
  · intro h
    have h2 := congrArg (fun z : Str => z.cps.toList) h
    have h4 : (Str.ofString "<=").cps.toList = [60, 61] := by decide
    have h3 : l = (Str.ofString "<=").cps.toList := h2
    rw [h3, h4]
  · rintro rfl
    decide
theorem ok_sign_at (T : Txt K mg) : FnOk P w K mg base CX0 2 T.a_sign_at T.d_sign_at ["text", "at"] spSignAt := by
  refine T.F_sign_at.ok sc_sign_at (fun vs H Q E h => ?_) (fun cdv A outer s H vs Q E hr h => ?_)
  · obtain ⟨x, i, L, tok, rfl, _⟩ := h
    rfl
  obtain ⟨x, i, L, tok, rfl, hi, hx, hs, k⟩ := h
  refine ⟨_, (pss_cons (ps_if (pt_cmpR op_in_sign (pe_ix ix_str (pv 0) (pv 1) (fun _ _ => rfl)) (pe_glob rfl T.m_DIGITS T.r_DIGITS) (by rfl)) (pss_cons (ps_set (i := 2) sc_sign_at.nd rfl (Or.inl rfl) (pe_call (ok_run_of T) (hr.mono (by decide)) (by rfl) T.g_run_of T.F_run_of.kp T.b_run_of .nil pass0 (pa_cons (pv 0) (pa_cons (pv 1) (pa_cons (pe_glob rfl T.m_DIGITS T.r_DIGITS) pa_nil)))))
      (pss_cons (ps_if (PW.pt (pw_or (pt_cmpR op_gt (pe_op op_sub (pv 2) (pv 1)) pe_int (nomark _)) (pw_or1 (PW.pt (pw_and (pt_cmpR op_eq (pe_ix ix_str (pv 0) (pv 1) (fun _ _ => rfl)) pe_str (nomark _)) (pw_and1 (pt_cmpR op_gt (pe_op op_sub (pv 2) (pv 1)) pe_int (nomark _)))))))) (pss_one ps_never) pss_nil)
      (pss_one (ps_ret (pe_tup (pa_cons pe_str (pa_cons (pe_callTy call_int_str (by rfl) T.z_int (by decide +kernel) (pa_cons (pe_slice sl_str (pv 0) (po_some (pv 1)) (po_some (pv 2))) pa_nil)) (pa_cons (pv 2) pa_nil)))))))) pss_nil)
      (pss_cons (ps_if (pt_cmpR op_in_sign (pe_ix ix_str (pv 0) (pv 1) (fun _ _ => rfl)) (pe_glob rfl T.m_LETTERS T.r_LETTERS) (by rfl)) (pss_cons (ps_set (i := 2) sc_sign_at.nd rfl (Or.inl rfl) (pe_call (ok_run_of T) (hr.mono (by decide)) (by rfl) T.g_run_of T.F_run_of.kp T.b_run_of .nil pass0 (pa_cons (pv 0) (pa_cons (pv 1) (pa_cons (pe_glob rfl T.m_LETTERS T.r_LETTERS) pa_nil)))))
      (pss_cons (ps_if (pt_cmpR op_gt (pe_op op_sub (pv 2) (pv 1)) (pe_glob rfl T.m_LONGEST T.r_LONGEST) (nomark _)) (pss_one ps_never) pss_nil)
      (pss_one (ps_ret (pe_tup (pa_cons pe_str (pa_cons (pe_slice sl_str (pv 0) (po_some (pv 1)) (po_some (pv 2))) (pa_cons (pv 2) pa_nil)))))))) pss_nil)
      (pss_cons (ps_if (pt_cmpR op_eq (pe_slice sl_str (pv 0) (po_some (pv 1)) (po_some (pe_op op_add (pv 1) pe_int))) pe_str (nomark _)) (pss_one (ps_ret (pe_tup (pa_cons pe_str (pa_cons pe_str (pa_cons (pe_op op_add (pv 1) pe_int) pa_nil)))))) pss_nil)
      (pss_cons (ps_if (pt_cmpR op_notIn_sign (pe_ix ix_str (pv 0) (pv 1) (fun _ _ => rfl)) pe_str (by rfl)) (pss_one ps_never) pss_nil)
      (pss_one (ps_ret (pe_tup (pa_cons pe_str (pa_cons (pe_ix ix_str (pv 0) (pv 1) (fun _ _ => rfl)) (pa_cons (pe_op op_add (pv 1) pe_int) pa_nil)))))))))), ?_⟩
  have hxl : x.length ≤ sizeLine := Nat.le_trans hx (by decide)
  have xl : x.cps.toList.length = x.length := Array.length_toList
  have hg : x.cps.toList[i]? = some x.cps.toList[i] := List.getElem?_eq_getElem (by omega)
  have dr : x.cps.toList.drop i = x.cps.toList[i] :: x.cps.toList.drop (i + 1) := List.drop_eq_getElem_cons (by omega)
  have dl : (x.cps.toList.drop i).length = x.length - i := by rw [List.length_drop, xl]
  generalize hc : x.cps.toList[i] = c at hg dr
  have hs' := hs
  rw [signAt_eq dr] at hs'
  unfold signOf at hs'
  refine ⟨_, rfl, _, rfl, x, _, _, rfl, rfl, hxl, atI_nat hg, c, _, rfl, rfl, _, rfl, ?_⟩
  refine ite2 (fun c1 => ?_) (fun c1 => ?_)
  · have c1' : c ∈ digitsS.cps.toList := of_decide_eq_true c1
    rw [if_pos c1'] at hs'
    have rl := runFrom_le digitsS.cps.toList (x.cps.toList.drop i)
    have ra := fun {a} => runFrom_all (S := digitsS.cps.toList) (l := x.cps.toList.drop i) (c := a)
    have rp : 1 ≤ runFrom digitsS.cps.toList (x.cps.toList.drop i) := by
      rw [dr, runFrom_pos c1']
      omega
    refine ⟨_, rfl, _, rfl, x, digitsS, i, rfl, by omega, hx, ?_⟩
    generalize hR : runFrom digitsS.cps.toList (x.cps.toList.drop i) = R at hs' rl ra rp
    by_cases hbad : R > 2 ∨ (c = 48 ∧ R > 1)
    · rw [if_pos hbad] at hs'
      cases hs'
    rw [if_neg hbad] at hs'
    cases hs'
    have b1 : ¬ ((i + L : Nat) : Int) - (i : Nat) > 2 := by omega
    have sl640 : (⟨((x.cps.toList.drop i).take L).toArray⟩ : Str).length ≤ 640 := by
      show ((x.cps.toList.drop i).take L).toArray.size ≤ 640
      rw [List.size_toArray, List.length_take]
      omega
    refine ⟨_, rfl, _, rfl, _, _, rfl, rfl, _, _, rfl, rfl, _, rfl, ?_⟩
    rw [decide_eq_false b1]
    refine iteF ?_
    have hsl : cutS x (some (i : Nat)) (some ((i + L : Nat) : Int)) = ⟨((x.cps.toList.drop i).take L).toArray⟩ := by
      rw [cutS_nat x i (i + L) (by omega) (by omega), Nat.add_sub_cancel_left]
    have it : PySem.intText? (⟨((x.cps.toList.drop i).take L).toArray⟩ : Str) = some ((decVal ((x.cps.toList.drop i).take L) : Nat) : Int) := by
      have hl : ((x.cps.toList.drop i).take L).length = L := by rw [List.length_take]; omega
      match hm : (x.cps.toList.drop i).take L, hl with
      | [a], _ => exact dec_one a (ra (by rw [hm]; simp))
      | [a, b], _ => exact dec_two a (ra (by rw [hm]; simp)) b (ra (by rw [hm]; simp))
      | [], e => simp at e; omega
      | a :: b :: d :: r, e => simp at e; omega
    refine ⟨_, rfl, _, rfl, x, _, _, rfl, rfl, hxl, atI_nat hg, rfl, _, rfl, ?_⟩
    refine ite2 (fun c2 => ?_) (fun _ => iteF ?_)
    · have c48 : c = 48 := by
        have h := V.str.inj (of_decide_eq_true c2)
        have h2 := congrArg (fun z : Str => z.cps.toList) h
        have h3 : [c] = [48] := h2
        simpa using h3
      have b2 : ¬ ((i + L : Nat) : Int) - (i : Nat) > 1 := by
        intro z
        exact hbad (.inr ⟨c48, by omega⟩)
      refine ⟨_, rfl, _, rfl, _, _, rfl, rfl, _, _, rfl, rfl, _, rfl, ?_⟩
      rw [decide_eq_false b2]
      refine iteF ?_
      refine ⟨_, rfl, _, rfl, _, rfl, _, rfl, _, rfl, x, rfl, hxl, ?_⟩
      rw [hsl]
      exact ⟨_, _, rfl, it, sl640, _, rfl, by show 3 ≤ sizeLine; decide, fun p hp => k p hp⟩
    · refine ⟨_, rfl, _, rfl, _, rfl, _, rfl, _, rfl, x, rfl, hxl, ?_⟩
      rw [hsl]
      exact ⟨_, _, rfl, it, sl640, _, rfl, by show 3 ≤ sizeLine; decide, fun p hp => k p hp⟩
  · have c1' : ¬ c ∈ digitsS.cps.toList := fun z => c1 (decide_eq_true z)
    rw [if_neg c1'] at hs'
    refine ⟨_, rfl, _, rfl, x, _, _, rfl, rfl, hxl, atI_nat hg, c, _, rfl, rfl, _, rfl, ?_⟩
    refine ite2 (fun c2 => ?_) (fun c2 => ?_)
    · have c2' : c ∈ lettersS'.cps.toList := of_decide_eq_true c2
      rw [if_pos c2'] at hs'
      have rl := runFrom_le lettersS'.cps.toList (x.cps.toList.drop i)
      refine ⟨_, rfl, _, rfl, x, lettersS', i, rfl, by omega, hx, ?_⟩
      generalize hR : runFrom lettersS'.cps.toList (x.cps.toList.drop i) = R at hs' rl
      by_cases hbad : R > 8
      · rw [if_pos hbad] at hs'
        cases hs'
      rw [if_neg hbad] at hs'
      cases hs'
      have b1 : ¬ ((i + L : Nat) : Int) - (i : Nat) > 8 := by omega
      refine ⟨_, rfl, _, rfl, _, _, rfl, rfl, _, _, rfl, rfl, _, rfl, ?_⟩
      rw [decide_eq_false b1]
      refine iteF ?_
      have hsl : cutS x (some (i : Nat)) (some ((i + L : Nat) : Int)) = ⟨((x.cps.toList.drop i).take L).toArray⟩ := by
        rw [cutS_nat x i (i + L) (by omega) (by omega), Nat.add_sub_cancel_left]
      refine ⟨_, rfl, _, rfl, _, rfl, _, rfl, _, rfl, x, rfl, hxl, ?_⟩
      rw [hsl]
      exact ⟨_, rfl, by show 3 ≤ sizeLine; decide, fun p hp => k p hp⟩
    · have c2' : ¬ c ∈ lettersS'.cps.toList := fun z => c2 (decide_eq_true z)
      rw [if_neg c2'] at hs'
      refine ⟨_, rfl, _, rfl, _, rfl, _, rfl, _, _, rfl, rfl, _, rfl, x, rfl, hxl, rfl, _, rfl, ?_⟩
      have e2 : cutS x (some (i : Nat)) (some ((i : Int) + 2)) = ⟨((x.cps.toList.drop i).take 2).toArray⟩ := cutS_two x i hi
      rw [e2]
      refine ite2 (fun c3 => ?_) (fun c3 => ?_)
      · have c3' : (x.cps.toList.drop i).take 2 = [60, 61] := (le_two _).mp (V.str.inj (of_decide_eq_true c3))
        rw [if_pos c3'] at hs'
        cases hs'
        exact ⟨_, rfl, _, _, rfl, rfl, by show 3 ≤ sizeLine; decide, fun p hp => k p hp⟩
      · have c3' : ¬ (x.cps.toList.drop i).take 2 = [60, 61] := fun z => c3 (decide_eq_true (congrArg V.str ((le_two _).mpr z)))
        rw [if_neg c3'] at hs'
        refine ⟨_, rfl, _, rfl, x, _, _, rfl, rfl, hxl, atI_nat hg, c, _, rfl, rfl, _, rfl, ?_⟩
        by_cases c4 : c ∈ marksS.cps.toList
        · rw [if_pos c4] at hs'
          cases hs'
          rw [show (!decide (c ∈ (Str.ofString "();+-").cps.toList)) = false from congrArg Bool.not (decide_eq_true c4)]
          refine iteF ?_
          exact ⟨_, rfl, _, rfl, x, _, _, rfl, rfl, hxl, atI_nat hg, _, rfl, _, _, rfl, rfl, by show 3 ≤ sizeLine; decide, fun p hp => k p hp⟩
        · rw [if_neg c4] at hs'
          cases hs'
def spSignsOf : Sp := fun vs H Q _ => ∃ (x : Str) (f : Nat) (toks : List (Tok × Nat)), vs = [.str x] ∧ x.length ≤ 1000000 ∧ lexL f (runFrom [32] x.cps.toList) (x.cps.toList.drop (runFrom [32] x.cps.toList)) = some toks ∧
  ∀ (p : Addr) (us : List V) (H' : Hp), Same H H' → H p = none → H' p = some (.lst us) → ToksAt H' us toks → Q (.ref p) H'
theorem sp_set : (Str.ofString " ").cps.toList = [32] := by decide
theorem ok_signs_of (T : Txt K mg) : FnOk P w K mg base CX0 3 T.a_signs_of T.d_signs_of ["text"] spSignsOf := by
  refine T.F_signs_of.ok sc_signs_of (fun vs H Q E h => ?_) (fun cdv A outer s H vs Q E hr h => ?_)
  · obtain ⟨x, f, toks, rfl, _⟩ := h
    rfl
  obtain ⟨x, f, toks, rfl, hx, hlex, k⟩ := h
  refine ⟨_, (pss_cons (ps_set (i := 1) sc_signs_of.nd rfl (Or.inl rfl) (pe_lst pa_nil))
      (pss_cons (ps_set (i := 2) sc_signs_of.nd rfl (Or.inl rfl) (pe_call (ok_run_of T) (hr.mono (by decide)) (by rfl) T.g_run_of T.F_run_of.kp T.b_run_of .nil pass0 (pa_cons (pv 0) (pa_cons pe_int (pa_cons pe_str pa_nil)))))
      (pss_cons (ps_while PassesOwn.never (pt_cmpR op_lt (pv 2) (pe_callB call_len_str (by rfl) T.z_len (by decide +kernel) (pa_cons (pv 0) pa_nil)) (nomark _)) (pss_cons (ps_asg (pe_call (ok_sign_at T) (hr.mono (by decide)) (by rfl) T.g_sign_at T.F_sign_at.kp T.b_sign_at .nil pass0 (pa_cons (pv 0) (pa_cons (pv 2) pa_nil))) (pg_tup rfl (pgs_cons (pg_name (i := 3) sc_signs_of.nd rfl (Or.inl rfl)) (pgs_cons (pg_name (i := 4) sc_signs_of.nd rfl (Or.inl rfl)) (pgs_cons (pg_name (i := 5) sc_signs_of.nd rfl (Or.inl rfl)) pgs_nil)))))
      (pss_cons (ps_expr (pe_bm PySem.F.plainAttrs_list PySem.F.slot_list_append PySem.F.type_list_append mt_append (pv 1) (pa_cons (pe_tup (pa_cons (pv 3) (pa_cons (pv 4) (pa_cons (pv 2) pa_nil)))) pa_nil)))
      (pss_one (ps_set (i := 2) sc_signs_of.nd rfl (Or.inl rfl) (pe_call (ok_run_of T) (hr.mono (by decide)) (by rfl) T.g_run_of T.F_run_of.kp T.b_run_of .nil pass0 (pa_cons (pv 0) (pa_cons (pv 5) (pa_cons pe_str pa_nil)))))))))
      (pss_cons (ps_expr (pe_bm PySem.F.plainAttrs_list PySem.F.slot_list_append PySem.F.type_list_append mt_append (pv 1) (pa_cons (pe_tup (pa_cons pe_str (pa_cons pe_str (pa_cons (pe_callB call_len_str (by rfl) T.z_len (by decide +kernel) (pa_cons (pv 0) pa_nil)) pa_nil)))) pa_nil)))
      (pss_one (ps_ret (pv 1))))))), ?_⟩
  have hxl : x.length ≤ sizeLine := Nat.le_trans hx (by decide)
  have xl : x.cps.toList.length = x.length := Array.length_toList
  refine ⟨by show 0 ≤ sizeLine; decide, fun L hL => ?_⟩
  refine ⟨_, rfl, x, " ", 0, rfl, Nat.zero_le _, by omega, ?_⟩
  rw [List.drop_zero, sp_set, Nat.zero_add]
  have r0 := runFrom_le [32] x.cps.toList
  refine while_by (fun σ H' => Same H H' ∧ ∃ (i f : Nat) (vs : List V) (done more : List (Tok × Nat)) (v3 v4 v5 : Option V), H' L = some (.lst vs) ∧ ToksAt H' vs done ∧ done.length ≤ i ∧ i ≤ x.length ∧ lexL f i (x.cps.toList.drop i) = some more ∧ toks = done ++ more ∧ σ = [some (.str x), some (.ref L), some (.int (i : Nat)), v3, v4, v5])
    (fun σ _ => match σ with | _ :: _ :: some (.int m) :: _ => x.length - m.toNat | _ => 0) ⟨same_upd hL, _, f, [], [], toks, _, _, _, upd_same, .nil, Nat.zero_le _, by omega, hlex, rfl, rfl⟩ ?_ ?_
  · rintro σ H1 ⟨s1, i, f1, vs, done, more, v3, v4, v5, eL, ta, dl, hi, hle, ht, rfl⟩
    refine ⟨_, rfl, _, rfl, x, rfl, hxl, _, _, rfl, rfl, _, rfl, ?_⟩
    have ld : vs.length = done.length := Paired.length ta
    refine ite2 (fun c => ?_) (fun c => ?_)
    · have c' : i < x.length := by
        have := of_decide_eq_true c
        omega
      have dr : x.cps.toList.drop i = x.cps.toList[i] :: x.cps.toList.drop (i + 1) := List.drop_eq_getElem_cons (by omega)
      cases f1 with
      | zero => cases hle
      | succ f2 =>
        rw [dr] at hle
        unfold lexL at hle
        rw [← dr] at hle
        cases hsg : signAt (x.cps.toList.drop i) with
        | none =>
          rw [hsg] at hle
          cases hle
        | some tl =>
          obtain ⟨tok, n⟩ := tl
          rw [hsg] at hle
          obtain ⟨n1, n2⟩ := signAt_pos hsg
          rw [List.length_drop, xl] at n2
          have hle : (lexL f2 (i + n + runFrom [32] ((x.cps.toList.drop i).drop n)) (((x.cps.toList.drop i).drop n).drop (runFrom [32] ((x.cps.toList.drop i).drop n)))).map ((tok, i) :: ·) = some more := hle
          rw [List.drop_drop, List.drop_drop] at hle
          have rb := runFrom_le [32] (x.cps.toList.drop (i + n))
          rw [List.length_drop, xl] at rb
          cases hm : lexL f2 (i + n + runFrom [32] (x.cps.toList.drop (i + n))) (x.cps.toList.drop (i + n + runFrom [32] (x.cps.toList.drop (i + n)))) with
          | none => rw [hm] at hle; cases hle
          | some more2 =>
            rw [hm] at hle
            have hmore : more = (tok, i) :: more2 := (Option.some.inj hle).symm
            refine ⟨_, rfl, _, rfl, x, i, n, tok, rfl, c', by omega, hsg, fun p hp => ?_⟩
            have sp := same_upd (o := .tup [.str (kindT tok), tokV tok, .int ((i + n : Nat) : Int)]) hp
            refine ⟨p, _, rfl, SqT.of upd_same, rfl, _, _, rfl, _, _, rfl, _, _, rfl, rfl, ?_⟩
            have eL1 := sp _ _ eL
            refine ⟨_, rfl, .inl ⟨rfl, _, SqL.of eL1⟩, _, rfl, _, rfl, _, rfl, by show 3 ≤ sizeLine; decide, fun q hq => ?_⟩
            have sq := same_upd (o := .tup [.str (kindT tok), tokV tok, .int (i : Nat)]) hq
            have eL2 := sq _ _ eL1
            refine ⟨L, _, _, rfl, rfl, eL2, (Nat.lt_of_le_of_lt (m := 1000000) (by omega) (by decide)), ?_⟩
            refine ⟨_, rfl, _, rfl, x, " ", i + n, rfl, by omega, by omega, ?_⟩
            rw [sp_set]
            have s2 := (s1.trans sp).trans sq
            have nqL : q ≠ L := fun z => by rw [z, eL1] at hq; cases hq
            refine ⟨⟨same_put s2 hL, i + n + runFrom [32] (x.cps.toList.drop (i + n)), f2, vs ++ [.ref q], done ++ [(tok, i)], more2, some (.str (kindT tok)), some (tokV tok), some (.int ((i + n : Nat) : Int)), upd_same, ?_, ?_, by omega, hm, ?_, rfl⟩, ?_⟩
            · have tk := tup_put (o := .lst (vs ++ [.ref q])) eL2
              refine toks_snoc (ToksAt.keep (ta.keep fun b xs e => sq _ _ (sp _ _ e)) tk) ⟨q, rfl, ?_⟩
              rw [upd_ne nqL]
              exact upd_same
            · rw [List.length_append, List.length_singleton]
              omega
            · rw [ht, hmore, List.append_assoc]
              rfl
            · show x.length - ((i + n + runFrom [32] (x.cps.toList.drop (i + n)) : Nat) : Int).toNat < x.length - ((i : Nat) : Int).toNat
              omega
    · have c' : ¬ i < x.length := fun q => c (decide_eq_true (by omega))
      have e0 : x.cps.toList.drop i = [] := List.drop_of_length_le (by omega)
      rw [e0] at hle
      cases f1 with
      | zero => cases hle
      | succ f2 =>
        have hmore : more = [(Tok.fin, i)] := (Option.some.inj hle).symm
        have hix : i = x.length := by omega
        refine ⟨_, rfl, .inl ⟨rfl, _, SqL.of eL⟩, _, rfl, x, rfl, hxl, by show 3 ≤ sizeLine; decide, fun q hq => ?_⟩
        have sq := same_upd (o := .tup [.str "end", .str "", .int (x.length : Nat)]) hq
        have eL1 := sq _ _ eL
        have nqL : q ≠ L := fun z => by rw [z, eL] at hq; cases hq
        refine ⟨L, _, _, rfl, rfl, eL1, (Nat.lt_of_le_of_lt (m := 1000000) (by omega) (by decide)), ?_⟩
        refine ⟨_, rfl, k L (vs ++ [.ref q]) _ (same_put (s1.trans sq) hL) hL upd_same ?_⟩
        have tk := tup_put (o := .lst (vs ++ [.ref q])) eL1
        rw [ht, hmore]
        refine toks_snoc (ToksAt.keep (ta.keep fun b xs e => sq _ _ e) tk) ⟨q, rfl, ?_⟩
        rw [upd_ne nqL, hix]
        exact upd_same
  · rintro σ H Q Q' hQ ⟨v1, e1, v2, e2, y, e3, e4, n1, n2, e5, e6, b, e7, q⟩
    exact ⟨v1, e1, v2, e2, y, e3, e4, n1, n2, e5, e6, b, e7, hQ _ _ q⟩
theorem lex_ok : ∀ {f i : Nat} {l : List Nat} {ts : List (Tok × Nat)}, lexL f i l = some ts → ∀ t ∈ ts, TokOk t.1
  | 0, _, _, _, h => by cases h
  | f + 1, i, [], ts, h => by
    have e : ts = [(Tok.fin, i)] := (Option.some.inj h).symm
    rw [e]
    intro t ht
    rw [List.mem_singleton.mp ht]
    trivial
  | f + 1, i, c :: r, ts, h => by
    unfold lexL at h
    cases hs : signAt (c :: r) with
    | none => rw [hs] at h; cases h
    | some tl =>
      obtain ⟨tok, n⟩ := tl
      rw [hs] at h
      have h : (lexL f (i + n + runFrom [32] ((c :: r).drop n)) (((c :: r).drop n).drop (runFrom [32] ((c :: r).drop n)))).map ((tok, i) :: ·) = some ts := h
      cases hm : lexL f (i + n + runFrom [32] ((c :: r).drop n)) (((c :: r).drop n).drop (runFrom [32] ((c :: r).drop n))) with
      | none => rw [hm] at h; cases h
      | some more =>
        rw [hm] at h
        have e : ts = (tok, i) :: more := (Option.some.inj h).symm
        rw [e]
        intro t ht
        rcases List.mem_cons.mp ht with rfl | ht
        · have hs : signOf c (c :: r) = some (tok, n) := hs
          show TokOk tok
          unfold signOf at hs
          split at hs
          · split at hs
            · cases hs
            · cases hs
              trivial
          · split at hs
            · split at hs
              · cases hs
              · cases hs
                show PyData.strOk _ = true
                unfold PyData.strOk
                rw [← Array.all_toList, List.all_eq_true]
                intro a ha
                have hl : ∀ c ∈ lettersS'.cps.toList, c < 1114112 := by decide +kernel
                exact decide_eq_true (hl a (runFrom_all ha))
            · split at hs
              · cases hs
                exact strOk_of _
              · split at hs
                · rename_i hc
                  cases hs
                  have hl : ∀ c ∈ marksS.cps.toList, PyData.strOk (⟨#[c]⟩ : Str) = true := by decide +kernel
                  exact hl c hc
                · cases hs
        · exact lex_ok hm t ht
def spRInit (K : PySem.W.Frag) (C : Addr) : Sp := fun vs H Q _ => ∃ (r dx : Addr) (x : Str) (f : Nat) (toks : List (Tok × Nat)), vs = [.ref r, .str x] ∧ H r = some (.ins C dx []) ∧ x.length ≤ 1000000 ∧ lexL f (runFrom [32] x.cps.toList) (x.cps.toList.drop (runFrom [32] x.cps.toList)) = some toks ∧
  ∀ H' S us, But (Only1 r) H H' → Rdr H' r C S us toks 0 0 → Q .non H'
theorem ok_Reader_init (T : Txt K mg) : FnOk P w K mg base CX0 4 T.a_Reader_init T.d_Reader_init ["self", "text"] (spRInit K T.c_Reader) := by
  refine T.F_Reader_init.ok sc_Reader_init (fun vs H Q E h => ?_) (fun cdv A outer s H vs Q E hr h => ?_)
  · obtain ⟨r, dx, x, f, toks, rfl, _⟩ := h
    rfl
  obtain ⟨r, dx, x, f, toks, rfl, ob, hx, hlex, q⟩ := h
  refine ⟨_, (pss_cons (ps_fld (pv 0) (pe_call (ok_signs_of T) (hr.mono (by decide)) (by rfl) T.g_signs_of T.F_signs_of.kp T.b_signs_of .nil pass0 (pa_cons (pv 1) pa_nil)) rfl)
      (pss_cons (ps_fld (pv 0) pe_int rfl)
      (pss_one (ps_fld (pv 0) pe_int rfl)))), ?_⟩
  refine ⟨_, rfl, x, f, toks, rfl, hx, hlex, fun p us H1 s1 hp ep tk => ?_⟩
  have ob1 := s1 _ _ ob
  refine ⟨_, rfl, r, _, dx, _, rfl, ob1, T.cl_Reader, T.na_Reader_signs, by show 0 < 1000; decide, ?_⟩
  refine ⟨_, rfl, r, _, dx, _, rfl, upd_same, T.cl_Reader, T.na_Reader_spot, by show 1 < 1000; decide, ?_⟩
  refine ⟨_, rfl, r, _, dx, _, rfl, upd_same, T.cl_Reader, T.na_Reader_many, by show 2 < 1000; decide, ?_⟩
  have npr : p ≠ r := fun z => by rw [z, ob1] at ep; cases ep
  refine q _ p us ((((same_but (M := Only1 r) s1).put rfl).put rfl).put rfl) ⟨⟨dx, upd_same⟩, ?_, ?_, lex_ok hlex⟩
  · rw [upd_ne npr, upd_ne npr, upd_ne npr]
    exact ep
  · refine tk.keep fun c xs e => ?_
    have ncr : c ≠ r := fun z => by rw [z, ob1] at e; cases e
    rw [upd_ne ncr, upd_ne ncr, upd_ne ncr]
    exact e
/-- the plan that a text writes -/
def spReadPlan (K : PySem.W.Frag) : Sp := fun vs H Q _ => ∃ (x : Str) (f : Nat) (toks : List (Tok × Nat)) (b : List Thing), vs = [.str x] ∧ x.length ≤ 1000000 ∧ lexL f (runFrom [32] x.cps.toList) (x.cps.toList.drop (runFrom [32] x.cps.toList)) = some toks ∧ toks.map Prod.fst = toksB b ++ [.fin] ∧ RdB b 0 ∧ b ≠ [] ∧ thingsC b ≤ 12 ∧
  ∀ v H', Same H H' → Dp K H' v (planD b) → Q v H'
theorem ok_read_plan (T : Txt K mg) : FnOk P w K mg base CX0 24 T.a_read_plan T.d_read_plan ["text"] (spReadPlan K) := by
  refine T.F_read_plan.ok sc_read_plan (fun vs H Q E h => ?_) (fun cdv A outer s H vs Q E hr h => ?_)
  · obtain ⟨x, f, toks, b, rfl, _⟩ := h
    rfl
  obtain ⟨x, f, toks, b, rfl, hx, hlex, ht, hb, hne, hc, q⟩ := h
  refine ⟨_, (pss_cons (ps_set (i := 1) sc_read_plan.nd rfl (Or.inl rfl) (pe_make T.mk_Reader (ok_Reader_init T) (hr.mono (by decide)) (by rfl) T.gc_Reader T.b_Reader_init .nil pass0 (pa_cons (pv 0) pa_nil)))
      (pss_cons (ps_set (i := 2) sc_read_plan.nd rfl (Or.inl rfl) (pe_meth (pv 1) T.cl_Reader T.me_Reader_body (ok_Reader_body T) (hr.mono (by decide)) T.b_Reader_body .nil pass0 (pa_cons pe_int pa_nil)))
      (pss_cons (ps_expr (pe_meth (pv 1) T.cl_Reader T.me_Reader_want (ok_Reader_want T) (hr.mono (by decide)) T.b_Reader_want .nil pass0 (pa_cons pe_str (pa_cons pe_str pa_nil))))
      (pss_one (ps_ret (pv 2)))))), ?_⟩
  refine ⟨_, rfl, fun r dx nr ndx ne => ?_⟩
  refine ⟨r, dx, x, f, toks, rfl, upd_same, hx, hlex, fun H1 S us b1 R1 => ⟨rfl, ?_⟩⟩
  have s0 : Same H (upd (upd H dx (.own r)) r (.ins T.c_Reader dx [])) := fun c o e => by
    rw [upd_ne (ne_of_none e nr), upd_ne (ne_of_none e ndx)]
    exact e
  have bs : ∀ {H' : Hp}, But (Only1 r) (upd (upd H dx (.own r)) r (.ins T.c_Reader dx [])) H' → Same H H' := fun b c o e => b _ _ (s0 _ _ e) (fun z => by
    rw [show c = r from z, nr] at e
    cases e)
  obtain ⟨dx1, ob1⟩ := R1.ob
  have ha : At toks 0 (toksB b ++ [.fin]) := ht
  refine ⟨_, rfl, r, dx1, _, rfl, ob1, rfl, r, S, us, toks, 0, 0, 0, b, [.fin], rfl, R1, ha, ⟨(fun z => by cases z), (fun z => by cases z), (fun z => by cases z), (fun z => by cases z)⟩, hb, hne, by omega, by decide, by decide, fun v H2 b2 R2 dv => ?_⟩
  obtain ⟨dx2, ob2⟩ := R2.ob
  obtain ⟨pos, ht2, _⟩ := at_cons (at_drop ha)
  refine ⟨_, rfl, r, dx2, _, rfl, ob2, rfl, r, S, us, toks, _, _, _, "end", "", rfl, R2, ht2, strOk_of _, strOk_of _, tokIs_iff.mpr ⟨rfl, rfl⟩, fun H3 b3 R3 => ?_⟩
  exact ⟨_, rfl, q _ _ (bs (b1.trans (b2.trans b3))) (dp_but ob2 b3 dv)⟩
/-- blanks put in -/
def spSpaced : Sp := fun vs H Q _ => ∃ (d l : Addr) (x : Str), vs = [.ref d, .str x] ∧ DrawAt H d l ∧ x.length ≤ 40000 ∧
  ∀ (y : Str) (H' : Hp) (a b : Nat) (m : List Nat), But (Only1 d) H H' → DrawAt H' d l → chs y = rep a ++ (m ++ rep b) → Spd (chs x) m → y.length ≤ 4 * x.length + 3 → Q (.str y) H'
theorem chs_len (x : Str) : (chs x).length = x.length := Array.length_toList
theorem ok_law_spaced (T : Txt K mg) : FnOk P w K mg base CX0 2 T.a_law_spaced T.d_law_spaced ["_law_draw", "_law_text"] spSpaced := by
  refine T.F_law_spaced.ok sc_law_spaced (fun vs H Q E h => ?_) (fun cdv A outer s H vs Q E hr h => ?_)
  · obtain ⟨d, l, x, rfl, _⟩ := h
    rfl
  obtain ⟨d, l, x, rfl, D, hx, k⟩ := h
  refine ⟨_, (pss_cons (ps_set (i := 2) sc_law_spaced.nd rfl (Or.inl rfl) pe_str)
      (pss_cons (ps_for PassesOwn.never rfl (pi_str (pv 1)) (pg_name (i := 3) sc_law_spaced.nd rfl (Or.inl rfl)) (C8.pss_cut (ps_if (pt_cmpR op_in_sign (pv 3) pe_str (by rfl)) (pss_one (ps_set (i := 3) sc_law_spaced.nd rfl (Or.inl rfl) (pe_op op_add_str (pe_op op_add_str (pe_op op_repB pe_str (pe_call (ok_law_take T) (hr.mono (by decide)) (by rfl) T.g_law_take T.F_law_take.kp T.b_law_take .nil pass0 (pa_cons (pv 0) (pa_cons pe_int pa_nil)))) (pv 3)) (pe_op op_repB pe_str (pe_call (ok_law_take T) (hr.mono (by decide)) (by rfl) T.g_law_take T.F_law_take.kp T.b_law_take .nil pass0 (pa_cons (pv 0) (pa_cons pe_int pa_nil))))))) pss_nil)
      (pss_one (ps_set (i := 2) sc_law_spaced.nd rfl (Or.inl rfl) (pe_op op_add_str (pv 2) (pe_ifExp (pt_cmpR op_ne (pv 3) pe_str (nomark _)) (pv 3) (pe_op op_repB pe_str (pe_op op_add pe_int (pe_call (ok_law_take T) (hr.mono (by decide)) (by rfl) T.g_law_take T.F_law_take.kp T.b_law_take .nil pass0 (pa_cons (pv 0) (pa_cons pe_int pa_nil)))))))))))
      (pss_one (ps_ret (pe_op op_add_str (pe_op op_add_str (pe_op op_repB pe_str (pe_call (ok_law_take T) (hr.mono (by decide)) (by rfl) T.g_law_take T.F_law_take.kp T.b_law_take .nil pass0 (pa_cons (pv 0) (pa_cons pe_int pa_nil)))) (pv 2)) (pe_op op_repB pe_str (pe_call (ok_law_take T) (hr.mono (by decide)) (by rfl) T.g_law_take T.F_law_take.kp T.b_law_take .nil pass0 (pa_cons (pv 0) (pa_cons pe_int pa_nil))))))))), ?_⟩
  have one : 0 < (Str.ofString " ").length := by decide
  have l1 : (Str.ofString " ").length = 1 := by decide
  -- ' ' * a draw below n
  have bl : ∀ (n : Int) (H1 : Hp) (Q' : VK), DrawAt H1 d l → 0 < n → n < 10 → (∀ (a : Nat) (H2 : Hp), (a : Int) < n → But (Only1 d) H1 H2 → DrawAt H2 d l → Q' (.str (repS " " a)) H2) →
      spTake [.ref d, .int n] H1 (fun v H2 => rRepB (.str " ") v H2 Q') E0 := fun n H1 Q' D1 n0 n1 q => by
    refine ⟨d, l, n, rfl, D1, n0, Int.lt_trans n1 (by decide), fun r H2 r0 r1 D2 b2 => ?_⟩
    refine ⟨" ", r, rfl, rfl, r0, Int.lt_trans r1 (Int.lt_trans n1 (by decide)), one, ?_, ?_, q r.toNat H2 (by omega) b2 D2⟩
    · rw [l1, Nat.one_mul]
      exact Nat.le_trans (show r.toNat ≤ 10 by omega) (by decide)
    · rw [repS_blank_len]
      exact Nat.le_trans (show r.toNat ≤ 10 by omega) (by decide)
  refine ⟨_, rfl, x, rfl, for_it walk_str (fun i σ H' => But (Only1 d) H H' ∧ DrawAt H' d l ∧ ∃ (f : Str) (v3 : Option V), f.length ≤ 4 * i ∧ Spd ((chs x).take i) (chs f) ∧ σ = [some (.ref d), some (.str x), some (.str f), v3]) ⟨But.refl _ _, D, "", none, by decide, by rw [List.take_zero]; exact .nil, rfl⟩ (fun _ _ _ _ _ => trivial) ?_ ?_⟩
  · rintro i y σ H1 H2 hi ⟨b1, D1, f, v3, hf, sp, rfl⟩ ⟨rfl, c, hc, rfl⟩
    have hc' : (chs x)[i]? = some c := by
      show x.cps.toList[i]? = some c
      rw [Array.getElem?_toList]
      exact hc
    have hi' : i < x.length := hi
    have te : (chs x).take (i + 1) = (chs x).take i ++ [c] := by rw [List.take_add_one, hc']; rfl
    refine ⟨fun σ H' => But (Only1 d) H H' ∧ DrawAt H' d l ∧ ∃ (sg : Str), sg.length ≤ 4 ∧ ((sg = ⟨#[c]⟩ ∧ ¬ c ∈ marksS.cps.toList) ∨ (SpStep c (chs sg) ∧ sg ≠ " ")) ∧ σ = [some (.ref d), some (.str x), some (.str f), some (.str sg)], ?_, ?_⟩
    · refine ⟨_, rfl, c, _, rfl, rfl, _, rfl, ?_⟩
      refine ite2 (fun m => ?_) (fun m => ?_)
      · have m' : c ∈ marksS.cps.toList := of_decide_eq_true m
        refine ⟨_, rfl, bl 2 _ _ D1 (by decide) (by decide) fun a H3 a1 b3 D3 => ?_⟩
        refine ⟨_, rfl, _, _, rfl, rfl, ?_, ?_⟩
        · show (repS " " a).length + 1 ≤ 16777216
          rw [repS_blank_len]
          omega
        refine ⟨_, rfl, bl 3 _ _ D3 (by decide) (by decide) fun b H4 b1' b4 D4 => ?_⟩
        refine ⟨_, _, rfl, rfl, ?_, ?_⟩
        · show (repS " " a ++ ⟨#[c]⟩).length + (repS " " b).length ≤ 16777216
          rw [str_len, repS_blank_len, repS_blank_len]
          show a + 1 + b ≤ 16777216
          omega
        have ec : chs (repS " " a ++ ⟨#[c]⟩ ++ repS " " b) = rep a ++ ([c] ++ rep b) := by
          rw [chs_app, chs_app, show chs (repS " " a) = rep a from repS_blank a, show chs (repS " " b) = rep b from repS_blank b, List.append_assoc]
          rfl
        refine ⟨b1.trans (b3.trans b4), D4, _, ?_, .inr ⟨.inl ⟨m', a, b, ec⟩, fun e => ?_⟩, rfl⟩
        · rw [str_len, str_len, repS_blank_len, repS_blank_len]
          show a + 1 + b ≤ 4
          omega
        · have e2 := congrArg chs e
          rw [ec] at e2
          have hm : c ∈ chs " " := by rw [← e2]; simp
          rw [show chs " " = [32] by decide] at hm
          exact (marks_all c m').1 (List.mem_singleton.mp hm)
      · exact ⟨b1, D1, _, by show 1 ≤ 4; decide, .inl ⟨rfl, fun z => m (decide_eq_true z)⟩, rfl⟩
    rintro σ H3 ⟨b3, D3, sg, hsg, hs, rfl⟩
    have put : ∀ (z : Str) (H4 : Hp), But (Only1 d) H H4 → DrawAt H4 d l → z.length ≤ 4 → SpStep c (chs z) → (f.length + z.length ≤ 16777216) ∧ (But (Only1 d) H H4 ∧ DrawAt H4 d l ∧ ∃ (f' : Str) (v3 : Option V), f'.length ≤ 4 * (i + 1) ∧ Spd ((chs x).take (i + 1)) (chs f') ∧ [some (V.ref d), some (V.str x), some (V.str (f ++ z)), some (V.str sg)] = [some (.ref d), some (.str x), some (.str f'), v3]) := fun z H4 b4 D4 hz st => by
      refine ⟨by omega, b4, D4, f ++ z, _, ?_, ?_, rfl⟩
      · rw [str_len]
        omega
      · rw [te, chs_app]
        exact sp.snoc st
    refine ⟨_, rfl, _, rfl, rfl, _, rfl, ?_⟩
    by_cases e : sg = " "
    · subst e
      rcases hs with ⟨e1, e2⟩ | ⟨_, e1⟩
      · have c32 : c = 32 := by
          have := congrArg chs e1
          rw [show chs " " = [32] by decide] at this
          exact (List.cons.inj this).1.symm
        rw [show (!decide (V.str " " = V.str " ")) = false by simp]
        refine iteF ?_
        refine ⟨_, rfl, d, l, 2, rfl, D3, by decide, by decide, fun r H4 r0 r1 D4 b4 => ?_⟩
        refine ⟨_, _, rfl, rfl, " ", 1 + r, rfl, rfl, by omega, Int.lt_trans (show 1 + r < 10 by omega) (by decide), one, ?_, ?_, ?_⟩
        · rw [l1, Nat.one_mul]
          exact Nat.le_trans (show (1 + r).toNat ≤ 10 by omega) (by decide)
        · rw [repS_blank_len]
          exact Nat.le_trans (show (1 + r).toNat ≤ 10 by omega) (by decide)
        obtain ⟨q1, q2⟩ := put (repS " " (1 + r).toNat) H4 (b3.trans b4) D4 (by rw [repS_blank_len]; omega) (.inr (.inl ⟨c32, r.toNat, by rw [show chs (repS " " (1 + r).toNat) = rep (1 + r).toNat from repS_blank _, show (1 + r).toNat = r.toNat + 1 by omega]⟩))
        exact ⟨_, _, rfl, rfl, q1, q2⟩
      · exact absurd rfl e1
    · have ne : (!decide (V.str sg = V.str " ")) = true := by
        rw [str_no e]
        rfl
      rw [ne]
      refine iteT ?_
      have st : SpStep c (chs sg) := by
        rcases hs with ⟨e1, e2⟩ | ⟨e1, _⟩
        · refine .inr (.inr ⟨e2, fun z => ?_, by rw [e1]; rfl⟩)
          subst z
          exact e (by rw [e1]; decide)
        · exact e1
      obtain ⟨q1, q2⟩ := put sg H3 b3 D3 hsg st
      exact ⟨_, rfl, _, _, rfl, rfl, q1, q2⟩
  · rintro σ H1 ⟨b1, D1, f, v3, hf, sp, rfl⟩
    have hf : f.length ≤ 4 * x.length := hf
    have sp : Spd (chs x) (chs f) := by
      have e : (chs x).take x.length = chs x := List.take_of_length_le (by rw [chs_len]; exact Nat.le_refl _)
      rw [← e]
      exact sp
    refine ⟨_, rfl, bl 2 _ _ D1 (by decide) (by decide) fun a H3 a1 b3 D3 => ?_⟩
    refine ⟨_, rfl, _, _, rfl, rfl, ?_, ?_⟩
    · show (repS " " a).length + f.length ≤ 16777216
      rw [repS_blank_len]
      omega
    refine ⟨_, rfl, bl 3 _ _ D3 (by decide) (by decide) fun b H4 b1' b4 D4 => ?_⟩
    refine ⟨_, _, rfl, rfl, ?_, ?_⟩
    · show (repS " " a ++ f).length + (repS " " b).length ≤ 16777216
      rw [str_len, repS_blank_len, repS_blank_len]
      omega
    refine k _ _ a b (chs f) (b1.trans (b3.trans b4)) D4 ?_ sp ?_
    · rw [chs_app, chs_app, show chs (repS " " a) = rep a from repS_blank a, show chs (repS " " b) = rep b from repS_blank b, List.append_assoc]
    · rw [str_len, str_len, repS_blank_len, repS_blank_len]
      omega
theorem ok_law_end_text (T : Txt K mg) : FnOk P w K mg base CX0 1 T.a_law_end_text T.d_law_end_text ["_law_end"] (spEndText K) := by
  refine T.F_law_end_text.ok sc_law_end_text (fun vs H Q E h => ?_) (fun cdv A outer s H vs Q E hr h => ?_)
  · obtain ⟨v, e, rfl, _⟩ := h
    rfl
  obtain ⟨v, e, rfl, de, es, k⟩ := h
  obtain ⟨a, x, y, rfl, hs, dx, dy⟩ := de.tup2
  cases dx.str'
  cases dy.int'
  refine ⟨_, (pss_cons (ps_if (pt_cmpR op_eq (pe_ix ix_tup (pv 0) pe_int (fun _ _ => rfl)) pe_str (nomark _)) (pss_one (ps_ret (pe_callTy call_str_int (by rfl) T.z_str (by decide +kernel) (pa_cons (pe_ix ix_tup (pv 0) pe_int (fun _ _ => rfl)) pa_nil)))) pss_nil)
      (pss_cons (ps_if (pt_cmpR op_eq (pe_ix ix_tup (pv 0) pe_int (fun _ _ => rfl)) pe_int (nomark _)) (pss_one (ps_ret (pe_ix ix_tup (pv 0) pe_int (fun _ _ => rfl)))) pss_nil)
      (pss_one (ps_ret (pe_op op_add_str (pe_op op_add_str (pe_ix ix_tup (pv 0) pe_int (fun _ _ => rfl)) (pe_ix ix_list (pe_lst (pa_cons pe_str (pa_cons pe_str pa_nil))) (pe_callTy call_int1 (by rfl) T.z_int (by decide +kernel) (pa_cons (pe_cmpR op_lt (pe_ix ix_tup (pv 0) pe_int (fun _ _ => rfl)) pe_int (nomark _)) pa_nil)) (fun _ _ => rfl))) (pe_callTy call_str_int (by rfl) T.z_str (by decide +kernel) (pa_cons (pe_callB call_abs (by rfl) T.z_abs (by decide +kernel) (pa_cons (pe_ix ix_tup (pv 0) pe_int (fun _ _ => rfl)) pa_nil)) pa_nil))))))), ?_⟩
  have l1 := es.1.1
  have c1 : (Str.ofString " + ").length = 3 := by decide
  have c2 : (Str.ofString " - ").length = 3 := by decide
  have i0 : atI [V.str e.1, V.int e.2] 0 = some (.str e.1) := rfl
  have i1 : atI [V.str e.1, V.int e.2] 1 = some (.int e.2) := rfl
  refine ⟨_, rfl, a, _, _, _, rfl, rfl, hs, i0, rfl, _, rfl, ?_⟩
  unfold endT at k
  refine ite2 (fun c => ?_) (fun c => ?_)
  · have c' : e.1 = "" := V.str.inj (of_decide_eq_true c)
    rw [if_pos c'] at k
    exact ⟨_, rfl, a, _, _, _, rfl, rfl, hs, i1, _, rfl, Nat.lt_trans es.2 (by decide), k _ (Same.refl _)⟩
  have c' : ¬ e.1 = "" := fun z => c (decide_eq_true (congrArg V.str z))
  rw [if_neg c'] at k
  refine ⟨_, rfl, a, _, _, _, rfl, rfl, hs, i1, rfl, _, rfl, ?_⟩
  refine ite2 (fun d => ?_) (fun d => ?_)
  · have d' : e.2 = 0 := V.int.inj (of_decide_eq_true d)
    rw [if_pos d'] at k
    exact ⟨_, rfl, a, _, _, _, rfl, rfl, hs, i0, k _ (Same.refl _)⟩
  have d' : ¬ e.2 = 0 := fun z => d (decide_eq_true (congrArg V.int z))
  rw [if_neg d'] at k
  refine ⟨_, rfl, a, _, _, _, rfl, rfl, hs, i0, by show 2 ≤ sizeLine; decide, fun L hL => ?_⟩
  have s1 := same_upd (o := .lst [.str " + ", .str " - "]) hL
  have hs1 := same_t s1 hs
  obtain ⟨z, hz, hk, hz3⟩ : ∃ z : Str, atI [V.str " + ", V.str " - "] (if decide (e.2 < 0) = true then 1 else 0) = some (.str z) ∧ (if 0 < e.2 then e.1 ++ " + " ++ num e.2 else e.1 ++ " - " ++ num (0 - e.2)) = e.1 ++ z ++ num (if e.2 < 0 then -e.2 else e.2) ∧ z.length = 3 := by
    by_cases p : 0 < e.2
    · rw [if_pos p, if_neg (show ¬ e.2 < 0 by omega), decide_eq_false (show ¬ e.2 < 0 by omega)]
      exact ⟨_, rfl, rfl, by decide⟩
    · rw [if_neg p, if_pos (show e.2 < 0 by omega), decide_eq_true (show e.2 < 0 by omega), show 0 - e.2 = -e.2 by omega]
      exact ⟨_, rfl, rfl, by decide⟩
  rw [hk] at k
  have lg : (if e.2 < 0 then -e.2 else e.2).natAbs.log2 < 400 := by
    split
    · rw [Int.natAbs_neg]
      exact es.2
    · exact es.2
  have l3 := num_len' lg
  refine ⟨_, rfl, a, _, _, _, rfl, rfl, hs1, i1, _, _, rfl, rfl, .inr ⟨_, rfl, L, _, _, _, rfl, rfl, SqL.of upd_same, hz, _, _, rfl, rfl, (by show _ ≤ 16777216; (try simp only [str_len, str_e0]); omega), _, rfl, a, _, _, _, rfl, rfl, hs1, i1, _, rfl, _, rfl, Nat.lt_trans lg (by decide), _, _, rfl, rfl, (by show _ ≤ 16777216; (try simp only [str_len, str_e0]); omega), k _ s1⟩⟩
theorem law_thing_text_step (T : Txt K mg) (f : Nat) (G_law_written : FnOk P w K mg base CX0 (2 * f + 3) T.a_law_written T.d_law_written ["_law_plan"] (spPlanText K f)) :
    FnOk P w K mg base CX0 (2 * f + 4) T.a_law_thing_text T.d_law_thing_text ["_law_thing"] (spThingText K (f + 1)) := by
  refine T.F_law_thing_text.ok sc_law_thing_text (fun vs H Q E h => ?_) (fun cdv A outer s H vs Q E hr h => ?_)
  · obtain ⟨v, t, rfl, _⟩ := h
    rfl
  obtain ⟨v, t, rfl, dt, ts, hc, hc2, k⟩ := h
  refine ⟨_, (pss_cons (ps_set (i := 1) sc_law_thing_text.nd rfl (Or.inl rfl) (pe_ix ix_tup (pv 0) pe_int (fun _ _ => rfl)))
      (pss_cons (ps_if (pt_cmpR op_eq (pv 1) pe_str (nomark _)) (pss_one (ps_ret (pe_op op_add_str pe_str (pe_callTy call_str_int (by rfl) T.z_str (by decide +kernel) (pa_cons (pe_ix ix_tup (pv 0) pe_int (fun _ _ => rfl)) pa_nil))))) pss_nil)
      (pss_cons (ps_if (pt_cmpR op_eq (pv 1) pe_str (nomark _)) (pss_one (ps_ret (pe_op op_add_str (pe_op op_add_str pe_str (pe_call G_law_written (hr.mono (by omega)) (by rfl) T.g_law_written T.F_law_written.kp T.b_law_written .nil pass0 (pa_cons (pe_ix ix_tup (pv 0) pe_int (fun _ _ => rfl)) pa_nil))) pe_str))) pss_nil)
      (pss_cons (ps_if (pt_cmpR op_eq (pv 1) pe_str (nomark _)) (pss_one (ps_ret (pe_op op_add_str (pe_op op_add_str (pe_op op_add_str pe_str (pe_ix ix_tup (pv 0) pe_int (fun _ _ => rfl))) pe_str) (pe_call (ok_law_end_text T) (hr.mono (by omega)) (by rfl) T.g_law_end_text T.F_law_end_text.kp T.b_law_end_text .nil pass0 (pa_cons (pe_ix ix_tup (pv 0) pe_int (fun _ _ => rfl)) pa_nil))))) pss_nil)
      (pss_cons (ps_if (pt_cmpR op_eq (pv 1) pe_str (nomark _)) (pss_one (ps_ret (pe_op op_add_str (pe_op op_add_str (pe_op op_add_str pe_str (pe_callTy call_str_int (by rfl) T.z_str (by decide +kernel) (pa_cons (pe_ix ix_tup (pv 0) pe_int (fun _ _ => rfl)) pa_nil))) pe_str) (pe_ix ix_tup (pv 0) pe_int (fun _ _ => rfl))))) pss_nil)
      (pss_cons (ps_if (pt_cmpR op_eq (pv 1) pe_str (nomark _)) (pss_cons (ps_set (i := 2) sc_law_thing_text.nd rfl (Or.inl rfl) (pe_op op_add_str (pe_op op_add_str (pe_op op_add_str (pe_op op_add_str (pe_op op_add_str pe_str (pe_ix ix_tup (pv 0) pe_int (fun _ _ => rfl))) pe_str) (pe_call (ok_law_end_text T) (hr.mono (by omega)) (by rfl) T.g_law_end_text T.F_law_end_text.kp T.b_law_end_text .nil pass0 (pa_cons (pe_ix ix_tup (pv 0) pe_int (fun _ _ => rfl)) pa_nil))) pe_str) (pe_call (ok_law_end_text T) (hr.mono (by omega)) (by rfl) T.g_law_end_text T.F_law_end_text.kp T.b_law_end_text .nil pass0 (pa_cons (pe_ix ix_tup (pv 0) pe_int (fun _ _ => rfl)) pa_nil))))
      (pss_one (ps_ret (pe_op op_add_str (pe_op op_add_str (pe_op op_add_str (pv 2) pe_str) (pe_call G_law_written (hr.mono (by omega)) (by rfl) T.g_law_written T.F_law_written.kp T.b_law_written .nil pass0 (pa_cons (pe_ix ix_tup (pv 0) pe_int (fun _ _ => rfl)) pa_nil))) pe_str)))) pss_nil)
      (pss_cons (ps_set (i := 3) sc_law_thing_text.nd rfl (Or.inl rfl) (pe_op op_add_str (pe_op op_add_str (pe_op op_add_str (pe_op op_add_str (pe_op op_add_str (pe_op op_add_str pe_str (pe_call (ok_law_end_text T) (hr.mono (by omega)) (by rfl) T.g_law_end_text T.F_law_end_text.kp T.b_law_end_text .nil pass0 (pa_cons (pe_ix ix_tup (pv 0) pe_int (fun _ _ => rfl)) pa_nil))) pe_str) (pe_call (ok_law_end_text T) (hr.mono (by omega)) (by rfl) T.g_law_end_text T.F_law_end_text.kp T.b_law_end_text .nil pass0 (pa_cons (pe_ix ix_tup (pv 0) pe_int (fun _ _ => rfl)) pa_nil))) pe_str) (pe_call G_law_written (hr.mono (by omega)) (by rfl) T.g_law_written T.F_law_written.kp T.b_law_written .nil pass0 (pa_cons (pe_ix ix_tup (pv 0) pe_int (fun _ _ => rfl)) pa_nil))) pe_str))
      (pss_one (ps_ret (pe_ifExp (pt_cmpR (op_eqD hr.units) (pe_ix ix_tup (pv 0) pe_int (fun _ _ => rfl)) (pe_tup pa_nil) (nomark _)) (pv 3) (pe_op op_add_str (pe_op op_add_str (pe_op op_add_str (pv 3) pe_str) (pe_call G_law_written (hr.mono (by omega)) (by rfl) T.g_law_written T.F_law_written.kp T.b_law_written .nil pass0 (pa_cons (pe_ix ix_tup (pv 0) pe_int (fun _ _ => rfl)) pa_nil))) pe_str))))))))))), ?_⟩
  have q := s_len1
  have tl := thingT_len ts
  have tl2 : (thingT t).length ≤ 100000 := by omega
  cases t with
  | step n =>
    rw [thingD] at dt
    rw [ThS] at ts
    obtain ⟨a, xs, rfl, hs, hd⟩ := dt.tup'
    obtain ⟨x0, r0, rfl, h0, hd⟩ := hd.c
    obtain ⟨x1, r1, rfl, h1, hd⟩ := hd.c
    cases hd.n
    cases h0.str'
    cases h1.int'
    refine ⟨_, rfl, a, _, _, _, rfl, rfl, hs, (rfl : atI [V.str "step", V.int n] 0 = some (V.str "step")), ?_⟩
    refine ⟨_, rfl, rfl, _, rfl, ?_⟩
    rw [dec_tt]
    refine iteT ?_
    have k := k _ (Same.refl _)
    rw [thingT] at k
    have l1 := num_len' ts
    exact ⟨_, rfl, a, _, _, _, rfl, rfl, hs, (rfl : atI [V.str "step", V.int n] 1 = some (V.int n)), _, rfl, Nat.lt_trans ts (by decide), _, _, rfl, rfl, (by show _ ≤ 16777216; (try simp only [str_len, str_e0]); omega), k⟩
  | double b =>
    rw [thingD] at dt
    rw [ThS] at ts
    obtain ⟨a, xs, rfl, hs, hd⟩ := dt.tup'
    obtain ⟨x0, r0, rfl, h0, hd⟩ := hd.c
    obtain ⟨x1, r1, rfl, h1, hd⟩ := hd.c
    cases hd.n
    cases h0.str'
    refine ⟨_, rfl, a, _, _, _, rfl, rfl, hs, (rfl : atI [V.str "double", x1] 0 = some (V.str "double")), ?_⟩
    refine ⟨_, rfl, rfl, _, rfl, ?_⟩
    rw [dec_ff (by decide)]
    refine iteF ?_
    refine ⟨_, rfl, rfl, _, rfl, ?_⟩
    rw [dec_tt]
    refine iteT ?_
    rw [thingC] at hc hc2
    have pl := planT_len ts
    refine ⟨_, rfl, a, _, _, _, rfl, rfl, hs, (rfl : atI [V.str "double", x1] 1 = some x1), x1, b, rfl, h1, ts, by omega, by omega, fun H2 s2 => ?_⟩
    have k := k _ s2
    rw [thingT] at k
    exact ⟨_, _, rfl, rfl, (by show _ ≤ 16777216; (try simp only [str_len, str_e0]); omega), _, _, rfl, rfl, (by show _ ≤ 16777216; (try simp only [str_len, str_e0]); omega), k⟩
  | call nm e =>
    rw [thingD] at dt
    rw [ThS] at ts
    obtain ⟨a, xs, rfl, hs, hd⟩ := dt.tup'
    obtain ⟨x0, r0, rfl, h0, hd⟩ := hd.c
    obtain ⟨x1, r1, rfl, h1, hd⟩ := hd.c
    obtain ⟨x2, r2, rfl, h2, hd⟩ := hd.c
    cases hd.n
    cases h0.str'
    cases h1.str'
    refine ⟨_, rfl, a, _, _, _, rfl, rfl, hs, (rfl : atI [V.str "call", V.str nm, x2] 0 = some (V.str "call")), ?_⟩
    refine ⟨_, rfl, rfl, _, rfl, ?_⟩
    rw [dec_ff (by decide)]
    refine iteF ?_
    refine ⟨_, rfl, rfl, _, rfl, ?_⟩
    rw [dec_ff (by decide)]
    refine iteF ?_
    refine ⟨_, rfl, rfl, _, rfl, ?_⟩
    rw [dec_tt]
    refine iteT ?_
    have l1 := ts.1.1
    have l2 := endT_len ts.2
    refine ⟨_, rfl, a, _, _, _, rfl, rfl, hs, (rfl : atI [V.str "call", V.str nm, x2] 1 = some (V.str nm)), _, _, rfl, rfl, (by show _ ≤ 16777216; (try simp only [str_len, str_e0]); omega), _, _, rfl, rfl, (by show _ ≤ 16777216; (try simp only [str_len, str_e0]); omega), _, rfl, a, _, _, _, rfl, rfl, hs, (rfl : atI [V.str "call", V.str nm, x2] 2 = some x2), x2, e, rfl, h2, ts.2, fun H2 s2 => ?_⟩
    have k := k _ s2
    rw [thingT] at k
    exact ⟨_, _, rfl, rfl, (by show _ ≤ 16777216; (try simp only [str_len, str_e0]); omega), k⟩
  | again n z =>
    rw [thingD] at dt
    rw [ThS] at ts
    obtain ⟨a, xs, rfl, hs, hd⟩ := dt.tup'
    obtain ⟨x0, r0, rfl, h0, hd⟩ := hd.c
    obtain ⟨x1, r1, rfl, h1, hd⟩ := hd.c
    obtain ⟨x2, r2, rfl, h2, hd⟩ := hd.c
    cases hd.n
    cases h0.str'
    cases h1.int'
    cases h2.str'
    refine ⟨_, rfl, a, _, _, _, rfl, rfl, hs, (rfl : atI [V.str "again", V.int n, V.str z] 0 = some (V.str "again")), ?_⟩
    refine ⟨_, rfl, rfl, _, rfl, ?_⟩
    rw [dec_ff (by decide)]
    refine iteF ?_
    refine ⟨_, rfl, rfl, _, rfl, ?_⟩
    rw [dec_ff (by decide)]
    refine iteF ?_
    refine ⟨_, rfl, rfl, _, rfl, ?_⟩
    rw [dec_ff (by decide)]
    refine iteF ?_
    refine ⟨_, rfl, rfl, _, rfl, ?_⟩
    rw [dec_tt]
    refine iteT ?_
    have k := k _ (Same.refl _)
    rw [thingT] at k
    have l1 := num_len' ts.1
    have l2 := ts.2.1
    exact ⟨_, rfl, a, _, _, _, rfl, rfl, hs, (rfl : atI [V.str "again", V.int n, V.str z] 1 = some (V.int n)), n, rfl, Nat.lt_trans ts.1 (by decide), _, _, rfl, rfl, (by show _ ≤ 16777216; (try simp only [str_len, str_e0]); omega), _, _, rfl, rfl, (by show _ ≤ 16777216; (try simp only [str_len, str_e0]); omega), _, rfl, a, _, _, _, rfl, rfl, hs, (rfl : atI [V.str "again", V.int n, V.str z] 2 = some (V.str z)), _, _, rfl, rfl, (by show _ ≤ 16777216; (try simp only [str_len, str_e0]); omega), k⟩
  | loop nm e1 e2 b =>
    rw [thingD] at dt
    rw [ThS] at ts
    obtain ⟨a, xs, rfl, hs, hd⟩ := dt.tup'
    obtain ⟨x0, r0, rfl, h0, hd⟩ := hd.c
    obtain ⟨x1, r1, rfl, h1, hd⟩ := hd.c
    obtain ⟨x2, r2, rfl, h2, hd⟩ := hd.c
    obtain ⟨x3, r3, rfl, h3, hd⟩ := hd.c
    obtain ⟨x4, r4, rfl, h4, hd⟩ := hd.c
    cases hd.n
    cases h0.str'
    cases h1.str'
    refine ⟨_, rfl, a, _, _, _, rfl, rfl, hs, (rfl : atI [V.str "for", V.str nm, x2, x3, x4] 0 = some (V.str "for")), ?_⟩
    refine ⟨_, rfl, rfl, _, rfl, ?_⟩
    rw [dec_ff (by decide)]
    refine iteF ?_
    refine ⟨_, rfl, rfl, _, rfl, ?_⟩
    rw [dec_ff (by decide)]
    refine iteF ?_
    refine ⟨_, rfl, rfl, _, rfl, ?_⟩
    rw [dec_ff (by decide)]
    refine iteF ?_
    refine ⟨_, rfl, rfl, _, rfl, ?_⟩
    rw [dec_ff (by decide)]
    refine iteF ?_
    refine ⟨_, rfl, rfl, _, rfl, ?_⟩
    rw [dec_tt]
    refine iteT ?_
    rw [thingC] at hc hc2
    obtain ⟨tn, t1, t2, tb⟩ := ts
    have l0 := tn.1
    have l1 := endT_len t1
    have l2 := endT_len t2
    have pl := planT_len tb
    refine ⟨_, rfl, a, _, _, _, rfl, rfl, hs, (rfl : atI [V.str "for", V.str nm, x2, x3, x4] 1 = some (V.str nm)), _, _, rfl, rfl, (by show _ ≤ 16777216; (try simp only [str_len, str_e0]); omega), _, _, rfl, rfl, (by show _ ≤ 16777216; (try simp only [str_len, str_e0]); omega), _, rfl, a, _, _, _, rfl, rfl, hs, (rfl : atI [V.str "for", V.str nm, x2, x3, x4] 2 = some x2), x2, e1, rfl, h2, t1, fun H2 s2 => ?_⟩
    have hs2 := same_t s2 hs
    refine ⟨_, _, rfl, rfl, (by show _ ≤ 16777216; (try simp only [str_len, str_e0]); omega), _, _, rfl, rfl, (by show _ ≤ 16777216; (try simp only [str_len, str_e0]); omega), _, rfl, a, _, _, _, rfl, rfl, hs2, (rfl : atI [V.str "for", V.str nm, x2, x3, x4] 3 = some x3), x3, e2, rfl, h3.mono s2, t2, fun H3 s3 => ?_⟩
    have hs3 := same_t s3 hs2
    refine ⟨_, _, rfl, rfl, (by show _ ≤ 16777216; (try simp only [str_len, str_e0]); omega), _, rfl, _, _, rfl, rfl, (by show _ ≤ 16777216; (try simp only [str_len, str_e0]); omega), _, rfl, a, _, _, _, rfl, rfl, hs3, (rfl : atI [V.str "for", V.str nm, x2, x3, x4] 4 = some x4), x4, b, rfl, (h4.mono s2).mono s3, tb, by omega, by omega, fun H4 s4 => ?_⟩
    have k := k _ ((s2.trans s3).trans s4)
    rw [thingT] at k
    exact ⟨_, _, rfl, rfl, (by show _ ≤ 16777216; (try simp only [str_len, str_e0]); omega), _, _, rfl, rfl, (by show _ ≤ 16777216; (try simp only [str_len, str_e0]); omega), k⟩
  | test e1 e2 b1 b2 =>
    rw [thingD] at dt
    rw [ThS] at ts
    obtain ⟨a, xs, rfl, hs, hd⟩ := dt.tup'
    obtain ⟨x0, r0, rfl, h0, hd⟩ := hd.c
    obtain ⟨x1, r1, rfl, h1, hd⟩ := hd.c
    obtain ⟨x2, r2, rfl, h2, hd⟩ := hd.c
    obtain ⟨x3, r3, rfl, h3, hd⟩ := hd.c
    obtain ⟨x4, r4, rfl, h4, hd⟩ := hd.c
    cases hd.n
    cases h0.str'
    refine ⟨_, rfl, a, _, _, _, rfl, rfl, hs, (rfl : atI [V.str "if", x1, x2, x3, x4] 0 = some (V.str "if")), ?_⟩
    refine ⟨_, rfl, rfl, _, rfl, ?_⟩
    rw [dec_ff (by decide)]
    refine iteF ?_
    refine ⟨_, rfl, rfl, _, rfl, ?_⟩
    rw [dec_ff (by decide)]
    refine iteF ?_
    refine ⟨_, rfl, rfl, _, rfl, ?_⟩
    rw [dec_ff (by decide)]
    refine iteF ?_
    refine ⟨_, rfl, rfl, _, rfl, ?_⟩
    rw [dec_ff (by decide)]
    refine iteF ?_
    refine ⟨_, rfl, rfl, _, rfl, ?_⟩
    rw [dec_ff (by decide)]
    refine iteF ?_
    rw [thingC] at hc hc2
    obtain ⟨t1, t2, tb1, tb2⟩ := ts
    have l1 := endT_len t1
    have l2 := endT_len t2
    have pl1 := planT_len tb1
    have pl2 := planT_len tb2
    refine ⟨_, rfl, a, _, _, _, rfl, rfl, hs, (rfl : atI [V.str "if", x1, x2, x3, x4] 1 = some x1), x1, e1, rfl, h1, t1, fun H2 s2 => ?_⟩
    have hs2 := same_t s2 hs
    refine ⟨_, _, rfl, rfl, (by show _ ≤ 16777216; (try simp only [str_len, str_e0]); omega), _, _, rfl, rfl, (by show _ ≤ 16777216; (try simp only [str_len, str_e0]); omega), _, rfl, a, _, _, _, rfl, rfl, hs2, (rfl : atI [V.str "if", x1, x2, x3, x4] 2 = some x2), x2, e2, rfl, h2.mono s2, t2, fun H3 s3 => ?_⟩
    have hs3 := same_t s3 hs2
    refine ⟨_, _, rfl, rfl, (by show _ ≤ 16777216; (try simp only [str_len, str_e0]); omega), _, _, rfl, rfl, (by show _ ≤ 16777216; (try simp only [str_len, str_e0]); omega), _, rfl, a, _, _, _, rfl, rfl, hs3, (rfl : atI [V.str "if", x1, x2, x3, x4] 3 = some x3), x3, b1, rfl, (h3.mono s2).mono s3, tb1, by omega, by omega, fun H4 s4 => ?_⟩
    have hs4 := same_t s4 hs3
    have s14 := (s2.trans s3).trans s4
    refine ⟨_, _, rfl, rfl, (by show _ ≤ 16777216; (try simp only [str_len, str_e0]); omega), _, _, rfl, rfl, (by show _ ≤ 16777216; (try simp only [str_len, str_e0]); omega), ?_⟩
    refine ⟨_, rfl, a, _, _, _, rfl, rfl, hs4, (rfl : atI [V.str "if", x1, x2, x3, x4] 4 = some x4), by show 0 ≤ sizeLine; decide, fun Z hZ => ?_⟩
    have sZ := same_upd (o := .tup []) hZ
    refine ⟨planD b2, .tuple [], (h4.mono s14).mono sZ, .tup (xs := []) (SqT.of upd_same) .nil, shaped_plan tb2 (by omega), by decide, _, rfl, ?_⟩
    rw [eqv_plan]
    have k := fun H5 s => k H5 ((s14.trans sZ).trans s)
    rw [thingT] at k
    refine ite2 (fun c => ?_) (fun c => ?_)
    · rw [if_pos c] at k
      exact ⟨_, rfl, k _ (Same.refl _)⟩
    · rw [if_neg c] at k
      refine ⟨_, rfl, _, _, rfl, rfl, (by show _ ≤ 16777216; (try simp only [str_len, str_e0]); omega), _, rfl, a, _, _, _, rfl, rfl, same_t sZ hs4, (rfl : atI [V.str "if", x1, x2, x3, x4] 4 = some x4), x4, b2, rfl, (h4.mono s14).mono sZ, tb2, by omega, by omega, fun H5 s5 => ?_⟩
      exact ⟨_, _, rfl, rfl, (by show _ ≤ 16777216; (try simp only [str_len, str_e0]); omega), _, _, rfl, rfl, (by show _ ≤ 16777216; (try simp only [str_len, str_e0]); omega), k H5 s5⟩
theorem law_written_step (T : Txt K mg) (f : Nat) (G_law_thing_text : FnOk P w K mg base CX0 (2 * f + 2) T.a_law_thing_text T.d_law_thing_text ["_law_thing"] (spThingText K f)) :
    FnOk P w K mg base CX0 (2 * f + 3) T.a_law_written T.d_law_written ["_law_plan"] (spPlanText K f) := by
  refine T.F_law_written.ok sc_law_written (fun vs H Q E h => ?_) (fun cdv A outer s H vs Q E hr h => ?_)
  · obtain ⟨v, t, rfl, _⟩ := h
    rfl
  obtain ⟨v, b, rfl, db, bs, hc, hc2, k⟩ := h
  refine ⟨_, (pss_one (ps_ret (pe_join pe_str (pe_lc (own := [("_law_thing", 1)]) (g := gName 1) (tt := tYes) rfl sc_law_written.nd (pi_tup (pv 0)) (blkOk_by (N := N_law_written) (sc := defScope s_law_written) (by decide +kernel)) (fun _ _ _ _ _ => (pg_name (i := 1) sc_law_written.nd rfl (Or.inl rfl))) (fun _ _ _ _ _ => pts_nil) (fun _ _ _ _ _ => (pe_call G_law_thing_text (hr.mono (by omega)) (by rfl) T.g_law_thing_text T.F_law_thing_text.kp T.b_law_thing_text .nil pass0 (pa_cons (pv 1) pa_nil))))))), ?_⟩
  obtain ⟨a, us, rfl, hs, hd⟩ := db.tup'
  rw [thingsD_eq] at hd
  have lu : us.length = b.length := by
    have := hd.length
    rw [List.length_map] at this
    exact this
  have cl := thingsC_len b
  refine ⟨⟨_, rfl⟩, _, rfl, a, rfl, ⟨us, hs⟩, fun R hR => ?_⟩
  refine lc_pure (walk_tup (xs := us)) (fun j => .str ((b.map thingT).getD j Str.empty)) (by omega) hR (fun H' sm => same_t sm hs) ?_ ?_
  · rintro j y H8 H9 Q' hj s8 ⟨rfl, hy⟩ kq
    obtain ⟨t, ht, dt⟩ := DpAll.at_ hd hy
    rw [getD_of' (r := thingT t) (by rw [List.getElem?_map, ht]; rfl)] at kq
    have hm := List.mem_of_getElem? ht
    have hcm := thingC_mem hm
    refine ⟨rfl, ?_⟩
    exact ⟨_, rfl, y, t, rfl, dt.mono s8, bs.mem hm, by omega, by omega, kq⟩
  intro H8 s8 eR
  have e8 : H8 R = some (.lst ((b.map thingT).map V.str)) := by
    rw [eR, lu, ← List.length_map (f := thingT)]
    show some (HO.lst ((List.range _).map (V.str ∘ fun j => (b.map thingT).getD j Str.empty))) = _
    rw [← List.map_map, range_getD]
  have ps := planSum bs
  refine ⟨_, R, b.map thingT, rfl, rfl, .inl (SqL.of e8), ?_, ?_⟩
  · have e1 : (Str.ofString "; ").length = 2 := by decide
    rw [List.length_map, e1]
    omega
  · rw [← planT_eq]
    exact k _ s8
theorem law_thing_text_all (T : Txt K mg) : ∀ f : Nat, FnOk P w K mg base CX0 (2 * f + 2) T.a_law_thing_text T.d_law_thing_text ["_law_thing"] (spThingText K f)
  | 0 => by
    have no : ∀ vs H Q E, ¬ spThingText K 0 vs H Q E := fun vs H Q E h => by
      obtain ⟨v, t, _, _, _, h1, _⟩ := h
      have := thingC_pos t
      omega
    exact ⟨fun vs H Q E h => absurd h (no vs H Q E), fun A outer s H args us vs Q E _ _ _ _ h => absurd h (no vs H Q E)⟩
  | f + 1 => law_thing_text_step T f (law_written_step T f (law_thing_text_all T f))
theorem ok_law_written (T : Txt K mg) : FnOk P w K mg base CX0 33 T.a_law_written T.d_law_written ["_law_plan"] (spPlanText K 15) := law_written_step T 15 (law_thing_text_all T 15)
theorem loose_lex {b : List Thing} {y z : Str} {a c : Nat} {m : List Nat} (hne : b ≠ []) (hb : RdB b 0) (e : chs y = rep a ++ (m ++ rep c)) (s : Spd (chs (planT b)) m) (hz : z = "<=" ∨ z = " <= " ∨ z = "<= ") :
    ∃ f ts, lexL f (runFrom [32] (Txt.replace y " <= " z).cps.toList) ((Txt.replace y " <= " z).cps.toList.drop (runFrom [32] (Txt.replace y " <= " z).cps.toList)) = some ts ∧ ts.map Prod.fst = toksB b ++ [.fin] := by
  have w := wr_body hne hb
  have e0 : chs (planT b) = flat (lay true (toksB b)) := by rw [w.flat]; rfl
  have f0 : fine (lay true (toksB b)) := lay_fine _ _ w.good
  rw [e0] at s
  obtain ⟨h, k, wd, rfl⟩ := spd_flat f0 s
  have f1 := wd.fine f0
  have s1 := wd.snd
  rw [lay_snd] at s1
  obtain ⟨p, q, ez⟩ : ∃ p q, chs z = rep p ++ ([60, 61] ++ rep q) := by
    rcases hz with rfl | rfl | rfl
    · exact ⟨0, 0, by decide⟩
    · exact ⟨1, 1, by decide⟩
    · exact ⟨0, 1, by decide⟩
  have er : (Txt.replace y " <= " z).cps.toList = PySem.StrLaws.replL leY (rep p ++ ([60, 61] ++ rep q)) (chs y) := by
    rw [PySem.StrLaws.replace_list (by decide), show z.cps.toList = rep p ++ ([60, 61] ++ rep q) from ez, show (Str.ofString " <= ").cps.toList = leY by decide]
    rfl
  cases h with
  | nil =>
    have : toksB b = [] := s1.symm
    cases hq : b with
    | nil => exact absurd hq hne
    | cons t r =>
      rw [hq, toksB_cons] at this
      have := (List.append_eq_nil_iff.mp this).1
      cases t <;> simp [toksTh] at this
  | cons g1 g2 =>
    obtain ⟨n, t⟩ := g1
    have e1 : chs y = flat ((a + n, t) :: g2) ++ rep (k + c) := by
      rw [e]
      show rep a ++ (((rep n ++ (tokC t ++ flat g2)) ++ rep k) ++ rep c) = (rep (a + n) ++ (tokC t ++ flat g2)) ++ rep (k + c)
      simp only [← rep_add, List.append_assoc]
    obtain ⟨h', j, q1, q2, q3, _⟩ := repl_flat p q _ ((a + n, t) :: g2) (k + c) (Nat.le_refl _) (fine_gap f1)
    rw [er, e1, q1]
    obtain ⟨ts, h1, h2⟩ := lex_flat j h' 0 q3
    rw [Nat.zero_add] at h1
    refine ⟨_, ts, h1, ?_⟩
    rw [h2, q2, ← s1]
    rfl
/-- a plan written with more blanks, or none -/
def spLoose (K : PySem.W.Frag) : Sp := fun vs H Q _ => ∃ (d l : Addr) (v : V) (b : List Thing), vs = [.ref d, v] ∧ DrawAt H d l ∧ Dp K H v (planD b) ∧ BdS b ∧ RdB b 0 ∧ b ≠ [] ∧ thingsC b ≤ 12 ∧
  ∀ (y : Str) (H' : Hp), But (Only1 d) H H' → DrawAt H' d l → y.length ≤ 1000000 → (∃ f ts, lexL f (runFrom [32] y.cps.toList) (y.cps.toList.drop (runFrom [32] y.cps.toList)) = some ts ∧ ts.map Prod.fst = toksB b ++ [.fin]) → Q (.str y) H'
theorem ok_law_loose (T : Txt K mg) : FnOk P w K mg base CX0 35 T.a_law_loose T.d_law_loose ["_law_draw", "_law_plan"] (spLoose K) := by
  refine fun_okT T.F_law_loose sc_law_loose (by decide +kernel) (by decide) (fun vs H Q E h => ?_) (fun cdv A outer s H vs Q E hr h => ?_)
  · obtain ⟨d, l, v, b, rfl, _⟩ := h
    rfl
  obtain ⟨d, l, v, b, rfl, D, dv, bs, rb, hne, hc, k⟩ := h
  refine ⟨_, psst_cons (PST.of (ps_set (i := 2) sc_law_loose.nd rfl (Or.inl rfl) (pe_call (ok_law_spaced T) (hr.mono (by decide)) (by rfl) T.g_law_spaced T.F_law_spaced.kp T.b_law_spaced .nil pass0 (pa_cons (pv 0) (pa_cons (pe_call (ok_law_written T) (hr.mono (by decide)) (by rfl) T.g_law_written T.F_law_written.kp T.b_law_written .nil pass0 (pa_cons (pv 1) pa_nil)) pa_nil)))))
    (CwR.psst_one (CwR.pst_ret (pet_replPick (CwR.PET.of (pv 2)) (pe_call (ok_law_take T) (hr.mono (by decide)) (by rfl) T.g_law_take T.F_law_take.kp T.b_law_take .nil pass0 (pa_cons (pv 0) (pa_cons pe_int pa_nil))) T.nb (hs := fun _ _ => rfl)))), ?_⟩
  have tl := planT_len bs
  refine ⟨_, rfl, _, rfl, v, b, rfl, dv, bs, by omega, by omega, fun H1 s1 => ?_⟩
  refine ⟨d, l, planT b, rfl, D.mono s1, by omega, fun y H2 a c m b2 D2 ey sp ly => ?_⟩
  refine ⟨_, rfl, y, rfl, fun z hz => ?_, fun L o hL => ?_⟩
  · have : z.length ≤ 4 := by
      simp only [List.mem_cons, List.not_mem_nil, or_false] at hz
      rcases hz with rfl | rfl | rfl <;> decide
    have h2 : (y.length + 1) * z.length ≤ (y.length + 1) * 4 := Nat.mul_le_mul_left _ this
    omega
  have sL := same_upd (o := .frz o (.lst [.str "<=", .str " <= ", .str "<= "])) hL
  refine ⟨_, rfl, d, l, 3, rfl, D2.mono sL, by decide, by decide, fun r H3 r0 r1 D3 b3 => ?_⟩
  have eL := b3 _ _ upd_same (D2.ned hL)
  have hr : r.toNat < 3 := by omega
  obtain ⟨z, hz, hm⟩ : ∃ z, [Str.ofString "<=", Str.ofString " <= ", Str.ofString "<= "][r.toNat]? = some z ∧ (z = "<=" ∨ z = " <= " ∨ z = "<= ") := by
    match r.toNat, hr with
    | 0, _ => exact ⟨_, rfl, .inl rfl⟩
    | 1, _ => exact ⟨_, rfl, .inr (.inl rfl)⟩
    | 2, _ => exact ⟨_, rfl, .inr (.inr rfl)⟩
  refine ⟨r.toNat, z, by rw [show ((r.toNat : Nat) : Int) = r by omega], eL, hz, ?_⟩
  refine k _ _ (((same_but s1).trans b2).trans ((same_but sL).trans b3)) D3 ?_ (loose_lex hne rb ey sp hm)
  have lz : z.length ≤ 4 := by rcases hm with rfl | rfl | rfl <;> decide
  have h1 := TK.replace_len y " <= " z
  have h2 : (y.length + 1) * z.length ≤ (y.length + 1) * 4 := Nat.mul_le_mul_left _ lz
  omega
def LV : Nat := 40
def spLaw (K : PySem.W.Frag) : Sp := fun vs H Q _ => ∃ (a : Addr) (ns : List Int), vs = [.ref a] ∧ SqL K H a (ns.map V.int) ∧ ns.length ≤ 63 ∧ ∀ H', Q (.bl true) H'
instance decTok : DecidablePred TokG := fun t => match t with
  | .num n => inferInstanceAs (Decidable (n ≤ 99))
  | .word w => inferInstanceAs (Decidable (1 ≤ w.length ∧ w.length ≤ 8 ∧ ∀ c ∈ w.cps.toList, 97 ≤ c ∧ c ≤ 122))
  | .sign z => inferInstanceAs (Decidable (z = "(" ∨ z = ")" ∨ z = ";" ∨ z = "+" ∨ z = "-" ∨ z = "<="))
  | .fin => inferInstanceAs (Decidable False)
instance decFine : DecidablePred fine := fun g => go g
where
  go : (g : List (Nat × Tok)) → Decidable (fine g)
  | [] => inferInstanceAs (Decidable True)
  | [g] => inferInstanceAs (Decidable (TokG g.2))
  | g :: h :: r => @instDecidableAnd _ _ (decTok g.2) (@instDecidableAnd _ _ (inferInstanceAs (Decidable (h.1 = 0 → ¬ (isLet g.2 = true ∧ isLet h.2 = true) ∧ ¬ (isNum g.2 = true ∧ isNum h.2 = true)))) (go (h :: r)))
theorem rdB_app : ∀ {a b : List Thing} {deep : Nat}, RdB a deep → RdB b deep → RdB (a ++ b) deep
  | [], b, deep, _, h => h
  | t :: r, b, deep, h1, h2 => by
    rw [RdB] at h1
    rw [List.cons_append, RdB]
    exact ⟨h1.1, rdB_app h1.2 h2⟩
theorem ok_law (T : Txt K mg) : FnOk P w K mg base CX0 LV T.a_law T.d_law ["_law_script"] (spLaw K) := by
  refine T.F_law.ok sc_law (fun vs H Q E h => ?_) (fun cdv A outer s H vs Q E hr h => ?_)
  · obtain ⟨a, ns, rfl, _⟩ := h
    rfl
  obtain ⟨a, ns, rfl, hS, hl, k⟩ := h
  refine ⟨_, (pss_cons (ps_set (i := 1) sc_law.nd rfl (Or.inl rfl) (pe_call (ok_law_begin T) (hr.mono (by decide)) (by rfl) T.g_law_begin T.F_law_begin.kp T.b_law_begin .nil pass0 (pa_cons (pv 0) pa_nil)))
      (pss_cons (ps_for PassesOwn.never rfl (pi_range1 (by rfl) T.z_range (pa_cons pe_int pa_nil)) (pg_name (i := 2) sc_law.nd rfl (Or.inl rfl)) (pss_cons (ps_set (i := 3) sc_law.nd rfl (Or.inl rfl) (pe_call (ok_law_drawn T) (hr.mono (by decide)) (by rfl) T.g_law_drawn T.F_law_drawn.kp T.b_law_drawn .nil pass0 (pa_cons (pv 1) (pa_cons pe_int (pa_cons pe_bl (pa_cons pe_bl pa_nil))))))
      (C8.pss_cut (ps_if (pt_cmpR op_eq (pe_call (ok_law_take T) (hr.mono (by decide)) (by rfl) T.g_law_take T.F_law_take.kp T.b_law_take .nil pass0 (pa_cons (pv 1) (pa_cons pe_int pa_nil))) pe_int (nomark _)) (pss_one (ps_set (i := 3) sc_law.nd rfl (Or.inl rfl) (pe_op op_catA (pv 3) (pe_tup (pa_cons (pe_tup (pa_cons pe_str (pa_cons (pe_op op_add pe_int (pe_call (ok_law_take T) (hr.mono (by decide)) (by rfl) T.g_law_take T.F_law_take.kp T.b_law_take .nil pass0 (pa_cons (pv 1) (pa_cons pe_int pa_nil)))) (pa_cons (pe_call (ok_law_pick T) (hr.mono (by decide)) (by rfl) T.g_law_pick T.F_law_pick.kp T.b_law_pick .nil pass0 (pa_cons (pv 1) (pa_cons (pe_lst (pa_cons pe_str (pa_cons pe_str (pa_cons pe_str pa_nil)))) pa_nil))) pa_nil)))) pa_nil))))) pss_nil)
      (pss_cons (ps_set (i := 4) sc_law.nd rfl (Or.inl rfl) (pe_call (ok_read_plan T) (hr.mono (by decide)) (by rfl) T.g_read_plan T.F_read_plan.kp T.b_read_plan .nil pass0 (pa_cons (pe_call (ok_law_loose T) (hr.mono (by decide)) (by rfl) T.g_law_loose T.F_law_loose.kp T.b_law_loose .nil pass0 (pa_cons (pv 1) (pa_cons (pv 3) pa_nil))) pa_nil)))
      (pss_one (ps_if (pt_not (pt_val (pe_call (ok_law_same T) (hr.mono (by decide)) (by rfl) T.g_law_same T.F_law_same.kp T.b_law_same .nil pass0 (pa_cons (pv 4) (pa_cons (pv 3) pa_nil))))) (pss_one (ps_ret pe_bl)) pss_nil))))))
      (pss_one (ps_ret (pe_call (ok_law_same T) (hr.mono (by decide)) (by rfl) T.g_law_same T.F_law_same.kp T.b_law_same .nil pass0 (pa_cons (pe_ix ix_tup (pe_call (ok_read_plan T) (hr.mono (by decide)) (by rfl) T.g_read_plan T.F_read_plan.kp T.b_read_plan .nil pass0 (pa_cons pe_str pa_nil)) pe_int (fun _ _ => rfl)) (pa_cons (pe_tup (pa_cons pe_str (pa_cons pe_int (pa_cons pe_str pa_nil)))) pa_nil))))))), ?_⟩
  refine ⟨_, rfl, a, ns, rfl, hS, hl, fun d l H1 nd _ s1 D1 => ?_⟩
  refine ⟨6, rfl, by decide, by decide, for_it walk_range (fun _ σ H => DrawAt H d l ∧ ∃ v2 v3 v4, σ = [some (.ref a), some (.ref d), v2, v3, v4]) ⟨D1, _, _, _, rfl⟩ (fun _ _ _ _ _ => trivial) ?_ ?_⟩
  · rintro i x σ H2 H3 hi ⟨D2, v2, v3, v4, rfl⟩ ⟨rfl, rfl⟩
    refine ⟨_, rfl, d, l, fun _ => none, 11, true, true, rfl, (fun _ _ h => nomatch h), rfl, D2, by decide, fun v b G4 H4 g4 D4 dv ok l1 l2 lc => ?_⟩
    let Md : L2.St → Hp → Prop := fun σ H => DrawAt H d l ∧ ∃ (v : V) (b : List Thing) (v2 v4 : Option V), Dp K H v (planD b) ∧ BdS b ∧ RdB b 0 ∧ thingsC b ≤ 12 ∧ b ≠ [] ∧ σ = [some (.ref a), some (.ref d), v2, some v, v4]
    have gd4 : G4 d = none := g4.none rfl D2.cell
    have bs0 : BdS b := bdS_drawn ok
    have ne0 : b ≠ [] := fun e => by rw [e] at l1; cases l1
    have rb0 : RdB b 0 := rdB_of (fun e he => absurd he List.not_mem_nil) (fun x hx => .inl (List.mem_singleton.mp hx)) ok
    refine ⟨Md, ?_, ?_⟩
    · refine ⟨_, rfl, d, l, 3, rfl, D4, by decide, by decide, fun r H5 _ _ D5 b5 => ⟨rfl, _, rfl, ite2 (fun _ => ?_) (fun _ => ?_)⟩⟩
      · have e5 := Grow.draw g4.gh gd4 b5
        refine ⟨_, rfl, _, rfl, d, l, 9, rfl, D5, by decide, by decide, fun m H6 m0 m1 D6 b6 => ?_⟩
        have e6 := e5.trans (Grow.draw e5.gh (e5.none gd4 D4.cell) b6) D5.some'
        refine ⟨_, _, rfl, rfl, _, rfl, by show 3 ≤ sizeLine; decide, fun L hL => ?_⟩
        have e7 := e6.cell (o := .lst [.str "halves", .str "thirds", .str "less"]) hL
        have D7 := D6.upd (o := .lst [.str "halves", .str "thirds", .str "less"]) hL
        refine ⟨d, l, _, rfl, D7, .inr ⟨L, _, rfl, D6.ned hL, .inl (SqL.of upd_same), by decide, by decide, fun z H8 hz D8 b8 => ?_⟩⟩
        have e8 := e7.trans (Grow.draw e7.gh (e7.none gd4 D4.cell) b8) D7.some'
        obtain ⟨w, rfl, hw⟩ : ∃ w : Str, z = .str w ∧ (w = "halves" ∨ w = "thirds" ∨ w = "less") := by
          simp only [List.mem_cons, List.not_mem_nil, or_false] at hz
          rcases hz with rfl | rfl | rfl <;> simp
        have hw2 : NmS w := by rcases hw with rfl | rfl | rfl <;> exact ⟨by decide, strOk_of _⟩
        refine ⟨by show 3 ≤ sizeLine; decide, fun p hp => ?_⟩
        have e9 := e8.new (o := .tup [.str "again", .int (1 + m), .str w]) hp D8.some'
        have D9 := D8.upd (o := .tup [.str "again", .int (1 + m), .str w]) hp
        refine ⟨by show 1 ≤ sizeLine; decide, fun p2 hp2 => ?_⟩
        have e10 := e9.new (o := .tup [.ref p]) hp2 D9.some'
        have D10 := D9.upd (o := .tup [.ref p]) hp2
        have s10 := same_upd (o := .tup [.ref p]) (e9.gh.free hp2)
        obtain ⟨av, us, rfl, hus, hds⟩ := dv.tup'
        have lu : us.length = b.length := by
          have := hds.length
          rw [thingsD_eq, List.length_map] at this
          exact this
        refine cat_G e10.gh (same_t e10.g hus) (SqT.of upd_same) (by simp; omega) fun q G11 H11 g11 hq => ?_
        refine ⟨D10.mono g11.h.same, .ref q, b ++ [.again (1 + m) w], some (.int ((0 : Int) + (i : Int))), v4, ?_, BdS.of fun t ht => ?_, rdB_app rb0 ?_, ?_, by simp, rfl⟩
        · refine Dp.mono g11.gh ?_
          unfold planD
          rw [thingsD_eq, List.map_append, ← thingsD_eq]
          refine .tup hq (DpAll_app (hds.mono (e10.g.trans g11.g)) (.cons ?_ .nil))
          rw [thingD]
          exact .tup (xs := [.str "again", .int (1 + m), .str w]) (SqT.of (g11.g _ _ (s10 _ _ upd_same))) (.cons (.str _) (.cons (.int _) (.cons (.str _) .nil)))
        · rcases List.mem_append.mp ht with ht | ht
          · exact bs0.mem ht
          · rw [List.mem_singleton.mp ht, ThS]
            exact ⟨log_lt (k := 400) (Nat.lt_trans (m := 100) (by omega) (by decide)) (by decide), hw2⟩
        · simp only [RdB, RdT]
          exact ⟨⟨by omega, by omega, hw⟩, trivial⟩
        · rw [thingsC_snoc]
          simp only [thingC]
          omega
      · have e5 := Grow.draw g4.gh gd4 b5
        exact ⟨D5, v, b, some (.int ((0 : Int) + (i : Int))), v4, dv.mono e5.gh, bs0, rb0, by omega, ne0, rfl⟩
    rintro σ H5 ⟨D5, v5, b5, v2', v4', dp5, bs5, rb5, c5, ne5, rfl⟩
    refine ⟨_, rfl, _, rfl, d, l, v5, b5, rfl, D5, dp5, bs5, rb5, ne5, c5, fun y H6 bt6 D6 ly hlex => ?_⟩
    obtain ⟨f, ts, h1, h2⟩ := hlex
    refine ⟨y, f, ts, b5, rfl, ly, h1, h2, rb5, ne5, c5, fun v7 H7 s7 d7 => ?_⟩
    have d5b : Dp K H6 v5 (planD b5) := by
      obtain ⟨ns5, p5, g5, s5, e5, _⟩ := D5.ex
      exact dp_skip e5 bt6 (by unfold planD; rw [noL]; exact things_noL b5) dp5
    refine ⟨_, rfl, _, rfl, v7, v5, planD b5, rfl, d7, d5b.mono s7, dep_plan rb5, wid_plan (by omega), fun H8 s8 => ?_⟩
    exact ⟨_, rfl, iteF ⟨(D6.mono s7).mono s8, _, _, _, rfl⟩⟩
  · rintro σ H5 ⟨D5, v2, v3, v4, rfl⟩
    let fb : List Thing := [.loop "i" ("", 0) ("n", -1) [.step 2], .again 1 "less"]
    let fg : List (Nat × Tok) := [(0, .word "for"), (1, .word "i"), (1, .word "from"), (1, .num 0), (1, .word "to"), (1, .word "n"), (0, .sign "-"), (0, .num 1), (0, .sign "("), (0, .word "step"), (1, .num 2), (0, .sign ")"), (0, .sign ";"), (0, .word "again"), (1, .num 1), (1, .word "on"), (1, .word "less")]
    have ni : NameOk "i" := ⟨by decide, by decide, by decide, by decide⟩
    have rbf : RdB fb 0 := by
      simp only [fb, RdB, RdT]
      refine ⟨⟨ni, .inl ⟨rfl, by decide, by decide⟩, .inr ⟨.inl rfl, by decide⟩, by decide, by simp, ⟨by decide, by decide⟩, trivial⟩, ⟨by decide, by decide, by simp⟩, trivial⟩
    have ef : chs "for i from 0 to n-1(step 2);again 1 on less" = flat fg := by decide +kernel
    have ff : fine fg := by decide +kernel
    obtain ⟨ts, h1, h2⟩ := lex_flat 0 fg 0 ff
    simp only [List.replicate_zero, List.append_nil, Nat.zero_add] at h1
    rw [← ef] at h1
    have et : ts.map Prod.fst = toksB fb ++ [.fin] := by
      rw [h2]
      simp only [fb, toksB, toksTh, toksE]
      rfl
    have cf : thingsC fb ≤ 12 := by simp [fb, thingsC, thingC]
    refine ⟨_, _, ts, fb, rfl, by decide, h1, et, rbf, by simp [fb], cf, fun v6 H6 s6 d6 => ?_⟩
    have epl : planD fb = .tuple [thingD (.loop "i" ("", 0) ("n", -1) [.step 2]), .tuple [.str "again", .int 1, .str "less"]] := by
      simp [fb, planD, thingsD, thingD]
    rw [epl] at d6
    obtain ⟨p, x1, x2, rfl, hp, d1, d2⟩ := d6.tup2
    refine ⟨p, _, _, _, rfl, rfl, hp, rfl, ?_⟩
    refine ⟨by show 3 ≤ sizeLine; decide, fun q hq => ?_⟩
    have sq := same_upd (o := .tup [.str "again", .int 1, .str "less"]) hq
    try unfold tNil
    refine ⟨x2, .ref q, .tuple [.str "again", .int 1, .str "less"], rfl, d2.mono sq, .tup (SqT.of upd_same) (.cons (.str _) (.cons (.int _) (.cons (.str _) .nil))), ?_, ?_, fun H8 _ => k _⟩
    · simp [dep, depAll]
    · simp [wid, widAll]
end
theorem all_mk {l : PySem.W.OpenLaw} {w : World} {K : PySem.W.Frag} {h : Heap} {mg : Str → Option Value} {fa : Addr} (X : K.In h) (G : h.Ns mainGlobals mg) (hfa : mg "law" = some (.ref fa))
    {C_Reader : Addr} (gc_Reader : PySem.W.nsIn K mainGlobals "Reader" = some (some (.ref C_Reader))) (pg_Reader : PySem.W.plainGet K C_Reader Str.empty = true) (hd_Reader : PySem.W.hasDictIn K C_Reader = true) (po_Reader : PySem.W.plainOver K C_Reader = true) (sa_Reader : PySem.W.findIn K (.ref C_Reader) "__setattr__" = some (some (.builtin "object.__setattr__"))) (mk_Reader : PySem.W.makesIn K C_Reader = true) (kc_Reader : PySem.W.keepIn K (.ref C_Reader) = true)
    (na_Reader_signs : PySem.W.findIn K (.ref C_Reader) "signs" = some none)
    (na_Reader_spot : PySem.W.findIn K (.ref C_Reader) "spot" = some none)
    (na_Reader_many : PySem.W.findIn K (.ref C_Reader) "many" = some none)
    {f0 : Addr} {od0 an0 : Option Addr} {sl0 : Array (Option Value)} {oc0 kV0 dc0 pm0 cd0 ct0 : Value}
    (a0 : PySem.W.nsIn K mainGlobals "_law_begin" = some (some (.ref f0)))
    (l0 : K.lookup f0 = some ⟨oc0, od0, .func (PySem.W.fnOf "_law_begin" "_law_begin" (defArgs s_law_begin) (defBody s_law_begin) (defScope s_law_begin) .none kV0 dc0 pm0 an0 cd0 ct0), sl0⟩) (c0 : PySem.W.codeIn K cd0 "_law_begin" = true) (k0 : PySem.W.keepIn K (.ref f0) = true)
    {f1 : Addr} {od1 an1 : Option Addr} {sl1 : Array (Option Value)} {oc1 kV1 dc1 pm1 cd1 ct1 : Value}
    (a1 : PySem.W.nsIn K mainGlobals "_law_same" = some (some (.ref f1)))
    (l1 : K.lookup f1 = some ⟨oc1, od1, .func (PySem.W.fnOf "_law_same" "_law_same" (defArgs s_law_same) (defBody s_law_same) (defScope s_law_same) .none kV1 dc1 pm1 an1 cd1 ct1), sl1⟩) (c1 : PySem.W.codeIn K cd1 "_law_same" = true) (k1 : PySem.W.keepIn K (.ref f1) = true)
    {f2 : Addr} {od2 an2 : Option Addr} {sl2 : Array (Option Value)} {oc2 kV2 dc2 pm2 cd2 ct2 : Value}
    (a2 : PySem.W.nsIn K mainGlobals "_law_take" = some (some (.ref f2)))
    (l2 : K.lookup f2 = some ⟨oc2, od2, .func (PySem.W.fnOf "_law_take" "_law_take" (defArgs s_law_take) (defBody s_law_take) (defScope s_law_take) .none kV2 dc2 pm2 an2 cd2 ct2), sl2⟩) (c2 : PySem.W.codeIn K cd2 "_law_take" = true) (k2 : PySem.W.keepIn K (.ref f2) = true)
    {f3 : Addr} {od3 an3 : Option Addr} {sl3 : Array (Option Value)} {oc3 kV3 dc3 pm3 cd3 ct3 : Value}
    (a3 : PySem.W.nsIn K mainGlobals "_law_pick" = some (some (.ref f3)))
    (l3 : K.lookup f3 = some ⟨oc3, od3, .func (PySem.W.fnOf "_law_pick" "_law_pick" (defArgs s_law_pick) (defBody s_law_pick) (defScope s_law_pick) .none kV3 dc3 pm3 an3 cd3 ct3), sl3⟩) (c3 : PySem.W.codeIn K cd3 "_law_pick" = true) (k3 : PySem.W.keepIn K (.ref f3) = true)
    {f4 : Addr} {od4 an4 : Option Addr} {sl4 : Array (Option Value)} {oc4 kV4 dc4 pm4 cd4 ct4 : Value}
    (a4 : PySem.W.nsIn K mainGlobals "_law_some_end" = some (some (.ref f4)))
    (l4 : K.lookup f4 = some ⟨oc4, od4, .func (PySem.W.fnOf "_law_some_end" "_law_some_end" (defArgs s_law_some_end) (defBody s_law_some_end) (defScope s_law_some_end) .none kV4 dc4 pm4 an4 cd4 ct4), sl4⟩) (c4 : PySem.W.codeIn K cd4 "_law_some_end" = true) (k4 : PySem.W.keepIn K (.ref f4) = true)
    {f5 : Addr} {od5 an5 : Option Addr} {sl5 : Array (Option Value)} {oc5 kV5 dc5 pm5 cd5 ct5 : Value}
    (a5 : PySem.W.nsIn K mainGlobals "_law_leaf" = some (some (.ref f5)))
    (l5 : K.lookup f5 = some ⟨oc5, od5, .func (PySem.W.fnOf "_law_leaf" "_law_leaf" (defArgs s_law_leaf) (defBody s_law_leaf) (defScope s_law_leaf) .none kV5 dc5 pm5 an5 cd5 ct5), sl5⟩) (c5 : PySem.W.codeIn K cd5 "_law_leaf" = true) (k5 : PySem.W.keepIn K (.ref f5) = true)
    {f6 : Addr} {od6 an6 : Option Addr} {sl6 : Array (Option Value)} {oc6 kV6 dc6 pm6 cd6 ct6 : Value}
    (a6 : PySem.W.nsIn K mainGlobals "_law_kept_words" = some (some (.ref f6)))
    (l6 : K.lookup f6 = some ⟨oc6, od6, .func (PySem.W.fnOf "_law_kept_words" "_law_kept_words" (defArgs s_law_kept_words) (defBody s_law_kept_words) (defScope s_law_kept_words) .none kV6 dc6 pm6 an6 cd6 ct6), sl6⟩) (c6 : PySem.W.codeIn K cd6 "_law_kept_words" = true) (k6 : PySem.W.keepIn K (.ref f6) = true)
    {f7 : Addr} {od7 an7 : Option Addr} {sl7 : Array (Option Value)} {oc7 kV7 dc7 pm7 cd7 ct7 : Value}
    (a7 : PySem.W.nsIn K mainGlobals "_law_fresh" = some (some (.ref f7)))
    (l7 : K.lookup f7 = some ⟨oc7, od7, .func (PySem.W.fnOf "_law_fresh" "_law_fresh" (defArgs s_law_fresh) (defBody s_law_fresh) (defScope s_law_fresh) .none kV7 dc7 pm7 an7 cd7 ct7), sl7⟩) (c7 : PySem.W.codeIn K cd7 "_law_fresh" = true) (k7 : PySem.W.keepIn K (.ref f7) = true)
    {f8 : Addr} {od8 an8 : Option Addr} {sl8 : Array (Option Value)} {oc8 kV8 dc8 pm8 cd8 ct8 : Value}
    (a8 : PySem.W.nsIn K mainGlobals "_law_drawn_thing" = some (some (.ref f8)))
    (l8 : K.lookup f8 = some ⟨oc8, od8, .func (PySem.W.fnOf "_law_drawn_thing" "_law_drawn_thing" (defArgs s_law_drawn_thing) (defBody s_law_drawn_thing) (defScope s_law_drawn_thing) .none kV8 dc8 pm8 an8 cd8 ct8), sl8⟩) (c8 : PySem.W.codeIn K cd8 "_law_drawn_thing" = true) (k8 : PySem.W.keepIn K (.ref f8) = true)
    {f9 : Addr} {od9 an9 : Option Addr} {sl9 : Array (Option Value)} {oc9 kV9 dc9 pm9 cd9 ct9 : Value}
    (a9 : PySem.W.nsIn K mainGlobals "_law_drawn_body" = some (some (.ref f9)))
    (l9 : K.lookup f9 = some ⟨oc9, od9, .func (PySem.W.fnOf "_law_drawn_body" "_law_drawn_body" (defArgs s_law_drawn_body) (defBody s_law_drawn_body) (defScope s_law_drawn_body) .none kV9 dc9 pm9 an9 cd9 ct9), sl9⟩) (c9 : PySem.W.codeIn K cd9 "_law_drawn_body" = true) (k9 : PySem.W.keepIn K (.ref f9) = true)
    {f10 : Addr} {od10 an10 : Option Addr} {sl10 : Array (Option Value)} {oc10 kV10 dc10 pm10 cd10 ct10 : Value}
    (a10 : PySem.W.nsIn K mainGlobals "_law_drawn" = some (some (.ref f10)))
    (l10 : K.lookup f10 = some ⟨oc10, od10, .func (PySem.W.fnOf "_law_drawn" "_law_drawn" (defArgs s_law_drawn) (defBody s_law_drawn) (defScope s_law_drawn) .none kV10 dc10 pm10 an10 cd10 ct10), sl10⟩) (c10 : PySem.W.codeIn K cd10 "_law_drawn" = true) (k10 : PySem.W.keepIn K (.ref f10) = true)
    {f11 : Addr} {od11 an11 : Option Addr} {sl11 : Array (Option Value)} {oc11 kV11 dc11 pm11 cd11 ct11 : Value}
    (a11 : PySem.W.findIn K (.ref C_Reader) "passed" = some (some (.ref f11))) (i11 : PySem.W.isFn K (.ref f11) = true)
    (l11 : K.lookup f11 = some ⟨oc11, od11, .func (PySem.W.fnOf "passed" "Reader.passed" (defArgs s_Reader_passed) (defBody s_Reader_passed) (defScope s_Reader_passed) .none kV11 dc11 pm11 an11 cd11 ct11), sl11⟩) (c11 : PySem.W.codeIn K cd11 "Reader.passed" = true) (k11 : PySem.W.keepIn K (.ref f11) = true)
    {f12 : Addr} {od12 an12 : Option Addr} {sl12 : Array (Option Value)} {oc12 kV12 dc12 pm12 cd12 ct12 : Value}
    (a12 : PySem.W.findIn K (.ref C_Reader) "bad" = some (some (.ref f12))) (i12 : PySem.W.isFn K (.ref f12) = true)
    (l12 : K.lookup f12 = some ⟨oc12, od12, .func (PySem.W.fnOf "bad" "Reader.bad" (defArgs s_Reader_bad) (defBody s_Reader_bad) (defScope s_Reader_bad) .none kV12 dc12 pm12 an12 cd12 ct12), sl12⟩) (c12 : PySem.W.codeIn K cd12 "Reader.bad" = true) (k12 : PySem.W.keepIn K (.ref f12) = true)
    {f13 : Addr} {od13 an13 : Option Addr} {sl13 : Array (Option Value)} {oc13 kV13 dc13 pm13 cd13 ct13 : Value}
    (a13 : PySem.W.findIn K (.ref C_Reader) "want" = some (some (.ref f13))) (i13 : PySem.W.isFn K (.ref f13) = true)
    (l13 : K.lookup f13 = some ⟨oc13, od13, .func (PySem.W.fnOf "want" "Reader.want" (defArgs s_Reader_want) (defBody s_Reader_want) (defScope s_Reader_want) .none kV13 dc13 pm13 an13 cd13 ct13), sl13⟩) (c13 : PySem.W.codeIn K cd13 "Reader.want" = true) (k13 : PySem.W.keepIn K (.ref f13) = true)
    {f14 : Addr} {od14 an14 : Option Addr} {sl14 : Array (Option Value)} {oc14 kV14 dc14 pm14 cd14 ct14 : Value}
    (a14 : PySem.W.findIn K (.ref C_Reader) "number" = some (some (.ref f14))) (i14 : PySem.W.isFn K (.ref f14) = true)
    (l14 : K.lookup f14 = some ⟨oc14, od14, .func (PySem.W.fnOf "number" "Reader.number" (defArgs s_Reader_number) (defBody s_Reader_number) (defScope s_Reader_number) .none kV14 dc14 pm14 an14 cd14 ct14), sl14⟩) (c14 : PySem.W.codeIn K cd14 "Reader.number" = true) (k14 : PySem.W.keepIn K (.ref f14) = true)
    {f15 : Addr} {od15 an15 : Option Addr} {sl15 : Array (Option Value)} {oc15 kV15 dc15 pm15 cd15 ct15 : Value}
    (a15 : PySem.W.nsIn K mainGlobals "is_name" = some (some (.ref f15)))
    (l15 : K.lookup f15 = some ⟨oc15, od15, .func (PySem.W.fnOf "is_name" "is_name" (defArgs s_is_name) (defBody s_is_name) (defScope s_is_name) .none kV15 dc15 pm15 an15 cd15 ct15), sl15⟩) (c15 : PySem.W.codeIn K cd15 "is_name" = true) (k15 : PySem.W.keepIn K (.ref f15) = true)
    {f16 : Addr} {od16 an16 : Option Addr} {sl16 : Array (Option Value)} {oc16 kV16 dc16 pm16 cd16 ct16 : Value}
    (a16 : PySem.W.findIn K (.ref C_Reader) "plain_name" = some (some (.ref f16))) (i16 : PySem.W.isFn K (.ref f16) = true)
    (l16 : K.lookup f16 = some ⟨oc16, od16, .func (PySem.W.fnOf "plain_name" "Reader.plain_name" (defArgs s_Reader_plain_name) (defBody s_Reader_plain_name) (defScope s_Reader_plain_name) .none kV16 dc16 pm16 an16 cd16 ct16), sl16⟩) (c16 : PySem.W.codeIn K cd16 "Reader.plain_name" = true) (k16 : PySem.W.keepIn K (.ref f16) = true)
    {f17 : Addr} {od17 an17 : Option Addr} {sl17 : Array (Option Value)} {oc17 kV17 dc17 pm17 cd17 ct17 : Value}
    (a17 : PySem.W.findIn K (.ref C_Reader) "end" = some (some (.ref f17))) (i17 : PySem.W.isFn K (.ref f17) = true)
    (l17 : K.lookup f17 = some ⟨oc17, od17, .func (PySem.W.fnOf "end" "Reader.end" (defArgs s_Reader_end) (defBody s_Reader_end) (defScope s_Reader_end) .none kV17 dc17 pm17 an17 cd17 ct17), sl17⟩) (c17 : PySem.W.codeIn K cd17 "Reader.end" = true) (k17 : PySem.W.keepIn K (.ref f17) = true)
    {f18 : Addr} {od18 an18 : Option Addr} {sl18 : Array (Option Value)} {oc18 kV18 dc18 pm18 cd18 ct18 : Value}
    (a18 : PySem.W.findIn K (.ref C_Reader) "bracket" = some (some (.ref f18))) (i18 : PySem.W.isFn K (.ref f18) = true)
    (l18 : K.lookup f18 = some ⟨oc18, od18, .func (PySem.W.fnOf "bracket" "Reader.bracket" (defArgs s_Reader_bracket) (defBody s_Reader_bracket) (defScope s_Reader_bracket) .none kV18 dc18 pm18 an18 cd18 ct18), sl18⟩) (c18 : PySem.W.codeIn K cd18 "Reader.bracket" = true) (k18 : PySem.W.keepIn K (.ref f18) = true)
    {f19 : Addr} {od19 an19 : Option Addr} {sl19 : Array (Option Value)} {oc19 kV19 dc19 pm19 cd19 ct19 : Value}
    (a19 : PySem.W.findIn K (.ref C_Reader) "going" = some (some (.ref f19))) (i19 : PySem.W.isFn K (.ref f19) = true)
    (l19 : K.lookup f19 = some ⟨oc19, od19, .func (PySem.W.fnOf "going" "Reader.going" (defArgs s_Reader_going) (defBody s_Reader_going) (defScope s_Reader_going) .none kV19 dc19 pm19 an19 cd19 ct19), sl19⟩) (c19 : PySem.W.codeIn K cd19 "Reader.going" = true) (k19 : PySem.W.keepIn K (.ref f19) = true)
    {f20 : Addr} {od20 an20 : Option Addr} {sl20 : Array (Option Value)} {oc20 kV20 dc20 pm20 cd20 ct20 : Value}
    (a20 : PySem.W.findIn K (.ref C_Reader) "choice" = some (some (.ref f20))) (i20 : PySem.W.isFn K (.ref f20) = true)
    (l20 : K.lookup f20 = some ⟨oc20, od20, .func (PySem.W.fnOf "choice" "Reader.choice" (defArgs s_Reader_choice) (defBody s_Reader_choice) (defScope s_Reader_choice) .none kV20 dc20 pm20 an20 cd20 ct20), sl20⟩) (c20 : PySem.W.codeIn K cd20 "Reader.choice" = true) (k20 : PySem.W.keepIn K (.ref f20) = true)
    {f21 : Addr} {od21 an21 : Option Addr} {sl21 : Array (Option Value)} {oc21 kV21 dc21 pm21 cd21 ct21 : Value}
    (a21 : PySem.W.findIn K (.ref C_Reader) "thing" = some (some (.ref f21))) (i21 : PySem.W.isFn K (.ref f21) = true)
    (l21 : K.lookup f21 = some ⟨oc21, od21, .func (PySem.W.fnOf "thing" "Reader.thing" (defArgs s_Reader_thing) (defBody s_Reader_thing) (defScope s_Reader_thing) .none kV21 dc21 pm21 an21 cd21 ct21), sl21⟩) (c21 : PySem.W.codeIn K cd21 "Reader.thing" = true) (k21 : PySem.W.keepIn K (.ref f21) = true)
    {f22 : Addr} {od22 an22 : Option Addr} {sl22 : Array (Option Value)} {oc22 kV22 dc22 pm22 cd22 ct22 : Value}
    (a22 : PySem.W.findIn K (.ref C_Reader) "body" = some (some (.ref f22))) (i22 : PySem.W.isFn K (.ref f22) = true)
    (l22 : K.lookup f22 = some ⟨oc22, od22, .func (PySem.W.fnOf "body" "Reader.body" (defArgs s_Reader_body) (defBody s_Reader_body) (defScope s_Reader_body) .none kV22 dc22 pm22 an22 cd22 ct22), sl22⟩) (c22 : PySem.W.codeIn K cd22 "Reader.body" = true) (k22 : PySem.W.keepIn K (.ref f22) = true)
    {f23 : Addr} {od23 an23 : Option Addr} {sl23 : Array (Option Value)} {oc23 kV23 dc23 pm23 cd23 ct23 : Value}
    (a23 : PySem.W.nsIn K mainGlobals "run_of" = some (some (.ref f23)))
    (l23 : K.lookup f23 = some ⟨oc23, od23, .func (PySem.W.fnOf "run_of" "run_of" (defArgs s_run_of) (defBody s_run_of) (defScope s_run_of) .none kV23 dc23 pm23 an23 cd23 ct23), sl23⟩) (c23 : PySem.W.codeIn K cd23 "run_of" = true) (k23 : PySem.W.keepIn K (.ref f23) = true)
    {f24 : Addr} {od24 an24 : Option Addr} {sl24 : Array (Option Value)} {oc24 kV24 dc24 pm24 cd24 ct24 : Value}
    (a24 : PySem.W.nsIn K mainGlobals "sign_at" = some (some (.ref f24)))
    (l24 : K.lookup f24 = some ⟨oc24, od24, .func (PySem.W.fnOf "sign_at" "sign_at" (defArgs s_sign_at) (defBody s_sign_at) (defScope s_sign_at) .none kV24 dc24 pm24 an24 cd24 ct24), sl24⟩) (c24 : PySem.W.codeIn K cd24 "sign_at" = true) (k24 : PySem.W.keepIn K (.ref f24) = true)
    {f25 : Addr} {od25 an25 : Option Addr} {sl25 : Array (Option Value)} {oc25 kV25 dc25 pm25 cd25 ct25 : Value}
    (a25 : PySem.W.nsIn K mainGlobals "signs_of" = some (some (.ref f25)))
    (l25 : K.lookup f25 = some ⟨oc25, od25, .func (PySem.W.fnOf "signs_of" "signs_of" (defArgs s_signs_of) (defBody s_signs_of) (defScope s_signs_of) .none kV25 dc25 pm25 an25 cd25 ct25), sl25⟩) (c25 : PySem.W.codeIn K cd25 "signs_of" = true) (k25 : PySem.W.keepIn K (.ref f25) = true)
    {f26 : Addr} {od26 an26 : Option Addr} {sl26 : Array (Option Value)} {oc26 kV26 dc26 pm26 cd26 ct26 : Value}
    (a26 : PySem.W.findIn K (.ref C_Reader) "__init__" = some (some (.ref f26))) (i26 : PySem.W.isFn K (.ref f26) = true)
    (l26 : K.lookup f26 = some ⟨oc26, od26, .func (PySem.W.fnOf "__init__" "Reader.__init__" (defArgs s_Reader_init) (defBody s_Reader_init) (defScope s_Reader_init) .none kV26 dc26 pm26 an26 cd26 ct26), sl26⟩) (c26 : PySem.W.codeIn K cd26 "Reader.__init__" = true) (k26 : PySem.W.keepIn K (.ref f26) = true)
    {f27 : Addr} {od27 an27 : Option Addr} {sl27 : Array (Option Value)} {oc27 kV27 dc27 pm27 cd27 ct27 : Value}
    (a27 : PySem.W.nsIn K mainGlobals "read_plan" = some (some (.ref f27)))
    (l27 : K.lookup f27 = some ⟨oc27, od27, .func (PySem.W.fnOf "read_plan" "read_plan" (defArgs s_read_plan) (defBody s_read_plan) (defScope s_read_plan) .none kV27 dc27 pm27 an27 cd27 ct27), sl27⟩) (c27 : PySem.W.codeIn K cd27 "read_plan" = true) (k27 : PySem.W.keepIn K (.ref f27) = true)
    {f28 : Addr} {od28 an28 : Option Addr} {sl28 : Array (Option Value)} {oc28 kV28 dc28 pm28 cd28 ct28 : Value}
    (a28 : PySem.W.nsIn K mainGlobals "_law_spaced" = some (some (.ref f28)))
    (l28 : K.lookup f28 = some ⟨oc28, od28, .func (PySem.W.fnOf "_law_spaced" "_law_spaced" (defArgs s_law_spaced) (defBody s_law_spaced) (defScope s_law_spaced) .none kV28 dc28 pm28 an28 cd28 ct28), sl28⟩) (c28 : PySem.W.codeIn K cd28 "_law_spaced" = true) (k28 : PySem.W.keepIn K (.ref f28) = true)
    {f29 : Addr} {od29 an29 : Option Addr} {sl29 : Array (Option Value)} {oc29 kV29 dc29 pm29 cd29 ct29 : Value}
    (a29 : PySem.W.nsIn K mainGlobals "_law_end_text" = some (some (.ref f29)))
    (l29 : K.lookup f29 = some ⟨oc29, od29, .func (PySem.W.fnOf "_law_end_text" "_law_end_text" (defArgs s_law_end_text) (defBody s_law_end_text) (defScope s_law_end_text) .none kV29 dc29 pm29 an29 cd29 ct29), sl29⟩) (c29 : PySem.W.codeIn K cd29 "_law_end_text" = true) (k29 : PySem.W.keepIn K (.ref f29) = true)
    {f30 : Addr} {od30 an30 : Option Addr} {sl30 : Array (Option Value)} {oc30 kV30 dc30 pm30 cd30 ct30 : Value}
    (a30 : PySem.W.nsIn K mainGlobals "_law_thing_text" = some (some (.ref f30)))
    (l30 : K.lookup f30 = some ⟨oc30, od30, .func (PySem.W.fnOf "_law_thing_text" "_law_thing_text" (defArgs s_law_thing_text) (defBody s_law_thing_text) (defScope s_law_thing_text) .none kV30 dc30 pm30 an30 cd30 ct30), sl30⟩) (c30 : PySem.W.codeIn K cd30 "_law_thing_text" = true) (k30 : PySem.W.keepIn K (.ref f30) = true)
    {f31 : Addr} {od31 an31 : Option Addr} {sl31 : Array (Option Value)} {oc31 kV31 dc31 pm31 cd31 ct31 : Value}
    (a31 : PySem.W.nsIn K mainGlobals "_law_written" = some (some (.ref f31)))
    (l31 : K.lookup f31 = some ⟨oc31, od31, .func (PySem.W.fnOf "_law_written" "_law_written" (defArgs s_law_written) (defBody s_law_written) (defScope s_law_written) .none kV31 dc31 pm31 an31 cd31 ct31), sl31⟩) (c31 : PySem.W.codeIn K cd31 "_law_written" = true) (k31 : PySem.W.keepIn K (.ref f31) = true)
    {f32 : Addr} {od32 an32 : Option Addr} {sl32 : Array (Option Value)} {oc32 kV32 dc32 pm32 cd32 ct32 : Value}
    (a32 : PySem.W.nsIn K mainGlobals "_law_loose" = some (some (.ref f32)))
    (l32 : K.lookup f32 = some ⟨oc32, od32, .func (PySem.W.fnOf "_law_loose" "_law_loose" (defArgs s_law_loose) (defBody s_law_loose) (defScope s_law_loose) .none kV32 dc32 pm32 an32 cd32 ct32), sl32⟩) (c32 : PySem.W.codeIn K cd32 "_law_loose" = true) (k32 : PySem.W.keepIn K (.ref f32) = true)
    {f33 : Addr} {od33 an33 : Option Addr} {sl33 : Array (Option Value)} {oc33 kV33 dc33 pm33 cd33 ct33 : Value}
    (a33 : PySem.W.nsIn K mainGlobals "law" = some (some (.ref f33)))
    (l33 : K.lookup f33 = some ⟨oc33, od33, .func (PySem.W.fnOf "law" "law" (defArgs s_law) (defBody s_law) (defScope s_law) .none kV33 dc33 pm33 an33 cd33 ct33), sl33⟩) (c33 : PySem.W.codeIn K cd33 "law" = true) (k33 : PySem.W.keepIn K (.ref f33) = true)
    (z_abs : PySem.W.nsIn K mainGlobals "abs" = some none)
    (z_all : PySem.W.nsIn K mainGlobals "all" = some none)
    (z_bool : PySem.W.nsIn K mainGlobals "bool" = some none)
    (z_int : PySem.W.nsIn K mainGlobals "int" = some none)
    (z_isinstance : PySem.W.nsIn K mainGlobals "isinstance" = some none)
    (z_len : PySem.W.nsIn K mainGlobals "len" = some none)
    (z_list : PySem.W.nsIn K mainGlobals "list" = some none)
    (z_range : PySem.W.nsIn K mainGlobals "range" = some none)
    (z_sorted : PySem.W.nsIn K mainGlobals "sorted" = some none)
    (z_str : PySem.W.nsIn K mainGlobals "str" = some none)
    (z_tuple : PySem.W.nsIn K mainGlobals "tuple" = some none)
    (z_zip : PySem.W.nsIn K mainGlobals "zip" = some none)
    {t_DIGITS : PySem.Tok} (m_DIGITS : PySem.W.nsIn K mainGlobals "DIGITS" = some (some (Value.str "0123456789" t_DIGITS)))
    {t_LETTERS : PySem.Tok} (m_LETTERS : PySem.W.nsIn K mainGlobals "LETTERS" = some (some (Value.str "abcdefghijklmnopqrstuvwxyz" t_LETTERS)))
    {t_LONGEST : PySem.Tok} (m_LONGEST : PySem.W.nsIn K mainGlobals "LONGEST" = some (some (Value.int 8 t_LONGEST)))
    {t_MOST_AGAIN : PySem.Tok} (m_MOST_AGAIN : PySem.W.nsIn K mainGlobals "MOST_AGAIN" = some (some (Value.int 9 t_MOST_AGAIN)))
    {t_MOST_DEEP : PySem.Tok} (m_MOST_DEEP : PySem.W.nsIn K mainGlobals "MOST_DEEP" = some (some (Value.int 4 t_MOST_DEEP)))
    {t_MOST_PLUS : PySem.Tok} (m_MOST_PLUS : PySem.W.nsIn K mainGlobals "MOST_PLUS" = some (some (Value.int 99 t_MOST_PLUS)))
    {t_MOST_STEP : PySem.Tok} (m_MOST_STEP : PySem.W.nsIn K mainGlobals "MOST_STEP" = some (some (Value.int 99 t_MOST_STEP)))
    {t_MOST_THINGS : PySem.Tok} (m_MOST_THINGS : PySem.W.nsIn K mainGlobals "MOST_THINGS" = some (some (Value.int 12 t_MOST_THINGS)))
    {t_SIZE : PySem.Tok} (m_SIZE : PySem.W.nsIn K mainGlobals "SIZE" = some (some (Value.str "n" t_SIZE)))
    {p_WAYS : Addr} {oa_WAYS : Option Addr} {n_WAYS : Nat} {sx_WAYS : Array (Option Value)} {t_WAYS_0 : PySem.Tok} {t_WAYS_1 : PySem.Tok} {t_WAYS_2 : PySem.Tok}
    (m_WAYS : PySem.W.nsIn K mainGlobals "WAYS" = some (some (.ref p_WAYS))) (q_WAYS : K.lookup p_WAYS = some ⟨.type "tuple", oa_WAYS, .seq #[Value.str "halves" t_WAYS_0, Value.str "thirds" t_WAYS_1, Value.str "less" t_WAYS_2] n_WAYS, sx_WAYS⟩)
    {p_WORDS : Addr} {oa_WORDS : Option Addr} {n_WORDS : Nat} {sx_WORDS : Array (Option Value)} {t_WORDS_0 : PySem.Tok} {t_WORDS_1 : PySem.Tok} {t_WORDS_2 : PySem.Tok} {t_WORDS_3 : PySem.Tok} {t_WORDS_4 : PySem.Tok} {t_WORDS_5 : PySem.Tok} {t_WORDS_6 : PySem.Tok} {t_WORDS_7 : PySem.Tok} {t_WORDS_8 : PySem.Tok} {t_WORDS_9 : PySem.Tok} {t_WORDS_10 : PySem.Tok} {t_WORDS_11 : PySem.Tok} {t_WORDS_12 : PySem.Tok} {t_WORDS_13 : PySem.Tok} {t_WORDS_14 : PySem.Tok}
    (m_WORDS : PySem.W.nsIn K mainGlobals "WORDS" = some (some (.ref p_WORDS))) (q_WORDS : K.lookup p_WORDS = some ⟨.type "tuple", oa_WORDS, .seq #[Value.str "step" t_WORDS_0, Value.str "for" t_WORDS_1, Value.str "from" t_WORDS_2, Value.str "to" t_WORDS_3, Value.str "if" t_WORDS_4, Value.str "else" t_WORDS_5, Value.str "double" t_WORDS_6, Value.str "call" t_WORDS_7, Value.str "with" t_WORDS_8, Value.str "again" t_WORDS_9, Value.str "on" t_WORDS_10, Value.str "halves" t_WORDS_11, Value.str "thirds" t_WORDS_12, Value.str "less" t_WORDS_13, Value.str "n" t_WORDS_14] n_WORDS, sx_WORDS⟩)
    (nb : PySem.W.nsIn K PySem.cStatics PySem.sharingNotToldKey = some none)
    : ∃ fd : FuncData, (∀ (s : Shared) (v : Value), BindsTo s fd ⟨[v], []⟩ [("_law_script", v)]) ∧ ∀ base : Heap, K.In base → base.Ns mainGlobals mg → FnOk l.prog w K mg base CX0 LV fa fd ["_law_script"] (spLaw K) := by
  have e := hfa.symm.trans (PySem.W.mg_of X G a33)
  cases e
  have F0 := fun_mk (st := s_law_begin) l0 c0 k0
  have b0 := F0.binds (ps := ["_law_script"]) fun _ _ _ _ _ _ us hl => match us, hl with | [_], _ => rfl
  have F1 := fun_mk (st := s_law_same) l1 c1 k1
  have b1 := F1.binds (ps := ["_law_found", "_law_due"]) fun _ _ _ _ _ _ us hl => match us, hl with | [_, _], _ => rfl
  have F2 := fun_mk (st := s_law_take) l2 c2 k2
  have b2 := F2.binds (ps := ["_law_draw", "_law_sides"]) fun _ _ _ _ _ _ us hl => match us, hl with | [_, _], _ => rfl
  have F3 := fun_mk (st := s_law_pick) l3 c3 k3
  have b3 := F3.binds (ps := ["_law_draw", "_law_row"]) fun _ _ _ _ _ _ us hl => match us, hl with | [_, _], _ => rfl
  have F4 := fun_mk (st := s_law_some_end) l4 c4 k4
  have b4 := F4.binds (ps := ["_law_draw", "_law_scope", "_law_wide"]) fun _ _ _ _ _ _ us hl => match us, hl with | [_, _, _], _ => rfl
  have F5 := fun_mk (st := s_law_leaf) l5 c5 k5
  have b5 := F5.binds (ps := ["_law_draw", "_law_kit", "_law_scope", "_law_deep"]) fun _ _ _ _ _ _ us hl => match us, hl with | [_, _, _, _], _ => rfl
  have F6 := fun_mk (st := s_law_kept_words) l6 c6 k6
  have b6 := F6.binds (ps := []) fun _ _ _ _ _ _ us hl => match us, hl with | [], _ => rfl
  have F7 := fun_mk (st := s_law_fresh) l7 c7 k7
  have b7 := F7.binds (ps := ["_law_draw", "_law_taken"]) fun _ _ _ _ _ _ us hl => match us, hl with | [_, _], _ => rfl
  have F8 := fun_mk (st := s_law_drawn_thing) l8 c8 k8
  have b8 := F8.binds (ps := ["_law_draw", "_law_kit", "_law_scope", "_law_deep"]) fun _ _ _ _ _ _ us hl => match us, hl with | [_, _, _, _], _ => rfl
  have F9 := fun_mk (st := s_law_drawn_body) l9 c9 k9
  have b9 := F9.binds (ps := ["_law_draw", "_law_kit", "_law_scope", "_law_deep"]) fun _ _ _ _ _ _ us hl => match us, hl with | [_, _, _, _], _ => rfl
  have F10 := fun_mk (st := s_law_drawn) l10 c10 k10
  have b10 := F10.binds (ps := ["_law_draw", "_law_room", "_law_figures", "_law_wide"]) fun _ _ _ _ _ _ us hl => match us, hl with | [_, _, _, _], _ => rfl
  have F11 := fun_mk (st := s_Reader_passed) l11 c11 k11
  have b11 := F11.binds (ps := ["self", "kind", "thing"]) fun _ _ _ _ _ _ us hl => match us, hl with | [_, _, _], _ => rfl
  have F12 := fun_mk (st := s_Reader_bad) l12 c12 k12
  have b12 := F12.binds (ps := ["self"]) fun _ _ _ _ _ _ us hl => match us, hl with | [_], _ => rfl
  have F13 := fun_mk (st := s_Reader_want) l13 c13 k13
  have b13 := F13.binds (ps := ["self", "kind", "thing"]) fun _ _ _ _ _ _ us hl => match us, hl with | [_, _, _], _ => rfl
  have F14 := fun_mk (st := s_Reader_number) l14 c14 k14
  have b14 := F14.binds (ps := ["self", "least", "most"]) fun _ _ _ _ _ _ us hl => match us, hl with | [_, _, _], _ => rfl
  have F15 := fun_mk (st := s_is_name) l15 c15 k15
  have b15 := F15.binds (ps := ["text"]) fun _ _ _ _ _ _ us hl => match us, hl with | [_], _ => rfl
  have F16 := fun_mk (st := s_Reader_plain_name) l16 c16 k16
  have b16 := F16.binds (ps := ["self"]) fun _ _ _ _ _ _ us hl => match us, hl with | [_], _ => rfl
  have F17 := fun_mk (st := s_Reader_end) l17 c17 k17
  have b17 := F17.binds (ps := ["self"]) fun _ _ _ _ _ _ us hl => match us, hl with | [_], _ => rfl
  have F18 := fun_mk (st := s_Reader_bracket) l18 c18 k18
  have b18 := F18.binds (ps := ["self", "deep"]) fun _ _ _ _ _ _ us hl => match us, hl with | [_, _], _ => rfl
  have F19 := fun_mk (st := s_Reader_going) l19 c19 k19
  have b19 := F19.binds (ps := ["self", "deep"]) fun _ _ _ _ _ _ us hl => match us, hl with | [_, _], _ => rfl
  have F20 := fun_mk (st := s_Reader_choice) l20 c20 k20
  have b20 := F20.binds (ps := ["self", "deep"]) fun _ _ _ _ _ _ us hl => match us, hl with | [_, _], _ => rfl
  have F21 := fun_mk (st := s_Reader_thing) l21 c21 k21
  have b21 := F21.binds (ps := ["self", "deep"]) fun _ _ _ _ _ _ us hl => match us, hl with | [_, _], _ => rfl
  have F22 := fun_mk (st := s_Reader_body) l22 c22 k22
  have b22 := F22.binds (ps := ["self", "deep"]) fun _ _ _ _ _ _ us hl => match us, hl with | [_, _], _ => rfl
  have F23 := fun_mk (st := s_run_of) l23 c23 k23
  have b23 := F23.binds (ps := ["text", "at", "some"]) fun _ _ _ _ _ _ us hl => match us, hl with | [_, _, _], _ => rfl
  have F24 := fun_mk (st := s_sign_at) l24 c24 k24
  have b24 := F24.binds (ps := ["text", "at"]) fun _ _ _ _ _ _ us hl => match us, hl with | [_, _], _ => rfl
  have F25 := fun_mk (st := s_signs_of) l25 c25 k25
  have b25 := F25.binds (ps := ["text"]) fun _ _ _ _ _ _ us hl => match us, hl with | [_], _ => rfl
  have F26 := fun_mk (st := s_Reader_init) l26 c26 k26
  have b26 := F26.binds (ps := ["self", "text"]) fun _ _ _ _ _ _ us hl => match us, hl with | [_, _], _ => rfl
  have F27 := fun_mk (st := s_read_plan) l27 c27 k27
  have b27 := F27.binds (ps := ["text"]) fun _ _ _ _ _ _ us hl => match us, hl with | [_], _ => rfl
  have F28 := fun_mk (st := s_law_spaced) l28 c28 k28
  have b28 := F28.binds (ps := ["_law_draw", "_law_text"]) fun _ _ _ _ _ _ us hl => match us, hl with | [_, _], _ => rfl
  have F29 := fun_mk (st := s_law_end_text) l29 c29 k29
  have b29 := F29.binds (ps := ["_law_end"]) fun _ _ _ _ _ _ us hl => match us, hl with | [_], _ => rfl
  have F30 := fun_mk (st := s_law_thing_text) l30 c30 k30
  have b30 := F30.binds (ps := ["_law_thing"]) fun _ _ _ _ _ _ us hl => match us, hl with | [_], _ => rfl
  have F31 := fun_mk (st := s_law_written) l31 c31 k31
  have b31 := F31.binds (ps := ["_law_plan"]) fun _ _ _ _ _ _ us hl => match us, hl with | [_], _ => rfl
  have F32 := fun_mk (st := s_law_loose) l32 c32 k32
  have b32 := F32.binds (ps := ["_law_draw", "_law_plan"]) fun _ _ _ _ _ _ us hl => match us, hl with | [_, _], _ => rfl
  have F33 := fun_mk (st := s_law) l33 c33 k33
  have b33 := F33.binds (ps := ["_law_script"]) fun _ _ _ _ _ _ us hl => match us, hl with | [_], _ => rfl
  let T : Txt K mg := ⟨f0, _, F0, b0, PySem.W.mg_of X G a0,
    f1, _, F1, b1, PySem.W.mg_of X G a1,
    f2, _, F2, b2, PySem.W.mg_of X G a2,
    f3, _, F3, b3, PySem.W.mg_of X G a3,
    f4, _, F4, b4, PySem.W.mg_of X G a4,
    f5, _, F5, b5, PySem.W.mg_of X G a5,
    f6, _, F6, b6, PySem.W.mg_of X G a6,
    f7, _, F7, b7, PySem.W.mg_of X G a7,
    f8, _, F8, b8, PySem.W.mg_of X G a8,
    f9, _, F9, b9, PySem.W.mg_of X G a9,
    f10, _, F10, b10, PySem.W.mg_of X G a10,
    f11, _, F11, b11,
    f12, _, F12, b12,
    f13, _, F13, b13,
    f14, _, F14, b14,
    f15, _, F15, b15, PySem.W.mg_of X G a15,
    f16, _, F16, b16,
    f17, _, F17, b17,
    f18, _, F18, b18,
    f19, _, F19, b19,
    f20, _, F20, b20,
    f21, _, F21, b21,
    f22, _, F22, b22,
    f23, _, F23, b23, PySem.W.mg_of X G a23,
    f24, _, F24, b24, PySem.W.mg_of X G a24,
    f25, _, F25, b25, PySem.W.mg_of X G a25,
    f26, _, F26, b26,
    f27, _, F27, b27, PySem.W.mg_of X G a27,
    f28, _, F28, b28, PySem.W.mg_of X G a28,
    f29, _, F29, b29, PySem.W.mg_of X G a29,
    f30, _, F30, b30, PySem.W.mg_of X G a30,
    f31, _, F31, b31, PySem.W.mg_of X G a31,
    f32, _, F32, b32, PySem.W.mg_of X G a32,
    fa, _, F33, b33, PySem.W.mg_of X G a33,
    C_Reader, ⟨pg_Reader, hd_Reader, po_Reader, sa_Reader⟩, PySem.W.mg_of X G gc_Reader,
    ⟨a11, i11, k11⟩,
    ⟨a12, i12, k12⟩,
    ⟨a13, i13, k13⟩,
    ⟨a14, i14, k14⟩,
    ⟨a16, i16, k16⟩,
    ⟨a17, i17, k17⟩,
    ⟨a18, i18, k18⟩,
    ⟨a19, i19, k19⟩,
    ⟨a20, i20, k20⟩,
    ⟨a21, i21, k21⟩,
    ⟨a22, i22, k22⟩,
    ⟨mk_Reader, a26, i26, kc_Reader⟩,
    na_Reader_signs,
    na_Reader_spot,
    na_Reader_many,
    PySem.W.mg_none_of X G z_abs,
    PySem.W.mg_none_of X G z_all,
    PySem.W.mg_none_of X G z_bool,
    PySem.W.mg_none_of X G z_int,
    PySem.W.mg_none_of X G z_isinstance,
    PySem.W.mg_none_of X G z_len,
    PySem.W.mg_none_of X G z_list,
    PySem.W.mg_none_of X G z_range,
    PySem.W.mg_none_of X G z_sorted,
    PySem.W.mg_none_of X G z_str,
    PySem.W.mg_none_of X G z_tuple,
    PySem.W.mg_none_of X G z_zip,
    _, PySem.W.mg_of X G m_DIGITS, ⟨_, rfl⟩,
    _, PySem.W.mg_of X G m_LETTERS, ⟨_, rfl⟩,
    _, PySem.W.mg_of X G m_LONGEST, ⟨_, rfl⟩,
    _, PySem.W.mg_of X G m_MOST_AGAIN, ⟨_, rfl⟩,
    _, PySem.W.mg_of X G m_MOST_DEEP, ⟨_, rfl⟩,
    _, PySem.W.mg_of X G m_MOST_PLUS, ⟨_, rfl⟩,
    _, PySem.W.mg_of X G m_MOST_STEP, ⟨_, rfl⟩,
    _, PySem.W.mg_of X G m_MOST_THINGS, ⟨_, rfl⟩,
    _, PySem.W.mg_of X G m_SIZE, ⟨_, rfl⟩,
    _, PySem.W.mg_of X G m_WAYS, p_WAYS, rfl, fun H => Or.inr ⟨_, _, _, q_WAYS, rfl, rfl, (by show 3 ≤ sizeLine; decide), (.cons ⟨_, rfl⟩ (.cons ⟨_, rfl⟩ (.cons ⟨_, rfl⟩ .nil)))⟩,
    _, PySem.W.mg_of X G m_WORDS, p_WORDS, rfl, fun H => Or.inr ⟨_, _, _, q_WORDS, rfl, rfl, (by show 15 ≤ sizeLine; decide), (.cons ⟨_, rfl⟩ (.cons ⟨_, rfl⟩ (.cons ⟨_, rfl⟩ (.cons ⟨_, rfl⟩ (.cons ⟨_, rfl⟩ (.cons ⟨_, rfl⟩ (.cons ⟨_, rfl⟩ (.cons ⟨_, rfl⟩ (.cons ⟨_, rfl⟩ (.cons ⟨_, rfl⟩ (.cons ⟨_, rfl⟩ (.cons ⟨_, rfl⟩ (.cons ⟨_, rfl⟩ (.cons ⟨_, rfl⟩ (.cons ⟨_, rfl⟩ .nil)))))))))))))))⟩,
    nb⟩
  exact ⟨_, fun s v => .of_eq rfl, fun base _ _ => ok_law T⟩
end My
open PySem PySem.W PyProof.Rows
set_option maxHeartbeats 0 in
theorem PySem.Challenge.cw_outgrow_k03_plans_read_holds : PySem.Challenge.rw_outgrow_k03_plans_read.Holds := by
  w_on; o_law; k_head; (case hw => w_witness2)
  k_fill
  refine L2.walk_of (l := PySem.Challenge.rw_outgrow_k03_plans_read) (n := 63) (k := My.LV) (x := "_law_script") (CX := fun _ => L2.CX0) (sp := fun w => My.spLaw _) rfl (by decide) rfl ⟨rfl, by decide, by decide⟩ (fun w h Y => PySem.W.kIn_of Y) ?F (fun _ _ a ns hl _ hS => ⟨a, ns, rfl, hS, hl, fun _ => rfl⟩) (fun _ _ _ _ _ h => h)
  case F =>
    intro w mg fa h KX G hmg
    refine' My.all_mk KX G hmg ?gc_Reader ?pg_Reader ?hd_Reader ?po_Reader ?sa_Reader ?mk_Reader ?kc_Reader ?na_Reader_signs ?na_Reader_spot ?na_Reader_many ?a0 ?l0 ?c0 ?k0 ?a1 ?l1 ?c1 ?k1 ?a2 ?l2 ?c2 ?k2 ?a3 ?l3 ?c3 ?k3 ?a4 ?l4 ?c4 ?k4 ?a5 ?l5 ?c5 ?k5 ?a6 ?l6 ?c6 ?k6 ?a7 ?l7 ?c7 ?k7 ?a8 ?l8 ?c8 ?k8 ?a9 ?l9 ?c9 ?k9 ?a10 ?l10 ?c10 ?k10 ?i11 ?a11 ?l11 ?c11 ?k11 ?i12 ?a12 ?l12 ?c12 ?k12 ?i13 ?a13 ?l13 ?c13 ?k13 ?i14 ?a14 ?l14 ?c14 ?k14 ?a15 ?l15 ?c15 ?k15 ?i16 ?a16 ?l16 ?c16 ?k16 ?i17 ?a17 ?l17 ?c17 ?k17 ?i18 ?a18 ?l18 ?c18 ?k18 ?i19 ?a19 ?l19 ?c19 ?k19 ?i20 ?a20 ?l20 ?c20 ?k20 ?i21 ?a21 ?l21 ?c21 ?k21 ?i22 ?a22 ?l22 ?c22 ?k22 ?a23 ?l23 ?c23 ?k23 ?a24 ?l24 ?c24 ?k24 ?a25 ?l25 ?c25 ?k25 ?i26 ?a26 ?l26 ?c26 ?k26 ?a27 ?l27 ?c27 ?k27 ?a28 ?l28 ?c28 ?k28 ?a29 ?l29 ?c29 ?k29 ?a30 ?l30 ?c30 ?k30 ?a31 ?l31 ?c31 ?k31 ?a32 ?l32 ?c32 ?k32 ?a33 ?l33 ?c33 ?k33 ?z_abs ?z_all ?z_bool ?z_int ?z_isinstance ?z_len ?z_list ?z_range ?z_sorted ?z_str ?z_tuple ?z_zip ?m_DIGITS ?m_LETTERS ?m_LONGEST ?m_MOST_AGAIN ?m_MOST_DEEP ?m_MOST_PLUS ?m_MOST_STEP ?m_MOST_THINGS ?m_SIZE ?m_WAYS ?q_WAYS ?m_WORDS ?q_WORDS ?nb
    (case gc_Reader => k_is)
    (case pg_Reader => k_is)
    (case hd_Reader => k_is)
    (case po_Reader => k_is)
    (case sa_Reader => k_is)
    (case mk_Reader => k_is)
    (case kc_Reader => k_is)
    (case na_Reader_signs => k_is)
    (case na_Reader_spot => k_is)
    (case na_Reader_many => k_is)
    (case a0 => k_is)
    (case l0 => k_is)
    (case c0 => k_is)
    (case k0 => k_is)
    (case a1 => k_is)
    (case l1 => k_is)
    (case c1 => k_is)
    (case k1 => k_is)
    (case a2 => k_is)
    (case l2 => k_is)
    (case c2 => k_is)
    (case k2 => k_is)
    (case a3 => k_is)
    (case l3 => k_is)
    (case c3 => k_is)
    (case k3 => k_is)
    (case a4 => k_is)
    (case l4 => k_is)
    (case c4 => k_is)
    (case k4 => k_is)
    (case a5 => k_is)
    (case l5 => k_is)
    (case c5 => k_is)
    (case k5 => k_is)
    (case a6 => k_is)
    (case l6 => k_is)
    (case c6 => k_is)
    (case k6 => k_is)
    (case a7 => k_is)
    (case l7 => k_is)
    (case c7 => k_is)
    (case k7 => k_is)
    (case a8 => k_is)
    (case l8 => k_is)
    (case c8 => k_is)
    (case k8 => k_is)
    (case a9 => k_is)
    (case l9 => k_is)
    (case c9 => k_is)
    (case k9 => k_is)
    (case a10 => k_is)
    (case l10 => k_is)
    (case c10 => k_is)
    (case k10 => k_is)
    (case i11 => k_is)
    (case a11 => k_is)
    (case l11 => k_is)
    (case c11 => k_is)
    (case k11 => k_is)
    (case i12 => k_is)
    (case a12 => k_is)
    (case l12 => k_is)
    (case c12 => k_is)
    (case k12 => k_is)
    (case i13 => k_is)
    (case a13 => k_is)
    (case l13 => k_is)
    (case c13 => k_is)
    (case k13 => k_is)
    (case i14 => k_is)
    (case a14 => k_is)
    (case l14 => k_is)
    (case c14 => k_is)
    (case k14 => k_is)
    (case a15 => k_is)
    (case l15 => k_is)
    (case c15 => k_is)
    (case k15 => k_is)
    (case i16 => k_is)
    (case a16 => k_is)
    (case l16 => k_is)
    (case c16 => k_is)
    (case k16 => k_is)
    (case i17 => k_is)
    (case a17 => k_is)
    (case l17 => k_is)
    (case c17 => k_is)
    (case k17 => k_is)
    (case i18 => k_is)
    (case a18 => k_is)
    (case l18 => k_is)
    (case c18 => k_is)
    (case k18 => k_is)
    (case i19 => k_is)
    (case a19 => k_is)
    (case l19 => k_is)
    (case c19 => k_is)
    (case k19 => k_is)
    (case i20 => k_is)
    (case a20 => k_is)
    (case l20 => k_is)
    (case c20 => k_is)
    (case k20 => k_is)
    (case i21 => k_is)
    (case a21 => k_is)
    (case l21 => k_is)
    (case c21 => k_is)
    (case k21 => k_is)
    (case i22 => k_is)
    (case a22 => k_is)
    (case l22 => k_is)
    (case c22 => k_is)
    (case k22 => k_is)
    (case a23 => k_is)
    (case l23 => k_is)
    (case c23 => k_is)
    (case k23 => k_is)
    (case a24 => k_is)
    (case l24 => k_is)
    (case c24 => k_is)
    (case k24 => k_is)
    (case a25 => k_is)
    (case l25 => k_is)
    (case c25 => k_is)
    (case k25 => k_is)
    (case i26 => k_is)
    (case a26 => k_is)
    (case l26 => k_is)
    (case c26 => k_is)
    (case k26 => k_is)
    (case a27 => k_is)
    (case l27 => k_is)
    (case c27 => k_is)
    (case k27 => k_is)
    (case a28 => k_is)
    (case l28 => k_is)
    (case c28 => k_is)
    (case k28 => k_is)
    (case a29 => k_is)
    (case l29 => k_is)
    (case c29 => k_is)
    (case k29 => k_is)
    (case a30 => k_is)
    (case l30 => k_is)
    (case c30 => k_is)
    (case k30 => k_is)
    (case a31 => k_is)
    (case l31 => k_is)
    (case c31 => k_is)
    (case k31 => k_is)
    (case a32 => k_is)
    (case l32 => k_is)
    (case c32 => k_is)
    (case k32 => k_is)
    (case a33 => k_is)
    (case l33 => k_is)
    (case c33 => k_is)
    (case k33 => k_is)
    (case z_abs => k_is)
    (case z_all => k_is)
    (case z_bool => k_is)
    (case z_int => k_is)
    (case z_isinstance => k_is)
    (case z_len => k_is)
    (case z_list => k_is)
    (case z_range => k_is)
    (case z_sorted => k_is)
    (case z_str => k_is)
    (case z_tuple => k_is)
    (case z_zip => k_is)
    (case m_DIGITS => k_is)
    (case m_LETTERS => k_is)
    (case m_LONGEST => k_is)
    (case m_MOST_AGAIN => k_is)
    (case m_MOST_DEEP => k_is)
    (case m_MOST_PLUS => k_is)
    (case m_MOST_STEP => k_is)
    (case m_MOST_THINGS => k_is)
    (case m_SIZE => k_is)
    (case m_WAYS => k_is)
    (case q_WAYS => k_is)
    (case m_WORDS => k_is)
    (case q_WORDS => k_is)
    (case nb => k_is)
#print axioms PySem.Challenge.cw_outgrow_k03_plans_read_holds
