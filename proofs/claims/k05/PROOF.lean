import PyProof.Rows.All
import Wide.All
import OpenK.AllK
import Wide.FinOn
import HandS.ForMost
import HandS.Wide
import HandS.WideMore
import HandS.IsInst
import HandS.Style
import HandS.Codes
import HandS.Walk
import HandS.Zip
import HandS.SortRule
import HandS.Conv
import HandS.FStr
import HandS.More
import HandS.TupAny
import HandS.Exc
import HandS.ExcField
import HandS.ExcIs
import HandS.TryMany
import HandS.ExcInit
import HandS.Lambda
import HandS.HotCalls
import HandS.ExcOwn
import HandS.WordsExc
import HandS.EndTab
import HandS.Defaults
import KE.KExcIs
import KE.RegKTryMore
import KE.RegKIsAll
import HandS.Replace
import HandS.ReplaceLit
import HandS.ReplaceDef
import HandS.ReplaceList
import PySem.Challenge.RW_outgrow_k05_texts_that_are_no_plans
set_option linter.unusedVariables false
set_option Elab.async false
set_option maxRecDepth 100000
set_option maxHeartbeats 4000000
namespace My
open PySem L2
/-! ### heaps: a frozen part G, a working part H; M: what may change of what stood -/
def NoM : Addr → Prop := fun _ => False
def Only1 (d : Addr) : Addr → Prop := fun b => b = d
def But (M : Addr → Prop) (H H' : Hp) : Prop := ∀ b o, H b = some o → ¬ M b → H' b = some o
/-- something that stands there and is no tuple -/
structure Cell (o : Option HO) : Prop where
  some : o ≠ none
  tup : ∀ xs, o ≠ Option.some (.tup xs)
structure Grow (M : Addr → Prop) (G H G' H' : Hp) : Prop where
  g : Same G G'
  gh : Same G' H'
  h : But M H H'
  old : ∀ b, Cell (H b) → G' b = G b
theorem cell_lst {H : Hp} {a : Addr} {xs : List V} (h : H a = some (.lst xs)) : Cell (H a) := ⟨fun e => (by rw [h] at e; cases e), fun ys e => (by rw [h] at e; cases e)⟩
theorem cell_dK {H : Hp} {a : Addr} {xs : List (L2.Key × V)} (h : H a = some (.dK xs)) : Cell (H a) := ⟨fun e => (by rw [h] at e; cases e), fun ys e => (by rw [h] at e; cases e)⟩
theorem cell_dT {H : Hp} {a : Addr} {xs : List (List L2.Key × V)} (h : H a = some (.dT xs)) : Cell (H a) := ⟨fun e => (by rw [h] at e; cases e), fun ys e => (by rw [h] at e; cases e)⟩
theorem cell_ins {H : Hp} {a C dx : Addr} {fs : List (Str × V)} (h : H a = some (.ins C dx fs)) : Cell (H a) := ⟨fun e => (by rw [h] at e; cases e), fun ys e => (by rw [h] at e; cases e)⟩
theorem But.refl (M : Addr → Prop) (H : Hp) : But M H H := fun _ _ e _ => e
theorem But.trans {M : Addr → Prop} {H H1 H2 : Hp} (a : But M H H1) (b : But M H1 H2) : But M H H2 := fun c o e n => b c o (a c o e n) n
theorem But.mono {M M' : Addr → Prop} {H H1 : Hp} (h : ∀ b, M b → M' b) (a : But M H H1) : But M' H H1 := fun c o e n => a c o e fun z => n (h c z)
theorem But.same {H H1 : Hp} (a : But NoM H H1) : Same H H1 := fun c o e => a c o e fun z => z
theorem same_but {M : Addr → Prop} {H H1 : Hp} (a : Same H H1) : But M H H1 := fun c o e _ => a c o e
theorem same_upd {H : Hp} {p : Addr} {o : HO} (h : H p = none) : Same H (upd H p o) := fun b x e => by
  rw [upd_ne (ne_of_none e h)]
  exact e
theorem But.new {M : Addr → Prop} {H : Hp} {p : Addr} {o : HO} (h : H p = none) : But M H (upd H p o) := same_but (same_upd h)
theorem But.put {M : Addr → Prop} {H H1 : Hp} {p : Addr} {o : HO} (a : But M H H1) (h : M p) : But M H (upd H1 p o) := fun b x e n => by
  rw [upd_ne (fun z => n (by rw [z]; exact h))]
  exact a b x e n
theorem But.put0 {M : Addr → Prop} {H H1 : Hp} {p : Addr} {o : HO} (a : But M H H1) (h : H p = none) : But M H (upd H1 p o) := fun b x e n => by
  rw [upd_ne (ne_of_none e h)]
  exact a b x e n
theorem But.cell {M : Addr → Prop} {H H1 : Hp} (a : But M H H1) (hm : ∀ b, M b → Cell (H1 b)) {b : Addr} (h : Cell (H b)) : Cell (H1 b) := by
  by_cases n : M b
  · exact hm b n
  · cases e : H b with
    | none => exact absurd e h.some
    | some o =>
      rw [a b o e n]
      rw [e] at h
      exact h
theorem But.none {M : Addr → Prop} {H H1 : Hp} (a : But M H H1) (hm : ∀ b, M b → Cell (H1 b)) {b : Addr} (h : H1 b = none) : H b = none := by
  cases e : H b with
  | none => rfl
  | some o =>
    by_cases n : M b
    · exact absurd h (hm b n).some
    · rw [a b o e n] at h
      cases h
theorem Grow.refl {M : Addr → Prop} {G H : Hp} (h : Same G H) : Grow M G H G H := ⟨Same.refl _, h, But.refl _ _, fun _ _ => rfl⟩
theorem Grow.trans {M : Addr → Prop} {G H G1 H1 G2 H2 : Hp} (a : Grow M G H G1 H1) (b : Grow M G1 H1 G2 H2) (hm : ∀ c, M c → Cell (H1 c)) : Grow M G H G2 H2 :=
  ⟨a.g.trans b.g, b.gh, a.h.trans b.h, fun c hc => (b.old c (a.h.cell hm hc)).trans (a.old c hc)⟩
theorem Grow.mono {M M' : Addr → Prop} {G H G1 H1 : Hp} (h : ∀ b, M b → M' b) (a : Grow M G H G1 H1) : Grow M' G H G1 H1 := ⟨a.g, a.gh, a.h.mono h, a.old⟩
/-- a new cell -/
theorem Grow.cell {M : Addr → Prop} {G H G1 H1 : Hp} {p : Addr} {o : HO} (a : Grow M G H G1 H1) (h : H1 p = none) : Grow M G H G1 (upd H1 p o) :=
  ⟨a.g, a.gh.trans (same_upd h), a.h.trans (But.new h), a.old⟩
/-- a cell of one's own, or one of M, is written -/
theorem Grow.put {M : Addr → Prop} {G H G1 H1 : Hp} {p : Addr} {o : HO} (a : Grow M G H G1 H1) (hg : G1 p = none) (h : H p = none ∨ M p) : Grow M G H G1 (upd H1 p o) :=
  ⟨a.g, fun b x e => by rw [upd_ne (ne_of_none e hg)]; exact a.gh b x e, by rcases h with h | h; exact a.h.put0 h; exact a.h.put h, a.old⟩
/-- a cell of one's own is frozen -/
theorem Grow.pub {M : Addr → Prop} {G H G1 H1 : Hp} {p : Addr} {o : HO} (a : Grow M G H G1 H1) (h1 : H1 p = some o) (hg : G1 p = none) (h : H p = none) : Grow M G H (upd G1 p o) H1 :=
  ⟨a.g.trans (same_upd hg), fun b x e => by
    by_cases q : b = p
    · subst q
      rw [upd_same] at e
      rw [← e]
      exact h1
    · rw [upd_ne q] at e
      exact a.gh b x e, a.h, fun b hb => by
    have q : b ≠ p := fun z => hb.some (by rw [z]; exact h)
    rw [upd_ne q]
    exact a.old b hb⟩
/-- a tuple is frozen at any time -/
theorem Grow.pubT {M : Addr → Prop} {G H G1 H1 : Hp} {p : Addr} {xs : List V} (a : Grow M G H G1 H1) (h1 : H1 p = some (.tup xs)) (hm : ∀ c, M c → Cell (H1 c)) : Grow M G H (upd G1 p (.tup xs)) H1 :=
  ⟨a.g.trans (fun b x e => by
    by_cases q : b = p
    · subst q
      rw [a.gh b x e] at h1
      rw [upd_same, h1]
    · rw [upd_ne q]
      exact e), fun b x e => by
    by_cases q : b = p
    · subst q
      rw [upd_same] at e
      rw [← e]
      exact h1
    · rw [upd_ne q] at e
      exact a.gh b x e, a.h, fun b hb => by
    have q : b ≠ p := fun z => (a.h.cell hm hb).tup xs (by rw [z]; exact h1)
    rw [upd_ne q]
    exact a.old b hb⟩
theorem pub_same {G H : Hp} {p : Addr} {o : HO} (g : Same G H) (h : H p = some o) : Same G (upd G p o) := fun b x e => by
  by_cases q : b = p
  · subst q
    rw [g b x e] at h
    rw [upd_same, h]
  · rw [upd_ne q]
    exact e
/-- a new thing, frozen at once -/
theorem Grow.new {M : Addr → Prop} {G H G1 H1 : Hp} {p : Addr} {o : HO} (a : Grow M G H G1 H1) (h : H1 p = none) (hm : ∀ c, M c → Cell (H1 c)) : Grow M G H (upd G1 p o) (upd H1 p o) :=
  (a.cell h).pub upd_same (a.gh.free h) (a.h.none hm h)
theorem Grow.none {M : Addr → Prop} {G H G1 H1 : Hp} {p : Addr} (a : Grow M G H G1 H1) (hg : G p = .none) (h : Cell (H p)) : G1 p = .none := by
  rw [a.old p h]
  exact hg
/-- a cell of one's own at the heap behind -/
theorem Grow.at_ {M : Addr → Prop} {G H G1 H1 : Hp} {p : Addr} {o : HO} (a : Grow M G H G1 H1) (h : H p = some o) (n : ¬ M p) : H1 p = some o := a.h p o h n
theorem noM {P : Addr → Prop} : ∀ c, NoM c → P c := fun _ h => h.elim
theorem noMC {H : Hp} : ∀ c, NoM c → Cell (H c) := fun _ h => h.elim
theorem only1 {d : Addr} : Only1 d d := rfl

end My
namespace L2
open PySem
/-! ### data -/
theorem same_rd {H H' : Hp} {a : Addr} {u : HO} (e : Same H H') (h : Rd H a u) : Rd H' a u := by
  rcases h with h | ⟨o, h⟩
  · exact Or.inl (e a _ h)
  · exact Or.inr ⟨o, e a _ h⟩
theorem same_l {K : PySem.W.Frag} {H H' : Hp} {a : Addr} {xs : List V} (e : Same H H') (h : SqL K H a xs) : SqL K H' a xs := by
  rcases h with h | h
  · exact Or.inl (same_rd e h)
  · exact Or.inr h
theorem same_t {K : PySem.W.Frag} {H H' : Hp} {a : Addr} {xs : List V} (e : Same H H') (h : SqT K H a xs) : SqT K H' a xs := by
  rcases h with h | h
  · exact Or.inl (same_rd e h)
  · exact Or.inr h
mutual
theorem Dp.mono {K : PySem.W.Frag} {H H' : Hp} (e : Same H H') : ∀ {d : PyData} {v : V}, Dp K H v d → Dp K H' v d
  | _, _, .non => .non
  | _, _, .bl b => .bl b
  | _, _, .int i => .int i
  | _, _, .str x => .str x
  | _, _, .lst h a => .lst (same_l e h) (DpAll.mono e a)
  | _, _, .tup h a => .tup (same_t e h) (DpAll.mono e a)
theorem DpAll.mono {K : PySem.W.Frag} {H H' : Hp} (e : Same H H') : ∀ {ds : List PyData} {vs : List V}, DpAll K H vs ds → DpAll K H' vs ds
  | _, _, .nil => .nil
  | _, _, .cons a b => .cons (Dp.mono e a) (DpAll.mono e b)
end
theorem DpAll.length {K : PySem.W.Frag} {H : Hp} : ∀ {ds : List PyData} {vs : List V}, DpAll K H vs ds → vs.length = ds.length
  | _, _, .nil => rfl
  | _, _, .cons _ b => by
    rw [List.length_cons, List.length_cons, DpAll.length b]
theorem DpAll.snoc {K : PySem.W.Frag} {H : Hp} {d : PyData} {v : V} : ∀ {ds : List PyData} {vs : List V}, DpAll K H vs ds → Dp K H v d → DpAll K H (vs ++ [v]) (ds ++ [d])
  | _, _, .nil, h => .cons h .nil
  | _, _, .cons a b, h => .cons a (DpAll.snoc b h)
theorem DpAll.get {K : PySem.W.Frag} {H : Hp} : ∀ {ds : List PyData} {vs : List V} {i : Nat} {v : V}, DpAll K H vs ds → vs[i]? = some v → ∃ d, ds[i]? = some d ∧ Dp K H v d
  | _, _, _, _, .nil, h => by simp at h
  | _, _, 0, _, .cons a _, h => by
    simp at h
    subst h
    exact ⟨_, rfl, a⟩
  | _, _, i + 1, _, .cons _ b, h => by
    obtain ⟨d, e, q⟩ := DpAll.get (i := i) b (by simpa using h)
    exact ⟨d, by simpa using e, q⟩
theorem DpAll.get' {K : PySem.W.Frag} {H : Hp} : ∀ {ds : List PyData} {vs : List V} {i : Nat} {d : PyData}, DpAll K H vs ds → ds[i]? = some d → ∃ v, vs[i]? = some v ∧ Dp K H v d
  | _, _, _, _, .nil, h => by simp at h
  | _, _, 0, _, .cons a _, h => by
    simp at h
    subst h
    exact ⟨_, rfl, a⟩
  | _, _, i + 1, _, .cons _ b, h => by
    obtain ⟨d, e, q⟩ := DpAll.get' (i := i) b (by simpa using h)
    exact ⟨d, by simpa using e, q⟩

end L2
namespace My
open PySem L2
/-! ### the draw -/
structure DrawAt (H : Hp) (d l : Addr) : Prop where
  ex : ∃ (ns : List Int) (p g s : Int), H d = some (.lst [.ref l, .int p, .int g, .int s]) ∧ H l = some (.lst (ns.map V.int)) ∧ 0 ≤ p ∧ 0 ≤ g ∧ 0 ≤ s ∧ s < 2147483647 ∧ ns.length ≤ 63
theorem DrawAt.some {H : Hp} {d l : Addr} (h : DrawAt H d l) : H d ≠ none := by
  obtain ⟨ns, p, g, s, e, _⟩ := h.ex
  rw [e]
  simp
theorem DrawAt.cell {H : Hp} {d l : Addr} (h : DrawAt H d l) : Cell (H d) := by
  obtain ⟨ns, p, g, s, e, _⟩ := h.ex
  exact cell_lst e
theorem DrawAt.some' {H : Hp} {d l : Addr} (h : DrawAt H d l) : ∀ c, Only1 d c → Cell (H c) := fun c e => by
  rw [show c = d from e]
  exact h.cell
theorem DrawAt.ned {H : Hp} {d l p : Addr} (h : DrawAt H d l) (e : H p = none) : p ≠ d := fun q => h.some (by rw [← q]; exact e)
theorem DrawAt.nel {H : Hp} {d l p : Addr} (h : DrawAt H d l) (e : H p = none) : p ≠ l := fun q => by
  obtain ⟨ns, p, g, s, _, e2, _⟩ := h.ex
  rw [← q, e] at e2
  cases e2
theorem DrawAt.mono {H H' : Hp} {d l : Addr} (h : DrawAt H d l) (e : Same H H') : DrawAt H' d l := by
  obtain ⟨ns, p, g, s, e1, e2, r⟩ := h.ex
  exact ⟨⟨ns, p, g, s, e _ _ e1, e _ _ e2, r⟩⟩
theorem DrawAt.upd {H : Hp} {d l p : Addr} {o : HO} (h : DrawAt H d l) (e : H p = none) : DrawAt (upd H p o) d l := h.mono (same_upd e)
theorem DrawAt.put {H : Hp} {d l p : Addr} {o : HO} (h : DrawAt H d l) (hd : p ≠ d) (hl : p ≠ l) : DrawAt (L2.upd H p o) d l := by
  obtain ⟨ns, p', g, s, e1, e2, r⟩ := h.ex
  exact ⟨⟨ns, p', g, s, by rw [upd_ne hd.symm]; exact e1, by rw [upd_ne hl.symm]; exact e2, r⟩⟩
theorem log_small {n : Int} {k : Nat} (h0 : 0 < n) (h : n < 2 ^ k) (hk : k ≤ 9000) (k0 : 0 < k) : CDivW 0 n := by
  refine wide_div (i := 0) h0 (b := k) ?_ k0 hk
  have : ((n.natAbs : Nat) : Int) < ((2 ^ k : Nat) : Int) := by
    rw [Int.natAbs_of_nonneg (by omega)]
    simpa using h
  exact_mod_cast this
end My
namespace My
open PySem L2
/-! ### types and depth of data -/
def tyN : PyData → String
  | .none => "NoneType"
  | .bool _ => "bool"
  | .int _ => "int"
  | .str _ => "str"
  | .list _ => "list"
  | .tuple _ => "tuple"
  | .dict _ => "dict"
abbrev tyD (d : PyData) : Value := .type (tyN d)
theorem sql_ty {K : PySem.W.Frag} {H : Hp} {a : Addr} {xs : List V} (h : SqL K H a xs) : TyX K H (.ref a) (.type "list") := by
  rcases h with (h | ⟨o, h⟩) | ⟨o, its, n, h, c, _⟩
  · exact .base (.lst h)
  · exact .base (.frz h)
  · exact .kList h c
theorem sqt_ty {K : PySem.W.Frag} {H : Hp} {a : Addr} {xs : List V} (h : SqT K H a xs) : TyX K H (.ref a) (.type "tuple") := by
  rcases h with (h | ⟨o, h⟩) | ⟨o, its, n, h, c, _⟩
  · exact .base (.tup h)
  · exact .fTuple h
  · exact .kTuple h c
theorem dp_ty {K : PySem.W.Frag} {H : Hp} {v : V} {d : PyData} (h : Dp K H v d) : TyX K H v (tyD d) := by
  cases h with
  | non => exact .base .non
  | bl b => exact .base (.bl b)
  | int i => exact .base (.int i)
  | str x => exact .base (.str x)
  | lst h _ => exact sql_ty h
  | tup h _ => exact sqt_ty h
mutual
def dep : PyData → Nat
  | .list ds => depAll ds + 1
  | .tuple ds => depAll ds + 1
  | _ => 0
def depAll : List PyData → Nat
  | [] => 0
  | d :: ds => max (dep d) (depAll ds)
end
theorem dep_get : ∀ {ds : List PyData} {i : Nat} {d : PyData}, ds[i]? = some d → dep d ≤ depAll ds
  | [], _, _, h => by simp at h
  | x :: r, 0, d, h => by
    have e : x = d := by simpa using h
    rw [e, depAll]
    omega
  | x :: r, i + 1, d, h => by
    have q := dep_get (ds := r) (i := i) (d := d) (by simpa using h)
    rw [depAll]
    omega
mutual
def wid : PyData → Nat
  | .list ds => max ds.length (widAll ds)
  | .tuple ds => max ds.length (widAll ds)
  | _ => 0
def widAll : List PyData → Nat
  | [] => 0
  | d :: ds => max (wid d) (widAll ds)
end
theorem wid_get : ∀ {ds : List PyData} {i : Nat} {d : PyData}, ds[i]? = some d → wid d ≤ widAll ds
  | [], _, _, h => by simp at h
  | x :: r, 0, d, h => by
    have e : x = d := by simpa using h
    rw [e, widAll]
    omega
  | x :: r, i + 1, d, h => by
    have q := wid_get (ds := r) (i := i) (d := d) (by simpa using h)
    rw [widAll]
    omega
theorem kit2 {K : PySem.W.Frag} {t : Value} {a b : String} {r s : Bool} (h1 : PySem.W.kitOne K t (.type a) = some r) (h2 : PySem.W.kitOne K t (.type b) = some s) : PySem.W.kitAny K t [.type a, .type b] = some (r || s) := by
  refine kitAny_cons h1 (fun e => ?_) (fun e => by rw [e]; rfl)
  rw [e]
  refine kitAny_cons h2 (fun e => ?_) (fun e => by rw [e]; rfl)
  rw [e]
  exact kitAny_nil
/-- is a list, is a tuple, .. -/
def isTn (s t : String) : Bool := t == s || (t == "bool" && s == "int")
abbrev isTy (s : String) (d : PyData) : Bool := isTn s (tyN d)
theorem kit_n {K : PySem.W.Frag} (a b : String) (h : kitB a b = some (isTn b a)) : PySem.W.kitOne K (.type a) (.type b) = some (isTn b a) := kit_ty h
theorem kit_d {K : PySem.W.Frag} (d : PyData) : PySem.W.kitOne K (tyD d) (.type "list") = some (isTy "list" d) ∧ PySem.W.kitOne K (tyD d) (.type "tuple") = some (isTy "tuple" d) ∧
    PySem.W.kitOne K (tyD d) (.type "bool") = some (isTy "bool" d) ∧ PySem.W.kitOne K (tyD d) (.type "int") = some (isTy "int" d) ∧ PySem.W.kitOne K (tyD d) (.type "str") = some (isTy "str" d) := by
  cases d with
  | none => exact ⟨kit_n "NoneType" "list" (by decide +kernel), kit_n "NoneType" "tuple" (by decide +kernel), kit_n "NoneType" "bool" (by decide +kernel), kit_n "NoneType" "int" (by decide +kernel), kit_n "NoneType" "str" (by decide +kernel)⟩
  | bool _ => exact ⟨kit_n "bool" "list" (by decide +kernel), kit_n "bool" "tuple" (by decide +kernel), kit_n "bool" "bool" (by decide +kernel), kit_n "bool" "int" (by decide +kernel), kit_n "bool" "str" (by decide +kernel)⟩
  | int _ => exact ⟨kit_n "int" "list" (by decide +kernel), kit_n "int" "tuple" (by decide +kernel), kit_n "int" "bool" (by decide +kernel), kit_n "int" "int" (by decide +kernel), kit_n "int" "str" (by decide +kernel)⟩
  | str _ => exact ⟨kit_n "str" "list" (by decide +kernel), kit_n "str" "tuple" (by decide +kernel), kit_n "str" "bool" (by decide +kernel), kit_n "str" "int" (by decide +kernel), kit_n "str" "str" (by decide +kernel)⟩
  | list _ => exact ⟨kit_n "list" "list" (by decide +kernel), kit_n "list" "tuple" (by decide +kernel), kit_n "list" "bool" (by decide +kernel), kit_n "list" "int" (by decide +kernel), kit_n "list" "str" (by decide +kernel)⟩
  | tuple _ => exact ⟨kit_n "tuple" "list" (by decide +kernel), kit_n "tuple" "tuple" (by decide +kernel), kit_n "tuple" "bool" (by decide +kernel), kit_n "tuple" "int" (by decide +kernel), kit_n "tuple" "str" (by decide +kernel)⟩
  | dict _ => exact ⟨kit_n "dict" "list" (by decide +kernel), kit_n "dict" "tuple" (by decide +kernel), kit_n "dict" "bool" (by decide +kernel), kit_n "dict" "int" (by decide +kernel), kit_n "dict" "str" (by decide +kernel)⟩
abbrev clsLT : List V := [.ty "list", .ty "tuple"]
theorem pairLT : Paired ClsV clsLT [.type "list", .type "tuple"] := .cons (.ty _) (.cons (.ty _) .nil)
theorem walk_zipT {K : PySem.W.Frag} {a b : Addr} {xs ys : List V} {n : Nat} (hn : n = min xs.length ys.length) : Walk (RZ.ItzT K a b) n (fun H => SqT K H a xs ∧ SqT K H b ys) (YPair (fun i => xs[i]?) (fun i => ys[i]?)) := by
  subst hn
  refine ⟨fun i _ hi q => ?_, fun _ q => ⟨xs, ys, q.1, q.2, by omega⟩, fun i H v H' _ q y => ?_⟩
  · have h1 : i < xs.length := by omega
    have h2 : i < ys.length := by omega
    exact ⟨xs, ys, xs[i], ys[i], q.1, q.2, by simp [h1], by simp [h2]⟩
  · obtain ⟨T, x, z, h1, h2, h3, h4, h5⟩ := y
    exact ⟨T, x, z, h1, h2, h3, h4 xs q.1, h5 ys q.2⟩
theorem but_l {K : PySem.W.Frag} {M : Addr → Prop} {H H' : Hp} {a : Addr} {xs : List V} (e : But M H H') (n : ¬ M a) (h : SqL K H a xs) : SqL K H' a xs := by
  rcases h with (h | ⟨o, h⟩) | h
  · exact Or.inl (Or.inl (e a _ h n))
  · exact Or.inl (Or.inr ⟨o, e a _ h n⟩)
  · exact Or.inr h
theorem but_t {K : PySem.W.Frag} {M : Addr → Prop} {H H' : Hp} {a : Addr} {xs : List V} (e : But M H H') (n : ¬ M a) (h : SqT K H a xs) : SqT K H' a xs := by
  rcases h with (h | ⟨o, h⟩) | h
  · exact Or.inl (Or.inl (e a _ h n))
  · exact Or.inl (Or.inr ⟨o, e a _ h n⟩)
  · exact Or.inr h
end My
namespace My
open PySem L2
/-- [f sign for sign in text] -/
theorem lc_sign {te tz : TE} {σ : L2.St} {H : Hp} {Q : VK} {j : Nat} (z : Str) (f : Nat → Bool) (hz : z.length ≤ 100000) (hv : ∀ Q' : VK, Q' (.str z) H → tz σ H Q')
    (hw : ∀ x : V, wipe ((wipe σ [j]).set j (some x)) [j] = wipe σ [j]) (hs : ∀ (c : Nat) (H' : Hp) (Q' : VK), Q' (.bl (f c)) H' → te ((wipe σ [j]).set j (some (.str ⟨#[c]⟩))) H' Q')
    (k : ∀ (D : Addr) (H' : Hp), Same H H' → H D = none → H' D = some (.lst ((z.cps.toList.map f).map V.bl)) → Q (.ref D) H') : tLc (iStr tz) (gName j) tYes te [j] σ H Q := by
  refine hv _ ⟨z, rfl, fun D hD => ?_⟩
  refine lc_it walk_str (fun i H' => Same H H' ∧ H' D = some (.lst (((z.cps.toList.take i).map f).map V.bl))) ⟨same_upd hD, upd_same⟩ (fun _ _ _ _ => trivial) ?_ ?_
  · rintro i x H1 H2 hi ⟨sm, eD⟩ ⟨rfl, c, hc, rfl⟩
    refine ⟨hw _, ?_⟩
    refine hs c H2 _ ⟨_, eD, ?_, ?_, ?_⟩
    · rw [List.length_map, List.length_map, List.length_take]
      have : i < 100000 := Nat.lt_of_lt_of_le hi hz
      exact Nat.lt_of_le_of_lt (Nat.min_le_left _ _) (Nat.lt_of_lt_of_le this (by decide))
    · intro b o e
      rw [upd_ne (ne_of_none e hD)]
      exact sm b o e
    · rw [upd_same, List.take_add_one]
      have e : z.cps.toList[i]? = some c := by
        rw [Array.getElem?_toList]
        exact hc
      rw [e]
      simp
  · rintro H' ⟨sm, eD⟩
    refine k D H' sm hD ?_
    rw [eD, List.take_of_length_le (by rw [Array.length_toList]; exact Nat.le_refl _)]
theorem list_all_map {α : Type} (f : α → Bool) (l : List α) : (l.map f).all id = l.all f := by
  rw [List.all_map]
  rfl
end My
namespace My
open PySem L2
section
variable {X : Cx}
theorem iop_mulW : OpR X (inplaceOp .Mult) (rI CMulW fun i j => .int (i * j)) := opI fun _ _ _ _ _ _ _ hc q => PyProof.Rows.imul_int q hc.ok
theorem ip_mulW : PIp X .Mult (rI CMulW fun i j => .int (i * j)) := fun pins s σ H x y v u Q I rx ry h => iop_mulW pins s σ H x y v u Q I rx ry h
theorem ip_fdivW : PIp X .FloorDiv (rI CDivW fun i j => .int (i / j)) := fun pins s σ H x y v u Q I rx ry h => iop_fdivW pins s σ H x y v u Q I rx ry h
end
theorem pow_lt {b : Int} {m : Nat} (h : b.natAbs < 2 ^ m) : ∀ i : Nat, (b ^ i).natAbs < 2 ^ (m * i + 1)
  | 0 => by
    rw [Int.pow_zero, Nat.mul_zero]
    decide
  | i + 1 => by
    have q := pow_lt h i
    rw [Int.pow_succ]
    have e : m * (i + 1) + 1 = (m * i + 1) + m := by rw [Nat.mul_succ]; omega
    rw [e]
    exact wide_lt q h
/-- base, power: the power, by a product for each turn -/
def spRaised : Sp := fun vs H Q _ => ∃ (b : Int) (p m : Nat), vs = [.int b, .int p] ∧ b.natAbs < 2 ^ m ∧ 0 < m ∧ m * (p + 1) ≤ 900000 ∧ Q (.int (b ^ p)) H
theorem raised_ok {b : Int} {m p i : Nat} (h : b.natAbs < 2 ^ m) (h0 : 0 < m) (h1 : m * (p + 1) ≤ 900000) (hi : i < p) : CMulW (b ^ i) b := by
  have e1 : m * i + m ≤ m * (p + 1) := by
    rw [← Nat.mul_succ]
    exact Nat.mul_le_mul_left _ (by omega)
  exact wide_mul (pow_lt h i) h (by omega) h0 (by omega)
theorem raised_small {m p : Nat} (h0 : 0 < m) (h1 : m * (p + 1) ≤ 900000) : p < 900000 := by
  have : 1 * (p + 1) ≤ m * (p + 1) := Nat.mul_le_mul_right _ h0
  omega
end My
namespace My
open PySem L2
/-- a comprehension whose turns leave all that stood as it was: the values f i -/
theorem lc_pure {J : It} {n : Nat} {G : Hp → Prop} {Y : Nat → Hp → V → Hp → Prop} (w : Walk J n G Y) {g : TG} {te : TE} {vs : List Nat} {σ : L2.St} {H : Hp} {D : Addr} {Qd : Hp → Prop} (f : Nat → V) (hn : n ≤ 100000) (hD : H D = none) (hG : ∀ H', Same H H' → G H')
    (hs : ∀ (i : Nat) (x : V) (H1 H2 : Hp) (Q' : VK), i < n → Same H H1 → Y i H1 x H2 → (∀ H4, Same H1 H4 → Q' (f i) H4) → g x (wipe σ vs) H2 fun σ2 H3 => wipe σ2 vs = wipe σ vs ∧ te σ2 H3 Q')
    (k : ∀ H', Same H H' → H' D = some (.lst ((List.range n).map f)) → Qd H') :
    ∃ W : Nat → Nat → Hp → Prop, (∃ m, W 0 m (upd H D (.lst []))) ∧ ∀ i m H, W i m H →
      (J.stop i H ∧ Qd H) ∨ (J.go i H ∧ ∃ Nx : Hp → Prop, (∀ H', Nx H' → ∃ m', m' < m ∧ W (i + 1) m' H') ∧ ∀ x H', J.yld i H x H' → g x (wipe σ vs) H' fun σ2 H2 => wipe σ2 vs = wipe σ vs ∧ tYes σ2 H2 fun b H3 =>
        if b = true then te σ2 H3 fun y H4 => ∃ acc, H4 D = some (.lst acc) ∧ acc.length < sizeLine ∧ Nx (upd H4 D (.lst (acc ++ [y]))) else Nx H3) := by
  refine lc_it w (fun i H' => Same H H' ∧ H' D = some (.lst ((List.range i).map f))) ⟨same_upd hD, upd_same⟩ (fun i H' _ p => hG H' p.1) ?_ (fun H' p => k H' p.1 p.2)
  rintro i x H1 H2 hi ⟨sm, eD⟩ y
  refine hs i x H1 H2 _ hi sm y fun H4 s4 => ?_
  refine ⟨_, s4 _ _ eD, ?_, ?_, ?_⟩
  · rw [List.length_map, List.length_range]
    exact Nat.lt_of_lt_of_le hi (Nat.le_trans hn (by decide))
  · intro b o e
    rw [upd_ne (ne_of_none e hD)]
    exact s4 _ _ (sm b o e)
  · rw [upd_same, List.range_succ, List.map_append]
    rfl
/-- the draw's list and what was frozen -/
theorem Grow.draw {G H H' : Hp} {d : Addr} (sg : Same G H) (gd : G d = .none) (b : But (Only1 d) H H') : Grow (Only1 d) G H G H' :=
  ⟨Same.refl _, fun c o e => b c o (sg c o e) (fun q => by
    rw [show c = d from q, gd] at e
    cases e), b, fun _ _ => rfl⟩
end My
namespace My
open PySem L2
abbrev keptL : List Str := ["step", "for", "from", "to", "if", "else", "double", "call", "with", "again", "on", "halves", "thirds", "less", "n"]
end My
namespace My
open PySem L2
/-! ### texts -/
def num (i : Int) : Str := Str.ofString (toString i)
theorem str_assoc (a b c : Str) : a ++ b ++ c = a ++ (b ++ c) := congrArg Str.mk (Array.append_assoc (xs := a.cps) (ys := b.cps) (zs := c.cps))
theorem str_nil (a : Str) : Str.empty ++ a = a := congrArg Str.mk (Array.empty_append (xs := a.cps))
theorem str_nil_r (a : Str) : a ++ Str.empty = a := congrArg Str.mk (Array.append_empty (xs := a.cps))
theorem str_len (a b : Str) : (a ++ b).length = a.length + b.length := Array.size_append
theorem join_one (s x : Str) : Txt.join s [x] = x := by rw [TL.join_eq]; rfl
theorem join_nil (s : Str) : Txt.join s [] = Str.empty := by rw [TL.join_eq]; rfl
theorem join_cons {s x : Str} {l : List Str} (h : l ≠ []) : Txt.join s (x :: l) = x ++ s ++ Txt.join s l := by
  cases l with
  | nil => exact absurd rfl h
  | cons y r => rw [TL.join_eq, TL.join_eq]; rfl
theorem join_snoc {s x : Str} : ∀ {l : List Str}, l ≠ [] → Txt.join s (l ++ [x]) = Txt.join s l ++ s ++ x
  | [], h => absurd rfl h
  | [y], _ => by rw [List.singleton_append, join_cons (by simp), join_one, join_one]
  | y :: z :: r, _ => by
    have ih := join_snoc (s := s) (x := x) (l := z :: r) (by simp)
    rw [List.cons_append, join_cons (by simp), ih, join_cons (l := z :: r) (by simp)]
    simp only [str_assoc]
theorem join_len (s : Str) : ∀ l : List Str, (Txt.join s l).length ≤ (l.map (·.length)).sum + l.length * s.length
  | [] => by rw [join_nil]; exact Nat.zero_le _
  | [x] => by rw [join_one]; simp
  | x :: y :: r => by
    have ih := join_len s (y :: r)
    rw [join_cons (by simp), str_len, str_len]
    simp only [List.map_cons, List.sum_cons, List.length_cons, Nat.add_mul, Nat.one_mul] at ih ⊢
    omega
theorem sum_le {B : Nat} : ∀ {l : List Str}, (∀ x ∈ l, x.length ≤ B) → (l.map (·.length)).sum ≤ l.length * B
  | [], _ => by simp
  | x :: r, h => by
    have ih := sum_le (l := r) fun y hy => h y (List.mem_cons_of_mem _ hy)
    have h1 := h x (List.mem_cons_self ..)
    simp only [List.map_cons, List.sum_cons, List.length_cons, Nat.add_mul, Nat.one_mul]
    omega
theorem num_len {i : Int} {k : Nat} (hk : 0 < k) (h : i.natAbs.log2 < k) : (num i).length ≤ k + 1 := by
  have e := int_text_length_le hk h
  have e2 : (num i).length = (toString i).length := by
    unfold num
    rw [Str.ofString_eq_toList]
    show ((toString i).toList.map Char.toNat).toArray.size = _
    rw [List.size_toArray, List.length_map]
    rfl
  omega
theorem log_lt {i : Int} {k : Nat} (h0 : i.natAbs < 2 ^ k) (hk : 0 < k) : i.natAbs.log2 < k := by
  by_cases h : i.natAbs = 0
  · rw [h]; exact hk
  · exact (Nat.log2_lt h).mpr h0
end My
namespace L2
open PySem
theorem Dp.tup2 {K : PySem.W.Frag} {H : Hp} {v : V} {d e : PyData} (h : Dp K H v (.tuple [d, e])) : ∃ a x y, v = .ref a ∧ SqT K H a [x, y] ∧ Dp K H x d ∧ Dp K H y e := by
  cases h with
  | tup hs hr =>
    cases hr with
    | cons h1 hr =>
      cases hr with
      | cons h2 hr =>
        cases hr
        exact ⟨_, _, _, rfl, hs, h1, h2⟩
theorem Dp.lst' {K : PySem.W.Frag} {H : Hp} {v : V} {ds : List PyData} (h : Dp K H v (.list ds)) : ∃ a xs, v = .ref a ∧ SqL K H a xs ∧ DpAll K H xs ds := by
  cases h with
  | lst hs hr => exact ⟨_, _, rfl, hs, hr⟩
theorem Dp.int' {K : PySem.W.Frag} {H : Hp} {v : V} {i : Int} (h : Dp K H v (.int i)) : v = .int i := by
  cases h
  rfl
theorem Dp.str' {K : PySem.W.Frag} {H : Hp} {v : V} {x : Str} (h : Dp K H v (.str x)) : v = .str x := by
  cases h
  rfl
end L2
namespace My
open PySem L2
theorem canLay_map {α : Type} {f : α → PyData} : ∀ {l : List α}, (∀ x ∈ l, (f x).canLay0 = true) → PyData.canLayAll0 (l.map f) = true
  | [], _ => rfl
  | x :: r, h => by
    have h1 := h x (List.mem_cons_self ..)
    have h2 := canLay_map (f := f) (l := r) fun y hy => h y (List.mem_cons_of_mem _ hy)
    simp only [List.map_cons, PyData.canLayAll0, h1, h2, Bool.and_self]
theorem depth_map {α : Type} {f : α → PyData} {n : Nat} : ∀ {l : List α}, (∀ x ∈ l, (f x).depth ≤ n) → PyData.depthAll (l.map f) ≤ n
  | [], _ => Nat.zero_le _
  | x :: r, h => by
    have h1 := h x (List.mem_cons_self ..)
    have h2 := depth_map (f := f) (l := r) fun y hy => h y (List.mem_cons_of_mem _ hy)
    simp only [List.map_cons, PyData.depthAll]
    omega
theorem shaped_list {α : Type} {f : α → PyData} {l : List α} (h : ∀ x ∈ l, (f x).canLay0 = true ∧ (f x).depth ≤ 63) : SeqAt.shaped (.list (l.map f)) = true := by
  unfold SeqAt.shaped
  rw [Bool.and_eq_true, decide_eq_true_eq]
  refine ⟨?_, ?_⟩
  · unfold PyData.canLay0
    exact canLay_map fun x hx => (h x hx).1
  · unfold PyData.depth
    have := depth_map (f := f) (n := 63) (l := l) fun x hx => (h x hx).2
    omega
theorem shaped_nil : SeqAt.shaped (.list []) = true := shaped_list (α := Int) (f := PyData.int) (l := []) (by simp)
theorem eqv_nil {α : Type} (f : α → PyData) (l : List α) : PyData.eqv (.list (l.map f)) (.list []) = l.isEmpty := by
  cases l with
  | nil => rfl
  | cons x r => rfl
theorem strOk_of (s : String) : PyData.strOk (Str.ofString s) = true := by
  unfold PyData.strOk
  rw [Str.ofString_eq_toList]
  show ((s.toList.map Char.toNat).toArray).all (fun x => decide (x < 1114112)) = true
  rw [List.all_toArray]
  rw [List.all_eq_true]
  intro c hc
  obtain ⟨ch, _, rfl⟩ := List.mem_map.mp hc
  have h := ch.valid
  have : ch.toNat < 1114112 := by
    rcases h with h | h
    · exact Nat.lt_trans h (by decide)
    · exact h.2
  exact decide_eq_true this
theorem strOk_app {a b : Str} (h1 : PyData.strOk a = true) (h2 : PyData.strOk b = true) : PyData.strOk (a ++ b) = true := by
  unfold PyData.strOk at *
  show (a.cps ++ b.cps).all _ = true
  rw [Array.all_append, h1, h2]
  rfl
theorem same_put {H H1 : Hp} {p : Addr} {o : HO} (a : Same H H1) (h : H p = none) : Same H (upd H1 p o) := fun b x e => by
  rw [upd_ne (ne_of_none e h)]
  exact a b x e
theorem DpAll.at_ {K : PySem.W.Frag} {H : Hp} {α : Type} {f : α → PyData} {us : List V} {l : List α} {i : Nat} {x : V} (h : DpAll K H us (l.map f)) (hx : us[i]? = some x) : ∃ r, l[i]? = some r ∧ Dp K H x (f r) := by
  obtain ⟨d, e, q⟩ := DpAll.get h hx
  rw [List.getElem?_map] at e
  cases hr : l[i]? with
  | none => rw [hr] at e; cases e
  | some r =>
    rw [hr] at e
    exact ⟨r, rfl, by rw [Option.some.inj e]; exact q⟩
theorem take_snoc {α : Type} {l : List α} {i : Nat} {r : α} (h : l[i]? = some r) : l.take (i + 1) = l.take i ++ [r] := by
  rw [List.take_add_one, h]
  rfl
theorem range_getD {α : Type} (l : List α) (d : α) : (List.range l.length).map (fun i => l.getD i d) = l := by
  apply List.ext_getElem?
  intro i
  rw [List.getElem?_map]
  by_cases h : i < l.length
  · rw [List.getElem?_range h, List.getElem?_eq_getElem h]
    show some (l.getD i d) = some l[i]
    rw [List.getD_eq_getElem?_getD, List.getElem?_eq_getElem h]
    rfl
  · rw [List.getElem?_eq_none (by simpa using h), List.getElem?_eq_none (by omega)]
    rfl
theorem getD_of' {α : Type} {l : List α} {d r : α} {i : Nat} (h : l[i]? = some r) : l.getD i d = r := by
  rw [List.getD_eq_getElem?_getD, h]
  rfl
end My
namespace L2
open PySem
theorem Dp.tup' {K : PySem.W.Frag} {H : Hp} {v : V} {ds : List PyData} (h : Dp K H v (.tuple ds)) : ∃ a xs, v = .ref a ∧ SqT K H a xs ∧ DpAll K H xs ds := by
  cases h with
  | tup hs hr => exact ⟨_, _, rfl, hs, hr⟩
theorem DpAll.c {K : PySem.W.Frag} {H : Hp} {vs : List V} {d : PyData} {ds : List PyData} (h : DpAll K H vs (d :: ds)) : ∃ x r, vs = x :: r ∧ Dp K H x d ∧ DpAll K H r ds := by
  cases h with
  | cons a b => exact ⟨_, _, rfl, a, b⟩
theorem DpAll.n {K : PySem.W.Frag} {H : Hp} {vs : List V} (h : DpAll K H vs []) : vs = [] := by
  cases h
  rfl
end L2
namespace My
open PySem L2
theorem inV_strs (x : Str) (l : List Str) : inV (.str x) (l.map V.str) = decide (x ∈ l) := by
  induction l with
  | nil => rfl
  | cons y r ih =>
    rw [List.map_cons]
    show (eqV (.str y) (.str x) || inV (.str x) (r.map V.str)) = _
    rw [ih]
    have e : eqV (.str y) (.str x) = decide (y = x) := by
      unfold eqV
      by_cases h : y = x
      · simp [h]
      · simp [h]
    rw [e]
    by_cases h : x = y
    · subst h
      simp
    · have h2 : ¬ y = x := fun q => h q.symm
      simp [h, h2]
theorem flat_strs (l : List Str) : (l.map V.str).all flatV = true := by
  rw [List.all_map, List.all_eq_true]
  intro x _
  rfl
end My
namespace My
open PySem PySem.Spec PyProof.Rows L2
section
variable {prog : Program} {w : World} {A : Around} {E : Value → Shared → Prop} {s : Shared}
theorem walks_tupleFrom {A : Around} (hh : A.handled = none) (I ax : Addr) (hne : ax ≠ I) (items : Array Value) (k : Nat) (hk : k ≤ items.size) :
    Walks prog w A I [I, ax] [I] (items.size - k) (fun i v => items[k + i]? = some v) (fun i h => h.IsTupleIter I ax (k + i) ∧ h.IsTuple ax items) where
  sub := fun b hb => by simp at hb; simp [hb]
  frame := fun _ _ _ st hk => ⟨st.1.at fun o e => hk I (by simp) o e, st.2.at fun o e => hk ax (by simp) o e⟩
  item := fun i s Q E hi st hQ => by
    have hi' : k + i < items.size := by omega
    refine wpAny_pyNext_tuple_item st.1 st.2 (x := items[k + i]) (by simp [hi']) fun h' hit' hs' => ?_
    exact hQ _ h' s.toks (by simp [hi']) ⟨hit', st.2.extBut hs'.extBut hne⟩ fun b o hb e => hs'.extBut b o (fun h => hb (by simp [h])) e
  done := fun s Q E st hQ => wpAny_pyNext_tuple_end hh st.1 st.2 (by simp; omega) fun h' he' => hQ h' s.toks fun b o hb e => he' b o (fun h => hb (by simp [h])) e
  self := fun _ _ _ _ st hQ => wpAny_pyIter_tupleiter st.1 hQ
theorem itemsOf_eq {items acc : Array Value} {x : Value} {r : List Value} (e : items = (x :: r).toArray) (h : ItemsOf (fun i v => items[1 + i]? = some v) acc (items.size - 1)) : acc.toList = r := by
  subst e
  obtain ⟨h1, h2⟩ := h
  have hs : acc.size = r.length := by rw [h1]; simp
  apply List.ext_getElem?
  intro i
  by_cases hi : i < r.length
  · have e1 : acc[i]? = some acc[i] := Array.getElem?_eq_getElem (by omega)
    have e2 := h2 i _ e1
    rw [Array.getElem?_toList, e1]
    have e2 : (x :: r).toArray[1 + i]? = some acc[i] := e2
    rw [Nat.add_comm] at e2
    simpa using e2.symm
  · rw [Array.getElem?_toList, Array.getElem?_eq_none (by omega), List.getElem?_eq_none (by omega)]
theorem unpackItems_star1 {t : Addr} {x : Value} {r : List Value} {Q : List Value → Shared → Prop} (hh : A.handled = none) (ht : s.heap.IsTuple t (x :: r).toArray) (hz : r.length ≤ sizeLine)
    (hQ : ∀ (h' : Heap) (tk : Nat), (∀ b o, s.heap.get? b = some o → h'.get? b = some o) → Q [x, .ref h'.objs.size] { s with heap := h'.push { cls := .type "list", data := .seq r.toArray }, toks := tk }) :
    wpAny (model prog w) A (unpackItems (.ref t) 2 (some 1)) Q E s := by
  have hlt : t ≠ s.heap.objs.size := by obtain ⟨o, ho, _⟩ := ht; exact Nat.ne_of_lt (Heap.lt_size ho)
  unfold unpackItems
  refine wpAny_bind ?_
  · unfold notIterableAtAll
    refine wpAny_bind (wpAny_specialOf ht.typeIs F.slot_tuple_iter.lookup ?_)
    refine wpAny_pure ?_
    simp only [Bool.false_eq_true, if_false]
    refine wpAny_bind (wpAny_holding (wpAny_pyIter_tuple ht ?_))
    refine wpAny_bind (wpAny_holding (wpAny_draw_tuple hlt 1 0 _ _ ⟨_, Heap.get?_push_size _ rfl, rfl, rfl⟩ (ht.push _) (by simp) fun h₁ hit₁ hs₁ => ?_))
    rw [if_neg (by simp)]
    have ht₁ : h₁.IsTuple t (x :: r).toArray := (ht.push _).extBut hs₁.extBut hlt
    have W := (walks_tupleFrom (prog := prog) (w := w) (A := A.in1) hh s.heap.objs.size t hlt (x :: r).toArray 1 (by simp)).toS
    refine wpAny_bind (wpAny_holding (wpAny_collect_iter (T := "tuple_iterator") (.inr (.inr (.inr rfl))) W (fun i s st => st.1.typeIs) ⟨by simpa using hit₁, ht₁⟩ ?_ (by simp) (fun s' acc hm hi => ?_) (by simpa using hz)))
    · intro b hb
      have h1 := hit₁
      obtain ⟨o, ho, _⟩ := hit₁
      obtain ⟨o2, ho2, _⟩ := ht₁
      simp only [List.mem_cons, List.not_mem_nil, or_false] at hb
      rcases hb with rfl | rfl
      · exact Heap.lt_size ho
      · exact Heap.lt_size ho2
    · have ea := itemsOf_eq rfl hi
      rw [ea]
      rw [Moved.eq_with hm]
      rw [if_neg (by simp)]
      have e1 : List.take (r.length - (2 - 1 - 1)) r = r := List.take_of_length_le (by omega)
      have e2 : List.drop (r.length - (2 - 1 - 1)) r = [] := List.drop_of_length_le (by omega)
      rw [e1, e2]
      refine wpAny_bind (wpAny_newObj_type ?_)
      refine wpAny_pure ?_
      have kk : ∀ b o, s.heap.get? b = some o → s'.heap.get? b = some o := fun b o e => by
        have nb : b ≠ s.heap.objs.size := Nat.ne_of_lt (Heap.lt_size e)
        exact hm.heap b o (by simpa using nb) (hs₁.extBut b o nb (Heap.get?_push_of_some _ e))
      exact hQ _ _ kk
theorem assign_star1 {env : Env} {elts : List Expr} {x1} {pos : Pos} {t : Addr} {x : Value} {r : List Value} {Q : Unit → Shared → Prop} (hh : A.handled = none) (ht : s.heap.IsTuple t (x :: r).toArray) (hz : r.length ≤ sizeLine)
    (hn : (assignEach elts env).length = 2) (hstar : (assignEach elts env).findIdx? (·.1) = some 1)
    (h : ∀ (h' : Heap) (tk : Nat), (∀ b o, s.heap.get? b = some o → h'.get? b = some o) →
      wpAny (model prog w) A (assignInOrder ((assignEach elts env).map (·.2)) [x, .ref h'.objs.size]) Q E { s with heap := h'.push { cls := .type "list", data := .seq r.toArray }, toks := tk }) :
    wpAny (model prog w) A (assign (.Tuple elts x1 pos) env (.ref t)) Q E s := by
  rw [assign_Tuple]
  refine wpAny_bind (wpAny_standAt ?_)
  unfold unpack
  rw [hn, hstar]
  exact wpAny_bind (wpAny_holding (unpackItems_star1 hh ht hz h))
end
section
variable {X : Cx} {pos : Pos}
/-- x, *r = a tuple -/
def gStar (K : PySem.W.Frag) (g0 g1 : TG) : TG := fun v σ H Q => ∃ a x xs, v = .ref a ∧ SqT K H a (x :: xs) ∧ ∀ p, H p = none → g0 x σ (upd H p (.lst xs)) fun σ1 H1 => g1 (.ref p) σ1 H1 Q
theorem pg_star {e0 e1 : Expr} {p1 : Pos} {k : Nat} {g0 g1 : TG} (hc : X.calm = true) (h0 : PG X e0 g0) (h1 : PG X e1 g1)
    (hn : (assignEach [e0, .Starred e1 p1] X.env).length = 2 := by rfl) (hst : (assignEach [e0, .Starred e1 p1] X.env).findIdx? (·.1) = some 1 := by rfl)
    (hm : (assignEach [e0, .Starred e1 p1] X.env).map (·.2) = [assign e0 X.env, assign e1 X.env] := by rfl) : PG X (.Tuple [e0, .Starred e1 p1] k pos) (gStar X.K g0 g1) := by
  refine ⟨fun pins s σ H v u Q I r hw => ?_⟩
  obtain ⟨a, x, xs, e1', hq, hw⟩ := hw
  subst e1'
  cases r
  obtain ⟨its, rv, ht, hz⟩ := I.tuple hq
  cases rv with
  | @cons _ y _ ys rx rr =>
    have hl := rr.length
    refine assign_star1 (I.ok.hd hc) ht (by simp at hz; omega) hn hst fun h' tk kk => ?_
    have I1 : Inv X pins σ H { s with heap := h', toks := tk } := I.kept kk
    have I2 := I1.lnew (t' := tk) rr (by simp at hz; omega)
    rw [hm]
    refine assignInOrder_cons (thn (h0.run pins _ σ _ x _ _ I2 rx (hw h'.objs.size I1.fresh)) fun _ s1 ⟨σ1, H1, I3, q1⟩ => ?_)
    refine assignInOrder_cons (thn (h1.run pins s1 σ1 H1 (.ref h'.objs.size) _ _ I3 rfl q1) fun _ s2 ⟨σ2, H2, I4, q2⟩ => ?_)
    exact assignInOrder_nil ⟨σ2, H2, I4, q2⟩
/-- a text, many times -/
def repS (x : Str) (k : Nat) : Str := ⟨(List.replicate k x.cps).foldl (· ++ ·) #[]⟩
theorem op_repS : OpR X (binaryOp .Mult) (fun x y H Q => ∃ (i : Str) (k : Int), x = .str i ∧ y = .int k ∧ 2 ≤ k ∧ k < 2 ^ 20 ∧ 0 < i.length ∧ i.length * k.toNat ≤ 2 ^ 20 ∧ (repS i k.toNat).length ≤ sizeLine ∧ Q (.str (repS i k.toNat)) H) := by
  intro pins s σ H x y v u Q I rx ry h
  obtain ⟨i, k, rfl, rfl, h1, h2, h3, h4, h5, q⟩ := h
  obtain ⟨t, rfl⟩ := rx
  obtain ⟨t', rfl⟩ := ry
  have n1 : ¬ k < 1 := by omega
  have n2 : (k == 1 || i.length == 0) = false := by
    rw [Bool.or_eq_false_iff]
    exact ⟨beq_false_of_ne (by omega), beq_false_of_ne (by omega)⟩
  refine PySem.P.mul_str ?_ (fun _ _ => ?_) (fun _ _ => ?_) ?_
  · rw [decide_eq_false (by omega), decide_eq_false (by omega)]
    rfl
  · have e : (i.length : Int) ≤ 2 ^ 20 := by
      have := Nat.le_mul_of_pos_right i.length (show 0 < k.toNat by omega)
      omega
    have : (2 ^ 63 - 1 : Int) / 2 ^ 20 ≤ (2 ^ 63 - 1) / k := by
      rw [Int.le_ediv_iff_mul_le (by omega)]
      have e3 : (2 ^ 63 - 1 : Int) / 2 ^ 20 * k ≤ (2 ^ 63 - 1) / 2 ^ 20 * 2 ^ 20 := Int.mul_le_mul_of_nonneg_left (by omega) (by decide)
      exact Int.le_trans e3 (by decide)
    have e2 : (2 ^ 20 : Int) ≤ (2 ^ 63 - 1) / 2 ^ 20 := by decide
    omega
  · unfold Builtin.Str.tooLong
    rw [decide_eq_false]
    exact Nat.not_lt.mpr (Nat.le_trans h4 (by decide))
  · rw [if_neg n1, if_neg (by rw [n2]; decide)]
    exact ⟨h5, ⟨.str (repS i k.toNat), H, I.tok _, ⟨_, rfl⟩, q⟩⟩
end
end My
namespace My
open PySem L2
/-! ### plans as data -/
abbrev En := Str × Int
inductive Thing where
  | step (n : Int)
  | call (nm : Str) (e : En)
  | double (b : List Thing)
  | loop (nm : Str) (e1 e2 : En) (b : List Thing)
  | test (e1 e2 : En) (b1 b2 : List Thing)
  | again (n : Int) (w : Str)
def endD (e : En) : PyData := .tuple [.str e.1, .int e.2]
mutual
def thingD : Thing → PyData
  | .step n => .tuple [.str "step", .int n]
  | .call nm e => .tuple [.str "call", .str nm, endD e]
  | .double b => .tuple [.str "double", .tuple (thingsD b)]
  | .loop nm e1 e2 b => .tuple [.str "for", .str nm, endD e1, endD e2, .tuple (thingsD b)]
  | .test e1 e2 b1 b2 => .tuple [.str "if", endD e1, endD e2, .tuple (thingsD b1), .tuple (thingsD b2)]
  | .again n w => .tuple [.str "again", .int n, .str w]
def thingsD : List Thing → List PyData
  | [] => []
  | t :: r => thingD t :: thingsD r
end
def planD (b : List Thing) : PyData := .tuple (thingsD b)
theorem thingsD_eq : ∀ b : List Thing, thingsD b = b.map thingD
  | [] => by simp [thingsD]
  | t :: r => by simp [thingsD, thingsD_eq r]
mutual
/-- how many things -/
def thingC : Thing → Nat
  | .double b => thingsC b + 1
  | .loop _ _ _ b => thingsC b + 1
  | .test _ _ b1 b2 => thingsC b1 + thingsC b2 + 1
  | _ => 1
def thingsC : List Thing → Nat
  | [] => 0
  | t :: r => thingC t + thingsC r
end
structure Kit where
  kn : List (Str × (Bool × Int × Int))
  fig : Bool
  wide : Bool
def NameOk (nm : Str) : Prop := 1 ≤ nm.length ∧ nm.length ≤ 8 ∧ (∀ c ∈ nm.cps.toList, 97 ≤ c ∧ c ≤ 122) ∧ nm ∉ keptL
def EndOk (wide : Bool) (sc : List Str) (e : En) : Prop := e.2.natAbs < (if wide then 100 else 5) ∧ ((e.1 = "" ∧ 0 ≤ e.2) ∨ e.1 ∈ sc)
mutual
def ThOk (k : Kit) : Thing → List Str → Nat → Prop
  | .step n => fun _ _ => 0 ≤ n ∧ n < 100
  | .call nm e => fun sc deep => ∃ en : Bool × Int × Int, (nm, en) ∈ k.kn ∧ en.2.1 + deep < 9 ∧ en.2.2 < 4 ∧ EndOk k.wide sc e ∧ (en.1 = true → e.1 = "" ∨ e = ((Str.ofString "n", 0) : En))
  | .double b => fun sc deep => deep ≤ 3 ∧ k.fig = true ∧ 1 ≤ b.length ∧ b.length ≤ 3 ∧ BdOk k b sc (deep + 1)
  | .loop nm e1 e2 b => fun sc deep => deep ≤ 3 ∧ NameOk nm ∧ nm ∉ sc ∧ EndOk k.wide sc e1 ∧ EndOk k.wide sc e2 ∧ 1 ≤ b.length ∧ b.length ≤ 3 ∧ BdOk k b (sc ++ [nm]) (deep + 1)
  | .test e1 e2 b1 b2 => fun sc deep => deep ≤ 3 ∧ EndOk k.wide sc e1 ∧ EndOk k.wide sc e2 ∧ 1 ≤ b1.length ∧ b1.length ≤ 3 ∧ b2.length ≤ 3 ∧ BdOk k b1 sc (deep + 1) ∧ BdOk k b2 sc (deep + 1)
  | .again _ _ => fun _ _ => False
def BdOk (k : Kit) : List Thing → List Str → Nat → Prop
  | [] => fun _ _ => True
  | t :: r => fun sc deep => ThOk k t sc deep ∧ BdOk k r sc deep
end
theorem BdOk.nil {k : Kit} {sc : List Str} {deep : Nat} : BdOk k [] sc deep := by simp [BdOk]
theorem BdOk.snoc {k : Kit} {sc : List Str} {deep : Nat} {t : Thing} (h : ThOk k t sc deep) : ∀ {b : List Thing}, BdOk k b sc deep → BdOk k (b ++ [t]) sc deep
  | [], _ => by
    rw [List.nil_append, BdOk]
    exact ⟨h, .nil⟩
  | x :: r, q => by
    rw [BdOk] at q
    rw [List.cons_append, BdOk]
    exact ⟨q.1, BdOk.snoc h q.2⟩
theorem BdOk.mem {k : Kit} {sc : List Str} {deep : Nat} {t : Thing} : ∀ {b : List Thing}, BdOk k b sc deep → t ∈ b → ThOk k t sc deep
  | [], _, h => nomatch h
  | x :: r, q, h => by
    rw [BdOk] at q
    rcases List.mem_cons.mp h with rfl | h
    · exact q.1
    · exact BdOk.mem q.2 h
theorem thingsC_snoc (t : Thing) : ∀ b : List Thing, thingsC (b ++ [t]) = thingsC b + thingC t
  | [] => by simp [thingsC]
  | x :: r => by
    rw [List.cons_append, thingsC, thingsC_snoc t r, thingsC]
    omega
theorem thingC_pos (t : Thing) : 1 ≤ thingC t := by
  cases t <;> simp [thingC]
theorem thingsC_len : ∀ b : List Thing, b.length ≤ thingsC b
  | [] => Nat.zero_le _
  | t :: r => by
    have := thingsC_len r
    have := thingC_pos t
    rw [thingsC, List.length_cons]
    omega
def letters : Str := "abcdefghijklmnopqrstuvwxyz"
theorem letters_ok : ∀ c ∈ letters.cps.toList, 97 ≤ c ∧ c ≤ 122 := by decide +kernel
theorem join_signs (cs : List Nat) : Txt.join "" (cs.map fun c => (⟨#[c]⟩ : Str)) = ⟨cs.toArray⟩ := by
  induction cs with
  | nil => rw [List.map_nil, join_nil]; rfl
  | cons c r ih =>
    cases r with
    | nil => rw [List.map_singleton, join_one]
    | cons x l =>
      rw [List.map_cons, join_cons (by simp), ih]
      show (⟨#[c]⟩ : Str) ++ Str.empty ++ ⟨(x :: l).toArray⟩ = _
      rw [str_nil_r]
      show (⟨#[c] ++ (x :: l).toArray⟩ : Str) = _
      simp
def spares : List Str := letters.cps.toList.map fun c => repS ⟨#[c]⟩ 2
theorem spares_ok : ∀ x ∈ spares, x.length = 2 ∧ (∀ c ∈ x.cps.toList, 97 ≤ c ∧ c ≤ 122) ∧ x ∉ keptL := by decide +kernel
theorem spares_nd : spares.Nodup := by decide +kernel
theorem spares_len : spares.length = 26 := by decide +kernel
theorem nodup_len {α : Type} [DecidableEq α] : ∀ {l m : List α}, l.Nodup → (∀ x ∈ l, x ∈ m) → l.length ≤ m.length
  | [], _, _, _ => Nat.zero_le _
  | x :: r, m, nd, h => by
    rw [List.nodup_cons] at nd
    have hx := h x (List.mem_cons_self ..)
    have ih := nodup_len (l := r) (m := m.erase x) nd.2 fun y hy => (List.mem_erase_of_ne (fun e => nd.1 (by rw [← e]; exact hy))).mpr (h y (List.mem_cons_of_mem _ hy))
    rw [List.length_erase_of_mem hx] at ih
    have := List.length_pos_of_mem hx
    rw [List.length_cons]
    omega
theorem spare_free {taken : List Str} (h : taken.length ≤ 25) : ∃ x, x ∈ spares ∧ x ∉ taken := by
  by_cases c : ∃ x, x ∈ spares ∧ x ∉ taken
  · exact c
  · exfalso
    have sub : ∀ x ∈ spares, x ∈ taken := fun x hx => by
      by_cases q : x ∈ taken
      · exact q
      · exact absurd ⟨x, hx, q⟩ c
    have := nodup_len spares_nd sub
    rw [spares_len] at this
    omega
end My
namespace My
open PySem L2
/-- the kit of a drawing: what is left, the plans that may be called, figures, wide -/
def KitAt (H : Hp) (kc dk : Addr) (r : Int) (k : Kit) : Prop := H kc = some (.lst [.int r, .ref dk, .bl k.fig, .bl k.wide])
structure KnAt (G : Hp) (dk : Addr) (kn : List (Str × (Bool × Int × Int))) : Prop where
  len : kn.length < 60
  ok : ∀ e ∈ kn, NameOk e.1
  ex : ∃ kvs : List (L2.Key × V), G dk = some (.dK kvs) ∧ kvs.map (·.1) = (kn.map (·.1)).map Sum.inr ∧
    ∀ nm, nm ∈ kn.map (·.1) → ∃ (en : Bool × Int × Int) (p : Addr), (nm, en) ∈ kn ∧ valV kvs (Sum.inr nm) = some (.ref p) ∧ G p = some (.tup [.bl en.1, .int en.2.1, .int en.2.2])
theorem KnAt.mono {G G' : Hp} {dk : Addr} {kn : List (Str × (Bool × Int × Int))} (h : KnAt G dk kn) (s : Same G G') : KnAt G' dk kn := by
  obtain ⟨kvs, e1, e2, e3⟩ := h.ex
  refine ⟨h.len, h.ok, kvs, s _ _ e1, e2, fun nm hn => ?_⟩
  obtain ⟨en, p, q1, q2, q3⟩ := e3 nm hn
  exact ⟨en, p, q1, q2, s _ _ q3⟩
theorem KitAt.ne {H : Hp} {kc dk d l : Addr} {r : Int} {k : Kit} (h : KitAt H kc dk r k) (D : DrawAt H d l) : kc ≠ d := by
  rintro rfl
  obtain ⟨ns, p, z, s, e, _⟩ := D.ex
  rw [h] at e
  cases e
theorem strOk_name {nm : Str} (h : NameOk nm) : PyData.strOk nm = true := by
  unfold PyData.strOk
  rw [← Array.all_toList, List.all_eq_true]
  intro c hc
  have := (h.2.2.1 c hc).2
  exact decide_eq_true (by omega)
end My
namespace My
open PySem L2
def Two (d c : Addr) : Addr → Prop := fun b => b = d ∨ b = c
theorem two_cell {H : Hp} {d l kc dk : Addr} {r : Int} {k : Kit} (D : DrawAt H d l) (kit : KitAt H kc dk r k) : ∀ c, Two d kc c → Cell (H c) := by
  rintro c (rfl | rfl)
  · exact D.cell
  · exact cell_lst kit
theorem KitAt.nel {H : Hp} {kc dk d l : Addr} {r : Int} {k : Kit} (h : KitAt H kc dk r k) (D : DrawAt H d l) : kc ≠ l := by
  rintro rfl
  obtain ⟨ns, p, z, s, _, e, _⟩ := D.ex
  rw [h] at e
  cases ns with
  | nil => cases e
  | cons a ns =>
    cases ns with
    | nil => cases e
    | cons b ns => cases e
theorem Grow.one {d c : Addr} {G H G' H' : Hp} (g : Grow (Only1 d) G H G' H') : Grow (Two d c) G H G' H' := g.mono fun _ e => .inl e
theorem KitAt.but {H H' : Hp} {kc dk d : Addr} {r : Int} {k : Kit} (h : KitAt H kc dk r k) (n : kc ≠ d) (b : But (Only1 d) H H') : KitAt H' kc dk r k := b _ _ h n
/-- thing and body promises -/
def spThing (K : PySem.W.Frag) (f : Nat) : Sp := fun vs H Q _ => ∃ (d l kc dk sa : Addr) (sc : List Str) (k : Kit) (r : Int) (deep : Nat) (G : Hp), vs = [.ref d, .ref kc, .ref sa, .int (deep : Nat)] ∧ Same G H ∧ G d = none ∧ G kc = none ∧ DrawAt H d l ∧ KitAt H kc dk r k ∧ KnAt G dk k.kn ∧
  G sa = some (.lst (sc.map V.str)) ∧ (Str.ofString "n") ∈ sc ∧ sc.length ≤ deep + 10 ∧ 1 ≤ r ∧ deep ≤ 4 ∧ 5 ≤ deep + f ∧
  ∀ (v : V) (t : Thing) (G' H' : Hp), Grow (Two d kc) G H G' H' → DrawAt H' d l → KitAt H' kc dk (r - thingC t) k → (thingC t : Int) ≤ r → Dp K G' v (thingD t) → ThOk k t sc deep → Q v H'
def spBody (K : PySem.W.Frag) (f : Nat) : Sp := fun vs H Q _ => ∃ (d l kc dk sa : Addr) (sc : List Str) (k : Kit) (r : Int) (deep : Nat) (G : Hp), vs = [.ref d, .ref kc, .ref sa, .int (deep : Nat)] ∧ Same G H ∧ G d = none ∧ G kc = none ∧ DrawAt H d l ∧ KitAt H kc dk r k ∧ KnAt G dk k.kn ∧
  G sa = some (.lst (sc.map V.str)) ∧ (Str.ofString "n") ∈ sc ∧ sc.length ≤ deep + 10 ∧ 1 ≤ r ∧ deep ≤ 4 ∧ 5 ≤ deep + f ∧
  ∀ (v : V) (b : List Thing) (G' H' : Hp), Grow (Two d kc) G H G' H' → DrawAt H' d l → KitAt H' kc dk (r - thingsC b) k → (thingsC b : Int) ≤ r → Dp K G' v (planD b) → BdOk k b sc deep → 1 ≤ b.length → b.length ≤ 3 → Q v H'
end My
namespace My
open PySem L2
/-! ### plans as texts -/
def endT (e : En) : Str := if e.1 = "" then num e.2 else if e.2 = 0 then e.1 else if 0 < e.2 then e.1 ++ " + " ++ num e.2 else e.1 ++ " - " ++ num (0 - e.2)
mutual
def thingT : Thing → Str
  | .step n => "step " ++ num n
  | .call nm e => "call " ++ nm ++ " with " ++ endT e
  | .double b => "double (" ++ planT b ++ ")"
  | .loop nm e1 e2 b => "for " ++ nm ++ " from " ++ endT e1 ++ " to " ++ endT e2 ++ " (" ++ planT b ++ ")"
  | .test e1 e2 b1 b2 => if b2.isEmpty then "if " ++ endT e1 ++ " <= " ++ endT e2 ++ " (" ++ planT b1 ++ ")" else "if " ++ endT e1 ++ " <= " ++ endT e2 ++ " (" ++ planT b1 ++ ")" ++ " else (" ++ planT b2 ++ ")"
  | .again n w => "again " ++ num n ++ " on " ++ w
def planT : List Thing → Str
  | [] => ""
  | [t] => thingT t
  | t :: u :: r => thingT t ++ "; " ++ planT (u :: r)
end
theorem planT_eq : ∀ b : List Thing, planT b = Txt.join "; " (b.map thingT)
  | [] => by
    rw [planT, List.map_nil, join_nil]
    rfl
  | [t] => by
    rw [planT, List.map_singleton, join_one]
  | t :: u :: r => by
    rw [planT, planT_eq (u :: r), List.map_cons (a := t), join_cons (l := (u :: r).map thingT) (by simp)]
/-- small names and numbers -/
def NmS (x : Str) : Prop := x.length ≤ 100 ∧ PyData.strOk x = true
def EnS (e : En) : Prop := NmS e.1 ∧ e.2.natAbs.log2 < 400
mutual
def ThS : Thing → Prop
  | .step n => n.natAbs.log2 < 400
  | .call nm e => NmS nm ∧ EnS e
  | .double b => BdS b
  | .loop nm e1 e2 b => NmS nm ∧ EnS e1 ∧ EnS e2 ∧ BdS b
  | .test e1 e2 b1 b2 => EnS e1 ∧ EnS e2 ∧ BdS b1 ∧ BdS b2
  | .again n w => n.natAbs.log2 < 400 ∧ NmS w
def BdS : List Thing → Prop
  | [] => True
  | t :: r => ThS t ∧ BdS r
end
theorem BdS.mem {t : Thing} : ∀ {b : List Thing}, BdS b → t ∈ b → ThS t
  | [], _, h => nomatch h
  | x :: r, q, h => by
    rw [BdS] at q
    rcases List.mem_cons.mp h with rfl | h
    · exact q.1
    · exact BdS.mem q.2 h
theorem BdS.of : ∀ {b : List Thing}, (∀ t ∈ b, ThS t) → BdS b
  | [], _ => by simp [BdS]
  | x :: r, q => by
    rw [BdS]
    exact ⟨q x (List.mem_cons_self ..), BdS.of fun t h => q t (List.mem_cons_of_mem _ h)⟩
theorem neg_log {i : Int} : (0 - i).natAbs = i.natAbs := by omega
theorem endT_len {e : En} (h : EnS e) : (endT e).length ≤ 504 := by
  have h1 := num_len (by decide) h.2
  have h2 := num_len (i := 0 - e.2) (k := 400) (by decide) (by rw [neg_log]; exact h.2)
  have h3 := h.1.1
  have e1 : (Str.ofString " + ").length = 3 := by decide
  have e2 : (Str.ofString " - ").length = 3 := by decide
  unfold endT
  split
  · omega
  · split
    · omega
    · split
      · rw [str_len, str_len, e1]; omega
      · rw [str_len, str_len, e2]; omega
theorem s_len1 : (Str.ofString "step ").length = 5 ∧ (Str.ofString "call ").length = 5 ∧ (Str.ofString " with ").length = 6 ∧ (Str.ofString "double (").length = 8 ∧ (Str.ofString ")").length = 1 ∧ (Str.ofString "for ").length = 4 ∧ (Str.ofString " from ").length = 6 ∧ (Str.ofString " to ").length = 4 ∧ (Str.ofString " (").length = 2 ∧
  (Str.ofString "if ").length = 3 ∧ (Str.ofString " <= ").length = 4 ∧ (Str.ofString " else (").length = 7 ∧ (Str.ofString "again ").length = 6 ∧ (Str.ofString " on ").length = 4 ∧ (Str.ofString "; ").length = 2 := by decide +kernel
mutual
theorem thingT_len : ∀ {t : Thing}, ThS t → (thingT t).length + 2 ≤ 3000 * thingC t
  | .step n, h => by
    rw [ThS] at h
    have := num_len (by decide) h
    have q := s_len1
    rw [thingT, thingC, str_len]
    · omega
    all_goals simp
  | .call nm e, h => by
    rw [ThS] at h
    have := endT_len h.2
    have h1 := h.1.1
    have q := s_len1
    rw [thingT, thingC, str_len, str_len, str_len]
    · omega
    all_goals simp
  | .double b, h => by
    rw [ThS] at h
    have := planT_len h
    have q := s_len1
    rw [thingT, thingC, str_len, str_len]
    omega
  | .loop nm e1 e2 b, h => by
    rw [ThS] at h
    have := planT_len h.2.2.2
    have h1 := h.1.1
    have h2 := endT_len h.2.1
    have h3 := endT_len h.2.2.1
    have q := s_len1
    rw [thingT, thingC]
    simp only [str_len]
    omega
  | .test e1 e2 b1 b2, h => by
    rw [ThS] at h
    have := planT_len h.2.2.1
    have := planT_len h.2.2.2
    have h2 := endT_len h.1
    have h3 := endT_len h.2.1
    have q := s_len1
    rw [thingT, thingC]
    split
    · simp only [str_len]
      omega
    · simp only [str_len]
      omega
  | .again n w, h => by
    rw [ThS] at h
    have := num_len (by decide) h.1
    have h1 := h.2.1
    have q := s_len1
    rw [thingT, thingC, str_len, str_len, str_len]
    · omega
    all_goals simp
theorem planT_len : ∀ {b : List Thing}, BdS b → (planT b).length ≤ 3000 * thingsC b
  | [], _ => by
    rw [planT]
    exact Nat.zero_le _
  | [t], h => by
    rw [BdS] at h
    have := thingT_len h.1
    rw [planT, thingsC]
    omega
  | t :: u :: r, h => by
    rw [BdS] at h
    have h1 := thingT_len h.1
    have h2 := planT_len h.2
    have q := s_len1
    rw [planT, thingsC, str_len, str_len]
    omega
end
theorem endD_lay {e : En} (h : EnS e) : (endD e).canLay0 = true ∧ (endD e).depth ≤ 1 := by
  have := h.1.2
  simp [endD, PyData.canLay0, PyData.canLayAll0, PyData.depth, PyData.depthAll, this]
theorem strOk_lit (s : String) : PyData.strOk (Str.ofString s) = true := strOk_of s
mutual
theorem thingD_lay : ∀ {t : Thing}, ThS t → (thingD t).canLay0 = true ∧ (thingD t).depth ≤ 2 * thingC t
  | .step n, h => by
    simp [thingD, thingC, PyData.canLay0, PyData.canLayAll0, PyData.depth, PyData.depthAll, strOk_lit]
  | .call nm e, h => by
    rw [ThS] at h
    have h1 := endD_lay h.2
    have h2 := h.1.2
    simp [thingD, thingC, PyData.canLay0, PyData.canLayAll0, PyData.depth, PyData.depthAll, strOk_lit, h1.1, h2]
    omega
  | .double b, h => by
    rw [ThS] at h
    have h1 := thingsD_lay h
    simp [thingD, thingC, PyData.canLay0, PyData.canLayAll0, PyData.depth, PyData.depthAll, strOk_lit, h1.1]
    omega
  | .loop nm e1 e2 b, h => by
    rw [ThS] at h
    have h1 := thingsD_lay h.2.2.2
    have h2 := h.1.2
    have h3 := endD_lay h.2.1
    have h4 := endD_lay h.2.2.1
    simp [thingD, thingC, PyData.canLay0, PyData.canLayAll0, PyData.depth, PyData.depthAll, strOk_lit, h1.1, h2, h3.1, h4.1]
    omega
  | .test e1 e2 b1 b2, h => by
    rw [ThS] at h
    have h1 := thingsD_lay h.2.2.1
    have h2 := thingsD_lay h.2.2.2
    have h3 := endD_lay h.1
    have h4 := endD_lay h.2.1
    simp [thingD, thingC, PyData.canLay0, PyData.canLayAll0, PyData.depth, PyData.depthAll, strOk_lit, h1.1, h2.1, h3.1, h4.1]
    omega
  | .again n w, h => by
    rw [ThS] at h
    have h2 := h.2.2
    simp [thingD, thingC, PyData.canLay0, PyData.canLayAll0, PyData.depth, PyData.depthAll, strOk_lit, h2]
theorem thingsD_lay : ∀ {b : List Thing}, BdS b → PyData.canLayAll0 (thingsD b) = true ∧ PyData.depthAll (thingsD b) ≤ 2 * thingsC b
  | [], _ => by simp [thingsD, PyData.canLayAll0, PyData.depthAll]
  | t :: r, h => by
    rw [BdS] at h
    have h1 := thingD_lay h.1
    have h2 := thingsD_lay h.2
    simp [thingsD, thingsC, PyData.canLayAll0, PyData.depthAll, h1.1, h2.1]
    omega
end
theorem shaped_plan {b : List Thing} (h : BdS b) (c : thingsC b ≤ 31) : SeqAt.shaped (planD b) = true := by
  have h1 := thingsD_lay h
  unfold SeqAt.shaped planD
  rw [Bool.and_eq_true, decide_eq_true_eq]
  unfold PyData.canLay0 PyData.depth
  exact ⟨h1.1, by omega⟩
theorem eqv_plan (b : List Thing) : PyData.eqv (planD b) (.tuple []) = b.isEmpty := by
  cases b with
  | nil => simp [planD, thingsD, PyData.eqv, PyData.eqvAll]
  | cons t r => simp [planD, thingsD, PyData.eqv, PyData.eqvAll]
end My
namespace My
open PySem L2
theorem str_e0 : Str.empty.length = 0 := rfl
theorem dec_ff {x y : Str} (h : x ≠ y) : decide (V.str x = V.str y) = false := decide_eq_false fun e => h (V.str.inj e)
theorem dec_tt (x : Str) : decide (V.str x = V.str x) = true := decide_eq_true rfl
theorem num_len' {i : Int} (h : i.natAbs.log2 < 400) : (Str.ofString (toString i)).length ≤ 401 := num_len (k := 400) (by decide) h
end My
namespace My
open PySem L2
theorem thingC_mem {t : Thing} : ∀ {b : List Thing}, t ∈ b → thingC t ≤ thingsC b
  | [], h => nomatch h
  | x :: r, h => by
    rw [thingsC]
    rcases List.mem_cons.mp h with rfl | h
    · omega
    · have := thingC_mem h
      omega
theorem planSum : ∀ {b : List Thing}, BdS b → ((b.map thingT).map (·.length)).sum + b.length * 2 ≤ 3000 * thingsC b
  | [], _ => by simp
  | t :: r, h => by
    rw [BdS] at h
    have h1 := thingT_len h.1
    have h2 := planSum h.2
    rw [thingsC, List.map_cons, List.map_cons, List.sum_cons, List.length_cons]
    omega
/-! promises of the writers -/
def spEndText (K : PySem.W.Frag) : Sp := fun vs H Q _ => ∃ (v : V) (e : En), vs = [v] ∧ Dp K H v (endD e) ∧ EnS e ∧ ∀ H', Same H H' → Q (.str (endT e)) H'
def spThingText (K : PySem.W.Frag) (f : Nat) : Sp := fun vs H Q _ => ∃ (v : V) (t : Thing), vs = [v] ∧ Dp K H v (thingD t) ∧ ThS t ∧ thingC t ≤ f ∧ thingC t ≤ 31 ∧ ∀ H', Same H H' → Q (.str (thingT t)) H'
def spPlanText (K : PySem.W.Frag) (f : Nat) : Sp := fun vs H Q _ => ∃ (v : V) (b : List Thing), vs = [v] ∧ Dp K H v (planD b) ∧ BdS b ∧ thingsC b ≤ f ∧ thingsC b ≤ 31 ∧ ∀ H', Same H H' → Q (.str (planT b)) H'
end My
namespace My
open PySem L2
theorem nmS_of {nm : Str} (h : NameOk nm) : NmS nm := ⟨by have := h.2.1; omega, strOk_name h⟩
theorem nmS_n : NmS "n" := ⟨by decide, strOk_of _⟩
theorem enS_of {wide : Bool} {sc : List Str} {e : En} (hs : ∀ x ∈ sc, NmS x) (h : EndOk wide sc e) : EnS e := by
  obtain ⟨h1, h2⟩ := h
  have h3 : e.2.natAbs < 100 := by
    cases wide
    · have : e.2.natAbs < 5 := h1
      omega
    · exact h1
  refine ⟨?_, log_lt (k := 400) (Nat.lt_trans h3 (by decide)) (by decide)⟩
  rcases h2 with ⟨h2, _⟩ | h2
  · rw [h2]
    exact ⟨by decide, strOk_of _⟩
  · exact hs _ h2
mutual
theorem thS_of {k : Kit} (hk : ∀ e ∈ k.kn, NameOk e.1) : ∀ {t : Thing} {sc : List Str} {deep : Nat}, (∀ x ∈ sc, NmS x) → ThOk k t sc deep → ThS t
  | .step n, sc, deep, hs, h => by
    rw [ThOk] at h
    rw [ThS]
    exact log_lt (k := 400) (Nat.lt_trans (m := 100) (by omega) (by decide)) (by decide)
  | .call nm e, sc, deep, hs, h => by
    rw [ThOk] at h
    obtain ⟨en, h1, _, _, h2, _⟩ := h
    rw [ThS]
    exact ⟨nmS_of (hk _ h1), enS_of hs h2⟩
  | .double b, sc, deep, hs, h => by
    rw [ThOk] at h
    rw [ThS]
    exact bdS_of hk hs h.2.2.2.2
  | .loop nm e1 e2 b, sc, deep, hs, h => by
    rw [ThOk] at h
    obtain ⟨_, h1, _, h2, h3, _, _, h4⟩ := h
    rw [ThS]
    refine ⟨nmS_of h1, enS_of hs h2, enS_of hs h3, bdS_of hk (fun x hx => ?_) h4⟩
    rcases List.mem_append.mp hx with hx | hx
    · exact hs x hx
    · rw [List.mem_singleton.mp hx]
      exact nmS_of h1
  | .test e1 e2 b1 b2, sc, deep, hs, h => by
    rw [ThOk] at h
    obtain ⟨_, h2, h3, _, _, _, h4, h5⟩ := h
    rw [ThS]
    exact ⟨enS_of hs h2, enS_of hs h3, bdS_of hk hs h4, bdS_of hk hs h5⟩
  | .again _ _, _, _, _, h => by
    rw [ThOk] at h
    exact h.elim
theorem bdS_of {k : Kit} (hk : ∀ e ∈ k.kn, NameOk e.1) : ∀ {b : List Thing} {sc : List Str} {deep : Nat}, (∀ x ∈ sc, NmS x) → BdOk k b sc deep → BdS b
  | [], _, _, _, _ => by simp [BdS]
  | t :: r, sc, deep, hs, h => by
    rw [BdOk] at h
    rw [BdS]
    exact ⟨thS_of hk hs h.1, bdS_of hk hs h.2⟩
end
theorem bdS_drawn {fig wide : Bool} {b : List Thing} (h : BdOk ⟨[], fig, wide⟩ b [Str.ofString "n"] 0) : BdS b :=
  bdS_of (fun e (h : e ∈ []) => nomatch h) (fun x hx => by rw [List.mem_singleton.mp hx]; exact nmS_n) h
/-! ### tuples cut and put together, frozen -/
theorem cat_G {K : PySem.W.Frag} {G H : Hp} {a b : Addr} {xs ys : List V} {Q : VK} (sg : Same G H) (ha : SqT K G a xs) (hb : SqT K G b ys) (hl : xs.length + ys.length ≤ 1000)
    (k : ∀ (p : Addr) (G' H' : Hp), Grow NoM G H G' H' → SqT K G' p (xs ++ ys) → Q (.ref p) H') : rCatA K (.ref a) (.ref b) H Q := by
  refine ⟨a, b, xs, ys, rfl, rfl, same_t sg ha, same_t sg hb, Nat.le_trans hl (by decide), fun e => ?_, fun e1 e => ?_, fun _ _ p hp => ?_⟩
  · subst e
    exact k b G H (Grow.refl sg) hb
  · subst e
    exact k a G H (Grow.refl sg) (by rw [List.append_nil]; exact ha)
  · exact k p _ _ ((Grow.refl sg).new (o := .tup (xs ++ ys)) hp (fun _ h => h.elim)) (SqT.of upd_same)
theorem sl_G {K : PySem.W.Frag} {G H : Hp} {a : Addr} {xs ys : List V} {lo hi : Option Int} {Q : VK} (sg : Same G H) (ha : SqT K G a xs) (hw : HT.sIx xs.length 0 lo = 0 ∧ HT.sIx xs.length xs.length hi = xs.length → ys = xs) (hc : cutV xs lo hi = ys)
    (k : ∀ (p : Addr) (G' H' : Hp), Grow NoM G H G' H' → SqT K G' p ys → Q (.ref p) H') : rSlA K (.ref a) lo hi H Q := by
  refine ⟨a, xs, rfl, same_t sg ha, fun e => ?_, fun _ p hp => ?_⟩
  · have := hw e
    subst this
    exact k a G H (Grow.refl sg) ha
  · rw [hc]
    exact k p _ _ ((Grow.refl sg).new (o := .tup ys) hp (fun _ h => h.elim)) (SqT.of upd_same)
theorem cut_head (xs : List V) : cutV xs none (some 1) = xs.take 1 := by
  unfold cutV
  rw [HT.sIx_none, List.drop_zero, Nat.sub_zero]
  show xs.take (HT.sIx xs.length xs.length (some ((1 : Nat) : Int))) = _
  rw [HT.sIx_nat]
  cases xs with
  | nil => rfl
  | cons x r => simp
theorem cut_tail (xs : List V) : cutV xs (some 2) none = xs.drop 2 := by
  unfold cutV
  rw [HT.sIx_none]
  show (xs.drop (HT.sIx xs.length 0 (some ((2 : Nat) : Int)))).take (xs.length - HT.sIx xs.length 0 (some ((2 : Nat) : Int))) = _
  rw [HT.sIx_nat]
  rw [List.take_of_length_le (by rw [List.length_drop]; exact Nat.le_refl _)]
  by_cases h : 2 ≤ xs.length
  · rw [Nat.min_eq_left h]
  · rw [Nat.min_eq_right (by omega), List.drop_of_length_le (Nat.le_refl _), List.drop_of_length_le (by omega)]
theorem DpAll_app {K : PySem.W.Frag} {H : Hp} {us vs : List V} {ds es : List PyData} (h1 : DpAll K H us ds) (h2 : DpAll K H vs es) : DpAll K H (us ++ vs) (ds ++ es) := by
  induction ds generalizing us with
  | nil =>
    rw [h1.n]
    exact h2
  | cons d r ih =>
    obtain ⟨x, u, rfl, hx, hr⟩ := h1.c
    exact .cons hx (ih hr)
theorem DpAll_take {K : PySem.W.Frag} {H : Hp} : ∀ {us : List V} {ds : List PyData} (n : Nat), DpAll K H us ds → DpAll K H (us.take n) (ds.take n)
  | _, _, 0, _ => .nil
  | _, [], n + 1, h => by
    rw [h.n]
    exact .nil
  | _, d :: ds, n + 1, h => by
    obtain ⟨x, u, rfl, hx, hr⟩ := h.c
    exact .cons hx (DpAll_take n hr)
theorem DpAll_drop {K : PySem.W.Frag} {H : Hp} : ∀ {us : List V} {ds : List PyData} (n : Nat), DpAll K H us ds → DpAll K H (us.drop n) (ds.drop n)
  | _, _, 0, h => h
  | _, [], n + 1, h => by
    rw [h.n]
    exact .nil
  | _, d :: ds, n + 1, h => by
    obtain ⟨x, u, rfl, hx, hr⟩ := h.c
    exact DpAll_drop n hr
theorem same_single {H : Hp} {a : Addr} {o : HO} (h : H a = some o) : Same (upd (fun _ => none) a o) H := fun b x e => by
  by_cases q : b = a
  · rw [q, upd_same] at e
    rw [q, h, e]
  · rw [upd_ne q] at e
    cases e
theorem thingsC_app : ∀ (a b : List Thing), thingsC (a ++ b) = thingsC a + thingsC b
  | [], b => by simp [thingsC]
  | t :: r, b => by
    rw [List.cons_append, thingsC, thingsC, thingsC_app r b]
    omega
end My
namespace My
open PySem L2
/-- a statement that is never come to -/
theorem ps_never {X : Cx} {st : Stmt} : PS X st (fun _ _ _ => False) := ⟨fun _ _ _ _ _ _ h => h.elim⟩
end My
namespace My
open PySem L2
/-! ### the signs of a text, plain -/
inductive Tok where
  | num (n : Nat)
  | word (w : Str)
  | sign (z : Str)
  | fin
def digitsS : Str := "0123456789"
def lettersS' : Str := "abcdefghijklmnopqrstuvwxyz"
def marksS : Str := "();+-"
def decVal : List Nat → Nat
  | [a] => a - 48
  | [a, b] => (a - 48) * 10 + (b - 48)
  | _ => 0
def kindT : Tok → Str
  | .num _ => "number"
  | .word _ => "word"
  | .sign _ => "sign"
  | .fin => "end"
def tokV : Tok → V
  | .num n => .int (n : Nat)
  | .word w => .str w
  | .sign z => .str z
  | .fin => .str ""
/-- how many signs of a set stand ahead -/
def runFrom (S : List Nat) : List Nat → Nat
  | [] => 0
  | c :: r => if c ∈ S then runFrom S r + 1 else 0
theorem runFrom_pos {S : List Nat} {c : Nat} {r : List Nat} (h : c ∈ S) : runFrom S (c :: r) = runFrom S r + 1 := if_pos h
theorem runFrom_neg {S : List Nat} {c : Nat} {r : List Nat} (h : ¬ c ∈ S) : runFrom S (c :: r) = 0 := if_neg h
theorem runFrom_le (S : List Nat) : ∀ l : List Nat, runFrom S l ≤ l.length
  | [] => Nat.le_refl _
  | c :: r => by
    unfold runFrom
    split
    · have := runFrom_le S r
      rw [List.length_cons]
      omega
    · exact Nat.zero_le _
theorem runFrom_all {S : List Nat} : ∀ {l : List Nat} {c : Nat}, c ∈ l.take (runFrom S l) → c ∈ S
  | [], c, h => by simp at h
  | x :: r, c, h => by
    by_cases hx : x ∈ S
    · rw [runFrom_pos hx, List.take_succ_cons] at h
      rcases List.mem_cons.mp h with rfl | h
      · exact hx
      · exact runFrom_all h
    · rw [runFrom_neg hx] at h
      simp at h
/-- the sign that stands ahead, and its length -/
def signOf (c : Nat) (l : List Nat) : Option (Tok × Nat) :=
  if c ∈ digitsS.cps.toList then
    (if runFrom digitsS.cps.toList l > 2 ∨ (c = 48 ∧ runFrom digitsS.cps.toList l > 1) then none else some (.num (decVal (l.take (runFrom digitsS.cps.toList l))), runFrom digitsS.cps.toList l))
  else if c ∈ lettersS'.cps.toList then
    (if runFrom lettersS'.cps.toList l > 8 then none else some (.word ⟨(l.take (runFrom lettersS'.cps.toList l)).toArray⟩, runFrom lettersS'.cps.toList l))
  else if l.take 2 = [60, 61] then some (.sign "<=", 2)
  else if c ∈ marksS.cps.toList then some (.sign ⟨#[c]⟩, 1) else none
def signAt : List Nat → Option (Tok × Nat)
  | [] => none
  | c :: r => signOf c (c :: r)
theorem signAt_eq {l r : List Nat} {c : Nat} (e : l = c :: r) : signAt l = signOf c l := by
  subst e
  rfl
theorem dec_one : ∀ a ∈ digitsS.cps.toList, PySem.intText? (⟨[a].toArray⟩ : Str) = some ((decVal [a] : Nat) : Int) := by decide +kernel
theorem dec_two : ∀ a ∈ digitsS.cps.toList, ∀ b ∈ digitsS.cps.toList, PySem.intText? (⟨[a, b].toArray⟩ : Str) = some ((decVal [a, b] : Nat) : Int) := by decide +kernel
end My
namespace My
open PySem L2
def lexL : Nat → Nat → List Nat → Option (List (Tok × Nat))
  | 0, _, _ => none
  | _ + 1, i, [] => some [(.fin, i)]
  | f + 1, i, c :: r => match signAt (c :: r) with
    | none => none
    | some (tok, L) => (lexL f (i + L + runFrom [32] ((c :: r).drop L)) (((c :: r).drop L).drop (runFrom [32] ((c :: r).drop L)))).map ((tok, i) :: ·)
abbrev TokRel (H : Hp) (v : V) (t : Tok × Nat) : Prop := ∃ a, v = V.ref a ∧ H a = some (.tup [.str (kindT t.1), tokV t.1, .int (t.2 : Nat)])
def ToksAt (H : Hp) (us : List V) (ts : List (Tok × Nat)) : Prop := Paired (TokRel H) us ts
theorem ToksAt.keep {H H' : Hp} {us : List V} {ts : List (Tok × Nat)} (h : ToksAt H us ts) (s : ∀ b xs, H b = some (.tup xs) → H' b = some (.tup xs)) : ToksAt H' us ts := L2.Paired.mapP h fun _ _ ⟨a, e, q⟩ => ⟨a, e, s _ _ q⟩
theorem tup_put {H : Hp} {L : Addr} {vs : List V} {o : HO} (e : H L = some (.lst vs)) : ∀ b xs, H b = some (.tup xs) → (upd H L o) b = some (.tup xs) := fun b xs h => by
  rw [upd_ne (L2.ne_of h e (fun z => nomatch z))]
  exact h
theorem toks_snoc {H : Hp} {v : V} {t : Tok × Nat} : ∀ {us : List V} {ts : List (Tok × Nat)}, ToksAt H us ts → TokRel H v t → ToksAt H (us ++ [v]) (ts ++ [t])
  | _, _, .nil, h => .cons h .nil
  | _, _, .cons r q, h => .cons r (toks_snoc q h)
theorem signAt_pos {l : List Nat} {tok : Tok} {L : Nat} (h : signAt l = some (tok, L)) : 1 ≤ L ∧ L ≤ l.length := by
  cases l with
  | nil => cases h
  | cons c r =>
    have h : signOf c (c :: r) = some (tok, L) := h
    unfold signOf at h
    split at h
    · rename_i c1
      split at h
      · cases h
      · cases h
        have := runFrom_le digitsS.cps.toList (c :: r)
        rw [runFrom_pos c1] at this ⊢
        exact ⟨by omega, this⟩
    · split at h
      · rename_i c1
        split at h
        · cases h
        · cases h
          have := runFrom_le lettersS'.cps.toList (c :: r)
          rw [runFrom_pos c1] at this ⊢
          exact ⟨by omega, this⟩
      · split at h
        · rename_i c3
          cases h
          refine ⟨by decide, ?_⟩
          cases r with
          | nil => simp at c3
          | cons d r => simp
        · split at h
          · cases h
            simp
          · cases h
end My
namespace My
open PySem L2
/-! ### the reader: tokens of plans, its object -/
def toksE (e : En) : List Tok := if e.1 = "" then [.num e.2.toNat] else if e.2 = 0 then [.word e.1] else if 0 < e.2 then [.word e.1, .sign "+", .num e.2.toNat] else [.word e.1, .sign "-", .num (0 - e.2).toNat]
mutual
def toksTh : Thing → List Tok
  | .step n => [.word "step", .num n.toNat]
  | .call nm e => [.word "call", .word nm, .word "with"] ++ toksE e
  | .double b => [.word "double", .sign "("] ++ (toksB b ++ [.sign ")"])
  | .loop nm e1 e2 b => [.word "for", .word nm, .word "from"] ++ (toksE e1 ++ ([.word "to"] ++ (toksE e2 ++ ([.sign "("] ++ (toksB b ++ [.sign ")"])))))
  | .test e1 e2 b1 b2 => [.word "if"] ++ (toksE e1 ++ ([.sign "<="] ++ (toksE e2 ++ ([.sign "("] ++ (toksB b1 ++ ([.sign ")"] ++ (if b2.isEmpty then [] else [.word "else", .sign "("] ++ (toksB b2 ++ [.sign ")"]))))))))
  | .again n w => [.word "again", .num n.toNat, .word "on", .word w]
def toksB : List Thing → List Tok
  | [] => []
  | [t] => toksTh t
  | t :: u :: r => toksTh t ++ ([.sign ";"] ++ toksB (u :: r))
end
def RdE (e : En) : Prop := (e.1 = "" ∧ 0 ≤ e.2 ∧ e.2 ≤ 99) ∨ ((e.1 = "n" ∨ NameOk e.1) ∧ e.2.natAbs ≤ 99)
mutual
def RdT : Thing → Nat → Prop
  | .step n => fun _ => 0 ≤ n ∧ n ≤ 99
  | .call nm e => fun _ => NameOk nm ∧ RdE e
  | .double b => fun deep => deep < 4 ∧ b ≠ [] ∧ RdB b (deep + 1)
  | .loop nm e1 e2 b => fun deep => NameOk nm ∧ RdE e1 ∧ RdE e2 ∧ deep < 4 ∧ b ≠ [] ∧ RdB b (deep + 1)
  | .test e1 e2 b1 b2 => fun deep => RdE e1 ∧ RdE e2 ∧ deep < 4 ∧ b1 ≠ [] ∧ RdB b1 (deep + 1) ∧ RdB b2 (deep + 1)
  | .again n w => fun _ => 1 ≤ n ∧ n ≤ 9 ∧ (w = "halves" ∨ w = "thirds" ∨ w = "less")
def RdB : List Thing → Nat → Prop
  | [] => fun _ => True
  | t :: r => fun deep => RdT t deep ∧ RdB r deep
end
/-- what may stand behind an end, a thing, a body -/
def EndF : List Tok → Prop
  | [] => False
  | t :: _ => t ≠ .sign "+" ∧ t ≠ .sign "-"
def ThF : List Tok → Prop
  | [] => False
  | t :: _ => t ≠ .sign "+" ∧ t ≠ .sign "-" ∧ t ≠ .word "else"
def BdF : List Tok → Prop
  | [] => False
  | t :: _ => t ≠ .sign "+" ∧ t ≠ .sign "-" ∧ t ≠ .word "else" ∧ t ≠ .sign ";"
theorem ThF.e : ∀ {l : List Tok}, ThF l → EndF l
  | _ :: _, h => ⟨h.1, h.2.1⟩
theorem BdF.t : ∀ {l : List Tok}, BdF l → ThF l
  | _ :: _, h => ⟨h.1, h.2.1, h.2.2.1⟩
def flR (S : Addr) (i m : Nat) : List (Str × V) := [("signs", .ref S), ("spot", .int (i : Nat)), ("many", .int (m : Nat))]
def TokOk : Tok → Prop
  | .word w => PyData.strOk w = true
  | .sign z => PyData.strOk z = true
  | _ => True
structure Rdr (H : Hp) (r C S : Addr) (us : List V) (ts : List (Tok × Nat)) (i m : Nat) : Prop where
  ob : ∃ dx, H r = some (.ins C dx (flR S i m))
  sg : H S = some (.lst us)
  tk : ToksAt H us ts
  ok : ∀ t ∈ ts, TokOk t.1
theorem flR_signs (S : Addr) (i m : Nat) : (flR S i m).lookup ("signs" : Str) = some (.ref S) := rfl
theorem flR_spot (S : Addr) (i m : Nat) : (flR S i m).lookup ("spot" : Str) = some (.int (i : Nat)) := rfl
theorem flR_many (S : Addr) (i m : Nat) : (flR S i m).lookup ("many" : Str) = some (.int (m : Nat)) := rfl
theorem flR_put (S : Addr) (i m : Nat) {x : Int} {j : Nat} (h : x = (j : Nat)) : putF "spot" (.int x) (flR S i m) = flR S j m := by
  subst h
  rfl
theorem flR_putm (S : Addr) (i m : Nat) {x : Int} {j : Nat} (h : x = (j : Nat)) : putF "many" (.int x) (flR S i m) = flR S i j := by
  subst h
  rfl
theorem Rdr.len {H : Hp} {r C S : Addr} {us : List V} {ts : List (Tok × Nat)} {i m : Nat} (h : Rdr H r C S us ts i m) : us.length = ts.length := Paired.length h.tk
theorem paired_get' {α β : Type} {F : α → β → Prop} : ∀ {l : List α} {m : List β} {i : Nat} {b : β}, Paired F l m → m[i]? = some b → ∃ a, l[i]? = some a ∧ F a b
  | _, _, _, _, .nil, h => by simp at h
  | _, _, 0, b, .cons (a := a) r q, h => ⟨a, rfl, by rw [← (show _ = b by simpa using h)]; exact r⟩
  | _, _, i + 1, b, .cons r q, h => by
    obtain ⟨a, e, p⟩ := paired_get' (i := i) q (by simpa using h)
    exact ⟨a, by simpa using e, p⟩
theorem Rdr.peek {H : Hp} {r C S : Addr} {us : List V} {ts : List (Tok × Nat)} {i m : Nat} {t : Tok × Nat} (h : Rdr H r C S us ts i m) (e : ts[i]? = some t) : ∃ a, us[i]? = some (.ref a) ∧ H a = some (.tup [.str (kindT t.1), tokV t.1, .int (t.2 : Nat)]) := by
  obtain ⟨u, e1, a, rfl, e2⟩ := paired_get' h.tk e
  exact ⟨a, e1, e2⟩
theorem Rdr.cell {H : Hp} {r C S : Addr} {us : List V} {ts : List (Tok × Nat)} {i m : Nat} (h : Rdr H r C S us ts i m) : ∀ c, Only1 r c → Cell (H c) := fun c e => by
  obtain ⟨dx, q⟩ := h.ob
  rw [show c = r from e]
  exact cell_ins q
theorem Rdr.ne_tup {H : Hp} {r C S : Addr} {us : List V} {ts : List (Tok × Nat)} {i m : Nat} {a : Addr} {xs : List V} (h : Rdr H r C S us ts i m) (e : H a = some (.tup xs)) : a ≠ r := by
  obtain ⟨dx, q⟩ := h.ob
  rintro rfl
  rw [e] at q
  cases q
theorem Rdr.ne_sg {H : Hp} {r C S : Addr} {us : List V} {ts : List (Tok × Nat)} {i m : Nat} (h : Rdr H r C S us ts i m) : S ≠ r := by
  obtain ⟨dx, q⟩ := h.ob
  rintro rfl
  rw [h.sg] at q
  cases q
/-- what stands but the object -/
theorem Rdr.but {H H' : Hp} {r C S : Addr} {us : List V} {ts : List (Tok × Nat)} {i m j n : Nat} (h : Rdr H r C S us ts i m) (b : But (Only1 r) H H') (o : ∃ dx, H' r = some (.ins C dx (flR S j n))) : Rdr H' r C S us ts j n :=
  ⟨o, b _ _ h.sg h.ne_sg, h.tk.keep fun c xs e => b _ _ e (h.ne_tup e), h.ok⟩
theorem Rdr.same {H H' : Hp} {r C S : Addr} {us : List V} {ts : List (Tok × Nat)} {i m : Nat} (h : Rdr H r C S us ts i m) (s : Same H H') : Rdr H' r C S us ts i m :=
  h.but (same_but s) (let ⟨dx, q⟩ := h.ob; ⟨dx, s _ _ q⟩)
/-- data stay while the object changes -/
theorem no_ins_l {K : PySem.W.Frag} {M : Addr → Prop} {H H' : Hp} {r a : Addr} {C dx : Addr} {fs : List (Str × V)} {xs : List V} (hr : H r = some (.ins C dx fs)) (b : But (Only1 r) H H') (h : SqL K H a xs) : SqL K H' a xs := by
  rcases h with (h | ⟨o, h⟩) | h
  · exact .inl (.inl (b a _ h fun e => by rw [show a = r from e, hr] at h; cases h))
  · exact .inl (.inr ⟨o, b a _ h fun e => by rw [show a = r from e, hr] at h; cases h⟩)
  · exact .inr h
theorem no_ins_t {K : PySem.W.Frag} {M : Addr → Prop} {H H' : Hp} {r a : Addr} {C dx : Addr} {fs : List (Str × V)} {xs : List V} (hr : H r = some (.ins C dx fs)) (b : But (Only1 r) H H') (h : SqT K H a xs) : SqT K H' a xs := by
  rcases h with (h | ⟨o, h⟩) | h
  · exact .inl (.inl (b a _ h fun e => by rw [show a = r from e, hr] at h; cases h))
  · exact .inl (.inr ⟨o, b a _ h fun e => by rw [show a = r from e, hr] at h; cases h⟩)
  · exact .inr h
mutual
theorem dp_but {K : PySem.W.Frag} {H H' : Hp} {r C dx : Addr} {fs : List (Str × V)} (hr : H r = some (.ins C dx fs)) (b : But (Only1 r) H H') : ∀ {d : PyData} {v : V}, Dp K H v d → Dp K H' v d
  | _, _, .non => .non
  | _, _, .bl b => .bl b
  | _, _, .int i => .int i
  | _, _, .str x => .str x
  | _, _, .lst h a => .lst (no_ins_l (M := NoM) hr b h) (dps_but hr b a)
  | _, _, .tup h a => .tup (no_ins_t (M := NoM) hr b h) (dps_but hr b a)
theorem dps_but {K : PySem.W.Frag} {H H' : Hp} {r C dx : Addr} {fs : List (Str × V)} (hr : H r = some (.ins C dx fs)) (b : But (Only1 r) H H') : ∀ {ds : List PyData} {vs : List V}, DpAll K H vs ds → DpAll K H' vs ds
  | _, _, .nil => .nil
  | _, _, .cons a c => .cons (dp_but hr b a) (dps_but hr b c)
end
def tokDat : Tok → PyData
  | .num n => .int (n : Nat)
  | .word w => .str w
  | .sign s => .str s
  | .fin => .str ""
theorem tokDat_dp {K : PySem.W.Frag} {H : Hp} : ∀ t : Tok, Dp K H (tokV t) (tokDat t)
  | .num _ => .int _
  | .word _ => .str _
  | .sign _ => .str _
  | .fin => .str _
def tokIs (t : Tok) (k z : Str) : Bool := PyData.eqv (.tuple [.str (kindT t), tokDat t]) (.tuple [.str k, .str z])
theorem tokIs_iff {t : Tok} {k z : Str} : tokIs t k z = true ↔ kindT t = k ∧ tokDat t = .str z := by
  unfold tokIs
  cases t <;> simp [PyData.eqv, PyData.eqvAll, tokDat]
theorem kind_ok (t : Tok) : PyData.strOk (kindT t) = true := by
  cases t <;> exact strOk_of _
theorem shaped_tok {t : Tok} {k : Str} (h : TokOk t) (hk : PyData.strOk k = true) : SeqAt.shaped (.tuple [.str k, tokDat t]) = true := by
  cases t
  all_goals simp only [TokOk] at h
  all_goals simp [SeqAt.shaped, PyData.canLay0, PyData.canLayAll0, PyData.depth, PyData.depthAll, tokDat, hk]
  all_goals first | exact h | exact strOk_of _
theorem Rdr.tokOk {H : Hp} {r C S : Addr} {us : List V} {ts : List (Tok × Nat)} {i m : Nat} {t : Tok × Nat} (h : Rdr H r C S us ts i m) (e : ts[i]? = some t) : TokOk t.1 := h.ok t (List.mem_of_getElem? e)
/-- the tokens from a place on -/
def At (ts : List (Tok × Nat)) (i : Nat) (l : List Tok) : Prop := (ts.drop i).map Prod.fst = l
theorem at_cons {ts : List (Tok × Nat)} {i : Nat} {t : Tok} {l : List Tok} (h : At ts i (t :: l)) : ∃ pos, ts[i]? = some (t, pos) ∧ At ts (i + 1) l := by
  unfold At at h ⊢
  by_cases c : i < ts.length
  · rw [List.drop_eq_getElem_cons c, List.map_cons] at h
    have h1 := (List.cons.inj h).1
    have h2 := (List.cons.inj h).2
    refine ⟨ts[i].2, ?_, h2⟩
    rw [List.getElem?_eq_getElem c, ← h1]
  · rw [List.drop_of_length_le (by omega)] at h
    cases h
theorem str_no {a b : Str} (h : a ≠ b) : decide (V.str a = V.str b) = false := decide_eq_false fun e => h (V.str.inj e)
theorem tokIs_word {w z : Str} : tokIs (.word w) "word" z = decide (w = z) := by
  by_cases h : w = z
  · rw [decide_eq_true h]
    exact tokIs_iff.mpr ⟨rfl, by rw [h]; rfl⟩
  · rw [decide_eq_false h]
    exact Bool.eq_false_iff.mpr fun q => h (PyData.str.inj (tokIs_iff.mp q).2)
theorem tokIs_sign {w z : Str} : tokIs (.sign w) "sign" z = decide (w = z) := by
  by_cases h : w = z
  · rw [decide_eq_true h]
    exact tokIs_iff.mpr ⟨rfl, by rw [h]; rfl⟩
  · rw [decide_eq_false h]
    exact Bool.eq_false_iff.mpr fun q => h (PyData.str.inj (tokIs_iff.mp q).2)
theorem tokIs_no {t : Tok} {k z : Str} (h : kindT t ≠ k) : tokIs t k z = false := Bool.eq_false_iff.mpr fun q => h (tokIs_iff.mp q).1
theorem tokIs_ns {t : Tok} {z : Str} (h : t ≠ .sign z) : tokIs t "sign" z = false := by
  cases t with
  | sign w => rw [tokIs_sign]; exact decide_eq_false fun e => h (by rw [e])
  | num _ => exact tokIs_no (by show (Str.ofString "number") ≠ Str.ofString "sign"; decide)
  | word _ => exact tokIs_no (by show (Str.ofString "word") ≠ Str.ofString "sign"; decide)
  | fin => exact tokIs_no (by show (Str.ofString "end") ≠ Str.ofString "sign"; decide)
theorem tokIs_nw {t : Tok} {z : Str} (h : t ≠ .word z) : tokIs t "word" z = false := by
  cases t with
  | word w => rw [tokIs_word]; exact decide_eq_false fun e => h (by rw [e])
  | num _ => exact tokIs_no (by show (Str.ofString "number") ≠ Str.ofString "word"; decide)
  | sign _ => exact tokIs_no (by show (Str.ofString "sign") ≠ Str.ofString "word"; decide)
  | fin => exact tokIs_no (by show (Str.ofString "end") ≠ Str.ofString "word"; decide)
theorem str_rn {H : Hp} : ∀ e : En, e.1 ≠ "" → ∃ c l, e.1.cps.toList = c :: l := fun e h => by
  cases q : e.1.cps.toList with
  | nil => exact absurd (congrArg Str.mk (Array.toList_inj.mp (show e.1.cps.toList = (#[] : Array Nat).toList from q))) h
  | cons c l => exact ⟨c, l, rfl⟩
end My
namespace PySem.W
open PySem PySem.Spec PySem.Calls PyProof.Rows
/-! ### except (A, B, ..): a tuple of classes of any length -/
section
variable {M : Model} {K : Frag}
theorem loop_skip {A : Around} {s : Shared} {f : Value → PUnit → Sem (ForInStep PUnit)} {E : Value → Shared → Prop} : ∀ {cs : List Value} {Q : PUnit → Shared → Prop}, (∀ c ∈ cs, ∀ Q' : ForInStep PUnit → Shared → Prop, Q' (.yield PUnit.unit) s → wpAny M A (f c PUnit.unit) Q' E s) → Q PUnit.unit s → wpAny M A (forIn cs PUnit.unit f) Q E s
  | [], _, _, q => by
    rw [List.forIn_nil]
    exact wpAny_pure q
  | c :: cs, Q, hf, q => by
    rw [List.forIn_cons]
    exact wpAny_bind (hf c (List.mem_cons_self ..) _ (loop_skip (fun c' h => hf c' (List.mem_cons_of_mem _ h)) q))
theorem loop_find {A : Around} {s : Shared} {cls : Value} {f : Value → Option Bool × Unit → Sem (ForInStep (Option Bool × Unit))} {E : Value → Shared → Prop} : ∀ {cs : List Value} {b : Bool} {Q : Option Bool × Unit → Shared → Prop}, exmAny K cls cs = some b →
    (∀ c ∈ cs, ∀ b1, exmOne K cls c = some b1 → ∀ Q' : ForInStep (Option Bool × Unit) → Shared → Prop, Q' (if b1 = true then .done (some true, ()) else .yield (none, ())) s → wpAny M A (f c (none, ())) Q' E s) → Q (if b = true then (some true, ()) else (none, ())) s → wpAny M A (forIn cs (none, ()) f) Q E s
  | [], b, Q, h, _, q => by
    cases (show some false = some b from h)
    rw [List.forIn_nil]
    exact wpAny_pure q
  | c :: cs, b, Q, h, hf, q => by
    obtain ⟨b1, d1, x1, y1, rfl⟩ := exmAny_cons h
    rw [List.forIn_cons]
    refine wpAny_bind (hf c (List.mem_cons_self ..) b1 x1 _ ?_)
    cases b1 with
    | true => exact wpAny_pure q
    | false => exact loop_find y1 (fun c' hc => hf c' (List.mem_cons_of_mem _ hc)) q
theorem exmAny_all {cls : Value} : ∀ {cs : List Value} {b : Bool}, exmAny K cls cs = some b → ∀ c ∈ cs, ∃ b1, exmOne K cls c = some b1
  | [], _, _, _, h => nomatch h
  | x :: r, b, h, c, hc => by
    obtain ⟨b1, d1, x1, y1, _⟩ := exmAny_cons h
    rcases List.mem_cons.mp hc with rfl | hc
    · exact ⟨b1, x1⟩
    · exact exmAny_all y1 c hc
theorem exm_tupN {cs : List Value} {cls : Value} {tp e : Addr} {b : Bool} {h : Heap} {dd : Option Addr} {n : Nat} {sl : Array (Option Value)} (X : K.In h) (LT : Looks M h (typeOf (.ref e)) cls) (hp : h.get? tp = some ⟨.type "tuple", dd, .seq cs.toArray n, sl⟩) (hx : exmAny K cls cs = some b) :
    Looks M h (excMatches (.ref e) (.ref tp)) b := by
  intro A Q E s k₀ q
  obtain ⟨hh, g, d, tk, os⟩ := s
  have k : ∀ b o, h.get? b = some o → hh.get? b = some o := k₀
  have LT0 : Looks M h (isInstance (.ref tp) (.type "tuple")) true := ((Looks.ld hp).andThen .now).andThen (Looks.of_pure isSubtype_tuple_tuple)
  have LT := LT.keeps k
  have LT0 := LT0.keeps k
  have hp' := k _ _ hp
  unfold excMatches
  refine wpAny_bind (LT0.at ?_)
  dsimp only
  rw [if_pos rfl]
  first
    | refine wpAny_bind (wpAny_seqItems hp' rfl ?_)
    | refine wpAny_bind (wpAny_bind (wpAny_seqItems hp' rfl (wpAny_pure ?_)))
  dsimp only [Option.getD_some, Option.getD]
  first
    | refine wpAny_bind (wpAny_pure ?_)
    | skip
  refine wpAny_bind (loop_skip (fun c hc Q' q' => ?_) ?_)
  · obtain ⟨b1, x1⟩ := exmAny_all hx c hc
    obtain ⟨e1, _⟩ := exm_cls (M := M) X x1
    refine wpAny_bind ((e1.keeps k).at ?_)
    rw [if_neg (by decide)]
    exact wpAny_pure q'
  refine wpAny_bind (LT.at (wpAny_bind (loop_find hx (fun c hc b1 x1 Q' q' => ?_) ?_)))
  · obtain ⟨_, S1⟩ := exm_cls (M := M) X x1
    refine wpAny_bind ((S1.keeps k).at ?_)
    cases b1 with
    | true => exact wpAny_pure q'
    | false => exact wpAny_pure q'
  cases b with
  | true => exact wpAny_pure q
  | false => exact wpAny_pure q
end
end PySem.W
namespace My
open PySem PySem.Spec PyProof.Rows L2
/-! ### try: .. except A as n: .. except (B, C) as n: .. -/
theorem flying_kept {base h h' : Heap} {l : List Env} {e : Addr} {Z : Obj → Prop} (k : ∀ b o, h.get? b = some o → h'.get? b = some o) (x : HandSPX.FlyingZ base l e Z h) : HandSPX.FlyingZ base l e Z h' := by
  obtain ⟨f1, f2, f3, oe, vs, T, oT, ts, he, hz, hd, h1, hnT, hTe, hT, hdT, h3⟩ := x
  exact ⟨fun b o q => k b o (f1 b o q), f2, f3.of_keeps fun b o hb _ => ⟨o, k b o hb, rfl⟩, oe, vs, T, oT, ts, k _ _ he, hz, hd, h1, hnT, hTe, k _ _ hT, hdT, h3⟩
inductive NmAll (X : Cx) : List Expr → List Value → Prop
  | nil : NmAll X [] []
  | cons {x : Str} {c : Value} {np : Pos} {es : List Expr} {cs : List Value} : Names X x c → NmAll X es cs → NmAll X (.Name x np :: es) (c :: cs)
theorem name_run {X : Cx} {E : Value → Shared → Prop} {pins : List (Addr × Obj)} {σ : L2.St} {H : Hp} {s : Shared} {a : Addr} {pn : List (Addr × Obj)} {x : Str} {c : Value} {np : Pos} {Q : Value → Shared → Prop} (S : Inv (X.suite a pn) pins σ H s) (hc : Names X x c) (q : Q c s) :
    wpAny (model X.prog X.w) (X.A.mark (some (.ref a))) (eval (.Name x np) X.env) Q E s := by
  obtain ⟨hg, hdbg, hm | ⟨hm, hv, hnn⟩⟩ := hc
  · exact ld_glob (X := X.suite a pn) S hg hm q hdbg
  · exact ld_blt (X := X.suite a pn) S hg hm hv q hnn hdbg
theorem nmAll_run {X : Cx} {pos : Pos} {E : Value → Shared → Prop} {pins : List (Addr × Obj)} {σ : L2.St} {H : Hp} {s : Shared} {a : Addr} {pn : List (Addr × Obj)} (S : Inv (X.suite a pn) pins σ H s) :
    ∀ {es : List Expr} {cs : List Value} {Q : List Value → Shared → Prop}, NmAll X es cs → Q cs s → wpAny (model X.prog X.w) (X.A.mark (some (.ref a))) (spliced (backTo pos (starEach es X.env))) Q E s := by
  intro es cs Q h
  induction h generalizing Q with
  | nil => exact fun q => Calls.spliced_nil q
  | @cons x c np es cs hc r ih =>
    intro q
    show wpAny _ _ (spliced ((false, eval (.Name x np) X.env) :: backTo pos (starEach es X.env))) _ _ s
    exact Calls.spliced_cons (name_run S hc (ih q))
/-- what the clauses wish of an exception of the body; slot i is the clauses' name -/
def wManyA (Wout : WX) (D : Ends) (i : Nat) : List ((Value → Option Bool) × (Addr → Value → Option Addr → TS)) → WX
  | [] => Wout
  | (f, ts) :: r => fun cls d σ H => ∃ b, f cls = some b ∧ (b = true → ∀ a, H a = none → i < σ.length → ts a cls d { nx := fun σ' H' => D.nx (σ'.set i none) H', rt := D.rt, bk := fun σ' H' => D.bk (σ'.set i none) H', ct := fun σ' H' => D.ct (σ'.set i none) H' } (σ.set i (some (.ref a))) H) ∧ (b = false → wManyA Wout D i r cls d σ H)
inductive HdsA (X : Cx) (n : Str) : List ExceptHandler → List ((Value → Option Bool) × (Addr → Value → Option Addr → TS)) → Prop
  | nil : HdsA X n [] []
  | one {x : Str} {c : Value} {ts : Addr → Value → Option Addr → TS} {b₀ : Stmt} {suite : List Stmt} {np pos' : Pos} {hds : List ExceptHandler} {l : List ((Value → Option Bool) × (Addr → Value → Option Addr → TS))} (hc : Names X x c)
      (hsu : ∀ (a : Addr) (oe : Obj) (cls : Value) (d : Option Addr) (pn : List (Addr × Obj)), Zc cls d oe → (∃ vs, oe.data = .fields vs) → PSs (X.suite a ((a, oe) :: pn)) (b₀ :: suite) (ts a cls d)) (r : HdsA X n hds l) :
      HdsA X n (.ExceptHandler (some (.Name x np)) (some n) (b₀ :: suite) pos' :: hds) ((fun cls => PySem.W.exmOne X.K cls c, ts) :: l)
  | tup {es : List Expr} {cs : List Value} {x1} {ts : Addr → Value → Option Addr → TS} {b₀ : Stmt} {suite : List Stmt} {np pos' : Pos} {hds : List ExceptHandler} {l : List ((Value → Option Bool) × (Addr → Value → Option Addr → TS))} (hc : NmAll X es cs) (hl : cs.length ≤ 1000)
      (hsu : ∀ (a : Addr) (oe : Obj) (cls : Value) (d : Option Addr) (pn : List (Addr × Obj)), Zc cls d oe → (∃ vs, oe.data = .fields vs) → PSs (X.suite a ((a, oe) :: pn)) (b₀ :: suite) (ts a cls d)) (r : HdsA X n hds l) :
      HdsA X n (.ExceptHandler (some (.Tuple es x1 np)) (some n) (b₀ :: suite) pos' :: hds) ((fun cls => PySem.W.exmAny X.K cls cs, ts) :: l)
section
variable {X : Cx} {n : Str} {i : Nat} {body : List Stmt} {h₀ : ExceptHandler} {hds : List ExceptHandler} {l : List ((Value → Option Bool) × (Addr → Value → Option Addr → TS))} {pos : Pos} {tb : WX → TS} {Wout : WX}
theorem ps_try_manyA (hs : X.stack = X.env :: X.outer) (hf : X.env.frame = some X.env.locals) (hN : X.N.Nodup) (hi : X.N[i]? = some n) (hln : X.env.kindOf n = some .local) (tk : Takes X Wout)
    (hb : ∀ (W : WX) (pn : List (Addr × Obj)) (xe : Value → Shared → Prop), Takes (X.tr pn xe) W → PassesOwn (model X.prog X.w) X.A X.env xe → PSs (X.tr pn xe) body (tb W))
    (hh : HdsA X n (h₀ :: hds) l) : PS X (.Try body (h₀ :: hds) [] [] pos) (fun D σ H => tb (wManyA Wout D i l) D σ H) := by
  refine ⟨fun pins s σ H D I h => ?_⟩
  have ok := I.ok
  have hfr : X.A.frames = some (X.env :: X.outer) := by rw [ok.frames, hs]
  have hloc : Loc X.env.scope n := .inl hln
  refine wpAny_Try_except ?_
  refine wpAny_mono ((hb (wManyA Wout D i l) (X.pn ++ pins) (fun e s₁ => wpAny (model X.prog X.w) X.A (noteFrame e X.env) (fun _ s₂ => wpAny (model X.prog X.w) X.A (setFlight e none) (fun _ s₃ =>
    wpAny (model X.prog X.w) X.A (handleBy e X.env (h₀ :: hds)) (SP X pins D) X.xe s₃) X.xe s₂) X.xe s₁) (fun u s' xx => ?_) PassesOwn.looking).run [] s σ H D (I.toTry _) h) (fun f s1 hsp => ?_) (fun e s1 he => he)
  · -- the catch
    obtain ⟨a, B, sI, pins', σ', H', cls, d, rfl, J', nb, up, sky, na, os, ag, w⟩ := xx
    have J : Inv X pins σ' H' sI := J'.ofTry ok
    have sky' : Sky B (X.env :: X.outer) a (Zc cls d) X.env.locals s'.heap := by rw [← hs]; exact sky
    show wpAny (model X.prog X.w) X.A (noteFrame (.ref a) X.env) _ _ _
    refine Sky.land Zc.steady hfr hf sky' fun h3 fl3 up3 => ?_
    have notFr : ∀ {h : Heap} {o : Obj} {vs : Array Value}, h.FunFrames B (X.env :: X.outer) → h.get? a = some o → o.data = .fields vs → a ∉ frs (X.env :: X.outer) := fun {h o vs} ff e dd hm => by
      obtain ⟨_, o', e', hnf⟩ := ff.mem hm
      rw [e] at e'; cases e'
      exact hnf _ dd
    have go : ∀ {hds' : List ExceptHandler} {l' : List ((Value → Option Bool) × (Addr → Value → Option Addr → TS))}, HdsA X n hds' l' → ∀ h3 : Heap, HandSPX.FlyingZ B (X.env :: X.outer) a (Zc cls d) h3 → sI.heap.UpToSlots h3 → wManyA Wout D i l' cls d σ' H' →
        wpAny (model X.prog X.w) X.A (handleBy (.ref a) X.env hds') (SP X pins D) X.xe { s' with heap := h3 } := by
      intro hds' l' hk
      induction hk with
      | nil =>
        intro h3 fl3 up3 w
        refine wpAny_handleBy_nil ?_
        obtain ⟨k1, k2, k3, oe, vs, T, oT, ts', he, hz, hd, h1, hr⟩ := id fl3
        unfold PySem.passOn
        refine wpAny_bind (wpAny_field he hd h1 ?_)
        rw [if_neg (show ¬ ((Value.ref T == Value.none) = true) from by simp)]
        have fin : wpAny (model X.prog X.w) X.A (setFlight (.ref a) X.env.frame) (fun _ s4 => wpAny (model X.prog X.w) X.A (throw (.ref a) : Sem Flow) (SP X pins D) X.xe s4) X.xe { s' with heap := h3 } := by
          rw [hf]
          refine HandSPX.setFlight_upZ fl3 fun h4 hh4 up4 => wpAny_throw (tk _ _ ?_)
          exact ⟨a, B, sI, pins, σ', H', cls, d, rfl, J, nb, up3.trans up4, .inr (.inr (by rw [hs]; exact hh4)), na, os, ag, w⟩
        first
          | exact wpAny_bind (wpAny_pure (wpAny_bind fin))
          | exact wpAny_bind fin
      | @one x c ts b₀ suite np pos' hds2 l2 hc hsu r ih =>
        intro h3 fl3 up3 w
        obtain ⟨b, hb1, hyes, hno⟩ := w
        have J3 : Inv X pins σ' H' { s' with heap := h3 } := J.landed nb fl3.1 up3 os ag
        obtain ⟨oe3, vs3, he3, hz3, hd3⟩ := fl3.there
        have nfr := notFr fl3.2.2.1 he3 hd3
        have nL : a ≠ X.env.locals := fun z => nfr (List.mem_filterMap.mpr ⟨X.env, List.mem_cons_self, by rw [hf, z]⟩)
        have nF : a ∉ X.fs := fun hm => by
          obtain ⟨e, he, q⟩ := List.mem_filterMap.mp hm
          exact nfr (List.mem_filterMap.mpr ⟨e, List.mem_cons_of_mem _ he, q⟩)
        have S3 := J3.suite he3 hd3 na nL nF
        refine wpAny_handleBy_cons (codeAny_handlers_test ?_) (by intro q; cases q)
        have LT : PySem.W.Looks (model X.prog X.w) h3 (typeOf (.ref a)) cls := fun A Q E s k q => wpAny_typeOf_ref (k _ _ he3) (by rw [hz3.1]; exact q)
        have LM := PySem.W.exm_one (M := model X.prog X.w) (J3.kIn) LT hb1
        refine name_run S3 hc (LM.here ?_)
        cases b with
        | true =>
          refine codeAny_handlers_suite_as ?_
          refine HandSPX.lands_againZ fl3 fun h4 fl4 up4 => ?_
          have J4 : Inv X pins σ' H' { s' with heap := h4 } := J.landed nb fl4.1 (up3.trans up4) os ag
          obtain ⟨oe4, vs4, he4, hz4, hd4⟩ := fl4.there
          have S4 := J4.suite he4 hd4 na nL nF
          refine store_ok (X := X.suite a ((a, oe4) :: (X.pn ++ pins))) (v := .ref a) S4 hN hi hloc rfl (fun s5 S5 => ?_) (.inr hln)
          refine wpAny_mono ((hsu a oe4 cls d (X.pn ++ pins) hz4 ⟨_, hd4⟩).run [] s5 _ H' _ S5 (hyes rfl a na (by rw [J.len]; exact (List.getElem?_eq_some_iff.mp hi).1))) (fun f s6 hsp => ?_) (fun _ _ z => False.elim z)
          have end_ : ∀ {σ6 : L2.St} {H6 : Hp} {Q : Shared → Prop}, Inv (X.suite a ((a, oe4) :: (X.pn ++ pins))) [] σ6 H6 s6 → (∀ s7, Inv X pins (σ6.set i none) H6 s7 → Q s7) →
              wpAny (model X.prog X.w) X.A (do bindName X.env n .none; unbindBehindTheSuite X.env n pos') (fun _ s7 => Q s7) X.xe s6 := fun {σ6 H6 Q} S6 hq => gone_ok (S6.unsuite ok) hN hi hln hq
          cases f with
          | next =>
            obtain ⟨σ6, H6, S6, q6⟩ := hsp
            exact end_ S6 fun s7 J7 => ⟨_, _, J7, q6⟩
          | brk =>
            obtain ⟨σ6, H6, S6, q6⟩ := hsp
            exact end_ S6 fun s7 J7 => ⟨_, _, J7, q6⟩
          | cont =>
            obtain ⟨σ6, H6, S6, q6⟩ := hsp
            exact end_ S6 fun s7 J7 => ⟨_, _, J7, q6⟩
          | ret u =>
            obtain ⟨v6, σ6, H6, S6, r6, q6⟩ := hsp
            exact end_ S6 fun s7 J7 => ⟨_, _, _, J7, r6, q6⟩
        | false =>
          show wpAny _ X.A (handleBy (.ref a) X.env hds2) _ _ _
          exact ih _ fl3 up3 (hno rfl)
      | @tup es cs x1 ts b₀ suite np pos' hds2 l2 hc hl hsu r ih =>
        intro h3 fl3 up3 w
        obtain ⟨b, hb1, hyes, hno⟩ := w
        have J3 : Inv X pins σ' H' { s' with heap := h3 } := J.landed nb fl3.1 up3 os ag
        obtain ⟨oe3, vs3, he3, hz3, hd3⟩ := fl3.there
        have nfr := notFr fl3.2.2.1 he3 hd3
        have nL : a ≠ X.env.locals := fun z => nfr (List.mem_filterMap.mpr ⟨X.env, List.mem_cons_self, by rw [hf, z]⟩)
        have nF : a ∉ X.fs := fun hm => by
          obtain ⟨e, he, q⟩ := List.mem_filterMap.mp hm
          exact nfr (List.mem_filterMap.mpr ⟨e, List.mem_cons_of_mem _ he, q⟩)
        have S3 := J3.suite he3 hd3 na nL nF
        refine wpAny_handleBy_cons (codeAny_handlers_test ?_) (by intro q; cases q)
        have LT : PySem.W.Looks (model X.prog X.w) h3 (typeOf (.ref a)) cls := fun A Q E s k q => wpAny_typeOf_ref (k _ _ he3) (by rw [hz3.1]; exact q)
        have kp : ∀ b o, h3.get? b = some o → (h3.push ({ cls := .type "tuple", data := .seq cs.toArray } : Obj)).get? b = some o := fun b o e => Heap.get?_push_of_some _ e
        have fl5 := flying_kept kp fl3
        have up5 : sI.heap.UpToSlots (h3.push ({ cls := .type "tuple", data := .seq cs.toArray } : Obj)) := up3.trans (Heap.UpToSlots.of_keeps kp)
        have hp5 : (h3.push ({ cls := .type "tuple", data := .seq cs.toArray } : Obj)).get? h3.objs.size = some ({ cls := .type "tuple", data := .seq cs.toArray } : Obj) := Heap.get?_push_size _ rfl
        have LM := PySem.W.exm_tupN (M := model X.prog X.w) (J3.kIn.keeps kp) (LT.keeps kp) hp5 hb1
        refine wpAny_Tuple_spliced (nmAll_run S3 hc ⟨Nat.le_trans hl (by decide), LM.here ?_⟩)
        cases b with
        | true =>
          refine codeAny_handlers_suite_as ?_
          refine HandSPX.lands_againZ fl5 fun h4 fl4 up4 => ?_
          have J4 : Inv X pins σ' H' { s' with heap := h4 } := J.landed nb fl4.1 (up5.trans up4) os ag
          obtain ⟨oe4, vs4, he4, hz4, hd4⟩ := fl4.there
          have S4 := J4.suite he4 hd4 na nL nF
          refine store_ok (X := X.suite a ((a, oe4) :: (X.pn ++ pins))) (v := .ref a) S4 hN hi hloc rfl (fun s5 S5 => ?_) (.inr hln)
          refine wpAny_mono ((hsu a oe4 cls d (X.pn ++ pins) hz4 ⟨_, hd4⟩).run [] s5 _ H' _ S5 (hyes rfl a na (by rw [J.len]; exact (List.getElem?_eq_some_iff.mp hi).1))) (fun f s6 hsp => ?_) (fun _ _ z => False.elim z)
          have end_ : ∀ {σ6 : L2.St} {H6 : Hp} {Q : Shared → Prop}, Inv (X.suite a ((a, oe4) :: (X.pn ++ pins))) [] σ6 H6 s6 → (∀ s7, Inv X pins (σ6.set i none) H6 s7 → Q s7) →
              wpAny (model X.prog X.w) X.A (do bindName X.env n .none; unbindBehindTheSuite X.env n pos') (fun _ s7 => Q s7) X.xe s6 := fun {σ6 H6 Q} S6 hq => gone_ok (S6.unsuite ok) hN hi hln hq
          cases f with
          | next =>
            obtain ⟨σ6, H6, S6, q6⟩ := hsp
            exact end_ S6 fun s7 J7 => ⟨_, _, J7, q6⟩
          | brk =>
            obtain ⟨σ6, H6, S6, q6⟩ := hsp
            exact end_ S6 fun s7 J7 => ⟨_, _, J7, q6⟩
          | cont =>
            obtain ⟨σ6, H6, S6, q6⟩ := hsp
            exact end_ S6 fun s7 J7 => ⟨_, _, J7, q6⟩
          | ret u =>
            obtain ⟨v6, σ6, H6, S6, r6, q6⟩ := hsp
            exact end_ S6 fun s7 J7 => ⟨_, _, _, J7, r6, q6⟩
        | false =>
          show wpAny _ X.A (handleBy (.ref a) X.env hds2) _ _ _
          exact ih _ fl5 up5 (hno rfl)
    exact go hh h3 fl3 (up.trans up3) w
  · cases f with
    | next =>
      obtain ⟨σ', H', J', q⟩ := hsp
      exact wpAny_execs_nil ⟨σ', H', J'.ofTry ok, q⟩
    | brk =>
      obtain ⟨σ', H', J', q⟩ := hsp
      exact ⟨σ', H', J'.ofTry ok, q⟩
    | cont =>
      obtain ⟨σ', H', J', q⟩ := hsp
      exact ⟨σ', H', J'.ofTry ok, q⟩
    | ret u =>
      obtain ⟨v, σ', H', J', r, q⟩ := hsp
      exact ⟨v, σ', H', J'.ofTry ok, r, q⟩
end
end My
namespace My
open PySem PySem.Spec PyProof.Rows L2
open L2H
/-! ### a def that is called with the handled exception -/
structure FnE (P : Program) (w : World) (K : PySem.W.Frag) (mg : Str → Option Value) (base : Heap) (k : Nat) (f : Addr) (fd : FuncData) (ps : List Str) (sp : Addr → Value → Option Addr → Sp) : Prop where
  len : ∀ a cls d vs H Q E, sp a cls d vs H Q E → vs.length = ps.length
  run : ∀ (A : Around) (outer : List Env) (s : Shared) (H : Hp) (args : Args) (us : List Value) (vs : List V) (Q : VK) (E : XK) (p : Addr × Obj) (cls : Value) (d : Option Addr), RoomH k A → PinOk outer H s p → Zc cls d p.2 → (∃ zs, p.2.data = .fields zs) → Env0 P w K mg base A outer s H → BindsTo s fd args (ps.zip us) → Vals vs us → sp p.1 cls d vs H Q E →
    codeAny (model P w) A (.call (.ref f) args) (CR CX0 outer P w H s Q E) s
theorem fn_ofE {P : Program} {w : World} {K : PySem.W.Frag} {mg : Str → Option Value} {base : Heap} {k : Nat} {f : Addr} {x qual : Str} {st : Stmt} {fd : FuncData} {N ps : List Str} {sp : Addr → Value → Option Addr → Sp}
    (F : Fun K x qual st f fd) (S : FnScope N ps (defScope st)) (len : ∀ a cls d vs H Q E, sp a cls d vs H Q E → vs.length = ps.length)
    (hbody : ∀ (cdv : Value) (A : Around) (outer : List Env) (s : Shared) (H : Hp) (vs : List V) (Q : VK) (E : XK) (p : Addr × Obj) (cls : Value) (d : Option Addr), Zc cls d p.2 → (∃ zs, p.2.data = .fields zs) → RoomH k (A.deeper (envOfC qual (defScope st) s.heap.objs.size f cdv)) → sp p.1 cls d vs H Q E →
      ∃ t, PSs (cxH CX0 P w K mg base N qual (defScope st) f cdv A outer s H E p).nox (defBody st) t ∧ t { nx := fun _ H' => Q .non H', rt := Q } (L2.start N vs) H) :
    FnE P w K mg base (k + 1) f fd ps sp := by
  obtain ⟨oc, od, kV, doc, pm, an, cdv, ct, osl, rfl, lk, hcd⟩ := F.ex
  refine ⟨len, fun A outer s H args us vs Q E p cls d hr hpin hz hf e0 hb r hsp => ?_⟩
  have hl := len _ _ _ _ _ _ _ hsp
  have KX : K.In s.heap := e0.mod.kin.keeps fun b o e => (e0.bs b o e).1
  have lim : s.heap.NoLimit := e0.mod.nolimit.keeps fun b o e => (e0.bs b o e).1
  have hkind : ∀ y ∈ ps.zip us, (defScope st).names.lookup y.1 = some .local ∨ ((defScope st).names.lookup y.1 = some .cell ∧ ((cellsFrom (s.heap.objs.size + 1) (defScope st).names []).lookup y.1).isSome = true) := fun ⟨n, v⟩ hy => by
    rcases S.par n (List.of_mem_zip hy).1 with q | q
    · exact .inl q
    · exact .inr ⟨q, PySem.W.cellsFrom_some _ _ _ (.inl q)⟩
  refine codeAny_call_function hr.depth (KX _ _ lk) rfl S.co S.gen rfl (PySem.W.codeRec_of KX hcd) (hb _ _ _ _ ?_)
  refine wpAny_newFunctionEnv_cells S.kind hkind fun env he s1 y => ?_
  subst he
  refine ⟨lim.keeps y.toInCall.keep, codeAny_func ?_⟩
  obtain ⟨t, ht, hq⟩ := hbody cdv A outer s H vs Q E p cls d hz hf (hr.deeper _) hsp
  have I : Inv (cxH CX0 P w K mg base N qual (defScope st) f cdv A outer s H E p) [] (L2.start N vs) H s1 := inv_startH S hpin e0 hl r y
  refine wpAny_mono (ht.nox.run [] s1 (L2.start N vs) H _ I hq) (fun fl s' hs => ?_) fun e s' hs => hs
  cases fl with
  | ret u =>
    obtain ⟨v, σ', H', J, rv, q⟩ := hs
    exact ⟨v, H', J.os, J.bare, J.base, J.hok, rv, q⟩
  | next =>
    obtain ⟨σ', H', J, q⟩ := hs
    exact ⟨V.non, H', J.os, J.bare, J.base, J.hok, rfl, q⟩
  | brk =>
    obtain ⟨_, _, _, q⟩ := hs
    exact False.elim q
  | cont =>
    obtain ⟨_, _, _, q⟩ := hs
    exact False.elim q
section
variable {X : Cx} {k : Nat} {f : Addr} {fd : FuncData} {ps : List Str} {sp : Addr → Value → Option Addr → Sp} {x : Str} {q pos : Pos} {e : Expr} {es : List Expr} {t : TA} {a : Addr} {oe : Obj} {cls : Value} {d : Option Addr} {pn : List (Addr × Obj)}
def tCallE (a : Addr) (cls : Value) (d : Option Addr) (sp : Addr → Value → Option Addr → Sp) (t : TA) : TE := fun σ H Q => t σ H fun vs H1 => sp a cls d vs H1 Q E0
theorem pe_callE (F : FnE X.prog X.w X.K X.mg X.base k f fd ps sp) (hr : RoomH k X.A) (hz : Zc cls d oe) (hf : ∃ zs, oe.data = .fields zs) (hg : Gl X x) (hm : X.mg x = some (.ref f)) (hk : PySem.W.keepIn X.K (.ref f) = true) (hb : Binds X.K fd ps [])
    (ha : PA (X.suite a ((a, oe) :: pn)) (e :: es) t) (hdb : (x == ("__debug__" : Str)) = false := by decide) (he : starEach (e :: es) X.env = (false, eval e X.env) :: starEach es X.env := by rfl) (hpl : (backTo pos (starEach es X.env)).any (·.1) = false := by rfl) :
    PE (X.suite a ((a, oe) :: pn)) (.Call (.Name x q) (e :: es) [] pos) (tCallE a cls d sp t) := by
  refine ⟨fun pins s σ H Q I h => ?_⟩
  refine wpAny_Call_Name_kw (ld_glob I hg hm ?_ hdb)
  refine PySem.W.callWith_K (h₀ := X.base) I.ok.mod.kin hk (thn (ha.run pos pins s σ H _ I h) fun us s1 ⟨vs, H1, I1, r, q⟩ => ⟨I1.kIn, ?_⟩) he hpl
  have hl : us.length = ps.length := by rw [← r.length]; exact F.len _ _ _ _ _ _ _ q
  have b := hb s1 us I1.kIn (by rw [List.append_nil]; exact hl)
  rw [List.append_nil] at b
  have P1 := I1.pin (a, oe) (List.mem_append_left _ List.mem_cons_self)
  have hpin : PinOk X.stack H1 s1 (a, oe) := ⟨P1.1, P1.2.1, fun hm => (List.mem_cons.mp (I1.stkSub a hm)).elim P1.2.2.1 P1.2.2.2.1, P1.2.2.2.2⟩
  refine wpAny_call (codeAny_mono (F.run (X.A.mark (some (.ref a))) X.stack s1 H1 ⟨us, []⟩ us vs Q E0 (a, oe) cls d ⟨hr.dp, hr.un⟩ hpin hz hf I1.env0 b r q) fun r s' hq => ?_)
  cases r with
  | error e => exact (show False from hq).elim
  | ok fl =>
    cases fl with
    | ret u => exact I1.after hq
    | next => exact False.elim hq
    | brk => exact False.elim hq
    | cont => exact False.elim hq
end
/-! ### what such a def may ask of it: its class, its fields -/
/-- what the class D must say, so that isinstance asks its instances rightly -/
structure ClsE (K : PySem.W.Frag) (D : Addr) : Prop where
  cl : (PySem.W.clsIn K D).isSome = true
  ga : PySem.W.findIn K (.ref D) "__getattribute__" = some (some (.builtin "BaseException.__getattribute__"))
  gg : PySem.W.findIn K (.ref D) "__getattr__" = some none
  su : PySem.W.subIn K (.ref D) (.type "BaseException") = some true
  hd : PySem.W.hasDictIn K D = true
  ca : PySem.W.findIn K (.ref D) "__class__" = some (some (.builtin "object.__class__"))
  gt : PySem.W.specialIn K (.builtin "object.__class__") "__get__" = some (some (.builtin "getset_descriptor.__get__"))
  tk : PySem.W.takesIn K (.builtin "object.__class__") = some true
  mr : PySem.W.mroIn K D (.type "object") = some true
def rIsP (K : PySem.W.Frag) (D a dd : Addr) : List V → Hp → VK → Prop := fun xs H Q => ∃ (c : V) (cv : Value) (b : Bool) (fs : List (Str × V)), xs = [.ref a, c] ∧ (∀ u, RelV c u → u = cv) ∧ H dd = some (.xd fs) ∧ PySem.W.kitOne K (.ref D) cv = some b ∧ Q (.bl b) H
section
variable {X : Cx} {D dd : Addr} {p : Addr × Obj}
theorem call_isP (C : ClsE X.K D) (hp : p ∈ X.pn) (hz : Zc (.ref D) (some dd) p.2) (hf : ∃ vs, p.2.data = .fields vs) : CallR X (.builtin "isinstance") (rIsP X.K D p.1 dd) := by
  intro pins s σ H xs us Q I r h
  obtain ⟨c, cv, b, fs, rfl, hcv, ed, e, q⟩ := h
  cases r with
  | cons rx rr =>
    cases rr with
    | cons rt rr =>
      cases rr
      cases rx
      have ec := hcv _ rt
      subst ec
      obtain ⟨hget, _⟩ := I.pin p (List.mem_append_left _ hp)
      obtain ⟨vs, hv⟩ := hf
      obtain ⟨mA, hns, _⟩ := (show ObjOk X.prog X.w H s.heap dd (.xd fs) from I.hok dd _ ed)
      obtain ⟨od, ho, _⟩ := lookIn_ns hns
      have J : PySem.W.InstAt s.heap p.1 p.2 D (some od) := ⟨hget, hz.1, by unfold PySem.W.notCls; rw [hv] <;> rfl, by rw [hz.2]; exact ho⟩
      exact PySem.W.kia_one (PySem.W.kitx_exc C.cl C.ga C.gg C.su C.ca C.gt C.tk C.mr) I.kIn J e (fun z => nomatch z) fun tk => ⟨.bl b, H, I.kept (t' := tk) fun _ _ z => z, rfl, q⟩
/-- e.f -/
def tXp (a dd : Addr) (f : Str) (te : TE) : TE := fun σ H Q => te σ H fun x H1 => x = .ref a ∧ ∃ (fs : List (Str × V)) (v : V), H1 dd = some (.xd fs) ∧ fs.lookup f = some v ∧ Q v H1
theorem pe_xp {e : Expr} {te : TE} {pos : Pos} {n : Str} (T : ClsE X.K D) (hno : PySem.W.findIn X.K (.ref D) n = some none) (hp : p ∈ X.pn) (hz : Zc (.ref D) (some dd) p.2) (hf : ∃ vs, p.2.data = .fields vs) (he : PE X e te)
    (hb : attributeBase e n X.env (eval e X.env) = eval e X.env := by rfl) : PE X (.Attribute e n pos) (tXp p.1 dd n te) := by
  refine ⟨fun pins s σ H Q I h => ?_⟩
  refine attr_of hb (thn (he.run pins s σ H _ I h) fun u s1 hh => ?_)
  obtain ⟨x, H1, I1, rx, ex, fs, v, ea, l, q⟩ := hh
  subst ex
  obtain rfl : u = Value.ref p.1 := rx
  obtain ⟨ha, _⟩ := I1.pin p (List.mem_append_left _ hp)
  obtain ⟨vs, hd⟩ := hf
  obtain ⟨mA, hns, hr⟩ := (show ObjOk X.prog X.w H1 s1.heap dd (.xd fs) from I1.hok dd _ ea)
  obtain ⟨od, ho, hl⟩ := lookIn_ns hns
  obtain ⟨u, hu, ru⟩ := RelO.some_of (v := v) (o := mA n) (by rw [← l]; exact hr n)
  have J : PySem.W.InstAt s1.heap p.1 p.2 D (some od) := ⟨ha, hz.1, by unfold PySem.W.notCls; rw [hd] <;> rfl, by rw [hz.2]; exact ho⟩
  exact HandSPX.exc_get I1.kIn J T.ga T.gg T.su (PySem.W.findObj_own T.hd hno rfl (by rw [hl, hu])) (handed_of ru) ⟨v, H1, I1.tok _, ru, q⟩
end
end My
namespace My
open PySem PySem.Spec PyProof.Rows L2
/-! ### C.__init__(self, ..): the def of a class above, called by the class's name -/
section
variable {X : Cx} {CX : CXT} {k : Nat} {f C : Addr} {fd : FuncData} {ps : List Str} {sp : Sp} {dvs : List V} {ds : List Value} {E : XK} {x m : Str} {p1 p2 pos : Pos} {e : Expr} {es : List Expr} {t : TA}
theorem pe_cinit {pl : Sem Bool} (hg : Gl X x) (hm : X.mg x = some (.ref C)) (sg : PySem.W.specialIn X.K (.ref C) "__getattribute__" = some (some (.builtin "type.__getattribute__"))) (rd : PySem.W.readsIn X.K C (.type "type") = true)
    (fc : PySem.W.findCls X.K (.ref C) (.type "type") m = some (.val (.ref f))) (F : FnOk X.prog X.w X.K X.mg X.base CX k f fd ps sp) (hr : Room k X.A) (hk : PySem.W.keepIn X.K (.ref f) = true) (hb : Binds X.K fd ps ds) (hd : Vals dvs ds) (hx : Passes CX X E) (ha : PA X (e :: es) t)
    (ht : eval (.Call (.Attribute (.Name x p1) m p2) (e :: es) [] pos) X.env = (do
      let ov ← eval (.Name x p1) X.env
      standAt p2.atName
      let (f, first) ← holding [ov] (getMethod ov m pl)
      callWith pos f first (backTo pos (starEach (e :: es) X.env)) (backToKw pos (keywordEach [] X.env))) := by rfl)
    (hdb : (x == ("__debug__" : Str)) = false := by decide) (he : starEach (e :: es) X.env = (false, eval e X.env) :: starEach es X.env := by rfl) (hpl : (backTo pos (starEach es X.env)).any (·.1) = false := by rfl) :
    PE X (.Call (.Attribute (.Name x p1) m p2) (e :: es) [] pos) (tCall sp dvs E t) := by
  refine ⟨fun pins s σ H Q I h => ?_⟩
  refine PySem.W.methodCall_KW (pl := pl) (ld_glob I hg hm ?_ hdb) ht
  refine PySem.W.method_cls I.kIn sg (PySem.W.cls_value I.kIn rd fc rfl ?_)
  refine PySem.W.callWith_K (first := []) (h₀ := X.base) I.ok.mod.kin hk (thn (ha.run pos pins _ σ H _ (I.tok _) h) fun us s2 ⟨vs, H2, I2, r, q⟩ => ⟨I2.kIn, ?_⟩) he hpl
  exact run_fn F hr hb hd hx I2 r q
end
end My
namespace My
open PySem PySem.Spec PyProof.Rows L2
section
variable {X : Cx} {p pos : Pos}
/-- raise C(): nothing is handed in -/
theorem pmk_oex0 {CX : CXT} {x : Str} {C fI : Addr} {k : Nat} {fd : FuncData} {ps : List Str} {sp : Sp} {ds : List Value} {dvs : List V} (T : OexC X.K C) (iC : PySem.W.findIn X.K (.ref C) "__init__" = some (some (.ref fI))) (tI : PySem.W.typeIn X.K (.ref fI) = some (.type "function"))
    (F1 : FnOk X.prog X.w X.K X.mg X.base CX k fI fd ps sp) (hr : Room (k + 1) X.A) (hb : Binds X.K fd ps ds) (hd : Vals dvs ds) (hx : Passes CX X (fun _ _ _ => False)) (hg : Gl X x) (hm : X.mg x = some (.ref C))
    (hdb : (x == ("__debug__" : Str)) = false := by decide) :
    PMk X (.Call (.Name x p) [] [] pos) (tMkO C sp dvs tNil) := by
  intro pins s σ H Q I h
  obtain ⟨nm, q, N, bs, bm, sn, sub, ab, col, dd, k0, k1, k2, k3, k5, hC, hbm⟩ := T.cls
  obtain ⟨hz, q1⟩ := h
  refine wpAny_Call_Name_kw (ld_glob I hg hm ?_ hdb)
  refine PySem.W.callWith_K0 I.kIn T.kC ?_
  show wpAny _ _ (call (.ref C) []) _ _ _
  obtain ⟨hp, g, dr, tk, os⟩ := s
  have hsz : hp.objs.size ≤ hp.objs.size + 1 := Nat.le_succ _
  have hn : H (hp.objs.size + 1) = none := I.hok.fresh hsz
  have hq := q1 (hp.objs.size + 1) hn
  have kk : ∀ b o, hp.get? b = some o → ((hp.push (PySem.W.kdv_tup [])).push (PySem.HandSPX.excO C hp.objs.size)).get? b = some o := fun b o e => Heap.get?_push_of_some _ (Heap.get?_push_of_some _ e)
  have hget : ((hp.push (PySem.W.kdv_tup [])).push (PySem.HandSPX.excO C hp.objs.size)).get? (hp.objs.size + 1) = some (PySem.HandSPX.excO C hp.objs.size) := by heap_get
  have I2 : Inv X pins σ (upd H (hp.objs.size + 1) (exo (hp.objs.size + 1) C none)) ⟨(hp.push (PySem.W.kdv_tup [])).push (PySem.HandSPX.excO C hp.objs.size), g, dr, tk, os⟩ :=
    I.laid (t' := tk) (a := hp.objs.size + 1) (o := exo (hp.objs.size + 1) C none) (h' := (hp.push (PySem.W.kdv_tup [])).push (PySem.HandSPX.excO C hp.objs.size)) kk hsz (exo_ok hget)
  have r2 : Vals (V.ref (hp.objs.size + 1) :: ([] ++ dvs)) ([Value.ref (hp.objs.size + 1)] ++ ds) := .cons rfl hd
  have hl : ([Value.ref (hp.objs.size + 1)] ++ ds).length = ps.length := by
    have e := r2.length
    rw [F1.len _ _ _ _ hq] at e
    exact e.symm
  have hbb := hb ⟨(hp.push (PySem.W.kdv_tup [])).push (PySem.HandSPX.excO C hp.objs.size), g, dr, tk, os⟩ [Value.ref (hp.objs.size + 1)] I2.kIn hl
  refine wpAny_call (PySem.HandSPX.call_own F.excBase_ValueError (fun Y => PySem.HandSPX.refsVE_contains Y bm hbm) (I.kIn _ _ hC) (PySem.W.looks_findIn I.kIn iC) (fun self => PySem.W.bind_fn I.kIn self tI) (by show 0 ≤ sizeLine; decide)
    (codeAny_mono (F1.run _ X.stack _ _ ⟨[Value.ref (hp.objs.size + 1)], []⟩ ([Value.ref (hp.objs.size + 1)] ++ ds) _ _ (fun _ _ _ => False) (hr.make C [] []) (I2.env0.make C [] []) hbb r2 hq) fun r s' hq' => ?_))
  cases r with
  | error er => exact hx pins σ _ _ er s' I2 hq'
  | ok fl =>
    cases fl with
    | ret u =>
      obtain ⟨v, H2, os2, bare2, un2, hok2, rv, ev, d, fs, ea, ed, hd1, q2⟩ := hq'
      subst ev
      obtain ⟨h2, g2, d2, t2, os'⟩ := s'
      exact ⟨rv, mk_end (raises_own T.exC T.tyC) I hsz kk un2 hok2 os2 bare2 ea ed hd1 q2⟩
    | next => exact False.elim hq'
    | brk => exact False.elim hq'
    | cont => exact False.elim hq'
end
end My
namespace My
open PySem L2
def spWordI (K : PySem.W.Frag) (C : Addr) (w : Str) : Sp := fun vs H Q _ => ∃ (a : Addr), vs = [.ref a] ∧ H a = some (exo a C none) ∧
  ∀ dx H', H dx = none → dx ≠ a → H' a = some (exo a C (some dx)) → H' dx = some (exd dx [(Str.ofString "word", .str w)]) → (∀ b, b ≠ a → b ≠ dx → H' b = H b) → Q .non H'
/-- such an exception: word and name -/
def spNameI (K : PySem.W.Frag) (C : Addr) (w : Str) : Sp := fun vs H Q _ => ∃ (a : Addr) (z : Str), vs = [.ref a, .str z] ∧ H a = some (exo a C none) ∧
  ∀ dx H', H dx = none → dx ≠ a → H' a = some (exo a C (some dx)) → H' dx = some (exd dx [(Str.ofString "name", .str z), (Str.ofString "word", .str w)]) → (∀ b, b ≠ a → b ≠ dx → H' b = H b) → Q .non H'
end My
namespace My
open PySem PyProof.Rows L2
/-! ### the tables of code objects, and a heap of which the tables alone are written -/
theorem ext_l {K : PySem.W.Frag} {H H1 : Hp} {a : Addr} {xs : List V} (e : LamX.ExtN H H1) (h : SqL K H a xs) : SqL K H1 a xs := by
  rcases h with (h | ⟨o, h⟩) | h
  · exact .inl (.inl (e _ _ h fun ps z => nomatch z))
  · exact .inl (.inr ⟨o, e _ _ h fun ps z => nomatch z⟩)
  · exact .inr h
theorem ext_t {K : PySem.W.Frag} {H H1 : Hp} {a : Addr} {xs : List V} (e : LamX.ExtN H H1) (h : SqT K H a xs) : SqT K H1 a xs := by
  rcases h with (h | ⟨o, h⟩) | h
  · exact .inl (.inl (e _ _ h fun ps z => nomatch z))
  · exact .inl (.inr ⟨o, e _ _ h fun ps z => nomatch z⟩)
  · exact .inr h
mutual
theorem dp_ext {K : PySem.W.Frag} {H H1 : Hp} (e : LamX.ExtN H H1) : ∀ {d : PyData} {v : V}, Dp K H v d → Dp K H1 v d
  | _, _, .non => .non
  | _, _, .bl b => .bl b
  | _, _, .int i => .int i
  | _, _, .str x => .str x
  | _, _, .lst h a => .lst (ext_l e h) (dpAll_ext e a)
  | _, _, .tup h a => .tup (ext_t e h) (dpAll_ext e a)
theorem dpAll_ext {K : PySem.W.Frag} {H H1 : Hp} (e : LamX.ExtN H H1) : ∀ {ds : List PyData} {vs : List V}, DpAll K H vs ds → DpAll K H1 vs ds
  | _, _, .nil => .nil
  | _, _, .cons a b => .cons (dp_ext e a) (dpAll_ext e b)
end
theorem DrawAt.ext {H H1 : Hp} {d l : Addr} (h : DrawAt H d l) (e : LamX.ExtN H H1) : DrawAt H1 d l := by
  obtain ⟨ns, p, g, s, e1, e2, r⟩ := h.ex
  exact ⟨⟨ns, p, g, s, e _ _ e1 (fun ps z => nomatch z), e _ _ e2 (fun ps z => nomatch z), r⟩⟩
/-- the draw may be written -/
theorem tabs_but {T : List (Addr × Str)} {H H1 : Hp} {d l : Addr} (t : LamX.Tabs T H) (D : DrawAt H d l) (b : But (Only1 d) H H1) : LamX.Tabs T H1 := fun p hp => by
  obtain ⟨ps, h1, h2, h3⟩ := t p hp
  obtain ⟨ns, z1, z2, z3, ed, _⟩ := D.ex
  have n1 : ¬ Only1 d p.1 := fun z => by
    rw [show p.1 = d from z, ed] at h1
    cases h1
  refine ⟨ps, b _ _ h1 n1, h2, fun pos cv hc => ?_⟩
  obtain ⟨c, e1, e2⟩ := h3 pos cv hc
  refine ⟨c, e1, b _ _ e2 fun z => ?_⟩
  rw [show c = d from z, ed] at e2
  cases e2
/-- a def by its body, its code object told -/
theorem okC {P : Program} {w : World} {K : PySem.W.Frag} {mg : Str → Option Value} {base : Heap} {x qual : Str} {st : Stmt} {f c : Addr} {fd : FuncData} {N ps : List Str} {k : Nat} {sp : Sp} (F : Fun K x qual st f fd) (S : FnScope N ps (defScope st)) (len : ∀ vs H Q E, sp vs H Q E → vs.length = ps.length) (hc : fd.code = .ref c)
    (hbody : ∀ (A : Around) (outer : List Env) (s : Shared) (H : Hp) (vs : List V) (Q : VK) (E : XK), Room k (A.deeper (envOfC qual (defScope st) s.heap.objs.size f (.ref c))) → sp vs H Q E →
      ∃ t, PSs (cxOf CX0 P w K mg base N qual (defScope st) f (.ref c) A outer s H E).nox (defBody st) t ∧ t { nx := fun _ H' => Q .non H', rt := Q } (L2.start N vs) H) : FnOk P w K mg base CX0 (k + 1) f fd ps sp := by
  obtain ⟨oc, od, kV, doc, pm, an, cdv, ct, osl, rfl, lk, hcd⟩ := F.ex
  obtain rfl : cdv = .ref c := hc
  refine fn_of lk hcd S len fun A outer s H vs Q E hr hsp => ?_
  obtain ⟨t, h, q⟩ := hbody A outer s H vs Q E hr hsp
  exact ⟨t, h.nox, q⟩
/-- nothing is let out -/
theorem passX0 {X : Cx} {P : Program} {w : World} : Passes (L2.CX P w) X E0 := fun pins σ H s e s' I c => by
  obtain ⟨a, B, H', cls, d, _, _, _, _, _, _, _, h⟩ := c
  exact h.elim
end My
namespace My
open PySem L2
abbrev wordsL : List Str := ["step", "for", "from", "to", "if", "else", "double", "call", "with", "again", "on", "halves", "thirds", "less", "n"]
def lettersS : Str := "abcdefghijklmnopqrstuvwxyz"
/-- whether a text is a name -/
def isName (z : Str) : Bool := decide ((1 : Int) ≤ z.length) && (decide ((z.length : Int) ≤ 8) && (!inV (.str z) (wordsL.map V.str) && z.cps.toList.all fun c => decide (c ∈ lettersS.cps.toList)))
def spIsName : Sp := fun vs H Q _ => ∃ z : Str, vs = [.str z] ∧ z.length ≤ 100000 ∧ ∀ H', Same H H' → Q (.bl (isName z)) H'
theorem flat_words : (wordsL.map V.str).all flatV = true := by decide +kernel
end My
namespace My
open PySem L2
/-! ### reading that may fail: an exception of BadText at a place -/
def atF (n : Int) : List (Str × V) := [(Str.ofString "at", .int n), (Str.ofString "word", .str (Str.ofString "BadText"))]
def spAtI (K : PySem.W.Frag) (C : Addr) : Sp := fun vs H Q _ => ∃ (a : Addr) (n : Int), vs = [.ref a, .int n] ∧ H a = some (exo a C none) ∧
  ∀ dx H', H dx = none → dx ≠ a → H' a = some (exo a C (some dx)) → H' dx = some (exd dx (atF n)) → (∀ b, b ≠ a → b ≠ dx → H' b = H b) → Q .non H'
/-- such an exception is let out; all but M stands -/
def BadE (C : Addr) (M : Addr → Prop) (H : Hp) (E : XK) (n : Int) : Prop := ∀ dd H', But M H H' → H dd = none → H' dd = some (.xd (atF n)) → E (.ref C) (some dd) H'
theorem made_sameX {H H1 : Hp} {a dx : Addr} {o : HO} {fs : List (Str × V)} (ha : H a = none) (ne : dx ≠ a) (hd : upd H a o dx = none) (fr : ∀ b, b ≠ a → b ≠ dx → H1 b = upd H a o b) : H dx = none ∧ Same H (upd (del H1 a) dx (.xd fs)) := by
  have h0 : H dx = none := by
    rw [upd_ne ne] at hd
    exact hd
  refine ⟨h0, fun b q e => ?_⟩
  have n1 : b ≠ a := fun z => by rw [z, ha] at e; cases e
  have n2 : b ≠ dx := fun z => by rw [z, h0] at e; cases e
  rw [upd_ne n2, del_ne n1, fr b n1 n2, upd_ne n1]
  exact e
/-- the signs of a text, or the place of the first bad one -/
def lexE : Nat → Nat → List Nat → Except Nat (List (Tok × Nat))
  | 0, i, _ => .error i
  | _ + 1, i, [] => .ok [(.fin, i)]
  | f + 1, i, c :: r => match signAt (c :: r) with
    | none => .error i
    | some (tok, L) => match lexE f (i + L + runFrom [32] ((c :: r).drop L)) (((c :: r).drop L).drop (runFrom [32] ((c :: r).drop L))) with
      | .error e => .error e
      | .ok ts => .ok ((tok, i) :: ts)
theorem lexE_ok : ∀ {f i : Nat} {l : List Nat} {ts : List (Tok × Nat)}, lexE f i l = .ok ts → lexL f i l = some ts
  | 0, _, _, _, h => by cases h
  | f + 1, i, [], ts, h => by
    have e : [(Tok.fin, i)] = ts := Except.ok.inj h
    rw [← e]
    rfl
  | f + 1, i, c :: r, ts, h => by
    unfold lexE at h
    unfold lexL
    cases hs : signAt (c :: r) with
    | none => rw [hs] at h; cases h
    | some tl =>
      obtain ⟨tok, n⟩ := tl
      rw [hs] at h
      simp only at h ⊢
      cases hm : lexE f (i + n + runFrom [32] ((c :: r).drop n)) (((c :: r).drop n).drop (runFrom [32] ((c :: r).drop n))) with
      | error e => rw [hm] at h; cases h
      | ok more =>
        rw [hm] at h
        have e : (tok, i) :: more = ts := Except.ok.inj h
        rw [lexE_ok hm, ← e]
        rfl
/-- all the signs of a text -/
def lexT (x : Str) : Except Nat (List (Tok × Nat)) := lexE (x.length + 1) (runFrom [32] x.cps.toList) (x.cps.toList.drop (runFrom [32] x.cps.toList))
/-! ### what a reader reads from the signs that are left, or the signs at whose first one is bad -/
abbrev TL := List (Tok × Nat)
def hd : TL → Tok
  | [] => .fin
  | t :: _ => t.1
def posT : TL → Nat
  | [] => 0
  | t :: _ => t.2
def numR (lo hi : Int) : TL → Except TL (Int × TL)
  | (.num n, p) :: r => if lo ≤ (n : Int) ∧ (n : Int) ≤ hi then .ok ((n : Int), r) else .error ((.num n, p) :: r)
  | l => .error l
def wantR (k z : Str) (l : TL) : Except TL TL := if tokIs (hd l) k z = true then .ok l.tail else .error l
def nameR : TL → Except TL (Str × TL)
  | (.word w, p) :: r => if isName w = true then .ok (w, r) else .error ((.word w, p) :: r)
  | l => .error l
def nameN (l : TL) : Except TL (Str × TL) := if tokIs (hd l) "word" "n" = true then .ok (Str.ofString "n", l.tail) else nameR l
def plusR (w : Str) (r : TL) : Except TL (En × TL) :=
  if tokIs (hd r) "sign" "+" = true then (match numR 1 99 r.tail with | .error e => .error e | .ok (n, r2) => .ok ((w, n), r2))
  else if tokIs (hd r) "sign" "-" = true then (match numR 1 99 r.tail with | .error e => .error e | .ok (n, r2) => .ok ((w, 0 - n), r2))
  else .ok ((w, 0), r)
def isNum : Tok → Bool
  | .num _ => true
  | _ => false
def endR (l : TL) : Except TL (En × TL) :=
  if isNum (hd l) = true then (match numR 0 99 l with | .error e => .error e | .ok (n, r) => .ok ((Str.ofString "", n), r))
  else match nameN l with
    | .error e => .error e
    | .ok (w, r) => plusR w r
/-- the signs end by the end sign -/
def GL (l : TL) : Prop := ∃ l0 p, l = l0 ++ [(Tok.fin, p)]
theorem GL.ne {l : TL} (h : GL l) : l ≠ [] := by
  obtain ⟨l0, p, rfl⟩ := h
  simp
theorem GL.tail {t : Tok × Nat} {r : TL} (h : GL (t :: r)) (n : t.1 ≠ .fin) : GL r := by
  obtain ⟨l0, p, e⟩ := h
  cases l0 with
  | nil =>
    rw [List.nil_append] at e
    injection e with e1 _
    exact absurd (by rw [e1]) n
  | cons x l0 =>
    rw [List.cons_append] at e
    injection e with _ e2
    exact ⟨l0, p, e2⟩
theorem tok_fin {k z : Str} (h : tokIs .fin k z = true) : k = Str.ofString "end" := by
  obtain ⟨h1, _⟩ := tokIs_iff.mp h
  exact h1.symm
theorem GL.tail' {l : TL} {k z : Str} (h : GL l) (ht : tokIs (hd l) k z = true) (hk : k ≠ Str.ofString "end") : GL l.tail := by
  cases l with
  | nil => exact absurd rfl h.ne
  | cons t r => exact h.tail fun e => hk (tok_fin (by rw [← e]; exact ht))
theorem drop_tail {α : Type} {ts : List α} {i : Nat} {l : List α} (h : ts.drop i = l) : ts.drop (i + 1) = l.tail := by
  rw [← h, List.tail_drop]
theorem get_hd {ts : TL} {i : Nat} {l : TL} (h : ts.drop i = l) (n : l ≠ []) : ∃ t, ts[i]? = some t ∧ t.1 = hd l ∧ t.2 = posT l := by
  cases l with
  | nil => exact absurd rfl n
  | cons t r =>
    refine ⟨t, ?_, rfl, rfl⟩
    have := congrArg List.head? h
    rw [List.head?_drop] at this
    exact this
def XEnds {α : Type} (CB r : Addr) (H : Hp) (E : XK) (ok : α → Prop) : Except TL α → Prop
  | .ok a => ok a
  | .error e => BadE CB (Only1 r) H E (posT e)
theorem BadE.mono {CB r : Addr} {H H1 : Hp} {E : XK} {n : Int} (k : BadE CB (Only1 r) H E n) (b : But (Only1 r) H H1) (hc : ∀ c, Only1 r c → Cell (H1 c)) : BadE CB (Only1 r) H1 E n :=
  fun dd H' b' h e => k dd H' (b.trans b') (b.none hc h) e
/-- signs as the texts give them -/
def Gd (l : TL) : Prop := GL l ∧ ∀ t ∈ l, ∀ w, t.1 = Tok.word w → w.length ≤ 100
theorem Gd.ne {l : TL} (h : Gd l) : l ≠ [] := h.1.ne
theorem Gd.tail {l : TL} (h : Gd l) (n : hd l ≠ .fin) : Gd l.tail := by
  cases l with
  | nil => exact absurd rfl h.ne
  | cons t r => exact ⟨h.1.tail n, fun u hu => h.2 u (List.mem_cons_of_mem _ hu)⟩
theorem Gd.tailk {l : TL} {k z : Str} (h : Gd l) (ht : tokIs (hd l) k z = true) (hk : k ≠ Str.ofString "end") : Gd l.tail := h.tail fun e => hk (tok_fin (by rw [← e]; exact ht))
theorem Gd.word {l : TL} (h : Gd l) : ∀ w, hd l = .word w → w.length ≤ 100 := by
  cases l with
  | nil => exact fun w e => nomatch e
  | cons t r => exact fun w e => h.2 t List.mem_cons_self w e
theorem numR_tail {lo hi : Int} : ∀ {l : TL} {x : Int × TL}, numR lo hi l = .ok x → x.2 = l.tail ∧ hd l ≠ .fin
  | (.num n, p) :: r, x, h => by
    by_cases c : lo ≤ (n : Int) ∧ (n : Int) ≤ hi
    · have e : numR lo hi ((Tok.num n, p) :: r) = .ok ((n : Int), r) := if_pos c
      rw [e] at h
      rw [← Except.ok.inj h]
      exact ⟨rfl, fun z => nomatch z⟩
    · have e : numR lo hi ((Tok.num n, p) :: r) = .error ((Tok.num n, p) :: r) := if_neg c
      rw [e] at h
      cases h
  | [], x, h => by cases h
  | (.word _, _) :: _, x, h => by cases h
  | (.sign _, _) :: _, x, h => by cases h
  | (.fin, _) :: _, x, h => by cases h
theorem nameR_tail : ∀ {l : TL} {x : Str × TL}, nameR l = .ok x → x.2 = l.tail ∧ hd l = .word x.1 ∧ isName x.1 = true
  | (.word w, p) :: r, x, h => by
    by_cases c : isName w = true
    · have e : nameR ((Tok.word w, p) :: r) = .ok (w, r) := if_pos c
      rw [e] at h
      rw [← Except.ok.inj h]
      exact ⟨rfl, rfl, c⟩
    · have e : nameR ((Tok.word w, p) :: r) = .error ((Tok.word w, p) :: r) := if_neg c
      rw [e] at h
      cases h
  | [], x, h => by cases h
  | (.num _, _) :: _, x, h => by cases h
  | (.sign _, _) :: _, x, h => by cases h
  | (.fin, _) :: _, x, h => by cases h
theorem isNum_kind (t : Tok) : decide (V.str (kindT t) = V.str "number") = isNum t := by
  cases t with
  | num n => exact decide_eq_true rfl
  | word w => exact decide_eq_false fun e => absurd (V.str.inj e) (by show ¬ Str.ofString "word" = Str.ofString "number"; decide)
  | sign w => exact decide_eq_false fun e => absurd (V.str.inj e) (by show ¬ Str.ofString "sign" = Str.ofString "number"; decide)
  | fin => exact decide_eq_false fun e => absurd (V.str.inj e) (by show ¬ Str.ofString "end" = Str.ofString "number"; decide)
end My
namespace My
open PySem L2
/-! ### what is read, as relations: the signs that are left, the things counted -/
def wayR (n : Int) (r : TL) : Except TL (Thing × TL) :=
  if tokIs (hd r) "word" "halves" = true then .ok (.again n "halves", r.tail)
  else if tokIs (hd r) "word" "thirds" = true then .ok (.again n "thirds", r.tail)
  else if tokIs (hd r) "word" "less" = true then .ok (.again n "less", r.tail) else .error r
def callR (l : TL) : Except TL (Thing × TL) := match nameR l with
  | .error e => .error e
  | .ok (nm, r) => match wantR "word" "with" r with
    | .error e => .error e
    | .ok r => match endR r with
      | .error e => .error e
      | .ok (e, r) => .ok (.call nm e, r)
def againR (l : TL) : Except TL (Thing × TL) := match numR 1 9 l with
  | .error e => .error e
  | .ok (n, r) => match wantR "word" "on" r with
    | .error e => .error e
    | .ok r => wayR n r
def stepR (l : TL) : Except TL (Thing × TL) := match numR 0 99 l with
  | .error e => .error e
  | .ok (n, r) => .ok (.step n, r)
def leafR (l : TL) : Except TL (Thing × TL) :=
  if tokIs (hd l) "word" "step" = true then stepR l.tail
  else if tokIs (hd l) "word" "call" = true then callR l.tail
  else if tokIs (hd l) "word" "again" = true then againR l.tail
  else .error l
def goingH (l : TL) : Except TL ((Str × En × En) × TL) := match nameR l with
  | .error e => .error e
  | .ok (nm, r) => match wantR "word" "from" r with
    | .error e => .error e
    | .ok r => match endR r with
      | .error e => .error e
      | .ok (e1, r) => match wantR "word" "to" r with
        | .error e => .error e
        | .ok r => match endR r with
          | .error e => .error e
          | .ok (e2, r) => .ok ((nm, e1, e2), r)
def testH (l : TL) : Except TL ((En × En) × TL) := match endR l with
  | .error e => .error e
  | .ok (e1, r) => match wantR "sign" "<=" r with
    | .error e => .error e
    | .ok r => match endR r with
      | .error e => .error e
      | .ok (e2, r) => .ok ((e1, e2), r)
def nestW (l : TL) : Prop := tokIs (hd l) "word" "for" = true ∨ tokIs (hd l) "word" "if" = true ∨ tokIs (hd l) "word" "double" = true
mutual
inductive BodyP : Nat → Nat → TL → Except TL (List Thing × TL × Nat) → Prop
  | bad {deep m : Nat} {l e : TL} : ThingP deep m l (.error e) → BodyP deep m l (.error e)
  | one {deep m m1 : Nat} {l r : TL} {t : Thing} : ThingP deep m l (.ok (t, r, m1)) → tokIs (hd r) "sign" ";" = false → BodyP deep m l (.ok ([t], r, m1))
  | more {deep m m1 m2 : Nat} {l r r2 : TL} {t : Thing} {ts : List Thing} : ThingP deep m l (.ok (t, r, m1)) → tokIs (hd r) "sign" ";" = true → BodyP deep m1 r.tail (.ok (ts, r2, m2)) → BodyP deep m l (.ok (t :: ts, r2, m2))
  | moreBad {deep m m1 : Nat} {l r e : TL} {t : Thing} : ThingP deep m l (.ok (t, r, m1)) → tokIs (hd r) "sign" ";" = true → BodyP deep m1 r.tail (.error e) → BodyP deep m l (.error e)
inductive BrackP : Nat → Nat → TL → Except TL (List Thing × TL × Nat) → Prop
  | deep {deep m : Nat} {l : TL} : 4 ≤ deep → BrackP deep m l (.error l)
  | open_ {deep m : Nat} {l e : TL} : deep < 4 → wantR "sign" "(" l = .error e → BrackP deep m l (.error e)
  | body {deep m : Nat} {l r e : TL} : deep < 4 → wantR "sign" "(" l = .ok r → BodyP (deep + 1) m r (.error e) → BrackP deep m l (.error e)
  | close {deep m m2 : Nat} {l r r2 e : TL} {b : List Thing} : deep < 4 → wantR "sign" "(" l = .ok r → BodyP (deep + 1) m r (.ok (b, r2, m2)) → wantR "sign" ")" r2 = .error e → BrackP deep m l (.error e)
  | ok {deep m m2 : Nat} {l r r2 r3 : TL} {b : List Thing} : deep < 4 → wantR "sign" "(" l = .ok r → BodyP (deep + 1) m r (.ok (b, r2, m2)) → wantR "sign" ")" r2 = .ok r3 → BrackP deep m l (.ok (b, r3, m2))
inductive GoingP : Nat → Nat → TL → Except TL (Thing × TL × Nat) → Prop
  | head {deep m : Nat} {l e : TL} : goingH l = .error e → GoingP deep m l (.error e)
  | bad {deep m : Nat} {l r e : TL} {h : Str × En × En} : goingH l = .ok (h, r) → BrackP deep m r (.error e) → GoingP deep m l (.error e)
  | ok {deep m m2 : Nat} {l r r2 : TL} {h : Str × En × En} {b : List Thing} : goingH l = .ok (h, r) → BrackP deep m r (.ok (b, r2, m2)) → GoingP deep m l (.ok (.loop h.1 h.2.1 h.2.2 b, r2, m2))
inductive ChoiceP : Nat → Nat → TL → Except TL (Thing × TL × Nat) → Prop
  | head {deep m : Nat} {l e : TL} : testH l = .error e → ChoiceP deep m l (.error e)
  | bad {deep m : Nat} {l r e : TL} {h : En × En} : testH l = .ok (h, r) → BrackP deep m r (.error e) → ChoiceP deep m l (.error e)
  | ok {deep m m2 : Nat} {l r r2 : TL} {h : En × En} {b : List Thing} : testH l = .ok (h, r) → BrackP deep m r (.ok (b, r2, m2)) → tokIs (hd r2) "word" "else" = false → ChoiceP deep m l (.ok (.test h.1 h.2 b [], r2, m2))
  | elseBad {deep m m2 : Nat} {l r r2 e : TL} {h : En × En} {b : List Thing} : testH l = .ok (h, r) → BrackP deep m r (.ok (b, r2, m2)) → tokIs (hd r2) "word" "else" = true → BrackP deep m2 r2.tail (.error e) → ChoiceP deep m l (.error e)
  | elseOk {deep m m2 m3 : Nat} {l r r2 r3 : TL} {h : En × En} {b c : List Thing} : testH l = .ok (h, r) → BrackP deep m r (.ok (b, r2, m2)) → tokIs (hd r2) "word" "else" = true → BrackP deep m2 r2.tail (.ok (c, r3, m3)) → ChoiceP deep m l (.ok (.test h.1 h.2 b c, r3, m3))
inductive ThingP : Nat → Nat → TL → Except TL (Thing × TL × Nat) → Prop
  | full {deep m : Nat} {l : TL} : 12 ≤ m → ThingP deep m l (.error l)
  | leafBad {deep m : Nat} {l e : TL} : m < 12 → ¬ nestW l → leafR l = .error e → ThingP deep m l (.error e)
  | leaf {deep m : Nat} {l r : TL} {t : Thing} : m < 12 → ¬ nestW l → leafR l = .ok (t, r) → ThingP deep m l (.ok (t, r, m + 1))
  | going {deep m : Nat} {l : TL} {res : Except TL (Thing × TL × Nat)} : m < 12 → tokIs (hd l) "word" "for" = true → GoingP deep (m + 1) l.tail res → ThingP deep m l res
  | choice {deep m : Nat} {l : TL} {res : Except TL (Thing × TL × Nat)} : m < 12 → tokIs (hd l) "word" "if" = true → ChoiceP deep (m + 1) l.tail res → ThingP deep m l res
  | dblBad {deep m : Nat} {l e : TL} : m < 12 → tokIs (hd l) "word" "double" = true → BrackP deep (m + 1) l.tail (.error e) → ThingP deep m l (.error e)
  | dbl {deep m m2 : Nat} {l r : TL} {b : List Thing} : m < 12 → tokIs (hd l) "word" "double" = true → BrackP deep (m + 1) l.tail (.ok (b, r, m2)) → ThingP deep m l (.ok (.double b, r, m2))
end
/-- what stands behind a thing of a body -/
inductive TailP (deep m : Nat) (l : TL) : Except TL (List Thing × TL × Nat) → Prop
  | no : tokIs (hd l) "sign" ";" = false → TailP deep m l (.ok ([], l, m))
  | yes {res : Except TL (List Thing × TL × Nat)} : tokIs (hd l) "sign" ";" = true → BodyP deep m l.tail res → TailP deep m l res
def prep (done : List Thing) : Except TL (List Thing × TL × Nat) → Except TL (List Thing × TL × Nat)
  | .ok (ts, r, m) => .ok (done ++ ts, r, m)
  | .error e => .error e
theorem prep_prep (d : List Thing) (t : Thing) : ∀ res, prep d (prep [t] res) = prep (d ++ [t]) res
  | .ok (ts, r, m) => by
    show Except.ok (d ++ ([t] ++ ts), r, m) = Except.ok ((d ++ [t]) ++ ts, r, m)
    rw [List.append_assoc]
  | .error e => rfl
theorem body_of {deep m m1 : Nat} {l r : TL} {t : Thing} (h : ThingP deep m l (.ok (t, r, m1))) : ∀ {res}, TailP deep m1 r res → BodyP deep m l (prep [t] res)
  | _, .no c => .one h c
  | .ok (_, _, _), .yes c b => .more h c b
  | .error _, .yes c b => .moreBad h c b
theorem tokIs_else {t : Tok} {k z z' : Str} (h : tokIs t k z = true) (n : z ≠ z') : tokIs t k z' = false :=
  Bool.eq_false_iff.mpr fun q => n (PyData.str.inj ((tokIs_iff.mp h).2.symm.trans (tokIs_iff.mp q).2))
/-- the promise of what reads; m0: how many things are counted at the least -/
def RdEnds {α : Type} (K : PySem.W.Frag) (CB r C S : Addr) (us : List V) (ts : TL) (m0 : Nat) (H : Hp) (Q : VK) (E : XK) (f : α → PyData) : Except TL (α × TL × Nat) → Prop
  | .ok (a, l', m') => ∀ v H' i', But (Only1 r) H H' → Rdr H' r C S us ts i' m' → ts.drop i' = l' → Gd l' → m0 ≤ m' → m' ≤ 12 → Dp K H' v (f a) → Q v H'
  | .error e => BadE CB (Only1 r) H E (posT e)
end My
namespace My
open PySem L2
/-- signs as a text gives them -/
def GoodTok : Tok → Prop
  | .num n => n ≤ 99
  | .word w => (∀ c ∈ w.cps.toList, c ∈ lettersS'.cps.toList) ∧ 1 ≤ w.length ∧ w.length ≤ 8
  | .sign z => z = "<=" ∨ ∃ c ∈ marksS.cps.toList, z = ⟨#[c]⟩
  | .fin => True
theorem runFrom_one {S : List Nat} {c : Nat} {r : List Nat} (h : c ∈ S) : 1 ≤ runFrom S (c :: r) := by
  rw [runFrom_pos h]
  omega
theorem decVal_le : ∀ l : List Nat, (∀ c ∈ l, c ∈ digitsS.cps.toList) → decVal l ≤ 99
  | [], _ => by decide
  | [a], h => by
    have : ∀ a ∈ digitsS.cps.toList, decVal [a] ≤ 99 := by decide +kernel
    exact this a (h a List.mem_cons_self)
  | [a, b], h => by
    have : ∀ a ∈ digitsS.cps.toList, ∀ b ∈ digitsS.cps.toList, decVal [a, b] ≤ 99 := by decide +kernel
    exact this a (h a List.mem_cons_self) b (h b (List.mem_cons_of_mem _ List.mem_cons_self))
  | _ :: _ :: _ :: _, _ => by show 0 ≤ 99; decide
theorem sign_good {c : Nat} {r : List Nat} {tok : Tok} {n : Nat} (hs : signOf c (c :: r) = some (tok, n)) : GoodTok tok ∧ tok ≠ .fin := by
  unfold signOf at hs
  split at hs
  · split at hs
    · cases hs
    · cases hs
      refine ⟨decVal_le _ fun a ha => runFrom_all ha, fun z => nomatch z⟩
  · split at hs
    · rename_i hc
      split at hs
      · cases hs
      · rename_i h8
        cases hs
        have hl : (⟨((c :: r).take (runFrom lettersS'.cps.toList (c :: r))).toArray⟩ : Str).length = runFrom lettersS'.cps.toList (c :: r) := by
          show ((c :: r).take (runFrom lettersS'.cps.toList (c :: r))).toArray.size = _
          rw [List.size_toArray, List.length_take]
          have := runFrom_le lettersS'.cps.toList (c :: r)
          omega
        refine ⟨⟨fun a ha => runFrom_all ha, ?_, ?_⟩, fun z => nomatch z⟩
        · rw [hl]
          exact runFrom_one hc
        · rw [hl]
          omega
    · split at hs
      · cases hs
        exact ⟨.inl rfl, fun z => nomatch z⟩
      · split at hs
        · rename_i hc
          cases hs
          exact ⟨.inr ⟨c, hc, rfl⟩, fun z => nomatch z⟩
        · cases hs
theorem lex_good : ∀ {f i : Nat} {l : List Nat} {ts : List (Tok × Nat)}, lexL f i l = some ts → (∀ t ∈ ts, GoodTok t.1) ∧ ∃ l0 p, ts = l0 ++ [(Tok.fin, p)] ∧ ∀ t ∈ l0, t.1 ≠ .fin
  | 0, _, _, _, h => by cases h
  | f + 1, i, [], ts, h => by
    have e : ts = [(Tok.fin, i)] := (Option.some.inj h).symm
    rw [e]
    refine ⟨fun t ht => ?_, [], i, rfl, fun t ht => nomatch ht⟩
    rw [List.mem_singleton.mp ht]
    trivial
  | f + 1, i, c :: r, ts, h => by
    unfold lexL at h
    cases hs : signAt (c :: r) with
    | none => rw [hs] at h; cases h
    | some tl =>
      obtain ⟨tok, n⟩ := tl
      rw [hs] at h
      have h : (lexL f (i + n + runFrom [32] ((c :: r).drop n)) (((c :: r).drop n).drop (runFrom [32] ((c :: r).drop n)))).map ((tok, i) :: ·) = some ts := h
      cases hm : lexL f (i + n + runFrom [32] ((c :: r).drop n)) (((c :: r).drop n).drop (runFrom [32] ((c :: r).drop n))) with
      | none => rw [hm] at h; cases h
      | some more =>
        rw [hm] at h
        have e : ts = (tok, i) :: more := (Option.some.inj h).symm
        rw [e]
        obtain ⟨ih, l0, p, e2, nf⟩ := lex_good hm
        have gs := sign_good (show signOf c (c :: r) = some (tok, n) from hs)
        refine ⟨fun t ht => ?_, (tok, i) :: l0, p, by rw [e2]; rfl, fun t ht => ?_⟩
        · rcases List.mem_cons.mp ht with rfl | ht
          · exact gs.1
          · exact ih t ht
        · rcases List.mem_cons.mp ht with rfl | ht
          · exact gs.2
          · exact nf t ht
theorem good_Gd {l : TL} (h : ∀ t ∈ l, GoodTok t.1) (g : GL l) : Gd l := ⟨g, fun t ht w e => by
  have := h t ht
  rw [e] at this
  have := this.2.2
  omega⟩
theorem good_ok {t : Tok} (h : GoodTok t) : TokOk t := by
  cases t with
  | num n => trivial
  | fin => trivial
  | word w =>
    show PyData.strOk _ = true
    unfold PyData.strOk
    rw [← Array.all_toList, List.all_eq_true]
    intro a ha
    have hl : ∀ c ∈ lettersS'.cps.toList, c < 1114112 := by decide +kernel
    exact decide_eq_true (hl a (h.1 a ha))
  | sign z =>
    rcases h with rfl | ⟨c, hc, rfl⟩
    · exact strOk_of _
    · have hl : ∀ c ∈ marksS.cps.toList, PyData.strOk (⟨#[c]⟩ : Str) = true := by decide +kernel
      exact hl c hc
theorem lexT_good {x : Str} {ts : TL} (h : lexT x = .ok ts) : (∀ t ∈ ts, GoodTok t.1) ∧ Gd ts := by
  obtain ⟨g, l0, p, e, _⟩ := lex_good (lexE_ok h)
  exact ⟨g, good_Gd g ⟨l0, p, e⟩⟩
/-- what a text's reading gives -/
inductive PlanP (x : Str) : Except Nat (List Thing) → Prop
  | lex {n : Nat} : lexT x = .error n → PlanP x (.error n)
  | bad {ts e : TL} : lexT x = .ok ts → BodyP 0 0 ts (.error e) → PlanP x (.error (posT e))
  | more {ts r : TL} {b : List Thing} {m : Nat} : lexT x = .ok ts → BodyP 0 0 ts (.ok (b, r, m)) → tokIs (hd r) "end" "" = false → PlanP x (.error (posT r))
  | ok {ts r : TL} {b : List Thing} {m : Nat} : lexT x = .ok ts → BodyP 0 0 ts (.ok (b, r, m)) → tokIs (hd r) "end" "" = true → PlanP x (.ok b)
mutual
def noL : PyData → Bool
  | .list _ => false
  | .dict _ => false
  | .tuple ds => noLs ds
  | _ => true
def noLs : List PyData → Bool
  | [] => true
  | d :: ds => noL d && noLs ds
end
theorem no_lst_t {H H' : Hp} {L a : Addr} {ys xs : List V} (hL : H L = some (.lst ys)) (b : But (Only1 L) H H') (h : SqT K H a xs) : SqT K H' a xs := by
  rcases h with (h | ⟨o, h⟩) | h
  · exact .inl (.inl (b a _ h fun e => by rw [show a = L from e, hL] at h; cases h))
  · exact .inl (.inr ⟨o, b a _ h fun e => by rw [show a = L from e, hL] at h; cases h⟩)
  · exact .inr h
mutual
theorem dp_skip {H H' : Hp} {L : Addr} {ys : List V} (hL : H L = some (.lst ys)) (b : But (Only1 L) H H') : ∀ {d : PyData} {v : V}, noL d = true → Dp K H v d → Dp K H' v d
  | _, _, _, .non => .non
  | _, _, _, .bl b => .bl b
  | _, _, _, .int i => .int i
  | _, _, _, .str x => .str x
  | _, _, h, .lst _ _ => by simp [noL] at h
  | _, _, h, .tup hs a => .tup (no_lst_t hL b hs) (dps_skip hL b (by simpa only [noL] using h) a)
theorem dps_skip {H H' : Hp} {L : Addr} {ys : List V} (hL : H L = some (.lst ys)) (b : But (Only1 L) H H') : ∀ {ds : List PyData} {vs : List V}, noLs ds = true → DpAll K H vs ds → DpAll K H' vs ds
  | _, _, _, .nil => .nil
  | _, _, h, .cons a c => by
    simp only [noLs, Bool.and_eq_true] at h
    exact .cons (dp_skip hL b h.1 a) (dps_skip hL b h.2 c)
end
theorem end_noL (e : En) : noL (endD e) = true := by simp [endD, noL, noLs]
mutual
theorem thing_noL : ∀ t : Thing, noL (thingD t) = true
  | .step n => by simp [thingD, noL, noLs]
  | .call nm e => by simp [thingD, noL, noLs, end_noL]
  | .double b => by
    have := things_noL b
    rw [thingD]
    simp [noL, noLs, this]
  | .loop nm e1 e2 b => by
    have := things_noL b
    rw [thingD]
    simp [noL, noLs, end_noL, this]
  | .test e1 e2 b1 b2 => by
    have h1 := things_noL b1
    have h2 := things_noL b2
    rw [thingD]
    simp [noL, noLs, end_noL, h1, h2]
  | .again n w => by simp [thingD, noL, noLs]
theorem things_noL : ∀ b : List Thing, noLs (thingsD b) = true
  | [] => by simp [thingsD, noLs]
  | t :: r => by
    have h1 := thing_noL t
    have h2 := things_noL r
    rw [thingsD]
    simp [noLs, h1, h2]
end
end My
namespace My
open PySem L2
/-! ### the law's signs: texts with their places -/
def numT (n : Nat) : Str := if n < 10 then ⟨#[48 + n]⟩ else ⟨#[48 + n / 10, 48 + n % 10]⟩
def tokText : Tok → Str
  | .num n => numT n
  | .word w => w
  | .sign z => z
  | .fin => ""
theorem numT_int : ∀ n : Nat, n ≤ 99 → PySem.intText? (numT n) = some (n : Int) := by
  have h : ∀ n ∈ List.range 100, PySem.intText? (numT n) = some (n : Int) := by decide +kernel
  exact fun n hn => h n (List.mem_range.mpr (by omega))
theorem numT_len (n : Nat) : (numT n).length = 1 ∨ (numT n).length = 2 := by
  unfold numT
  split
  · exact .inl rfl
  · exact .inr rfl
theorem numT_figs : ∀ n : Nat, n ≤ 99 → (numT n).cps.toList.all (fun c => decide (c ∈ digitsS.cps.toList)) = true := by
  have h : ∀ n ∈ List.range 100, (numT n).cps.toList.all (fun c => decide (c ∈ digitsS.cps.toList)) = true := by decide +kernel
  exact fun n hn => h n (List.mem_range.mpr (by omega))
theorem good_len {t : Tok} (h : GoodTok t) : (tokText t).length ≤ 8 := by
  cases t with
  | num n =>
    have := numT_len n
    show (numT n).length ≤ 8
    omega
  | word w => exact h.2.2
  | sign z =>
    rcases h with rfl | ⟨c, _, rfl⟩
    · show (Str.ofString "<=").length ≤ 8
      decide
    · show (1 : Nat) ≤ 8
      decide
  | fin => show (Str.ofString "").length ≤ 8; decide
/-- a word's text, a sign's text -/
def isLet (z : Str) : Bool := decide (1 ≤ z.length) && z.cps.toList.all fun c => decide (c ∈ lettersS'.cps.toList)
def isMark (z : Str) : Bool := decide (z = "<=") || (decide (z.length = 1) && z.cps.toList.all fun c => decide (c ∈ marksS.cps.toList))
theorem cps_len (z : Str) : z.cps.toList.length = z.length := Array.length_toList
theorem str_cons {z : Str} (h : 1 ≤ z.length) : ∃ c r, z.cps.toList = c :: r := by
  cases q : z.cps.toList with
  | nil =>
    have := cps_len z
    rw [q] at this
    have : (0 : Nat) = z.length := this
    omega
  | cons c r => exact ⟨c, r, rfl⟩
/-- what a token's text begins with -/
def firsts : Tok → List Nat
  | .num _ => digitsS.cps.toList
  | .word _ => lettersS'.cps.toList
  | .sign _ => 60 :: marksS.cps.toList
  | .fin => []
theorem numT_first : ∀ n : Nat, n ≤ 99 → ∃ c r, (numT n).cps.toList = c :: r ∧ c ∈ digitsS.cps.toList := fun n hn => by
  have h := numT_figs n hn
  rw [List.all_eq_true] at h
  obtain ⟨c, r, e⟩ := str_cons (z := numT n) (by rcases numT_len n with q | q <;> omega)
  exact ⟨c, r, e, of_decide_eq_true (h c (by rw [e]; exact List.mem_cons_self))⟩
theorem text_first {t : Tok} (h : GoodTok t) (n : t ≠ .fin) : ∃ c r, (tokText t).cps.toList = c :: r ∧ c ∈ firsts t := by
  cases t with
  | num m => exact numT_first m h
  | word w =>
    obtain ⟨c, r, e⟩ := str_cons h.2.1
    exact ⟨c, r, e, h.1 c (by rw [e]; exact List.mem_cons_self)⟩
  | sign z =>
    rcases h with rfl | ⟨c, hc, rfl⟩
    · exact ⟨60, [61], by decide, List.mem_cons_self⟩
    · exact ⟨c, [], rfl, List.mem_cons_of_mem _ hc⟩
  | fin => exact absurd rfl n
theorem let_first {z : Str} (h : isLet z = true) : ∃ c r, z.cps.toList = c :: r ∧ c ∈ lettersS'.cps.toList := by
  simp only [isLet, Bool.and_eq_true, decide_eq_true_eq, List.all_eq_true] at h
  obtain ⟨c, r, e⟩ := str_cons h.1
  exact ⟨c, r, e, h.2 c (by rw [e]; exact List.mem_cons_self)⟩
theorem mark_first {z : Str} (h : isMark z = true) : ∃ c r, z.cps.toList = c :: r ∧ c ∈ 60 :: marksS.cps.toList := by
  simp only [isMark, Bool.or_eq_true, Bool.and_eq_true, decide_eq_true_eq, List.all_eq_true] at h
  rcases h with rfl | ⟨h1, h2⟩
  · exact ⟨60, [61], by decide, List.mem_cons_self⟩
  · obtain ⟨c, r, e⟩ := str_cons (z := z) (by omega)
    exact ⟨c, r, e, List.mem_cons_of_mem _ (h2 c (by rw [e]; exact List.mem_cons_self))⟩
theorem fdisj_ld : ∀ c ∈ lettersS'.cps.toList, ¬ c ∈ digitsS.cps.toList := by decide +kernel
theorem fdisj_lm : ∀ c ∈ lettersS'.cps.toList, ¬ c ∈ 60 :: marksS.cps.toList := by decide +kernel
theorem fdisj_md : ∀ c ∈ 60 :: marksS.cps.toList, ¬ c ∈ digitsS.cps.toList := by decide +kernel
/-- the text is the word's -/
theorem text_word {t : Tok} {z : Str} (h : GoodTok t) (hz : isLet z = true) : decide (V.str (tokText t) = V.str z) = tokIs t "word" z := by
  obtain ⟨c, r, e, hc⟩ := let_first hz
  have fst : ∀ {t : Tok}, GoodTok t → tokText t = z → c ∈ firsts t ∨ t = .fin := fun {t} g q => by
    by_cases n : t = .fin
    · exact .inr n
    · obtain ⟨c', r', e', hc'⟩ := text_first g n
      rw [q, e] at e'
      rw [(List.cons.inj e').1]
      exact .inl hc'
  cases t with
  | word w =>
    rw [tokIs_word]
    by_cases q : w = z
    · rw [decide_eq_true q]
      exact decide_eq_true (by rw [← q]; rfl)
    · rw [decide_eq_false q]
      exact decide_eq_false fun x => q (V.str.inj x)
  | num n =>
    rw [tokIs_no (by show (Str.ofString "number") ≠ Str.ofString "word"; decide)]
    refine decide_eq_false fun x => ?_
    rcases fst h (V.str.inj x) with q | q
    · exact fdisj_ld c hc q
    · cases q
  | sign w =>
    rw [tokIs_no (by show (Str.ofString "sign") ≠ Str.ofString "word"; decide)]
    refine decide_eq_false fun x => ?_
    rcases fst h (V.str.inj x) with q | q
    · exact fdisj_lm c hc q
    · cases q
  | fin =>
    rw [tokIs_no (by show (Str.ofString "end") ≠ Str.ofString "word"; decide)]
    refine decide_eq_false fun x => ?_
    have q : Str.ofString "" = z := V.str.inj x
    rw [← q] at e
    cases e
/-- the text is the sign's -/
theorem text_sign {t : Tok} {z : Str} (h : GoodTok t) (hz : isMark z = true) : decide (V.str (tokText t) = V.str z) = tokIs t "sign" z := by
  obtain ⟨c, r, e, hc⟩ := mark_first hz
  have fst : ∀ {t : Tok}, GoodTok t → tokText t = z → c ∈ firsts t ∨ t = .fin := fun {t} g q => by
    by_cases n : t = .fin
    · exact .inr n
    · obtain ⟨c', r', e', hc'⟩ := text_first g n
      rw [q, e] at e'
      rw [(List.cons.inj e').1]
      exact .inl hc'
  cases t with
  | sign w =>
    rw [tokIs_sign]
    by_cases q : w = z
    · rw [decide_eq_true q]
      exact decide_eq_true (by rw [← q]; rfl)
    · rw [decide_eq_false q]
      exact decide_eq_false fun x => q (V.str.inj x)
  | num n =>
    rw [tokIs_no (by show (Str.ofString "number") ≠ Str.ofString "sign"; decide)]
    refine decide_eq_false fun x => ?_
    rcases fst h (V.str.inj x) with q | q
    · exact fdisj_md c hc q
    · cases q
  | word w =>
    rw [tokIs_no (by show (Str.ofString "word") ≠ Str.ofString "sign"; decide)]
    refine decide_eq_false fun x => ?_
    rcases fst h (V.str.inj x) with q | q
    · exact fdisj_lm c q hc
    · cases q
  | fin =>
    rw [tokIs_no (by show (Str.ofString "end") ≠ Str.ofString "sign"; decide)]
    refine decide_eq_false fun x => ?_
    have q : Str.ofString "" = z := V.str.inj x
    rw [← q] at e
    cases e
theorem text_fin {t : Tok} (h : GoodTok t) : decide (V.str (tokText t) = V.str "") = tokIs t "end" "" := by
  by_cases n : t = .fin
  · subst n
    rw [show tokIs Tok.fin "end" "" = true from tokIs_iff.mpr ⟨rfl, rfl⟩]
    exact decide_eq_true rfl
  · obtain ⟨c, r, e, _⟩ := text_first h n
    have : tokIs t "end" "" = false := by
      cases t with
      | fin => exact absurd rfl n
      | num _ => exact tokIs_no (by show (Str.ofString "number") ≠ Str.ofString "end"; decide)
      | sign _ => exact tokIs_no (by show (Str.ofString "sign") ≠ Str.ofString "end"; decide)
      | word _ => exact tokIs_no (by show (Str.ofString "word") ≠ Str.ofString "end"; decide)
    rw [this]
    refine decide_eq_false fun x => ?_
    have q : tokText t = Str.ofString "" := V.str.inj x
    rw [q] at e
    cases e
/-- a figure within bounds -/
def figT (lo hi : Int) : Tok → Bool
  | .num n => decide (lo ≤ (n : Int)) && decide ((n : Int) ≤ hi)
  | _ => false
theorem figT_num {lo hi : Int} {l : TL} (n : l ≠ []) : (figT lo hi (hd l) = true → ∃ m : Nat, hd l = .num m ∧ numR lo hi l = .ok ((m : Nat), l.tail)) ∧ (figT lo hi (hd l) = false → numR lo hi l = .error l) := by
  cases l with
  | nil => exact absurd rfl n
  | cons t r =>
    obtain ⟨t, p⟩ := t
    cases t with
    | num m =>
      refine ⟨fun h => ⟨m, rfl, ?_⟩, fun h => ?_⟩
      · have h : (decide (lo ≤ (m : Int)) && decide ((m : Int) ≤ hi)) = true := h
        rw [Bool.and_eq_true, decide_eq_true_eq, decide_eq_true_eq] at h
        exact if_pos h
      · have h : (decide (lo ≤ (m : Int)) && decide ((m : Int) ≤ hi)) = false := h
        refine if_neg fun q => ?_
        rw [decide_eq_true q.1, decide_eq_true q.2] at h
        cases h
    | word _ => exact ⟨fun (h : false = true) => Bool.noConfusion h, fun _ => rfl⟩
    | sign _ => exact ⟨fun (h : false = true) => Bool.noConfusion h, fun _ => rfl⟩
    | fin => exact ⟨fun (h : false = true) => Bool.noConfusion h, fun _ => rfl⟩
abbrev SgRel (H : Hp) (v : V) (t : Str × Nat) : Prop := ∃ a, v = V.ref a ∧ H a = some (.tup [.str t.1, .int (t.2 : Nat)])
def txt (t : Tok × Nat) : Str × Nat := (tokText t.1, t.2)
/-- the law's signs with four ends behind them -/
structure LSg (H : Hp) (S : Addr) (us : List V) (ts : TL) (len : Nat) : Prop where
  sg : H S = some (.lst us)
  tk : Paired (SgRel H) us (ts.map txt ++ List.replicate 4 ((Str.ofString "", len) : Str × Nat))
  ok : ∀ t ∈ ts, GoodTok t.1
  gl : GL ts
theorem LSg.keep {H H' : Hp} {S : Addr} {us : List V} {ts : TL} {len : Nat} (h : LSg H S us ts len) (s : H' S = some (.lst us)) (q : ∀ b xs, H b = some (.tup xs) → H' b = some (.tup xs)) : LSg H' S us ts len :=
  ⟨s, Paired.mapP h.tk fun _ _ ⟨a, e, z⟩ => ⟨a, e, q _ _ z⟩, h.ok, h.gl⟩
theorem LSg.same {H H' : Hp} {S : Addr} {us : List V} {ts : TL} {len : Nat} (h : LSg H S us ts len) (s : Same H H') : LSg H' S us ts len :=
  h.keep (s _ _ h.sg) fun b xs e => s _ _ e
theorem LSg.peek {H : Hp} {S : Addr} {us : List V} {ts : TL} {len j k : Nat} {l : TL} (h : LSg H S us ts len) (hl : ts.drop j = l) (n : l ≠ []) (hk : k ≤ 4) : ∃ a m, us[j + k]? = some (.ref a) ∧ H a = some (.tup [.str (tokText (hd (l.drop k))), .int (m : Nat)]) ∧ (k = 0 → m = posT l) := by
  have jl : j < ts.length := by
    by_cases c : j < ts.length
    · exact c
    · rw [List.drop_of_length_le (by omega)] at hl
      exact absurd hl.symm n
  have ln : (ts.map txt ++ List.replicate 4 ((Str.ofString "", len) : Str × Nat)).length = ts.length + 4 := by
    rw [List.length_append, List.length_map, List.length_replicate]
  by_cases c : j + k < ts.length
  · have e1 : (ts.map txt ++ List.replicate 4 ((Str.ofString "", len) : Str × Nat))[j + k]? = some (txt ts[j + k]) := by
      rw [List.getElem?_append_left (by rw [List.length_map]; exact c), List.getElem?_map, List.getElem?_eq_getElem c]
      rfl
    obtain ⟨u, e2, a, rfl, e3⟩ := paired_get' h.tk e1
    have e4 : l.drop k = ts[j + k] :: ts.drop (j + k + 1) := by
      rw [← hl, List.drop_drop, List.drop_eq_getElem_cons c]
    refine ⟨a, ts[j + k].2, e2, ?_, fun k0 => ?_⟩
    · rw [e4]
      exact e3
    · subst k0
      rw [List.drop_zero] at e4
      rw [e4]
      rfl
  · have e1 : (ts.map txt ++ List.replicate 4 ((Str.ofString "", len) : Str × Nat))[j + k]? = some ((Str.ofString "", len) : Str × Nat) := by
      rw [List.getElem?_append_right (by rw [List.length_map]; omega), List.length_map, List.getElem?_replicate, if_pos (by omega)]
    obtain ⟨u, e2, a, rfl, e3⟩ := paired_get' h.tk e1
    have e4 : l.drop k = [] := by
      rw [← hl, List.drop_drop, List.drop_of_length_le (by omega)]
    refine ⟨a, len, e2, ?_, fun k0 => absurd jl (by omega)⟩
    rw [e4]
    exact e3
theorem LSg.good {H : Hp} {S : Addr} {us : List V} {ts : TL} {len j : Nat} {l : TL} (h : LSg H S us ts len) (hl : ts.drop j = l) : GoodTok (hd l) := by
  cases l with
  | nil => trivial
  | cons t r =>
    refine h.ok t (List.mem_of_mem_drop (i := j) ?_)
    rw [hl]
    exact List.mem_cons_self
theorem LSg.goodk {H : Hp} {S : Addr} {us : List V} {ts : TL} {len j : Nat} {l : TL} (h : LSg H S us ts len) (hl : ts.drop j = l) (k : Nat) : GoodTok (hd (l.drop k)) := h.good (j := j + k) (by rw [← List.drop_drop, hl])
theorem LSg.tail {H : Hp} {S : Addr} {us : List V} {ts : TL} {len j : Nat} {l : TL} (h : LSg H S us ts len) (hl : ts.drop j = l) (n : hd l ≠ .fin) : l.tail ≠ [] := by
  obtain ⟨l0, p, e⟩ := h.gl
  intro q
  cases l with
  | nil => exact n rfl
  | cons t r =>
    have q : r = [] := q
    subst q
    have e2 : ts.getLast? = some t := by
      rw [← List.take_append_drop j ts, hl, List.getLast?_concat]
    rw [e, List.getLast?_concat] at e2
    exact n (by rw [← Option.some.inj e2]; rfl)
theorem drop2 {α : Type} : ∀ l : List α, l.drop 2 = l.tail.tail
  | [] => rfl
  | [_] => rfl
  | _ :: _ :: _ => rfl
theorem drop3 {α : Type} : ∀ l : List α, l.drop 3 = l.tail.tail.tail
  | [] => rfl
  | [_] => rfl
  | [_, _] => rfl
  | _ :: _ :: _ :: _ => rfl
theorem LSg.peek0 {H : Hp} {S : Addr} {us : List V} {ts : TL} {len j : Nat} {l : TL} (h : LSg H S us ts len) (hl : ts.drop j = l) (n : l ≠ []) : ∃ a m, us[j]? = some (.ref a) ∧ H a = some (.tup [.str (tokText (hd l)), .int (m : Nat)]) ∧ m = posT l := by
  obtain ⟨a, m, e, t, q⟩ := h.peek hl n (k := 0) (by decide)
  exact ⟨a, m, e, t, q rfl⟩
theorem LSg.peek1 {H : Hp} {S : Addr} {us : List V} {ts : TL} {len j : Nat} {l : TL} (h : LSg H S us ts len) (hl : ts.drop j = l) (n : l ≠ []) : ∃ a m, us[j + 1]? = some (.ref a) ∧ H a = some (.tup [.str (tokText (hd l.tail)), .int (m : Nat)]) := by
  obtain ⟨a, m, e, t, _⟩ := h.peek hl n (k := 1) (by decide)
  rw [List.drop_one] at t
  exact ⟨a, m, e, t⟩
theorem LSg.peek2 {H : Hp} {S : Addr} {us : List V} {ts : TL} {len j : Nat} {l : TL} (h : LSg H S us ts len) (hl : ts.drop j = l) (n : l ≠ []) : ∃ a m, us[j + 2]? = some (.ref a) ∧ H a = some (.tup [.str (tokText (hd l.tail.tail)), .int (m : Nat)]) := by
  obtain ⟨a, m, e, t, _⟩ := h.peek hl n (k := 2) (by decide)
  rw [drop2] at t
  exact ⟨a, m, e, t⟩
theorem LSg.peek3 {H : Hp} {S : Addr} {us : List V} {ts : TL} {len j : Nat} {l : TL} (h : LSg H S us ts len) (hl : ts.drop j = l) (n : l ≠ []) : ∃ a m, us[j + 3]? = some (.ref a) ∧ H a = some (.tup [.str (tokText (hd l.tail.tail.tail)), .int (m : Nat)]) := by
  obtain ⟨a, m, e, t, _⟩ := h.peek hl n (k := 3) (by decide)
  rw [drop3] at t
  exact ⟨a, m, e, t⟩
theorem isName_parts {z : Str} (h : isName z = true) : 1 ≤ z.length ∧ ∀ c ∈ z.cps.toList, c ∈ lettersS.cps.toList := by
  unfold isName at h
  simp only [Bool.and_eq_true, decide_eq_true_eq, List.all_eq_true] at h
  exact ⟨by have := h.1; omega, fun c hc => h.2.2.2 c hc⟩
theorem name_word {t : Tok} (g : GoodTok t) (h : isName (tokText t) = true) : t = .word (tokText t) := by
  obtain ⟨h1, h2⟩ := isName_parts h
  have nf : t ≠ .fin := fun e => by
    subst e
    exact absurd h1 (by decide)
  obtain ⟨c, r, e, hc⟩ := text_first g nf
  have hc2 : c ∈ lettersS'.cps.toList := h2 c (by rw [e]; exact List.mem_cons_self)
  cases t with
  | word w => rfl
  | num n => exact absurd hc (fdisj_ld c hc2)
  | sign z => exact absurd hc (fdisj_lm c hc2)
  | fin => exact absurd rfl nf
theorem nameR_text {l : TL} (n : l ≠ []) (g : GoodTok (hd l)) : (isName (tokText (hd l)) = true → nameR l = .ok (tokText (hd l), l.tail) ∧ hd l ≠ .fin) ∧ (isName (tokText (hd l)) = false → nameR l = .error l) := by
  cases l with
  | nil => exact absurd rfl n
  | cons t r =>
    obtain ⟨t, p⟩ := t
    refine ⟨fun h => ?_, fun h => ?_⟩
    · have e := name_word g h
      have e : t = .word (tokText t) := e
      rw [e] at h ⊢
      exact ⟨if_pos h, fun z => nomatch z⟩
    · cases t with
      | word w => exact if_neg (by rw [show isName w = false from h]; decide)
      | num _ => rfl
      | sign _ => rfl
      | fin => rfl
theorem tokIs_text {t : Tok} {z : Str} (h : tokIs t "word" z = true) : tokText t = z := by
  obtain ⟨h1, h2⟩ := tokIs_iff.mp h
  cases t with
  | word w => exact PyData.str.inj h2
  | num _ => exact absurd h1 (by show ¬ Str.ofString "number" = Str.ofString "word"; decide)
  | sign _ => exact absurd h1 (by show ¬ Str.ofString "sign" = Str.ofString "word"; decide)
  | fin => exact absurd h1 (by show ¬ Str.ofString "end" = Str.ofString "word"; decide)
theorem tokIs_nf {t : Tok} {k z : Str} (h : tokIs t k z = true) (hk : k ≠ Str.ofString "end") : t ≠ .fin := fun e => by
  subst e
  exact hk (tok_fin h)
theorem inV_str (x : Str) : ∀ l : List Str, inV (.str x) (l.map V.str) = l.any fun y => decide (V.str x = V.str y)
  | [] => rfl
  | y :: l => by
    have ih := inV_str x l
    unfold inV at ih ⊢
    rw [List.map_cons, List.any_cons, List.any_cons, ih]
    congr 1
    have e : eqV (.str y) (.str x) = decide (y = x) := by
      unfold eqV
      by_cases c : y = x
      · rw [c, decide_eq_true rfl]
        exact beq_self_eq_true x
      · rw [decide_eq_false c]
        exact beq_eq_false_iff_ne.mpr c
    rw [e]
    exact decide_eq_decide.mpr ⟨fun h => by rw [h], fun h => (V.str.inj h).symm⟩
/-- the promise of what reads an end, a leaf: no room is counted -/
def LEnds {α : Type} (K : PySem.W.Frag) (ts : TL) (H : Hp) (Q : VK) (f : α → PyData) : Except TL (α × TL) → Prop
  | .ok (a, l') => ∀ v H' j' p, Same H H' → ts.drop j' = l' → l' ≠ [] → Dp K H' v (f a) → H' p = some (.tup [v, .int (j' : Nat)]) → v ≠ .non → Q (.ref p) H'
  | .error e => ∀ H' j' p, Same H H' → ts.drop j' = e → e ≠ [] → H' p = some (.tup [.non, .int (j' : Nat)]) → Q (.ref p) H'
/-- the room left for things -/
def RoomAt (H : Hp) (rm : Addr) (m : Nat) : Prop := H rm = some (.lst [.int ((12 : Int) - (m : Nat))]) ∧ m ≤ 12
theorem LSg.len {H : Hp} {S : Addr} {us : List V} {ts : TL} {len : Nat} (h : LSg H S us ts len) : us.length = ts.length + 4 := by
  rw [Paired.length h.tk, List.length_append, List.length_map, List.length_replicate]
theorem LSg.ne {H : Hp} {S rm : Addr} {us : List V} {ts : TL} {len m : Nat} (h : LSg H S us ts len) (r : RoomAt H rm m) : S ≠ rm := fun e => by
  have h1 := h.sg
  have h2 := r.1
  rw [e, h2] at h1
  have := h.len
  injection h1 with h1
  injection h1 with h1
  rw [← h1] at this
  simp at this
theorem LSg.but {H H' : Hp} {S rm : Addr} {us : List V} {ts : TL} {len m : Nat} (h : LSg H S us ts len) (r : RoomAt H rm m) (b : But (Only1 rm) H H') : LSg H' S us ts len :=
  h.keep (b _ _ h.sg (h.ne r)) fun c xs e => b _ _ e (fun z => by
    have r1 := r.1
    rw [← show c = rm from z, e] at r1
    cases r1)
/-- the promise of what reads with room -/
def LREnds {α : Type} (K : PySem.W.Frag) (rm : Addr) (ts : TL) (m0 : Nat) (H : Hp) (Q : VK) (f : α → PyData) : Except TL (α × TL × Nat) → Prop
  | .ok (a, l', m') => ∀ v H' j' p, But (Only1 rm) H H' → RoomAt H' rm m' → m0 ≤ m' → ts.drop j' = l' → l' ≠ [] → Dp K H' v (f a) → H' p = some (.tup [v, .int (j' : Nat)]) → v ≠ .non → Q (.ref p) H'
  | .error e => ∀ H' j' p, But (Only1 rm) H H' → ts.drop j' = e → e ≠ [] → H' p = some (.tup [.non, .int (j' : Nat)]) → Q (.ref p) H'
end My
namespace My
open PySem L2
theorem cutS_nat (x : Str) (i j : Nat) (h1 : i ≤ j) (h2 : j ≤ x.length) : cutS x (some (i : Nat)) (some (j : Nat)) = ⟨((x.cps.toList.drop i).take (j - i)).toArray⟩ := by
  unfold cutS
  rw [HT.sIx_nat, HT.sIx_nat, Nat.min_eq_left h2, Nat.min_eq_left (Nat.le_trans h1 h2)]
theorem cutS_two (x : Str) (i : Nat) (h : i < x.length) : cutS x (some (i : Nat)) (some ((i + 2 : Nat) : Int)) = ⟨((x.cps.toList.drop i).take 2).toArray⟩ := by
  have dl : (x.cps.toList.drop i).length = x.length - i := by
    rw [List.length_drop, Array.length_toList]
    rfl
  unfold cutS
  rw [HT.sIx_nat, HT.sIx_nat, Nat.min_eq_left (Nat.le_of_lt h)]
  by_cases c : i + 2 ≤ x.length
  · rw [Nat.min_eq_left c, Nat.add_sub_cancel_left]
  · rw [Nat.min_eq_right (by omega), List.take_of_length_le (by omega), List.take_of_length_le (by omega)]
theorem le_two (l : List Nat) : (⟨l.toArray⟩ : Str) = "<=" ↔ l = [60, 61] := by
  constructor
  · intro h
    have h2 := congrArg (fun z : Str => z.cps.toList) h
    have h4 : (Str.ofString "<=").cps.toList = [60, 61] := by decide
    have h3 : l = (Str.ofString "<=").cps.toList := h2
    rw [h3, h4]
  · rintro rfl
    decide
theorem leaf_step {l : TL} (h : tokIs (hd l) "word" "step" = true) : ¬ nestW l ∧ leafR l = stepR l.tail := by
  refine ⟨fun z => ?_, by unfold leafR; rw [if_pos h]⟩
  rcases z with z | z | z
  all_goals rw [tokIs_else h (by decide)] at z
  all_goals cases z
theorem leaf_call {l : TL} (h : tokIs (hd l) "word" "call" = true) : ¬ nestW l ∧ leafR l = callR l.tail := by
  refine ⟨fun z => ?_, ?_⟩
  · rcases z with z | z | z
    all_goals rw [tokIs_else h (by decide)] at z
    all_goals cases z
  · unfold leafR
    rw [tokIs_else h (by decide), if_neg (by decide), if_pos h]
theorem leaf_again {l : TL} (h : tokIs (hd l) "word" "again" = true) : ¬ nestW l ∧ leafR l = againR l.tail := by
  refine ⟨fun z => ?_, ?_⟩
  · rcases z with z | z | z
    all_goals rw [tokIs_else h (by decide)] at z
    all_goals cases z
  · unfold leafR
    rw [tokIs_else h (by decide), if_neg (by decide), tokIs_else h (by decide), if_neg (by decide), if_pos h]
end My
namespace My
open PySem L2
/-! ### the law's own cutting of a text -/
def GG (l : List Nat) (f i : Nat) : Except Nat TL := lexE f (i + runFrom [32] (l.drop i)) (l.drop (i + runFrom [32] (l.drop i)))
theorem lexT_GG (x : Str) : lexT x = GG x.cps.toList (x.length + 1) 0 := by
  unfold lexT GG
  rw [List.drop_zero, Nat.zero_add]
theorem gg_space {l : List Nat} {f i : Nat} (h : l[i]? = some 32) : GG l f i = GG l f (i + 1) := by
  have il : i < l.length := by
    by_cases c : i < l.length
    · exact c
    · rw [List.getElem?_eq_none (by omega)] at h
      cases h
  have hc : l[i] = 32 := by
    rw [List.getElem?_eq_getElem il] at h
    exact Option.some.inj h
  have dr : l.drop i = 32 :: l.drop (i + 1) := by
    rw [List.drop_eq_getElem_cons il, hc]
  unfold GG
  rw [dr, runFrom_pos (show (32 : Nat) ∈ [32] by simp), show i + (runFrom [32] (l.drop (i + 1)) + 1) = i + 1 + runFrom [32] (l.drop (i + 1)) by omega]
theorem gg_sign {l : List Nat} {f i c : Nat} (h : l[i]? = some c) (n : c ≠ 32) : GG l (f + 1) i = (match signOf c (l.drop i) with
    | none => .error i
    | some (tok, L) => (match GG l f (i + L) with
      | .error e => .error e
      | .ok ts => .ok ((tok, i) :: ts))) := by
  have il : i < l.length := by
    by_cases c : i < l.length
    · exact c
    · rw [List.getElem?_eq_none (by omega)] at h
      cases h
  have hc : l[i] = c := by
    rw [List.getElem?_eq_getElem il] at h
    exact Option.some.inj h
  have dr : l.drop i = c :: l.drop (i + 1) := by
    rw [List.drop_eq_getElem_cons il, hc]
  have r0 : runFrom [32] (l.drop i) = 0 := by
    rw [dr]
    exact runFrom_neg (by simpa using n)
  unfold GG
  rw [r0, show i + 0 = i from rfl]
  rw [show lexE (f + 1) i (l.drop i) = lexE (f + 1) i (c :: l.drop (i + 1)) by rw [dr]]
  rw [show lexE (f + 1) i (c :: l.drop (i + 1)) = (match signAt (c :: l.drop (i + 1)) with
    | none => .error i
    | some (tok, L) => match lexE f (i + L + runFrom [32] ((c :: l.drop (i + 1)).drop L)) (((c :: l.drop (i + 1)).drop L).drop (runFrom [32] ((c :: l.drop (i + 1)).drop L))) with
      | .error e => .error e
      | .ok ts => .ok ((tok, i) :: ts)) from rfl]
  rw [← dr, signAt_eq dr]
  cases signOf c (l.drop i) with
  | none => rfl
  | some tl =>
    obtain ⟨tok, L⟩ := tl
    simp only [List.drop_drop]
    cases lexE f (i + L + runFrom [32] (l.drop (i + L))) (l.drop (i + L + runFrom [32] (l.drop (i + L)))) with
    | error e => rfl
    | ok m => rfl
theorem gg_end {l : List Nat} {f i : Nat} (h : i = l.length) : GG l (f + 1) i = .ok [(.fin, i)] := by
  unfold GG
  rw [List.drop_of_length_le (by omega)]
  show lexE (f + 1) (i + 0) (l.drop (i + 0)) = _
  rw [Nat.add_zero, List.drop_of_length_le (by omega)]
  rfl
/-- the signs that the law takes together with one, and how many it takes -/
def setOf (c : Nat) : Str := if c ∈ digitsS.cps.toList then digitsS else if c ∈ lettersS'.cps.toList then lettersS' else ""
def lenOf (c : Nat) (l : List Nat) : Nat := if l.take 2 = [60, 61] then 2 else 1 + runFrom (setOf c).cps.toList (l.drop 1)
theorem dec_text1 : ∀ a ∈ digitsS.cps.toList, numT (decVal [a]) = ⟨[a].toArray⟩ := by decide +kernel
theorem dec_text2 : ∀ a ∈ digitsS.cps.toList, ∀ b ∈ digitsS.cps.toList, a ≠ 48 → numT (decVal [a, b]) = ⟨[a, b].toArray⟩ := by decide +kernel
theorem no_le : ∀ {c : Nat} {r : List Nat}, (c ∈ digitsS.cps.toList ∨ c ∈ lettersS'.cps.toList) → ¬ (c :: r).take 2 = [60, 61] := fun {c r} h e => by
  have e1 : c = 60 := by
    cases r with
    | nil => simp at e
    | cons d r => simp at e; exact e.1
  subst e1
  exact absurd h (by decide +kernel)
/-- figures -/
theorem sign_dig {c : Nat} {r : List Nat} (h : c ∈ digitsS.cps.toList) : (lenOf c (c :: r) = runFrom digitsS.cps.toList (c :: r)) ∧
    ((lenOf c (c :: r) > 2 ∨ (c = 48 ∧ lenOf c (c :: r) > 1)) → signOf c (c :: r) = none) ∧
    (¬ (lenOf c (c :: r) > 2 ∨ (c = 48 ∧ lenOf c (c :: r) > 1)) → ∃ tok, signOf c (c :: r) = some (tok, lenOf c (c :: r)) ∧ tokText tok = ⟨((c :: r).take (lenOf c (c :: r))).toArray⟩) := by
  have e1 : lenOf c (c :: r) = runFrom digitsS.cps.toList (c :: r) := by
    unfold lenOf setOf
    rw [if_neg (no_le (.inl h)), if_pos h, runFrom_pos h]
    show 1 + runFrom _ r = _
    omega
  refine ⟨e1, fun b => ?_, fun b => ?_⟩
  · rw [e1] at b
    unfold signOf
    rw [if_pos h, if_pos b]
  · rw [e1] at b ⊢
    refine ⟨_, by unfold signOf; rw [if_pos h, if_neg b], ?_⟩
    have rp := runFrom_one (S := digitsS.cps.toList) (r := r) h
    have rl := runFrom_le digitsS.cps.toList (c :: r)
    have ra := fun {a} => runFrom_all (S := digitsS.cps.toList) (l := c :: r) (c := a)
    generalize hR : runFrom digitsS.cps.toList (c :: r) = L at b rp rl ra ⊢
    show numT (decVal _) = _
    have hl : ((c :: r).take L).length = L := by rw [List.length_take]; omega
    have hd : ∃ q, (c :: r).take L = c :: q := by
      cases L with
      | zero => omega
      | succ L => exact ⟨r.take L, rfl⟩
    obtain ⟨q, hq⟩ := hd
    match hm : (c :: r).take L, hl with
    | [a], _ => exact dec_text1 a (ra (by rw [hm]; simp))
    | [a, d], hl2 =>
      have hac : a = c := by
        rw [hm] at hq
        exact (List.cons.inj hq).1
      have hl2 : 2 = L := hl2
      exact dec_text2 a (ra (by rw [hm]; simp)) d (ra (by rw [hm]; simp)) (fun z => b (.inr ⟨by rw [← hac]; exact z, by omega⟩))
    | [], e => simp at e; omega
    | a :: d :: e :: r', hl2 => simp at hl2; omega
/-- letters -/
theorem sign_let {c : Nat} {r : List Nat} (h : c ∈ lettersS'.cps.toList) : (lenOf c (c :: r) > 8 → signOf c (c :: r) = none) ∧
    (¬ lenOf c (c :: r) > 8 → ∃ tok, signOf c (c :: r) = some (tok, lenOf c (c :: r)) ∧ tokText tok = ⟨((c :: r).take (lenOf c (c :: r))).toArray⟩) := by
  have hd := fdisj_ld c h
  have e1 : lenOf c (c :: r) = runFrom lettersS'.cps.toList (c :: r) := by
    unfold lenOf setOf
    rw [if_neg (no_le (.inr h)), if_neg hd, if_pos h, runFrom_pos h]
    show 1 + runFrom _ r = _
    omega
  rw [e1]
  refine ⟨fun b => ?_, fun b => ?_⟩
  · unfold signOf
    rw [if_neg hd, if_pos h, if_pos b]
  · exact ⟨_, by unfold signOf; rw [if_neg hd, if_pos h, if_neg b], rfl⟩
def cutL : List Str := ["(", ")", ";", "+", "-", "<=", " "]
theorem run_none : ∀ l : List Nat, runFrom (Str.ofString "").cps.toList l = 0
  | [] => rfl
  | c :: r => runFrom_neg (by show ¬ c ∈ ([] : List Nat); simp)
theorem one_in {c : Nat} (n : c ≠ 32) : (⟨[c].toArray⟩ : Str) ∈ cutL ↔ c ∈ marksS.cps.toList := by
  have h1 : ∀ {a : Nat} {s : String}, (Str.ofString s).cps.toList = [a] → ((⟨[c].toArray⟩ : Str) = Str.ofString s ↔ c = a) := fun {a s} hs => by
    constructor
    · intro e
      have e2 := congrArg (fun z : Str => z.cps.toList) e
      have e2 : [c] = (Str.ofString s).cps.toList := e2
      rw [hs] at e2
      exact (List.cons.inj e2).1
    · rintro rfl
      have : (⟨[c].toArray⟩ : Str) = ⟨(Str.ofString s).cps.toList.toArray⟩ := by rw [hs]
      rw [this]
  have h2 : (⟨[c].toArray⟩ : Str) ≠ Str.ofString "<=" := fun e => by
    have e2 := congrArg (fun z : Str => z.cps.toList) e
    have e2 : [c] = [60, 61] := e2.trans (by decide)
    cases e2
  have em : marksS.cps.toList = [40, 41, 59, 43, 45] := by decide
  rw [em]
  unfold cutL
  simp only [List.mem_cons, List.not_mem_nil, or_false]
  rw [h1 (show (Str.ofString "(").cps.toList = [40] by decide), h1 (show (Str.ofString ")").cps.toList = [41] by decide), h1 (show (Str.ofString ";").cps.toList = [59] by decide), h1 (show (Str.ofString "+").cps.toList = [43] by decide), h1 (show (Str.ofString "-").cps.toList = [45] by decide), h1 (show (Str.ofString " ").cps.toList = [32] by decide)]
  constructor
  · rintro (h | h | h | h | h | h | h)
    · exact .inl h
    · exact .inr (.inl h)
    · exact .inr (.inr (.inl h))
    · exact .inr (.inr (.inr (.inl h)))
    · exact .inr (.inr (.inr (.inr h)))
    · exact absurd h h2
    · exact absurd h n
  · rintro (h | h | h | h | h)
    · exact .inl h
    · exact .inr (.inl h)
    · exact .inr (.inr (.inl h))
    · exact .inr (.inr (.inr (.inl h)))
    · exact .inr (.inr (.inr (.inr (.inl h))))
/-- other signs -/
theorem sign_oth {c : Nat} {r : List Nat} (h1 : ¬ c ∈ digitsS.cps.toList) (h2 : ¬ c ∈ lettersS'.cps.toList) (n : c ≠ 32) :
    (¬ (⟨((c :: r).take (lenOf c (c :: r))).toArray⟩ : Str) ∈ cutL → signOf c (c :: r) = none) ∧
    ((⟨((c :: r).take (lenOf c (c :: r))).toArray⟩ : Str) ∈ cutL → ∃ tok, signOf c (c :: r) = some (tok, lenOf c (c :: r)) ∧ tokText tok = ⟨((c :: r).take (lenOf c (c :: r))).toArray⟩) := by
  by_cases c3 : (c :: r).take 2 = [60, 61]
  · have e1 : lenOf c (c :: r) = 2 := if_pos c3
    have e2 : (⟨[60, 61].toArray⟩ : Str) = Str.ofString "<=" := by decide
    rw [e1, c3, e2]
    refine ⟨fun z => absurd (by decide) z, fun _ => ⟨.sign "<=", ?_, rfl⟩⟩
    unfold signOf
    rw [if_neg h1, if_neg h2, if_pos c3]
  · have e1 : lenOf c (c :: r) = 1 := by
      unfold lenOf setOf
      rw [if_neg c3, if_neg h1, if_neg h2, run_none]
    rw [e1]
    show (¬ (⟨[c].toArray⟩ : Str) ∈ cutL → _) ∧ ((⟨[c].toArray⟩ : Str) ∈ cutL → _)
    rw [one_in n]
    refine ⟨fun z => ?_, fun z => ⟨.sign ⟨#[c]⟩, ?_, rfl⟩⟩
    · unfold signOf
      rw [if_neg h1, if_neg h2, if_neg c3, if_neg z]
    · unfold signOf
      rw [if_neg h1, if_neg h2, if_neg c3, if_pos z]
theorem sg_snoc {H : Hp} {v : V} {t : Str × Nat} : ∀ {us : List V} {ts : List (Str × Nat)}, Paired (SgRel H) us ts → SgRel H v t → Paired (SgRel H) (us ++ [v]) (ts ++ [t])
  | _, _, .nil, h => .cons h .nil
  | _, _, .cons r q, h => .cons r (sg_snoc q h)
theorem sg_keep {H H' : Hp} {us : List V} {ts : List (Str × Nat)} (h : Paired (SgRel H) us ts) (q : ∀ b xs, H b = some (.tup xs) → H' b = some (.tup xs)) : Paired (SgRel H') us ts :=
  Paired.mapP h fun _ _ ⟨a, e, z⟩ => ⟨a, e, q _ _ z⟩
def CutEnds (H : Hp) (Q : VK) : Except Nat TL → Prop
  | .ok toks => ∀ (S : Addr) (us : List V) (H' : Hp), Same H H' → H' S = some (.lst us) → Paired (SgRel H') us (toks.map txt) → Q (.ref S) H'
  | .error n => ∀ H', Same H H' → Q (.int (n : Nat)) H'
def joinG (done : TL) : Except Nat TL → Except Nat TL
  | .ok more => .ok (done ++ more)
  | .error e => .error e
theorem joinG_nil (r : Except Nat TL) : joinG [] r = r := by
  cases r <;> rfl
theorem lenOf_le (c : Nat) (r : List Nat) : 1 ≤ lenOf c (c :: r) ∧ lenOf c (c :: r) ≤ (c :: r).length := by
  unfold lenOf
  split
  · rename_i h
    refine ⟨by decide, ?_⟩
    cases r with
    | nil => simp at h
    | cons d r => rw [List.length_cons, List.length_cons]; omega
  · have := runFrom_le (setOf c).cps.toList r
    show 1 ≤ 1 + runFrom (setOf c).cps.toList r ∧ 1 + runFrom (setOf c).cps.toList r ≤ _
    rw [List.length_cons]
    omega
theorem one_first {c : Nat} {r : List Nat} {n : Nat} (h : 1 ≤ n) : ∃ q, (⟨((c :: r).take n).toArray⟩ : Str).cps.toList = c :: q := by
  cases n with
  | zero => omega
  | succ n => exact ⟨r.take n, rfl⟩
theorem spt : (Str.ofString " ").cps.toList = [32] := by decide
theorem len_space (r : List Nat) : lenOf 32 (32 :: r) = 1 := by
  unfold lenOf setOf
  rw [if_neg (fun e => ?_), if_neg (by decide +kernel), if_neg (by decide +kernel), run_none]
  have e : (32 :: r).take 2 = [60, 61] := e
  rw [List.take_succ_cons] at e
  exact absurd (List.cons.inj e).1 (by decide)
theorem lexE_len : ∀ {f i : Nat} {l : List Nat} {ts : TL}, lexE f i l = .ok ts → ts.length ≤ f
  | 0, _, _, _, h => by cases h
  | f + 1, i, [], ts, h => by
    have e : [(Tok.fin, i)] = ts := Except.ok.inj h
    rw [← e]
    show 1 ≤ f + 1
    omega
  | f + 1, i, c :: r, ts, h => by
    unfold lexE at h
    cases hs : signAt (c :: r) with
    | none => rw [hs] at h; cases h
    | some tl =>
      obtain ⟨tok, n⟩ := tl
      rw [hs] at h
      simp only at h
      cases hm : lexE f (i + n + runFrom [32] ((c :: r).drop n)) (((c :: r).drop n).drop (runFrom [32] ((c :: r).drop n))) with
      | error e => rw [hm] at h; cases h
      | ok more =>
        rw [hm] at h
        have e : (tok, i) :: more = ts := Except.ok.inj h
        have := lexE_len hm
        rw [← e, List.length_cons]
        omega
theorem sg_app {H : Hp} : ∀ {us vs : List V} {ts rs : List (Str × Nat)}, Paired (SgRel H) us ts → Paired (SgRel H) vs rs → Paired (SgRel H) (us ++ vs) (ts ++ rs)
  | _, _, _, _, .nil, h => h
  | _, _, _, _, .cons r q, h => .cons r (sg_app q h)
end My
namespace My
open PySem L2
mutual
theorem body_det {d m : Nat} {l : TL} {r1 r2 : Except TL (List Thing × TL × Nat)} : BodyP d m l r1 → BodyP d m l r2 → r1 = r2
  | .bad a, .bad b => by injection thing_det a b with e; rw [e]
  | .bad a, .one b _ => by cases thing_det a b
  | .bad a, .more b _ _ => by cases thing_det a b
  | .bad a, .moreBad b _ _ => by cases thing_det a b
  | .one a _, .bad b => by cases thing_det a b
  | .one a c, .one b _ => by cases thing_det a b; rfl
  | .one a c, .more b c2 _ => by cases thing_det a b; rw [c] at c2; cases c2
  | .one a c, .moreBad b c2 _ => by cases thing_det a b; rw [c] at c2; cases c2
  | .more a _ _, .bad b => by cases thing_det a b
  | .more a c _, .one b c2 => by cases thing_det a b; rw [c] at c2; cases c2
  | .more a c h, .more b c2 g => by cases thing_det a b; cases body_det h g; rfl
  | .more a c h, .moreBad b c2 g => by cases thing_det a b; cases body_det h g
  | .moreBad a _ _, .bad b => by cases thing_det a b
  | .moreBad a c _, .one b c2 => by cases thing_det a b; rw [c] at c2; cases c2
  | .moreBad a c h, .more b c2 g => by cases thing_det a b; cases body_det h g
  | .moreBad a c h, .moreBad b c2 g => by cases thing_det a b; injection body_det h g with e; rw [e]
termination_by structural a _ => a
theorem thing_det {d m : Nat} {l : TL} {r1 r2 : Except TL (Thing × TL × Nat)} : ThingP d m l r1 → ThingP d m l r2 → r1 = r2
  | .full a, b => by
    cases b with
    | full _ => rfl
    | leafBad c _ _ => omega
    | leaf c _ _ => omega
    | going c _ _ => omega
    | choice c _ _ => omega
    | dblBad c _ _ => omega
    | dbl c _ _ => omega
  | .leafBad a nw h, b => by
    cases b with
    | full _ => omega
    | leafBad _ _ h2 => rw [h] at h2; injection h2 with e; rw [e]
    | leaf _ _ h2 => rw [h] at h2; cases h2
    | going _ w _ => exact absurd (.inl w) nw
    | choice _ w _ => exact absurd (.inr (.inl w)) nw
    | dblBad _ w _ => exact absurd (.inr (.inr w)) nw
    | dbl _ w _ => exact absurd (.inr (.inr w)) nw
  | .leaf a nw h, b => by
    cases b with
    | full _ => omega
    | leafBad _ _ h2 => rw [h] at h2; cases h2
    | leaf _ _ h2 => rw [h] at h2; cases h2; rfl
    | going _ w _ => exact absurd (.inl w) nw
    | choice _ w _ => exact absurd (.inr (.inl w)) nw
    | dblBad _ w _ => exact absurd (.inr (.inr w)) nw
    | dbl _ w _ => exact absurd (.inr (.inr w)) nw
  | .going a w g, .full _ => by omega
  | .going a w g, .leafBad _ nw _ => absurd (.inl w) nw
  | .going a w g, .leaf _ nw _ => absurd (.inl w) nw
  | .going a w g, .going _ _ g2 => going_det g g2
  | .going a w g, .choice _ w2 _ => by rw [tokIs_else w (by decide)] at w2; cases w2
  | .going a w g, .dblBad _ w2 _ => by rw [tokIs_else w (by decide)] at w2; cases w2
  | .going a w g, .dbl _ w2 _ => by rw [tokIs_else w (by decide)] at w2; cases w2
  | .choice a w g, .full _ => by omega
  | .choice a w g, .leafBad _ nw _ => absurd (.inr (.inl w)) nw
  | .choice a w g, .leaf _ nw _ => absurd (.inr (.inl w)) nw
  | .choice a w g, .going _ w2 _ => by rw [tokIs_else w (by decide)] at w2; cases w2
  | .choice a w g, .choice _ _ g2 => choice_det g g2
  | .choice a w g, .dblBad _ w2 _ => by rw [tokIs_else w (by decide)] at w2; cases w2
  | .choice a w g, .dbl _ w2 _ => by rw [tokIs_else w (by decide)] at w2; cases w2
  | .dblBad a w g, .full _ => by omega
  | .dblBad a w g, .leafBad _ nw _ => absurd (.inr (.inr w)) nw
  | .dblBad a w g, .leaf _ nw _ => absurd (.inr (.inr w)) nw
  | .dblBad a w g, .going _ w2 _ => by rw [tokIs_else w (by decide)] at w2; cases w2
  | .dblBad a w g, .choice _ w2 _ => by rw [tokIs_else w (by decide)] at w2; cases w2
  | .dblBad a w g, .dblBad _ _ g2 => by injection brack_det g g2 with e; rw [e]
  | .dblBad a w g, .dbl _ _ g2 => by cases brack_det g g2
  | .dbl a w g, .full _ => by omega
  | .dbl a w g, .leafBad _ nw _ => absurd (.inr (.inr w)) nw
  | .dbl a w g, .leaf _ nw _ => absurd (.inr (.inr w)) nw
  | .dbl a w g, .going _ w2 _ => by rw [tokIs_else w (by decide)] at w2; cases w2
  | .dbl a w g, .choice _ w2 _ => by rw [tokIs_else w (by decide)] at w2; cases w2
  | .dbl a w g, .dblBad _ _ g2 => by cases brack_det g g2
  | .dbl a w g, .dbl _ _ g2 => by cases brack_det g g2; rfl
termination_by structural a _ => a
theorem brack_det {d m : Nat} {l : TL} {r1 r2 : Except TL (List Thing × TL × Nat)} : BrackP d m l r1 → BrackP d m l r2 → r1 = r2
  | .deep a, b => by
    cases b with
    | deep _ => rfl
    | open_ c _ => omega
    | body c _ _ => omega
    | close c _ _ _ => omega
    | ok c _ _ _ => omega
  | .open_ a h, b => by
    cases b with
    | deep _ => omega
    | open_ _ h2 => rw [h] at h2; injection h2 with e; rw [e]
    | body _ h2 _ => rw [h] at h2; cases h2
    | close _ h2 _ _ => rw [h] at h2; cases h2
    | ok _ h2 _ _ => rw [h] at h2; cases h2
  | .body a h g, .deep _ => by omega
  | .body a h g, .open_ _ h2 => by rw [h] at h2; cases h2
  | .body a h g, .body _ h2 g2 => by rw [h] at h2; cases h2; injection body_det g g2 with e; rw [e]
  | .body a h g, .close _ h2 g2 _ => by rw [h] at h2; cases h2; cases body_det g g2
  | .body a h g, .ok _ h2 g2 _ => by rw [h] at h2; cases h2; cases body_det g g2
  | .close a h g k, .deep _ => by omega
  | .close a h g k, .open_ _ h2 => by rw [h] at h2; cases h2
  | .close a h g k, .body _ h2 g2 => by rw [h] at h2; cases h2; cases body_det g g2
  | .close a h g k, .close _ h2 g2 k2 => by rw [h] at h2; cases h2; cases body_det g g2; rw [k] at k2; injection k2 with e; rw [e]
  | .close a h g k, .ok _ h2 g2 k2 => by rw [h] at h2; cases h2; cases body_det g g2; rw [k] at k2; cases k2
  | .ok a h g k, .deep _ => by omega
  | .ok a h g k, .open_ _ h2 => by rw [h] at h2; cases h2
  | .ok a h g k, .body _ h2 g2 => by rw [h] at h2; cases h2; cases body_det g g2
  | .ok a h g k, .close _ h2 g2 k2 => by rw [h] at h2; cases h2; cases body_det g g2; rw [k] at k2; cases k2
  | .ok a h g k, .ok _ h2 g2 k2 => by rw [h] at h2; cases h2; cases body_det g g2; rw [k] at k2; cases k2; rfl
termination_by structural a _ => a
theorem going_det {d m : Nat} {l : TL} {r1 r2 : Except TL (Thing × TL × Nat)} : GoingP d m l r1 → GoingP d m l r2 → r1 = r2
  | .head h, .head h2 => by rw [h] at h2; injection h2 with e; rw [e]
  | .head h, .bad h2 _ => by rw [h] at h2; cases h2
  | .head h, .ok h2 _ => by rw [h] at h2; cases h2
  | .bad h g, .head h2 => by rw [h] at h2; cases h2
  | .bad h g, .bad h2 g2 => by rw [h] at h2; cases h2; injection brack_det g g2 with e; rw [e]
  | .bad h g, .ok h2 g2 => by rw [h] at h2; cases h2; cases brack_det g g2
  | .ok h g, .head h2 => by rw [h] at h2; cases h2
  | .ok h g, .bad h2 g2 => by rw [h] at h2; cases h2; cases brack_det g g2
  | .ok h g, .ok h2 g2 => by rw [h] at h2; cases h2; cases brack_det g g2; rfl
termination_by structural a _ => a
theorem choice_det {d m : Nat} {l : TL} {r1 r2 : Except TL (Thing × TL × Nat)} : ChoiceP d m l r1 → ChoiceP d m l r2 → r1 = r2
  | .head h, .head h2 => by rw [h] at h2; injection h2 with e; rw [e]
  | .head h, .bad h2 _ => by rw [h] at h2; cases h2
  | .head h, .ok h2 _ _ => by rw [h] at h2; cases h2
  | .head h, .elseBad h2 _ _ _ => by rw [h] at h2; cases h2
  | .head h, .elseOk h2 _ _ _ => by rw [h] at h2; cases h2
  | .bad h g, .head h2 => by rw [h] at h2; cases h2
  | .bad h g, .bad h2 g2 => by rw [h] at h2; cases h2; injection brack_det g g2 with e; rw [e]
  | .bad h g, .ok h2 g2 _ => by rw [h] at h2; cases h2; cases brack_det g g2
  | .bad h g, .elseBad h2 g2 _ _ => by rw [h] at h2; cases h2; cases brack_det g g2
  | .bad h g, .elseOk h2 g2 _ _ => by rw [h] at h2; cases h2; cases brack_det g g2
  | .ok h g c, .head h2 => by rw [h] at h2; cases h2
  | .ok h g c, .bad h2 g2 => by rw [h] at h2; cases h2; cases brack_det g g2
  | .ok h g c, .ok h2 g2 _ => by rw [h] at h2; cases h2; cases brack_det g g2; rfl
  | .ok h g c, .elseBad h2 g2 c2 _ => by rw [h] at h2; cases h2; cases brack_det g g2; rw [c] at c2; cases c2
  | .ok h g c, .elseOk h2 g2 c2 _ => by rw [h] at h2; cases h2; cases brack_det g g2; rw [c] at c2; cases c2
  | .elseBad h g c k, .head h2 => by rw [h] at h2; cases h2
  | .elseBad h g c k, .bad h2 g2 => by rw [h] at h2; cases h2; cases brack_det g g2
  | .elseBad h g c k, .ok h2 g2 c2 => by rw [h] at h2; cases h2; cases brack_det g g2; rw [c] at c2; cases c2
  | .elseBad h g c k, .elseBad h2 g2 c2 k2 => by rw [h] at h2; cases h2; cases brack_det g g2; injection brack_det k k2 with e; rw [e]
  | .elseBad h g c k, .elseOk h2 g2 c2 k2 => by rw [h] at h2; cases h2; cases brack_det g g2; cases brack_det k k2
  | .elseOk h g c k, .head h2 => by rw [h] at h2; cases h2
  | .elseOk h g c k, .bad h2 g2 => by rw [h] at h2; cases h2; cases brack_det g g2
  | .elseOk h g c k, .ok h2 g2 c2 => by rw [h] at h2; cases h2; cases brack_det g g2; rw [c] at c2; cases c2
  | .elseOk h g c k, .elseBad h2 g2 c2 k2 => by rw [h] at h2; cases h2; cases brack_det g g2; cases brack_det k k2
  | .elseOk h g c k, .elseOk h2 g2 c2 k2 => by rw [h] at h2; cases h2; cases brack_det g g2; cases brack_det k k2; rfl
termination_by structural a _ => a
end
end My
namespace My
open PySem L2
/-! ### rows of texts, weighed: what a text is cut into and put together of -/
def wt (l : List Str) : Nat := (l.map (·.length)).sum + l.length
theorem wt_app (a b : List Str) : wt (a ++ b) = wt a + wt b := by
  unfold wt
  rw [List.map_append, List.sum_append, List.length_append]
  omega
theorem wt_take (l : List Str) (n : Nat) : wt (l.take n) ≤ wt l := by
  have := wt_app (l.take n) (l.drop n)
  rw [List.take_append_drop] at this
  omega
theorem wt_drop (l : List Str) (n : Nat) : wt (l.drop n) ≤ wt l := by
  have := wt_app (l.take n) (l.drop n)
  rw [List.take_append_drop] at this
  omega
theorem sjoin_len (s : Str) : ∀ l : List Str, l ≠ [] → (Str.join s l).length + s.length = (l.map (·.length)).sum + l.length * s.length
  | [], h => absurd rfl h
  | [x], _ => by simp [Str.join]
  | x :: y :: r, _ => by
    have ih := sjoin_len s (y :: r) (by simp)
    rw [Str.join, str_len, str_len]
    simp only [List.map_cons, List.sum_cons, List.length_cons, Nat.add_mul, Nat.one_mul] at ih ⊢
    omega
    simp
theorem wt_split (x : Str) : wt (Txt.split x " ") = x.length + 1 := by
  have h1 := PyProof.Rows.split_pos x " "
  have h2 := sjoin_len " " (Txt.split x " ") (fun e => by rw [e] at h1; simp at h1)
  rw [StrLaws.join_split, show (Str.ofString " ").length = 1 by decide] at h2
  unfold wt
  omega
theorem wt_join (l : List Str) : (Txt.join " " l).length ≤ wt l := by
  have := join_len " " l
  rw [show (Str.ofString " ").length = 1 by decide] at this
  unfold wt
  omega
/-- a slice of a row of texts -/
def cutT (ys : List Str) (lo hi : Option Int) : List Str := (ys.drop (HT.sIx ys.length 0 lo)).take (HT.sIx ys.length ys.length hi - HT.sIx ys.length 0 lo)
theorem cutV_strs (ys : List Str) (lo hi : Option Int) : cutV (ys.map V.str) lo hi = (cutT ys lo hi).map V.str := by
  unfold cutV cutT
  rw [List.length_map, List.map_take, List.map_drop]
theorem wt_cut (ys : List Str) (lo hi : Option Int) : wt (cutT ys lo hi) ≤ wt ys := Nat.le_trans (wt_take _ _) (wt_drop _ _)
theorem wt_ends (ys : List Str) (n m : Nat) (h : n ≤ m) : wt (cutT ys none (some (n : Int))) + wt (cutT ys (some (m : Int)) none) ≤ wt ys := by
  have e1 : cutT ys none (some (n : Int)) = ys.take (min n ys.length) := by
    unfold cutT
    rw [HT.sIx_nat]
    rfl
  have e2 : cutT ys (some (m : Int)) none = (ys.drop (min m ys.length)).take (ys.length - min m ys.length) := by
    unfold cutT
    rw [HT.sIx_nat]
    rfl
  have e3 : (ys.drop (min m ys.length)).take (ys.length - min m ys.length) = ys.drop (min m ys.length) := List.take_of_length_le (by rw [List.length_drop]; omega)
  rw [e1, e2, e3]
  have h1 := wt_app (ys.take (min n ys.length)) (ys.drop (min n ys.length))
  rw [List.take_append_drop] at h1
  have h2 := wt_drop (ys.drop (min n ys.length)) (min m ys.length - min n ys.length)
  rw [List.drop_drop, show min n ys.length + (min m ys.length - min n ys.length) = min m ys.length by omega] at h2
  omega
theorem len_wt (l : List Str) : l.length ≤ wt l := by unfold wt; omega
theorem cutS_len (z : Str) (lo hi : Option Int) : (cutS z lo hi).length ≤ z.length := by
  unfold cutS
  show (List.toArray _).size ≤ z.cps.size
  rw [List.size_toArray, List.length_take, List.length_drop, Array.length_toList]
  omega
theorem repS_zero (c : Nat) : (repS (⟨#[c]⟩ : Str) 0).length = 0 := rfl
theorem repS_one (c : Nat) : (repS (⟨#[c]⟩ : Str) 1).length = 1 := rfl
end My
namespace My
open PySem PySem.Spec PyProof.Rows L2
/-! ### text.replace(y, [z1, z2, z3][i]) -/
theorem none_booked_of {K : PySem.W.Frag} {h : Heap} (X : K.In h) (L : h.NoLimit) (e : PySem.W.nsIn K cStatics sharingNotToldKey = some none) : NoneBooked h := by
  obtain ⟨mc, hn, _⟩ := L
  refine ⟨mc, hn, ?_⟩
  obtain ⟨o, es, n, at_, od, sk, fnd⟩ := hn
  unfold PySem.W.nsIn at e
  cases q : K.lookup cStatics with
  | none => rw [q] at e; cases e
  | some u =>
    have same := X _ _ q
    rw [at_] at same
    cases same
    rw [q] at e
    obtain ⟨c, d, dt, sl⟩ := o
    have od : dt = .dict es n := od
    subst od
    have e : (match es.toList.find? (·.key.isStr sharingNotToldKey) with
      | some e => some (some e.val)
      | none => if es.toList.any (·.refKey) then none else some none) = some none := e
    cases w : es.toList.find? (·.key.isStr sharingNotToldKey) with
    | some y => rw [w] at e; cases e
    | none =>
      rw [← fnd]
      unfold nsFind findBy
      rw [← Array.find?_toList, w]
      rfl
def tReplPick (K : PySem.W.Frag) (to : TE) (y z1 z2 z3 : Str) (ti : TE) : TE := fun σ H Q => to σ H fun v H1 => ∃ x, v = .str x ∧ (∀ z ∈ [z1, z2, z3], x.length + (x.length + 1) * z.length ≤ 16777216) ∧
  ∀ L o, H1 L = none → ti σ (upd H1 L (.frz o (.lst [.str z1, .str z2, .str z3]))) fun w H2 => ∃ (n : Nat) (z : Str), w = .int (n : Nat) ∧ H2 L = some (.frz o (.lst [.str z1, .str z2, .str z3])) ∧ [z1, z2, z3][n]? = some z ∧ Q (.str (Txt.replace x y z)) H2
section
variable {X : Cx} {o idx : Expr} {to ti : TE} {y z1 z2 z3 : Str} {j k1 k2 k3 : Nat} {c0 c1 c2 c3 lpos spos apos pos : Pos}
theorem pet_replPick (ho : PET X o to) (hi : PE X idx ti) (hb : PySem.W.nsIn X.K cStatics sharingNotToldKey = some none)
    (hst : starEach [.Constant (.str y) j c0, .Subscript (.List [.Constant (.str z1) k1 c1, .Constant (.str z2) k2 c2, .Constant (.str z3) k3 c3] lpos) idx spos] X.env = [(false, eval (.Constant (.str y) j c0) X.env), (false, eval (.Subscript (.List [.Constant (.str z1) k1 c1, .Constant (.str z2) k2 c2, .Constant (.str z3) k3 c3] lpos) idx spos) X.env)] := by rfl)
    (hs : PlainIx idx)
    (hbase : attributeBase o "replace" X.env (eval o X.env) = eval o X.env := by rfl) (hline : (apos.endLine == pos.line) = true := by rfl) :
    PET X (.Call (.Attribute o "replace" apos) [.Constant (.str y) j c0, .Subscript (.List [.Constant (.str z1) k1 c1, .Constant (.str z2) k2 c2, .Constant (.str z3) k3 c3] lpos) idx spos] [] pos) (tReplPick X.K to y z1 z2 z3 ti) := by
  intro pins s σ H Q h0 I h
  refine PySem.Call_method2 hbase hst hline (wpAny_mono (PySem.wpAny_toks (ho pins s σ H _ h0 I h)) (fun v s1 q => ?_) fun _ _ z => z.2)
  obtain ⟨hk, v', H1, I1, r1, x, rfl, hlen, q⟩ := q
  obtain ⟨tx, rfl⟩ := r1
  refine ⟨"str", _, PySem.F.plainAttrs_str, PySem.F.slot_str_replace, PySem.F.type_str_replace, typeIs_str _ _ _, (fun _ e => nomatch e), Calls.callWith_builtin rfl (Calls.evalArgs_plain (Calls.spliced_cons ?_))⟩
  refine Calls.Constant_str (Calls.spliced_cons ?_)
  refine Subscript_ (wpAny_List_spliced ?_)
  show wpAny _ _ (spliced ((false, eval (.Constant (.str z1) k1 c1) X.env) :: backTo lpos (starEach [.Constant (.str z2) k2 c2, .Constant (.str z3) k3 c3] X.env))) _ _ _
  refine Calls.spliced_cons (Calls.Constant_str ?_)
  show wpAny _ _ (spliced ((false, eval (.Constant (.str z2) k2 c2) X.env) :: backTo lpos (starEach [.Constant (.str z3) k3 c3] X.env))) _ _ _
  refine Calls.spliced_cons (Calls.Constant_str ?_)
  show wpAny _ _ (spliced ((false, eval (.Constant (.str z3) k3 c3) X.env) :: backTo lpos (starEach [] X.env))) _ _ _
  refine Calls.spliced_cons (Calls.Constant_str (Calls.spliced_nil ?_))
  have h3 : (3 : Nat) ≤ sizeLine := by decide
  refine ⟨h3, ?_⟩
  have free : H1 s1.heap.objs.size = none := I1.hok.fresh (Nat.le_refl _)
  have IL := I1.laid (t' := s1.toks + 1 + 1 + 1 + 1) (h' := s1.heap.push { cls := .type "list", data := .seq #[.str z1 (s1.toks + 1), .str z2 (s1.toks + 1 + 1), .str z3 (s1.toks + 1 + 1 + 1)] })
    (o := .frz { cls := .type "list", data := .seq #[.str z1 (s1.toks + 1), .str z2 (s1.toks + 1 + 1), .str z3 (s1.toks + 1 + 1 + 1)] } (.lst [.str z1, .str z2, .str z3])) (fun b u e => Heap.get?_push_of_some _ e) (Nat.le_refl _)
    ⟨Heap.get?_push_size _ rfl, h3, [.str z1 (s1.toks + 1), .str z2 (s1.toks + 1 + 1), .str z3 (s1.toks + 1 + 1 + 1)], 0, .cons ⟨_, rfl⟩ (.cons ⟨_, rfl⟩ (.cons ⟨_, rfl⟩ .nil)), Heap.get?_push_size _ rfl⟩
  refine thn (hi.run pins _ σ _ _ IL (q _ _ free)) fun w s3 ⟨x3, H3, I3, r3, n, z, e3, eL, hz, q3⟩ => ?_
  subst e3
  obtain ⟨tn, rfl⟩ := r3
  obtain ⟨hg, _⟩ := I3.hok _ _ eL
  have isL : s3.heap.IsList s1.heap.objs.size #[.str z1 (s1.toks + 1), .str z2 (s1.toks + 1 + 1), .str z3 (s1.toks + 1 + 1 + 1)] := ⟨_, hg, rfl, 0, rfl⟩
  have nb := none_booked_of I3.kIn I3.nolimit hb
  have fin : ∀ (t : PySem.Tok), t ≠ 0 → s1.toks ≠ t → z ∈ [z1, z2, z3] → wpAny (model X.prog X.w) X.A (PySem.call (.builtin "str.replace") [.str x tx, .str y s1.toks, .str z t]) (EP X pins σ Q) X.xe s3 := fun t ht hne hm =>
    PySem.SC.replaceA (by show s1.toks ≠ 0; omega) ht hne (hlen z hm) (fun t' k => ⟨.str (Txt.replace x y z), H3, I3.tok k, ⟨t', rfl⟩, q3⟩) nb
  have hm := List.mem_of_getElem? hz
  match n, hz with
  | 0, hz =>
    cases hz
    exact item_listR isL (by decide) (by decide) rfl (Calls.spliced_nil (fin (s1.toks + 1) (by show s1.toks + 1 ≠ 0; omega) (by show s1.toks ≠ s1.toks + 1; omega) hm)) (hs _ _)
  | 1, hz =>
    cases hz
    exact item_listR isL (by decide) (by decide) rfl (Calls.spliced_nil (fin (s1.toks + 1 + 1) (by show s1.toks + 1 + 1 ≠ 0; omega) (by show s1.toks ≠ s1.toks + 1 + 1; omega) hm)) (hs _ _)
  | 2, hz =>
    cases hz
    exact item_listR isL (by decide) (by decide) rfl (Calls.spliced_nil (fin (s1.toks + 1 + 1 + 1) (by show s1.toks + 1 + 1 + 1 ≠ 0; omega) (by show s1.toks ≠ s1.toks + 1 + 1 + 1; omega) hm)) (hs _ _)
  | n + 3, hz => simp at hz
end
end My
namespace My
open PySem PySem.Spec PyProof.Rows L2
theorem rep0 (x : Str) : repS x 0 = Str.empty := rfl
theorem rep1S (x : Str) : repS x 1 = x := by
  unfold repS
  show (⟨#[] ++ x.cps⟩ : Str) = x
  rw [Array.empty_append]
/-- text * k, k no less than nought -/
def rRepB : R2 := fun x y H Q => ∃ (i : Str) (k : Int), x = .str i ∧ y = .int k ∧ 0 ≤ k ∧ k < 2 ^ 20 ∧ 0 < i.length ∧ i.length * k.toNat ≤ 2 ^ 20 ∧ (repS i k.toNat).length ≤ sizeLine ∧ Q (.str (repS i k.toNat)) H
theorem op_repB {X : Cx} : OpR X (binaryOp .Mult) rRepB := by
  intro pins s σ H x y v u Q I rx ry h
  obtain ⟨i, k, rfl, rfl, h1, h2, h3, h4, h5, q⟩ := h
  by_cases k2 : 2 ≤ k
  · exact op_repS pins s σ H _ _ v u Q I rx ry ⟨i, k, rfl, rfl, k2, h2, h3, h4, h5, q⟩
  obtain ⟨t, rfl⟩ := rx
  obtain ⟨t', rfl⟩ := ry
  have fits : (decide (k < -(2 ^ 63 : Int)) || decide (k ≥ 2 ^ 63)) = false := by
    rw [decide_eq_false (by omega), decide_eq_false (by omega)]
    rfl
  rcases (show k = 0 ∨ k = 1 by omega) with rfl | rfl
  · refine PySem.P.mul_str fits (fun z => absurd (by decide) z) (fun z => absurd (by decide) z) ?_
    rw [if_pos (by decide)]
    exact ⟨by decide, ⟨.str Str.empty, H, I.tok _, ⟨_, rfl⟩, q⟩⟩
  · have e1 : (((1 : Int) == 1) || i.length == 0) = true := rfl
    refine PySem.P.mul_str fits (fun _ z => by rw [e1] at z; cases z) (fun _ z => by rw [e1] at z; cases z) ?_
    rw [if_neg (by decide), if_pos e1]
    have q : Q (.str (repS i 1)) H := q
    rw [rep1S] at q
    exact ⟨.str i, H, I, ⟨t, rfl⟩, q⟩
theorem repS_blank (n : Nat) : (repS " " n).cps.toList = List.replicate n 32 := by
  unfold repS
  have key : ∀ (n : Nat) (acc : Array Nat), ((List.replicate n (Str.ofString " ").cps).foldl (· ++ ·) acc).toList = acc.toList ++ List.replicate n 32 := by
    intro n
    induction n with
    | zero => intro acc; exact (List.append_nil _).symm
    | succ n ih =>
      intro acc
      rw [List.replicate_succ, List.foldl_cons, ih, Array.toList_append, List.append_assoc]
      rfl
  rw [key]
  rfl
theorem repS_blank_len (n : Nat) : (repS " " n).length = n := by
  show (repS " " n).cps.size = n
  rw [← Array.length_toList, repS_blank, List.length_replicate]
/-- a def of which a token is out when it begins -/
theorem fun_okT {P : Program} {w : World} {K : PySem.W.Frag} {mg : Str → Option Value} {base : Heap} {x qual : Str} {st : Stmt} {f : Addr} {fd : FuncData} {N ps : List Str} {k : Nat} {sp : Sp} (F : Fun K x qual st f fd) (S : FnScope N ps (defScope st)) (hnc : ∀ y ∈ (defScope st).names, y.2 ≠ .cell) (hps : 1 ≤ ps.length)
    (len : ∀ vs H Q E, sp vs H Q E → vs.length = ps.length)
    (hbody : ∀ (cdv : Value) (A : Around) (outer : List Env) (s : Shared) (H : Hp) (vs : List V) (Q : VK) (E : XK), Room k (A.deeper (envOfC qual (defScope st) s.heap.objs.size f cdv)) → sp vs H Q E →
      ∃ t, PSsT (cxOf CX0 P w K mg base N qual (defScope st) f cdv A outer s H E) (defBody st) t ∧ t { nx := fun _ H' => Q .non H', rt := Q } (start N vs) H) : FnOk P w K mg base CX0 (k + 1) f fd ps sp := by
  obtain ⟨oc, od, kV, doc, pm, an, cdv, ct, osl, rfl, lk, hcd⟩ := F.ex
  exact fn_ofT lk hcd S hnc hps len fun A outer s H vs Q E hr h => hbody cdv A outer s H vs Q E hr h
end My
namespace My
open PySem L2
/-! ### how deep and wide plans are as data -/
theorem dep_end (e : En) : dep (endD e) = 1 := by simp [endD, dep, depAll]
theorem wid_end (e : En) : wid (endD e) = 2 := by simp [endD, wid, widAll]
mutual
theorem wid_thing : ∀ t : Thing, wid (thingD t) ≤ thingC t + 5
  | .step n => by
    rw [thingD]
    simp [wid, widAll]
  | .call nm e => by
    rw [thingD]
    simp [wid, widAll, wid_end]
  | .double b => by
    have i1 := wid_things b
    have l1 := thingsC_len b
    rw [thingD, thingC]
    have l2 : (thingsD b).length = b.length := by rw [thingsD_eq, List.length_map]
    simp only [wid, widAll, List.length_cons, List.length_nil, l2]
    omega
  | .loop nm e1 e2 b => by
    have i1 := wid_things b
    have l1 := thingsC_len b
    rw [thingD, thingC]
    have l2 : (thingsD b).length = b.length := by rw [thingsD_eq, List.length_map]
    simp only [wid, widAll, List.length_cons, List.length_nil, l2, wid_end]
    omega
  | .test e1 e2 b1 b2 => by
    have i1 := wid_things b1
    have i2 := wid_things b2
    have l1 := thingsC_len b1
    have l2 := thingsC_len b2
    rw [thingD, thingC]
    have l3 : (thingsD b1).length = b1.length := by rw [thingsD_eq, List.length_map]
    have l4 : (thingsD b2).length = b2.length := by rw [thingsD_eq, List.length_map]
    simp only [wid, widAll, List.length_cons, List.length_nil, l3, l4, wid_end]
    omega
  | .again n w => by
    rw [thingD]
    simp [wid, widAll]
theorem wid_things : ∀ b : List Thing, widAll (thingsD b) ≤ thingsC b + 5
  | [] => by
    simp only [thingsD, widAll]
    omega
  | t :: r => by
    have i1 := wid_thing t
    have i2 := wid_things r
    rw [thingsD, thingsC]
    simp only [widAll]
    omega
end
theorem wid_plan {b : List Thing} (h : thingsC b ≤ 100) : wid (planD b) ≤ 100000 := by
  have := wid_things b
  have l1 := thingsC_len b
  have l2 : (thingsD b).length = b.length := by rw [thingsD_eq, List.length_map]
  unfold planD
  simp only [wid, l2]
  omega
theorem str_dep (x : Str) : dep (.str x) < 12 := Nat.lt_of_le_of_lt (Nat.le_of_eq (by simp [dep])) (by decide : 0 < 12)
theorem str_wid (x : Str) : wid (.str x) ≤ 100000 := Nat.le_trans (Nat.le_of_eq (by simp [wid])) (by decide : 0 ≤ 100000)
end My
namespace My
open PySem L2
/-! ### how deep and great read plans are -/
theorem dep_leaf {l r : TL} {t : Thing} (h : leafR l = .ok (t, r)) : dep (thingD t) ≤ 2 ∧ thingC t = 1 := by
  unfold leafR at h
  split at h
  · unfold stepR at h
    split at h
    · cases h
    · cases h
      simp [thingD, dep, depAll, thingC]
  · split at h
    · unfold callR at h
      split at h
      · cases h
      · split at h
        · cases h
        · split at h
          · cases h
          · cases h
            simp [thingD, dep, depAll, thingC, dep_end]
    · split at h
      · unfold againR at h
        split at h
        · cases h
        · split at h
          · cases h
          · unfold wayR at h
            split at h
            · cases h; simp [thingD, dep, depAll, thingC]
            · split at h
              · cases h; simp [thingD, dep, depAll, thingC]
              · split at h
                · cases h; simp [thingD, dep, depAll, thingC]
                · cases h
      · cases h
def SzB (d m : Nat) : Except TL (List Thing × TL × Nat) → Prop
  | .error _ => True
  | .ok (b, _, m') => depAll (thingsD b) ≤ 2 * (4 - d) + 2 ∧ thingsC b + m ≤ m' ∧ m' ≤ 12
def SzK (d m : Nat) : Except TL (List Thing × TL × Nat) → Prop
  | .error _ => True
  | .ok (b, _, m') => d < 4 ∧ depAll (thingsD b) ≤ 2 * (4 - d) ∧ thingsC b + m ≤ m' ∧ m' ≤ 12
def SzT (d m : Nat) : Except TL (Thing × TL × Nat) → Prop
  | .error _ => True
  | .ok (t, _, m') => dep (thingD t) ≤ 2 * (4 - d) + 2 ∧ thingC t + m ≤ m' ∧ m' ≤ 12
def SzG (d m : Nat) : Except TL (Thing × TL × Nat) → Prop
  | .error _ => True
  | .ok (t, _, m') => dep (thingD t) ≤ 2 * (4 - d) + 2 ∧ thingC t + m ≤ m' + 1 ∧ m' ≤ 12
mutual
theorem body_sz {d m : Nat} {l : TL} {res : Except TL (List Thing × TL × Nat)} : BodyP d m l res → SzB d m res
  | .bad _ => trivial
  | .one h _ => by
    have i1 : _ ∧ _ ∧ _ := thing_sz h
    refine ⟨?_, ?_, i1.2.2⟩
    · simp only [thingsD, depAll]
      omega
    · simp only [thingsC]
      omega
  | .more h _ b => by
    have i1 : _ ∧ _ ∧ _ := thing_sz h
    have i2 : _ ∧ _ ∧ _ := body_sz b
    refine ⟨?_, ?_, i2.2.2⟩
    · simp only [thingsD, depAll]
      omega
    · simp only [thingsC]
      omega
  | .moreBad _ _ _ => trivial
termination_by structural a => a
theorem brack_sz {d m : Nat} {l : TL} {res : Except TL (List Thing × TL × Nat)} : BrackP d m l res → SzK d m res
  | .deep _ => trivial
  | .open_ _ _ => trivial
  | .body _ _ _ => trivial
  | .close _ _ _ _ => trivial
  | .ok c _ b _ => by
    have i2 : _ ∧ _ ∧ _ := body_sz b
    exact ⟨c, by omega, i2.2.1, i2.2.2⟩
termination_by structural a => a
theorem going_sz {d m : Nat} {l : TL} {res : Except TL (Thing × TL × Nat)} : GoingP d m l res → SzG d m res
  | .head _ => trivial
  | .bad _ _ => trivial
  | .ok _ b => by
    have i : _ ∧ _ ∧ _ ∧ _ := brack_sz b
    refine ⟨?_, ?_, i.2.2.2⟩
    · rw [thingD]
      simp only [dep, depAll, dep_end]
      omega
    · simp only [thingC]
      omega
termination_by structural a => a
theorem choice_sz {d m : Nat} {l : TL} {res : Except TL (Thing × TL × Nat)} : ChoiceP d m l res → SzG d m res
  | .head _ => trivial
  | .bad _ _ => trivial
  | .ok _ b _ => by
    have i : _ ∧ _ ∧ _ ∧ _ := brack_sz b
    refine ⟨?_, ?_, i.2.2.2⟩
    · rw [thingD]
      simp only [dep, depAll, dep_end, thingsD]
      omega
    · simp only [thingC, thingsC]
      omega
  | .elseBad _ _ _ _ => trivial
  | .elseOk _ b _ b2 => by
    have i : _ ∧ _ ∧ _ ∧ _ := brack_sz b
    have j : _ ∧ _ ∧ _ ∧ _ := brack_sz b2
    refine ⟨?_, ?_, j.2.2.2⟩
    · rw [thingD]
      simp only [dep, depAll, dep_end]
      omega
    · simp only [thingC]
      omega
termination_by structural a => a
theorem thing_sz {d m : Nat} {l : TL} {res : Except TL (Thing × TL × Nat)} : ThingP d m l res → SzT d m res
  | .full _ => trivial
  | .leafBad _ _ _ => trivial
  | .leaf c _ h => by
    have := dep_leaf h
    exact ⟨by omega, by omega, by omega⟩
  | .going (res := res) c _ g => by
    have i := going_sz g
    cases res with
    | error e => trivial
    | ok y =>
      obtain ⟨t, r, m2⟩ := y
      have i : _ ∧ _ ∧ _ := i
      exact ⟨i.1, by omega, i.2.2⟩
  | .choice (res := res) c _ g => by
    have i := choice_sz g
    cases res with
    | error e => trivial
    | ok y =>
      obtain ⟨t, r, m2⟩ := y
      have i : _ ∧ _ ∧ _ := i
      exact ⟨i.1, by omega, i.2.2⟩
  | .dblBad _ _ _ => trivial
  | .dbl c _ b => by
    have i : _ ∧ _ ∧ _ ∧ _ := brack_sz b
    refine ⟨?_, ?_, i.2.2.2⟩
    · rw [thingD]
      simp only [dep, depAll]
      omega
    · simp only [thingC]
      omega
termination_by structural a => a
end
theorem plan_det {x : Str} {r1 r2 : Except Nat (List Thing)} (h1 : PlanP x r1) (h2 : PlanP x r2) : r1 = r2 := by
  cases h1 with
  | lex e =>
    cases h2 with
    | lex e2 => rw [e] at e2; cases e2; rfl
    | bad e2 _ => rw [e] at e2; cases e2
    | more e2 _ _ => rw [e] at e2; cases e2
    | ok e2 _ _ => rw [e] at e2; cases e2
  | bad e b =>
    cases h2 with
    | lex e2 => rw [e] at e2; cases e2
    | bad e2 b2 => rw [e] at e2; cases e2; cases body_det b b2; rfl
    | more e2 b2 _ => rw [e] at e2; cases e2; cases body_det b b2
    | ok e2 b2 _ => rw [e] at e2; cases e2; cases body_det b b2
  | more e b c =>
    cases h2 with
    | lex e2 => rw [e] at e2; cases e2
    | bad e2 b2 => rw [e] at e2; cases e2; cases body_det b b2
    | more e2 b2 _ => rw [e] at e2; cases e2; cases body_det b b2; rfl
    | ok e2 b2 c2 => rw [e] at e2; cases e2; cases body_det b b2; rw [c] at c2; cases c2
  | ok e b c =>
    cases h2 with
    | lex e2 => rw [e] at e2; cases e2
    | bad e2 b2 => rw [e] at e2; cases e2; cases body_det b b2
    | more e2 b2 c2 => rw [e] at e2; cases e2; cases body_det b b2; rw [c] at c2; cases c2
    | ok e2 b2 _ => rw [e] at e2; cases e2; cases body_det b b2; rfl
theorem out_small {x : Str} : ∀ {res : Except Nat (List Thing)}, PlanP x res → (∀ b, res = .ok b → dep (planD b) ≤ 11 ∧ wid (planD b) ≤ 100000)
  | _, .lex _, b, e => by cases e
  | _, .bad _ _, b, e => by cases e
  | _, .more _ _ _, b, e => by cases e
  | _, .ok _ h _, b, e => by
    cases e
    have i : _ ∧ _ ∧ _ := body_sz h
    refine ⟨?_, wid_plan (by omega)⟩
    unfold planD
    simp only [dep]
    omega
end My
namespace My
open PySem L2
def topS (i : Nat) : Stmt := PySem.Challenge.pw_outgrow_k05_texts_that_are_no_plans.main.body.getD i (.Pass ⟨0, 0, 0, 0⟩)
abbrev s_law_begin : Stmt := topS 38
abbrev N_law_begin : List Str := ["_law_script"]
theorem sc_law_begin : FnScope N_law_begin ["_law_script"] (defScope s_law_begin) := ⟨rfl, rfl, rfl, by decide +kernel, rfl, by decide +kernel, by decide +kernel⟩
abbrev s_law_end_text : Stmt := topS 39
abbrev N_law_end_text : List Str := ["_law_end"]
theorem sc_law_end_text : FnScope N_law_end_text ["_law_end"] (defScope s_law_end_text) := ⟨rfl, rfl, rfl, by decide +kernel, rfl, by decide +kernel, by decide +kernel⟩
abbrev s_law_thing_text : Stmt := topS 40
abbrev N_law_thing_text : List Str := ["_law_thing", "_law_word", "_law_head", "_law_told"]
theorem sc_law_thing_text : FnScope N_law_thing_text ["_law_thing"] (defScope s_law_thing_text) := ⟨rfl, rfl, rfl, by decide +kernel, rfl, by decide +kernel, by decide +kernel⟩
abbrev s_law_written : Stmt := topS 41
abbrev N_law_written : List Str := ["_law_plan", "_law_thing"]
theorem sc_law_written : FnScope N_law_written ["_law_plan"] (defScope s_law_written) := ⟨rfl, rfl, rfl, by decide +kernel, rfl, by decide +kernel, by decide +kernel⟩
abbrev s_law_take : Stmt := topS 42
abbrev N_law_take : List Str := ["_law_draw", "_law_sides", "_law_cell", "_law_got"]
theorem sc_law_take : FnScope N_law_take ["_law_draw", "_law_sides"] (defScope s_law_take) := ⟨rfl, rfl, rfl, by decide +kernel, rfl, by decide +kernel, by decide +kernel⟩
abbrev s_law_pick : Stmt := topS 43
abbrev N_law_pick : List Str := ["_law_draw", "_law_row"]
theorem sc_law_pick : FnScope N_law_pick ["_law_draw", "_law_row"] (defScope s_law_pick) := ⟨rfl, rfl, rfl, by decide +kernel, rfl, by decide +kernel, by decide +kernel⟩
abbrev s_law_some_end : Stmt := topS 44
abbrev N_law_some_end : List Str := ["_law_draw", "_law_scope", "_law_wide", "_law_more"]
theorem sc_law_some_end : FnScope N_law_some_end ["_law_draw", "_law_scope", "_law_wide"] (defScope s_law_some_end) := ⟨rfl, rfl, rfl, by decide +kernel, rfl, by decide +kernel, by decide +kernel⟩
abbrev s_law_leaf : Stmt := topS 45
abbrev N_law_leaf : List Str := ["_law_draw", "_law_kit", "_law_scope", "_law_deep", "_law_name", "_law_fit", "_law_end"]
theorem sc_law_leaf : FnScope N_law_leaf ["_law_draw", "_law_kit", "_law_scope", "_law_deep"] (defScope s_law_leaf) := ⟨rfl, rfl, rfl, by decide +kernel, rfl, by decide +kernel, by decide +kernel⟩
abbrev s_law_kept_words : Stmt := topS 46
abbrev N_law_kept_words : List Str := []
theorem sc_law_kept_words : FnScope N_law_kept_words [] (defScope s_law_kept_words) := ⟨rfl, rfl, rfl, by decide +kernel, rfl, by decide +kernel, by decide +kernel⟩
abbrev s_law_fresh : Stmt := topS 47
abbrev N_law_fresh : List Str := ["_law_draw", "_law_taken", "_law_size", "_law_name", "_law_spare", "_law_sign", "_law_k", "_law_one"]
theorem sc_law_fresh : FnScope N_law_fresh ["_law_draw", "_law_taken"] (defScope s_law_fresh) := ⟨rfl, rfl, rfl, by decide +kernel, rfl, by decide +kernel, by decide +kernel⟩
abbrev s_law_drawn_thing : Stmt := topS 48
abbrev N_law_drawn_thing : List Str := ["_law_draw", "_law_kit", "_law_scope", "_law_deep", "_law_fork", "_law_one", "_law_other", "_law_name", "_law_body", "_law_rest"]
theorem sc_law_drawn_thing : FnScope N_law_drawn_thing ["_law_draw", "_law_kit", "_law_scope", "_law_deep"] (defScope s_law_drawn_thing) := ⟨rfl, rfl, rfl, by decide +kernel, rfl, by decide +kernel, by decide +kernel⟩
abbrev s_law_drawn_body : Stmt := topS 49
abbrev N_law_drawn_body : List Str := ["_law_draw", "_law_kit", "_law_scope", "_law_deep", "_law_found", "_law_k"]
theorem sc_law_drawn_body : FnScope N_law_drawn_body ["_law_draw", "_law_kit", "_law_scope", "_law_deep"] (defScope s_law_drawn_body) := ⟨rfl, rfl, rfl, by decide +kernel, rfl, by decide +kernel, by decide +kernel⟩
abbrev s_law_drawn : Stmt := topS 50
abbrev N_law_drawn : List Str := ["_law_draw", "_law_room", "_law_figures", "_law_wide"]
theorem sc_law_drawn : FnScope N_law_drawn ["_law_draw", "_law_room", "_law_figures", "_law_wide"] (defScope s_law_drawn) := ⟨rfl, rfl, rfl, by decide +kernel, rfl, by decide +kernel, by decide +kernel⟩
abbrev s_law_spoilt_text : Stmt := topS 51
abbrev N_law_spoilt_text : List Str := ["_law_draw", "_law_text", "_law_words", "_law_at", "_law_some", "_law_fork", "_law_place"]
theorem sc_law_spoilt_text : FnScope N_law_spoilt_text ["_law_draw", "_law_text"] (defScope s_law_spoilt_text) := ⟨rfl, rfl, rfl, by decide +kernel, rfl, by decide +kernel, by decide +kernel⟩
abbrev s_law_same : Stmt := topS 52
abbrev N_law_same : List Str := ["_law_found", "_law_due", "_law_one", "_law_other"]
theorem sc_law_same : FnScope N_law_same ["_law_found", "_law_due"] (defScope s_law_same) := ⟨rfl, rfl, rfl, by decide +kernel, rfl, by decide +kernel, by decide +kernel⟩
abbrev s_law_class : Stmt := topS 53
abbrev N_law_class : List Str := ["_law_e"]
theorem sc_law_class : FnScope N_law_class ["_law_e"] (defScope s_law_class) := ⟨rfl, rfl, rfl, by decide +kernel, rfl, by decide +kernel, by decide +kernel⟩
abbrev s_law_tried : Stmt := topS 54
abbrev N_law_tried : List Str := ["_law_ask", "_law_e"]
theorem sc_law_tried : FnScope N_law_tried ["_law_ask"] (defScope s_law_tried) := ⟨rfl, rfl, rfl, by decide +kernel, rfl, by decide +kernel, by decide +kernel⟩
abbrev s_law_cut_up : Stmt := topS 55
abbrev N_law_cut_up : List Str := ["_law_text", "_law_found", "_law_at", "_law_letters", "_law_figures", "_law_end", "_law_some", "_law_one", "_law_good"]
theorem sc_law_cut_up : FnScope N_law_cut_up ["_law_text"] (defScope s_law_cut_up) := ⟨rfl, rfl, rfl, by decide +kernel, rfl, by decide +kernel, by decide +kernel⟩
abbrev s_law_read_bracket : Stmt := topS 61
abbrev N_law_read_bracket : List Str := ["_law_signs", "_law_at", "_law_deep", "_law_room", "_law_body"]
theorem sc_law_read_bracket : FnScope N_law_read_bracket ["_law_signs", "_law_at", "_law_deep", "_law_room"] (defScope s_law_read_bracket) := ⟨rfl, rfl, rfl, by decide +kernel, rfl, by decide +kernel, by decide +kernel⟩
abbrev s_law_figure : Stmt := topS 56
abbrev N_law_figure : List Str := ["_law_word", "_law_low", "_law_high", "_law_sign"]
theorem sc_law_figure : FnScope N_law_figure ["_law_word", "_law_low", "_law_high"] (defScope s_law_figure) := ⟨rfl, rfl, rfl, by decide +kernel, rfl, by decide +kernel, by decide +kernel⟩
abbrev s_law_is_name : Stmt := topS 57
abbrev N_law_is_name : List Str := ["_law_word", "_law_good", "_law_sign"]
theorem sc_law_is_name : FnScope N_law_is_name ["_law_word"] (defScope s_law_is_name) := ⟨rfl, rfl, rfl, by decide +kernel, rfl, by decide +kernel, by decide +kernel⟩
abbrev s_law_read_end : Stmt := topS 58
abbrev N_law_read_end : List Str := ["_law_signs", "_law_at", "_law_word"]
theorem sc_law_read_end : FnScope N_law_read_end ["_law_signs", "_law_at"] (defScope s_law_read_end) := ⟨rfl, rfl, rfl, by decide +kernel, rfl, by decide +kernel, by decide +kernel⟩
abbrev s_law_read_leaf : Stmt := topS 59
abbrev N_law_read_leaf : List Str := ["_law_signs", "_law_at", "_law_word", "_law_good", "_law_end", "_law_after"]
theorem sc_law_read_leaf : FnScope N_law_read_leaf ["_law_signs", "_law_at"] (defScope s_law_read_leaf) := ⟨rfl, rfl, rfl, by decide +kernel, rfl, by decide +kernel, by decide +kernel⟩
abbrev s_law_read_ends : Stmt := topS 60
abbrev N_law_read_ends : List Str := ["_law_signs", "_law_at", "_law_middle", "_law_one", "_law_other"]
theorem sc_law_read_ends : FnScope N_law_read_ends ["_law_signs", "_law_at", "_law_middle"] (defScope s_law_read_ends) := ⟨rfl, rfl, rfl, by decide +kernel, rfl, by decide +kernel, by decide +kernel⟩
abbrev s_law_read_thing : Stmt := topS 62
abbrev N_law_read_thing : List Str := ["_law_signs", "_law_at", "_law_deep", "_law_room", "_law_word", "_law_head", "_law_ends", "_law_body", "_law_rest"]
theorem sc_law_read_thing : FnScope N_law_read_thing ["_law_signs", "_law_at", "_law_deep", "_law_room"] (defScope s_law_read_thing) := ⟨rfl, rfl, rfl, by decide +kernel, rfl, by decide +kernel, by decide +kernel⟩
abbrev s_law_read_body : Stmt := topS 63
abbrev N_law_read_body : List Str := ["_law_signs", "_law_at", "_law_deep", "_law_room", "_law_found", "_law_thing"]
theorem sc_law_read_body : FnScope N_law_read_body ["_law_signs", "_law_at", "_law_deep", "_law_room"] (defScope s_law_read_body) := ⟨rfl, rfl, rfl, by decide +kernel, rfl, by decide +kernel, by decide +kernel⟩
abbrev s_law_reading : Stmt := topS 64
abbrev N_law_reading : List Str := ["_law_text", "_law_signs", "_law_plan", "_law_at"]
theorem sc_law_reading : FnScope N_law_reading ["_law_text"] (defScope s_law_reading) := ⟨rfl, rfl, rfl, by decide +kernel, rfl, by decide +kernel, by decide +kernel⟩
abbrev s_Reader_passed : Stmt := inClass (topS 35) 2
abbrev N_Reader_passed : List Str := ["self", "kind", "thing"]
theorem sc_Reader_passed : FnScope N_Reader_passed ["self", "kind", "thing"] (defScope s_Reader_passed) := ⟨rfl, rfl, rfl, by decide +kernel, rfl, by decide +kernel, by decide +kernel⟩
abbrev s_Refused_init : Stmt := inClass (topS 13) 0
abbrev N_Refused_init : List Str := ["self", "word"]
theorem sc_Refused_init : FnScope N_Refused_init ["self", "word"] (defScope s_Refused_init) := ⟨rfl, rfl, rfl, by decide +kernel, rfl, by decide +kernel, by decide +kernel⟩
abbrev s_BadText_init : Stmt := inClass (topS 16) 0
abbrev N_BadText_init : List Str := ["self", "at"]
theorem sc_BadText_init : FnScope N_BadText_init ["self", "at"] (defScope s_BadText_init) := ⟨rfl, rfl, rfl, by decide +kernel, rfl, by decide +kernel, by decide +kernel⟩
abbrev s_Reader_bad : Stmt := inClass (topS 35) 1
abbrev N_Reader_bad : List Str := ["self"]
theorem sc_Reader_bad : FnScope N_Reader_bad ["self"] (defScope s_Reader_bad) := ⟨rfl, rfl, rfl, by decide +kernel, rfl, by decide +kernel, by decide +kernel⟩
abbrev s_Reader_want : Stmt := inClass (topS 35) 3
abbrev N_Reader_want : List Str := ["self", "kind", "thing"]
theorem sc_Reader_want : FnScope N_Reader_want ["self", "kind", "thing"] (defScope s_Reader_want) := ⟨rfl, rfl, rfl, by decide +kernel, rfl, by decide +kernel, by decide +kernel⟩
abbrev s_Reader_number : Stmt := inClass (topS 35) 4
abbrev N_Reader_number : List Str := ["self", "least", "most", "kind", "thing", "at"]
theorem sc_Reader_number : FnScope N_Reader_number ["self", "least", "most"] (defScope s_Reader_number) := ⟨rfl, rfl, rfl, by decide +kernel, rfl, by decide +kernel, by decide +kernel⟩
abbrev s_is_name : Stmt := topS 11
abbrev N_is_name : List Str := ["text", "sign"]
theorem sc_is_name : FnScope N_is_name ["text"] (defScope s_is_name) := ⟨rfl, rfl, rfl, by decide +kernel, rfl, by decide +kernel, by decide +kernel⟩
abbrev s_Reader_plain_name : Stmt := inClass (topS 35) 5
abbrev N_Reader_plain_name : List Str := ["self", "kind", "thing", "at"]
theorem sc_Reader_plain_name : FnScope N_Reader_plain_name ["self"] (defScope s_Reader_plain_name) := ⟨rfl, rfl, rfl, by decide +kernel, rfl, by decide +kernel, by decide +kernel⟩
abbrev s_Reader_end : Stmt := inClass (topS 35) 6
abbrev N_Reader_end : List Str := ["self", "name"]
theorem sc_Reader_end : FnScope N_Reader_end ["self"] (defScope s_Reader_end) := ⟨rfl, rfl, rfl, by decide +kernel, rfl, by decide +kernel, by decide +kernel⟩
abbrev s_Reader_bracket : Stmt := inClass (topS 35) 7
abbrev N_Reader_bracket : List Str := ["self", "deep", "found"]
theorem sc_Reader_bracket : FnScope N_Reader_bracket ["self", "deep"] (defScope s_Reader_bracket) := ⟨rfl, rfl, rfl, by decide +kernel, rfl, by decide +kernel, by decide +kernel⟩
abbrev s_Reader_going : Stmt := inClass (topS 35) 10
abbrev N_Reader_going : List Str := ["self", "deep", "name", "low", "high"]
theorem sc_Reader_going : FnScope N_Reader_going ["self", "deep"] (defScope s_Reader_going) := ⟨rfl, rfl, rfl, by decide +kernel, rfl, by decide +kernel, by decide +kernel⟩
abbrev s_Reader_choice : Stmt := inClass (topS 35) 11
abbrev N_Reader_choice : List Str := ["self", "deep", "one", "other", "body", "rest"]
theorem sc_Reader_choice : FnScope N_Reader_choice ["self", "deep"] (defScope s_Reader_choice) := ⟨rfl, rfl, rfl, by decide +kernel, rfl, by decide +kernel, by decide +kernel⟩
abbrev s_Reader_thing : Stmt := inClass (topS 35) 9
abbrev N_Reader_thing : List Str := ["self", "deep", "name", "many", "way"]
theorem sc_Reader_thing : FnScope N_Reader_thing ["self", "deep"] (defScope s_Reader_thing) := ⟨rfl, rfl, rfl, by decide +kernel, rfl, by decide +kernel, by decide +kernel⟩
abbrev s_Reader_body : Stmt := inClass (topS 35) 8
abbrev N_Reader_body : List Str := ["self", "deep", "found"]
theorem sc_Reader_body : FnScope N_Reader_body ["self", "deep"] (defScope s_Reader_body) := ⟨rfl, rfl, rfl, by decide +kernel, rfl, by decide +kernel, by decide +kernel⟩
abbrev s_run_of : Stmt := topS 32
abbrev N_run_of : List Str := ["text", "at", "some"]
theorem sc_run_of : FnScope N_run_of ["text", "at", "some"] (defScope s_run_of) := ⟨rfl, rfl, rfl, by decide +kernel, rfl, by decide +kernel, by decide +kernel⟩
abbrev s_sign_at : Stmt := topS 33
abbrev N_sign_at : List Str := ["text", "at", "behind"]
theorem sc_sign_at : FnScope N_sign_at ["text", "at"] (defScope s_sign_at) := ⟨rfl, rfl, rfl, by decide +kernel, rfl, by decide +kernel, by decide +kernel⟩
abbrev s_signs_of : Stmt := topS 34
abbrev N_signs_of : List Str := ["text", "found", "at", "kind", "thing", "behind"]
theorem sc_signs_of : FnScope N_signs_of ["text"] (defScope s_signs_of) := ⟨rfl, rfl, rfl, by decide +kernel, rfl, by decide +kernel, by decide +kernel⟩
abbrev s_Reader_init : Stmt := inClass (topS 35) 0
abbrev N_Reader_init : List Str := ["self", "text"]
theorem sc_Reader_init : FnScope N_Reader_init ["self", "text"] (defScope s_Reader_init) := ⟨rfl, rfl, rfl, by decide +kernel, rfl, by decide +kernel, by decide +kernel⟩
abbrev s_read_plan : Stmt := topS 36
abbrev N_read_plan : List Str := ["text", "reader", "found"]
theorem sc_read_plan : FnScope N_read_plan ["text"] (defScope s_read_plan) := ⟨rfl, rfl, rfl, by decide +kernel, rfl, by decide +kernel, by decide +kernel⟩
abbrev s_law : Stmt := topS 65
abbrev N_law : List Str := ["_law_script", "_law_draw", "_law_turn", "_law_step", "_law_few", "_law_text"]
theorem sc_law : FnScope N_law ["_law_script"] (defScope s_law) := ⟨rfl, rfl, rfl, by decide +kernel, rfl, by decide +kernel, by decide +kernel⟩
structure Txt (K : PySem.W.Frag) (mg : Str → Option Value) : Type where
  a_law_begin : Addr
  d_law_begin : FuncData
  F_law_begin : Fun K "_law_begin" "_law_begin" s_law_begin a_law_begin d_law_begin
  b_law_begin : Binds K d_law_begin ["_law_script"] []
  g_law_begin : mg "_law_begin" = some (.ref a_law_begin)
  a_law_end_text : Addr
  d_law_end_text : FuncData
  F_law_end_text : Fun K "_law_end_text" "_law_end_text" s_law_end_text a_law_end_text d_law_end_text
  b_law_end_text : Binds K d_law_end_text ["_law_end"] []
  g_law_end_text : mg "_law_end_text" = some (.ref a_law_end_text)
  a_law_thing_text : Addr
  d_law_thing_text : FuncData
  F_law_thing_text : Fun K "_law_thing_text" "_law_thing_text" s_law_thing_text a_law_thing_text d_law_thing_text
  b_law_thing_text : Binds K d_law_thing_text ["_law_thing"] []
  g_law_thing_text : mg "_law_thing_text" = some (.ref a_law_thing_text)
  a_law_written : Addr
  d_law_written : FuncData
  F_law_written : Fun K "_law_written" "_law_written" s_law_written a_law_written d_law_written
  b_law_written : Binds K d_law_written ["_law_plan"] []
  g_law_written : mg "_law_written" = some (.ref a_law_written)
  a_law_take : Addr
  d_law_take : FuncData
  F_law_take : Fun K "_law_take" "_law_take" s_law_take a_law_take d_law_take
  b_law_take : Binds K d_law_take ["_law_draw", "_law_sides"] []
  g_law_take : mg "_law_take" = some (.ref a_law_take)
  a_law_pick : Addr
  d_law_pick : FuncData
  F_law_pick : Fun K "_law_pick" "_law_pick" s_law_pick a_law_pick d_law_pick
  b_law_pick : Binds K d_law_pick ["_law_draw", "_law_row"] []
  g_law_pick : mg "_law_pick" = some (.ref a_law_pick)
  a_law_some_end : Addr
  d_law_some_end : FuncData
  F_law_some_end : Fun K "_law_some_end" "_law_some_end" s_law_some_end a_law_some_end d_law_some_end
  b_law_some_end : Binds K d_law_some_end ["_law_draw", "_law_scope", "_law_wide"] []
  g_law_some_end : mg "_law_some_end" = some (.ref a_law_some_end)
  a_law_leaf : Addr
  d_law_leaf : FuncData
  F_law_leaf : Fun K "_law_leaf" "_law_leaf" s_law_leaf a_law_leaf d_law_leaf
  b_law_leaf : Binds K d_law_leaf ["_law_draw", "_law_kit", "_law_scope", "_law_deep"] []
  g_law_leaf : mg "_law_leaf" = some (.ref a_law_leaf)
  a_law_kept_words : Addr
  d_law_kept_words : FuncData
  F_law_kept_words : Fun K "_law_kept_words" "_law_kept_words" s_law_kept_words a_law_kept_words d_law_kept_words
  b_law_kept_words : Binds K d_law_kept_words [] []
  g_law_kept_words : mg "_law_kept_words" = some (.ref a_law_kept_words)
  a_law_fresh : Addr
  d_law_fresh : FuncData
  F_law_fresh : Fun K "_law_fresh" "_law_fresh" s_law_fresh a_law_fresh d_law_fresh
  b_law_fresh : Binds K d_law_fresh ["_law_draw", "_law_taken"] []
  g_law_fresh : mg "_law_fresh" = some (.ref a_law_fresh)
  a_law_drawn_thing : Addr
  d_law_drawn_thing : FuncData
  F_law_drawn_thing : Fun K "_law_drawn_thing" "_law_drawn_thing" s_law_drawn_thing a_law_drawn_thing d_law_drawn_thing
  b_law_drawn_thing : Binds K d_law_drawn_thing ["_law_draw", "_law_kit", "_law_scope", "_law_deep"] []
  g_law_drawn_thing : mg "_law_drawn_thing" = some (.ref a_law_drawn_thing)
  a_law_drawn_body : Addr
  d_law_drawn_body : FuncData
  F_law_drawn_body : Fun K "_law_drawn_body" "_law_drawn_body" s_law_drawn_body a_law_drawn_body d_law_drawn_body
  b_law_drawn_body : Binds K d_law_drawn_body ["_law_draw", "_law_kit", "_law_scope", "_law_deep"] []
  g_law_drawn_body : mg "_law_drawn_body" = some (.ref a_law_drawn_body)
  a_law_drawn : Addr
  d_law_drawn : FuncData
  F_law_drawn : Fun K "_law_drawn" "_law_drawn" s_law_drawn a_law_drawn d_law_drawn
  b_law_drawn : Binds K d_law_drawn ["_law_draw", "_law_room", "_law_figures", "_law_wide"] []
  g_law_drawn : mg "_law_drawn" = some (.ref a_law_drawn)
  a_law_spoilt_text : Addr
  d_law_spoilt_text : FuncData
  F_law_spoilt_text : Fun K "_law_spoilt_text" "_law_spoilt_text" s_law_spoilt_text a_law_spoilt_text d_law_spoilt_text
  b_law_spoilt_text : Binds K d_law_spoilt_text ["_law_draw", "_law_text"] []
  g_law_spoilt_text : mg "_law_spoilt_text" = some (.ref a_law_spoilt_text)
  a_law_same : Addr
  d_law_same : FuncData
  F_law_same : Fun K "_law_same" "_law_same" s_law_same a_law_same d_law_same
  b_law_same : Binds K d_law_same ["_law_found", "_law_due"] []
  g_law_same : mg "_law_same" = some (.ref a_law_same)
  a_law_class : Addr
  d_law_class : FuncData
  F_law_class : Fun K "_law_class" "_law_class" s_law_class a_law_class d_law_class
  b_law_class : Binds K d_law_class ["_law_e"] []
  g_law_class : mg "_law_class" = some (.ref a_law_class)
  a_law_tried : Addr
  d_law_tried : FuncData
  F_law_tried : Fun K "_law_tried" "_law_tried" s_law_tried a_law_tried d_law_tried
  b_law_tried : Binds K d_law_tried ["_law_ask"] []
  g_law_tried : mg "_law_tried" = some (.ref a_law_tried)
  a_law_cut_up : Addr
  d_law_cut_up : FuncData
  F_law_cut_up : Fun K "_law_cut_up" "_law_cut_up" s_law_cut_up a_law_cut_up d_law_cut_up
  b_law_cut_up : Binds K d_law_cut_up ["_law_text"] []
  g_law_cut_up : mg "_law_cut_up" = some (.ref a_law_cut_up)
  a_law_read_bracket : Addr
  d_law_read_bracket : FuncData
  F_law_read_bracket : Fun K "_law_read_bracket" "_law_read_bracket" s_law_read_bracket a_law_read_bracket d_law_read_bracket
  b_law_read_bracket : Binds K d_law_read_bracket ["_law_signs", "_law_at", "_law_deep", "_law_room"] []
  g_law_read_bracket : mg "_law_read_bracket" = some (.ref a_law_read_bracket)
  a_law_figure : Addr
  d_law_figure : FuncData
  F_law_figure : Fun K "_law_figure" "_law_figure" s_law_figure a_law_figure d_law_figure
  b_law_figure : Binds K d_law_figure ["_law_word", "_law_low", "_law_high"] []
  g_law_figure : mg "_law_figure" = some (.ref a_law_figure)
  a_law_is_name : Addr
  d_law_is_name : FuncData
  F_law_is_name : Fun K "_law_is_name" "_law_is_name" s_law_is_name a_law_is_name d_law_is_name
  b_law_is_name : Binds K d_law_is_name ["_law_word"] []
  g_law_is_name : mg "_law_is_name" = some (.ref a_law_is_name)
  a_law_read_end : Addr
  d_law_read_end : FuncData
  F_law_read_end : Fun K "_law_read_end" "_law_read_end" s_law_read_end a_law_read_end d_law_read_end
  b_law_read_end : Binds K d_law_read_end ["_law_signs", "_law_at"] []
  g_law_read_end : mg "_law_read_end" = some (.ref a_law_read_end)
  a_law_read_leaf : Addr
  d_law_read_leaf : FuncData
  F_law_read_leaf : Fun K "_law_read_leaf" "_law_read_leaf" s_law_read_leaf a_law_read_leaf d_law_read_leaf
  b_law_read_leaf : Binds K d_law_read_leaf ["_law_signs", "_law_at"] []
  g_law_read_leaf : mg "_law_read_leaf" = some (.ref a_law_read_leaf)
  a_law_read_ends : Addr
  d_law_read_ends : FuncData
  F_law_read_ends : Fun K "_law_read_ends" "_law_read_ends" s_law_read_ends a_law_read_ends d_law_read_ends
  b_law_read_ends : Binds K d_law_read_ends ["_law_signs", "_law_at", "_law_middle"] []
  g_law_read_ends : mg "_law_read_ends" = some (.ref a_law_read_ends)
  a_law_read_thing : Addr
  d_law_read_thing : FuncData
  F_law_read_thing : Fun K "_law_read_thing" "_law_read_thing" s_law_read_thing a_law_read_thing d_law_read_thing
  b_law_read_thing : Binds K d_law_read_thing ["_law_signs", "_law_at", "_law_deep", "_law_room"] []
  g_law_read_thing : mg "_law_read_thing" = some (.ref a_law_read_thing)
  a_law_read_body : Addr
  d_law_read_body : FuncData
  F_law_read_body : Fun K "_law_read_body" "_law_read_body" s_law_read_body a_law_read_body d_law_read_body
  b_law_read_body : Binds K d_law_read_body ["_law_signs", "_law_at", "_law_deep", "_law_room"] []
  g_law_read_body : mg "_law_read_body" = some (.ref a_law_read_body)
  a_law_reading : Addr
  d_law_reading : FuncData
  F_law_reading : Fun K "_law_reading" "_law_reading" s_law_reading a_law_reading d_law_reading
  b_law_reading : Binds K d_law_reading ["_law_text"] []
  g_law_reading : mg "_law_reading" = some (.ref a_law_reading)
  a_Reader_passed : Addr
  d_Reader_passed : FuncData
  F_Reader_passed : Fun K "passed" "Reader.passed" s_Reader_passed a_Reader_passed d_Reader_passed
  b_Reader_passed : Binds K d_Reader_passed ["self", "kind", "thing"] []
  a_Refused_init : Addr
  d_Refused_init : FuncData
  F_Refused_init : FunD K "__init__" "Refused.__init__" (defArgs s_Refused_init) (defBody s_Refused_init) (defScope s_Refused_init) [V.str "Refused"] [] a_Refused_init d_Refused_init
  b_Refused_init : Binds K d_Refused_init ["self", "word"] []
  a_BadText_init : Addr
  d_BadText_init : FuncData
  F_BadText_init : FunD K "__init__" "BadText.__init__" (defArgs s_BadText_init) (defBody s_BadText_init) (defScope s_BadText_init) [V.int 0] [] a_BadText_init d_BadText_init
  b_BadText_init : Binds K d_BadText_init ["self", "at"] []
  a_Reader_bad : Addr
  d_Reader_bad : FuncData
  F_Reader_bad : Fun K "bad" "Reader.bad" s_Reader_bad a_Reader_bad d_Reader_bad
  b_Reader_bad : Binds K d_Reader_bad ["self"] []
  a_Reader_want : Addr
  d_Reader_want : FuncData
  F_Reader_want : Fun K "want" "Reader.want" s_Reader_want a_Reader_want d_Reader_want
  b_Reader_want : Binds K d_Reader_want ["self", "kind", "thing"] []
  a_Reader_number : Addr
  d_Reader_number : FuncData
  F_Reader_number : Fun K "number" "Reader.number" s_Reader_number a_Reader_number d_Reader_number
  b_Reader_number : Binds K d_Reader_number ["self", "least", "most"] []
  a_is_name : Addr
  d_is_name : FuncData
  F_is_name : Fun K "is_name" "is_name" s_is_name a_is_name d_is_name
  b_is_name : Binds K d_is_name ["text"] []
  g_is_name : mg "is_name" = some (.ref a_is_name)
  a_Reader_plain_name : Addr
  d_Reader_plain_name : FuncData
  F_Reader_plain_name : Fun K "plain_name" "Reader.plain_name" s_Reader_plain_name a_Reader_plain_name d_Reader_plain_name
  b_Reader_plain_name : Binds K d_Reader_plain_name ["self"] []
  a_Reader_end : Addr
  d_Reader_end : FuncData
  F_Reader_end : Fun K "end" "Reader.end" s_Reader_end a_Reader_end d_Reader_end
  b_Reader_end : Binds K d_Reader_end ["self"] []
  a_Reader_bracket : Addr
  d_Reader_bracket : FuncData
  F_Reader_bracket : Fun K "bracket" "Reader.bracket" s_Reader_bracket a_Reader_bracket d_Reader_bracket
  b_Reader_bracket : Binds K d_Reader_bracket ["self", "deep"] []
  a_Reader_going : Addr
  d_Reader_going : FuncData
  F_Reader_going : Fun K "going" "Reader.going" s_Reader_going a_Reader_going d_Reader_going
  b_Reader_going : Binds K d_Reader_going ["self", "deep"] []
  a_Reader_choice : Addr
  d_Reader_choice : FuncData
  F_Reader_choice : Fun K "choice" "Reader.choice" s_Reader_choice a_Reader_choice d_Reader_choice
  b_Reader_choice : Binds K d_Reader_choice ["self", "deep"] []
  a_Reader_thing : Addr
  d_Reader_thing : FuncData
  F_Reader_thing : Fun K "thing" "Reader.thing" s_Reader_thing a_Reader_thing d_Reader_thing
  b_Reader_thing : Binds K d_Reader_thing ["self", "deep"] []
  a_Reader_body : Addr
  d_Reader_body : FuncData
  F_Reader_body : Fun K "body" "Reader.body" s_Reader_body a_Reader_body d_Reader_body
  b_Reader_body : Binds K d_Reader_body ["self", "deep"] []
  a_run_of : Addr
  d_run_of : FuncData
  F_run_of : Fun K "run_of" "run_of" s_run_of a_run_of d_run_of
  b_run_of : Binds K d_run_of ["text", "at", "some"] []
  g_run_of : mg "run_of" = some (.ref a_run_of)
  a_sign_at : Addr
  d_sign_at : FuncData
  F_sign_at : Fun K "sign_at" "sign_at" s_sign_at a_sign_at d_sign_at
  b_sign_at : Binds K d_sign_at ["text", "at"] []
  g_sign_at : mg "sign_at" = some (.ref a_sign_at)
  a_signs_of : Addr
  d_signs_of : FuncData
  F_signs_of : Fun K "signs_of" "signs_of" s_signs_of a_signs_of d_signs_of
  b_signs_of : Binds K d_signs_of ["text"] []
  g_signs_of : mg "signs_of" = some (.ref a_signs_of)
  a_Reader_init : Addr
  d_Reader_init : FuncData
  F_Reader_init : Fun K "__init__" "Reader.__init__" s_Reader_init a_Reader_init d_Reader_init
  b_Reader_init : Binds K d_Reader_init ["self", "text"] []
  a_read_plan : Addr
  d_read_plan : FuncData
  F_read_plan : Fun K "read_plan" "read_plan" s_read_plan a_read_plan d_read_plan
  b_read_plan : Binds K d_read_plan ["text"] []
  g_read_plan : mg "read_plan" = some (.ref a_read_plan)
  a_law : Addr
  d_law : FuncData
  F_law : Fun K "law" "law" s_law a_law d_law
  b_law : Binds K d_law ["_law_script"] []
  g_law : mg "law" = some (.ref a_law)
  c_Reader : Addr
  cl_Reader : Cls K c_Reader
  gc_Reader : mg "Reader" = some (.ref c_Reader)
  me_Reader_passed : Meth K c_Reader "passed" a_Reader_passed
  me_Reader_bad : Meth K c_Reader "bad" a_Reader_bad
  me_Reader_want : Meth K c_Reader "want" a_Reader_want
  me_Reader_number : Meth K c_Reader "number" a_Reader_number
  me_Reader_plain_name : Meth K c_Reader "plain_name" a_Reader_plain_name
  me_Reader_end : Meth K c_Reader "end" a_Reader_end
  me_Reader_bracket : Meth K c_Reader "bracket" a_Reader_bracket
  me_Reader_going : Meth K c_Reader "going" a_Reader_going
  me_Reader_choice : Meth K c_Reader "choice" a_Reader_choice
  me_Reader_thing : Meth K c_Reader "thing" a_Reader_thing
  me_Reader_body : Meth K c_Reader "body" a_Reader_body
  mk_Reader : Mk K c_Reader a_Reader_init
  na_Reader_signs : NoAttr K c_Reader "signs"
  na_Reader_spot : NoAttr K c_Reader "spot"
  na_Reader_many : NoAttr K c_Reader "many"
  x_Refused : Addr
  gx_Refused : mg "Refused" = some (.ref x_Refused)
  x_Misread : Addr
  gx_Misread : mg "Misread" = some (.ref x_Misread)
  x_Unfit : Addr
  gx_Unfit : mg "Unfit" = some (.ref x_Unfit)
  x_BadText : Addr
  gx_BadText : mg "BadText" = some (.ref x_BadText)
  x_BadPage : Addr
  gx_BadPage : mg "BadPage" = some (.ref x_BadPage)
  x_Stopped : Addr
  gx_Stopped : mg "Stopped" = some (.ref x_Stopped)
  x_NoName : Addr
  gx_NoName : mg "NoName" = some (.ref x_NoName)
  x_Twice : Addr
  gx_Twice : mg "Twice" = some (.ref x_Twice)
  x_NoPlan : Addr
  gx_NoPlan : mg "NoPlan" = some (.ref x_NoPlan)
  x_NoLabel : Addr
  gx_NoLabel : mg "NoLabel" = some (.ref x_NoLabel)
  x_Taken : Addr
  gx_Taken : mg "Taken" = some (.ref x_Taken)
  x_Ring : Addr
  gx_Ring : mg "Ring" = some (.ref x_Ring)
  x_NotPlain : Addr
  gx_NotPlain : mg "NotPlain" = some (.ref x_NotPlain)
  x_Tangled : Addr
  gx_Tangled : mg "Tangled" = some (.ref x_Tangled)
  x_Breaks : Addr
  gx_Breaks : mg "Breaks" = some (.ref x_Breaks)
  x_InUse : Addr
  gx_InUse : mg "InUse" = some (.ref x_InUse)
  x_Uneven : Addr
  gx_Uneven : mg "Uneven" = some (.ref x_Uneven)
  ox_BadText : OexC K x_BadText
  in_BadText : PySem.W.findIn K (.ref x_BadText) "__init__" = some (some (.ref a_BadText_init))
  ti_BadText : PySem.W.typeIn K (.ref a_BadText_init) = some (.type "function")
  ce_BadText : ClsE K x_BadText
  nf_BadText_word : PySem.W.findIn K (.ref x_BadText) "word" = some none
  nf_BadText_at : PySem.W.findIn K (.ref x_BadText) "at" = some none
  em_BadText_BadText : PySem.W.exmOne K (.ref x_BadText) (.ref x_BadText) = some true
  em_BadText_BadPage : PySem.W.exmOne K (.ref x_BadText) (.ref x_BadPage) = some false
  em_BadText_Stopped : PySem.W.exmOne K (.ref x_BadText) (.ref x_Stopped) = some false
  em_BadText_Refused : PySem.W.exmOne K (.ref x_BadText) (.ref x_Refused) = some true
  et_BadText : PySem.W.exmAny K (.ref x_BadText) [.ref x_NoName, .ref x_Twice, .ref x_NoPlan, .ref x_NoLabel, .ref x_Taken, .ref x_Ring, .ref x_NotPlain, .ref x_Tangled, .ref x_Breaks, .ref x_InUse, .ref x_Uneven] = some false
  ki_BadText_Misread : PySem.W.kitOne K (.ref x_BadText) (.ref x_Misread) = some true
  ki_BadText_Unfit : PySem.W.kitOne K (.ref x_BadText) (.ref x_Unfit) = some false
  ki_BadText_VE : PySem.W.kitOne K (.ref x_BadText) (.type "ValueError") = some true
  sg_Misread : PySem.W.specialIn K (.ref x_Misread) "__getattribute__" = some (some (.builtin "type.__getattribute__"))
  rd_Misread : PySem.W.readsIn K x_Misread (.type "type") = true
  fc_Misread : PySem.W.findCls K (.ref x_Misread) (.type "type") "__init__" = some (.val (.ref a_Refused_init))
  z_ValueError : mg "ValueError" = none
  z_abs : mg "abs" = none
  z_all : mg "all" = none
  z_bool : mg "bool" = none
  z_int : mg "int" = none
  z_isinstance : mg "isinstance" = none
  z_len : mg "len" = none
  z_list : mg "list" = none
  z_min : mg "min" = none
  z_range : mg "range" = none
  z_sorted : mg "sorted" = none
  z_str : mg "str" = none
  z_tuple : mg "tuple" = none
  z_zip : mg "zip" = none
  u_DIGITS : Value
  m_DIGITS : mg "DIGITS" = some u_DIGITS
  r_DIGITS : RelV (.str "0123456789") u_DIGITS
  u_LETTERS : Value
  m_LETTERS : mg "LETTERS" = some u_LETTERS
  r_LETTERS : RelV (.str "abcdefghijklmnopqrstuvwxyz") u_LETTERS
  u_LONGEST : Value
  m_LONGEST : mg "LONGEST" = some u_LONGEST
  r_LONGEST : RelV (.int 8) u_LONGEST
  u_MOST_AGAIN : Value
  m_MOST_AGAIN : mg "MOST_AGAIN" = some u_MOST_AGAIN
  r_MOST_AGAIN : RelV (.int 9) u_MOST_AGAIN
  u_MOST_DEEP : Value
  m_MOST_DEEP : mg "MOST_DEEP" = some u_MOST_DEEP
  r_MOST_DEEP : RelV (.int 4) u_MOST_DEEP
  u_MOST_PLUS : Value
  m_MOST_PLUS : mg "MOST_PLUS" = some u_MOST_PLUS
  r_MOST_PLUS : RelV (.int 99) u_MOST_PLUS
  u_MOST_STEP : Value
  m_MOST_STEP : mg "MOST_STEP" = some u_MOST_STEP
  r_MOST_STEP : RelV (.int 99) u_MOST_STEP
  u_MOST_THINGS : Value
  m_MOST_THINGS : mg "MOST_THINGS" = some u_MOST_THINGS
  r_MOST_THINGS : RelV (.int 12) u_MOST_THINGS
  u_SIZE : Value
  m_SIZE : mg "SIZE" = some u_SIZE
  r_SIZE : RelV (.str "n") u_SIZE
  u_WAYS : Value
  m_WAYS : mg "WAYS" = some u_WAYS
  p_WAYS : Addr
  r_WAYS : RelV (.ref p_WAYS) u_WAYS
  q_WAYS : ∀ H : Hp, SqT K H p_WAYS ((["halves", "thirds", "less"] : List Str).map V.str)
  u_WORDS : Value
  m_WORDS : mg "WORDS" = some u_WORDS
  p_WORDS : Addr
  r_WORDS : RelV (.ref p_WORDS) u_WORDS
  q_WORDS : ∀ H : Hp, SqT K H p_WORDS ((["step", "for", "from", "to", "if", "else", "double", "call", "with", "again", "on", "halves", "thirds", "less", "n"] : List Str).map V.str)
section
variable {P : Program} {w : World} {K : PySem.W.Frag} {mg : Str → Option Value} {base : Heap}
/-- a fresh draw -/
def spBegin (K : PySem.W.Frag) : Sp := fun vs H Q _ => ∃ (a : Addr) (ns : List Int), vs = [.ref a] ∧ SqL K H a (ns.map V.int) ∧ ns.length ≤ 63 ∧
  ∀ d l H', H d = none → H l = none → Same H H' → DrawAt H' d l → Q (.ref d) H'
theorem ok_law_begin (T : Txt K mg) : FnOk P w K mg base CX0 1 T.a_law_begin T.d_law_begin ["_law_script"] (spBegin K) := by
  refine T.F_law_begin.ok sc_law_begin (fun vs H Q E h => ?_) (fun cdv A outer s H vs Q E hr h => ?_)
  · obtain ⟨a, ns, rfl, _⟩ := h
    rfl
  obtain ⟨a, ns, rfl, hS, hl, k⟩ := h
  refine ⟨_, (pss_one (ps_ret (pe_lst (pa_cons (pe_callTy call_list_of (by rfl) T.z_list (by decide +kernel) (pa_cons (pe_slice sl_list (pv 0) po_none (po_some pe_int)) pa_nil)) (pa_cons pe_int (pa_cons pe_int (pa_cons pe_int pa_nil))))))), ?_⟩
  refine ⟨.ref a, rfl, 63, rfl, a, _, rfl, hS, fun p hp => ?_⟩
  refine ⟨p, _, rfl, .inl (SqL.of upd_same), fun l hl2 => ?_⟩
  refine ⟨by show 4 ≤ sizeLine; decide, fun d hd => ?_⟩
  have s1 : Same H _ := (same_upd (o := .lst (cutV (ns.map V.int) none (some 63))) hp)
  have s2 := s1.trans (same_upd (o := .lst (cutV (ns.map V.int) none (some 63))) hl2)
  have s3 := s2.trans (same_upd (o := .lst [.ref l, .int 0, .int 0, .int 37]) hd)
  have nld : l ≠ d := fun e => by
    rw [← e, upd_same] at hd
    cases hd
  refine k d l _ (s2.free hd) (s1.free hl2) s3 ⟨⟨ns.take 63, 0, 0, 37, upd_same, ?_, by decide, by decide, by decide, by decide, ?_⟩⟩
  · rw [upd_ne nld, upd_same]
    have e : cutV (ns.map V.int) none (some 63) = (ns.take 63).map V.int := by
      unfold cutV
      rw [HT.sIx_none, show HT.sIx (ns.map V.int).length (ns.map V.int).length (some 63) = min 63 (ns.map V.int).length from HT.sIx_nat _ _ 63, List.drop_zero, Nat.sub_zero]
      rw [List.map_take, List.length_map, List.take_eq_take_iff]
      simp
    rw [e]
  · rw [List.length_take]
    omega
theorem ok_law_end_text (T : Txt K mg) : FnOk P w K mg base CX0 1 T.a_law_end_text T.d_law_end_text ["_law_end"] (spEndText K) := by
  refine T.F_law_end_text.ok sc_law_end_text (fun vs H Q E h => ?_) (fun cdv A outer s H vs Q E hr h => ?_)
  · obtain ⟨v, e, rfl, _⟩ := h
    rfl
  obtain ⟨v, e, rfl, de, es, k⟩ := h
  obtain ⟨a, x, y, rfl, hs, dx, dy⟩ := de.tup2
  cases dx.str'
  cases dy.int'
  refine ⟨_, (pss_cons (ps_if (pt_cmpR op_eq (pe_ix ix_tup (pv 0) pe_int (fun _ _ => rfl)) pe_str (nomark _)) (pss_one (ps_ret (pe_callTy call_str_int (by rfl) T.z_str (by decide +kernel) (pa_cons (pe_ix ix_tup (pv 0) pe_int (fun _ _ => rfl)) pa_nil)))) pss_nil)
      (pss_cons (ps_if (pt_cmpR op_eq (pe_ix ix_tup (pv 0) pe_int (fun _ _ => rfl)) pe_int (nomark _)) (pss_one (ps_ret (pe_ix ix_tup (pv 0) pe_int (fun _ _ => rfl)))) pss_nil)
      (pss_one (ps_ret (pe_op op_add_str (pe_op op_add_str (pe_ix ix_tup (pv 0) pe_int (fun _ _ => rfl)) (pe_ix ix_list (pe_lst (pa_cons pe_str (pa_cons pe_str pa_nil))) (pe_callTy call_int1 (by rfl) T.z_int (by decide +kernel) (pa_cons (pe_cmpR op_lt (pe_ix ix_tup (pv 0) pe_int (fun _ _ => rfl)) pe_int (nomark _)) pa_nil)) (fun _ _ => rfl))) (pe_callTy call_str_int (by rfl) T.z_str (by decide +kernel) (pa_cons (pe_callB call_abs (by rfl) T.z_abs (by decide +kernel) (pa_cons (pe_ix ix_tup (pv 0) pe_int (fun _ _ => rfl)) pa_nil)) pa_nil))))))), ?_⟩
  have l1 := es.1.1
  have c1 : (Str.ofString " + ").length = 3 := by decide
  have c2 : (Str.ofString " - ").length = 3 := by decide
  have i0 : atI [V.str e.1, V.int e.2] 0 = some (.str e.1) := rfl
  have i1 : atI [V.str e.1, V.int e.2] 1 = some (.int e.2) := rfl
  refine ⟨_, rfl, a, _, _, _, rfl, rfl, hs, i0, rfl, _, rfl, ?_⟩
  unfold endT at k
  refine ite2 (fun c => ?_) (fun c => ?_)
  · have c' : e.1 = "" := V.str.inj (of_decide_eq_true c)
    rw [if_pos c'] at k
    exact ⟨_, rfl, a, _, _, _, rfl, rfl, hs, i1, _, rfl, Nat.lt_trans es.2 (by decide), k _ (Same.refl _)⟩
  have c' : ¬ e.1 = "" := fun z => c (decide_eq_true (congrArg V.str z))
  rw [if_neg c'] at k
  refine ⟨_, rfl, a, _, _, _, rfl, rfl, hs, i1, rfl, _, rfl, ?_⟩
  refine ite2 (fun d => ?_) (fun d => ?_)
  · have d' : e.2 = 0 := V.int.inj (of_decide_eq_true d)
    rw [if_pos d'] at k
    exact ⟨_, rfl, a, _, _, _, rfl, rfl, hs, i0, k _ (Same.refl _)⟩
  have d' : ¬ e.2 = 0 := fun z => d (decide_eq_true (congrArg V.int z))
  rw [if_neg d'] at k
  refine ⟨_, rfl, a, _, _, _, rfl, rfl, hs, i0, by show 2 ≤ sizeLine; decide, fun L hL => ?_⟩
  have s1 := same_upd (o := .lst [.str " + ", .str " - "]) hL
  have hs1 := same_t s1 hs
  obtain ⟨z, hz, hk, hz3⟩ : ∃ z : Str, atI [V.str " + ", V.str " - "] (if decide (e.2 < 0) = true then 1 else 0) = some (.str z) ∧ (if 0 < e.2 then e.1 ++ " + " ++ num e.2 else e.1 ++ " - " ++ num (0 - e.2)) = e.1 ++ z ++ num (if e.2 < 0 then -e.2 else e.2) ∧ z.length = 3 := by
    by_cases p : 0 < e.2
    · rw [if_pos p, if_neg (show ¬ e.2 < 0 by omega), decide_eq_false (show ¬ e.2 < 0 by omega)]
      exact ⟨_, rfl, rfl, by decide⟩
    · rw [if_neg p, if_pos (show e.2 < 0 by omega), decide_eq_true (show e.2 < 0 by omega), show 0 - e.2 = -e.2 by omega]
      exact ⟨_, rfl, rfl, by decide⟩
  rw [hk] at k
  have lg : (if e.2 < 0 then -e.2 else e.2).natAbs.log2 < 400 := by
    split
    · rw [Int.natAbs_neg]
      exact es.2
    · exact es.2
  have l3 := num_len' lg
  refine ⟨_, rfl, a, _, _, _, rfl, rfl, hs1, i1, _, _, rfl, rfl, .inr ⟨_, rfl, L, _, _, _, rfl, rfl, SqL.of upd_same, hz, _, _, rfl, rfl, (by show _ ≤ 16777216; (try simp only [str_len, str_e0]); omega), _, rfl, a, _, _, _, rfl, rfl, hs1, i1, _, rfl, _, rfl, Nat.lt_trans lg (by decide), _, _, rfl, rfl, (by show _ ≤ 16777216; (try simp only [str_len, str_e0]); omega), k _ s1⟩⟩
theorem law_thing_text_step (T : Txt K mg) (f : Nat) (G_law_written : FnOk P w K mg base CX0 (2 * f + 3) T.a_law_written T.d_law_written ["_law_plan"] (spPlanText K f)) :
    FnOk P w K mg base CX0 (2 * f + 4) T.a_law_thing_text T.d_law_thing_text ["_law_thing"] (spThingText K (f + 1)) := by
  refine T.F_law_thing_text.ok sc_law_thing_text (fun vs H Q E h => ?_) (fun cdv A outer s H vs Q E hr h => ?_)
  · obtain ⟨v, t, rfl, _⟩ := h
    rfl
  obtain ⟨v, t, rfl, dt, ts, hc, hc2, k⟩ := h
  refine ⟨_, (pss_cons (ps_set (i := 1) sc_law_thing_text.nd rfl (Or.inl rfl) (pe_ix ix_tup (pv 0) pe_int (fun _ _ => rfl)))
      (pss_cons (ps_if (pt_cmpR op_eq (pv 1) pe_str (nomark _)) (pss_one (ps_ret (pe_op op_add_str pe_str (pe_callTy call_str_int (by rfl) T.z_str (by decide +kernel) (pa_cons (pe_ix ix_tup (pv 0) pe_int (fun _ _ => rfl)) pa_nil))))) pss_nil)
      (pss_cons (ps_if (pt_cmpR op_eq (pv 1) pe_str (nomark _)) (pss_one (ps_ret (pe_op op_add_str (pe_op op_add_str pe_str (pe_call G_law_written (hr.mono (by omega)) (by rfl) T.g_law_written T.F_law_written.kp T.b_law_written .nil pass0 (pa_cons (pe_ix ix_tup (pv 0) pe_int (fun _ _ => rfl)) pa_nil))) pe_str))) pss_nil)
      (pss_cons (ps_if (pt_cmpR op_eq (pv 1) pe_str (nomark _)) (pss_one (ps_ret (pe_op op_add_str (pe_op op_add_str (pe_op op_add_str pe_str (pe_ix ix_tup (pv 0) pe_int (fun _ _ => rfl))) pe_str) (pe_call (ok_law_end_text T) (hr.mono (by omega)) (by rfl) T.g_law_end_text T.F_law_end_text.kp T.b_law_end_text .nil pass0 (pa_cons (pe_ix ix_tup (pv 0) pe_int (fun _ _ => rfl)) pa_nil))))) pss_nil)
      (pss_cons (ps_if (pt_cmpR op_eq (pv 1) pe_str (nomark _)) (pss_one (ps_ret (pe_op op_add_str (pe_op op_add_str (pe_op op_add_str pe_str (pe_callTy call_str_int (by rfl) T.z_str (by decide +kernel) (pa_cons (pe_ix ix_tup (pv 0) pe_int (fun _ _ => rfl)) pa_nil))) pe_str) (pe_ix ix_tup (pv 0) pe_int (fun _ _ => rfl))))) pss_nil)
      (pss_cons (ps_if (pt_cmpR op_eq (pv 1) pe_str (nomark _)) (pss_cons (ps_set (i := 2) sc_law_thing_text.nd rfl (Or.inl rfl) (pe_op op_add_str (pe_op op_add_str (pe_op op_add_str (pe_op op_add_str (pe_op op_add_str pe_str (pe_ix ix_tup (pv 0) pe_int (fun _ _ => rfl))) pe_str) (pe_call (ok_law_end_text T) (hr.mono (by omega)) (by rfl) T.g_law_end_text T.F_law_end_text.kp T.b_law_end_text .nil pass0 (pa_cons (pe_ix ix_tup (pv 0) pe_int (fun _ _ => rfl)) pa_nil))) pe_str) (pe_call (ok_law_end_text T) (hr.mono (by omega)) (by rfl) T.g_law_end_text T.F_law_end_text.kp T.b_law_end_text .nil pass0 (pa_cons (pe_ix ix_tup (pv 0) pe_int (fun _ _ => rfl)) pa_nil))))
      (pss_one (ps_ret (pe_op op_add_str (pe_op op_add_str (pe_op op_add_str (pv 2) pe_str) (pe_call G_law_written (hr.mono (by omega)) (by rfl) T.g_law_written T.F_law_written.kp T.b_law_written .nil pass0 (pa_cons (pe_ix ix_tup (pv 0) pe_int (fun _ _ => rfl)) pa_nil))) pe_str)))) pss_nil)
      (pss_cons (ps_set (i := 3) sc_law_thing_text.nd rfl (Or.inl rfl) (pe_op op_add_str (pe_op op_add_str (pe_op op_add_str (pe_op op_add_str (pe_op op_add_str (pe_op op_add_str pe_str (pe_call (ok_law_end_text T) (hr.mono (by omega)) (by rfl) T.g_law_end_text T.F_law_end_text.kp T.b_law_end_text .nil pass0 (pa_cons (pe_ix ix_tup (pv 0) pe_int (fun _ _ => rfl)) pa_nil))) pe_str) (pe_call (ok_law_end_text T) (hr.mono (by omega)) (by rfl) T.g_law_end_text T.F_law_end_text.kp T.b_law_end_text .nil pass0 (pa_cons (pe_ix ix_tup (pv 0) pe_int (fun _ _ => rfl)) pa_nil))) pe_str) (pe_call G_law_written (hr.mono (by omega)) (by rfl) T.g_law_written T.F_law_written.kp T.b_law_written .nil pass0 (pa_cons (pe_ix ix_tup (pv 0) pe_int (fun _ _ => rfl)) pa_nil))) pe_str))
      (pss_one (ps_ret (pe_ifExp (pt_cmpR (op_eqD hr.units) (pe_ix ix_tup (pv 0) pe_int (fun _ _ => rfl)) (pe_tup pa_nil) (nomark _)) (pv 3) (pe_op op_add_str (pe_op op_add_str (pe_op op_add_str (pv 3) pe_str) (pe_call G_law_written (hr.mono (by omega)) (by rfl) T.g_law_written T.F_law_written.kp T.b_law_written .nil pass0 (pa_cons (pe_ix ix_tup (pv 0) pe_int (fun _ _ => rfl)) pa_nil))) pe_str))))))))))), ?_⟩
  have q := s_len1
  have tl := thingT_len ts
  have tl2 : (thingT t).length ≤ 100000 := by omega
  cases t with
  | step n =>
    rw [thingD] at dt
    rw [ThS] at ts
    obtain ⟨a, xs, rfl, hs, hd⟩ := dt.tup'
    obtain ⟨x0, r0, rfl, h0, hd⟩ := hd.c
    obtain ⟨x1, r1, rfl, h1, hd⟩ := hd.c
    cases hd.n
    cases h0.str'
    cases h1.int'
    refine ⟨_, rfl, a, _, _, _, rfl, rfl, hs, (rfl : atI [V.str "step", V.int n] 0 = some (V.str "step")), ?_⟩
    refine ⟨_, rfl, rfl, _, rfl, ?_⟩
    rw [dec_tt]
    refine iteT ?_
    have k := k _ (Same.refl _)
    rw [thingT] at k
    have l1 := num_len' ts
    exact ⟨_, rfl, a, _, _, _, rfl, rfl, hs, (rfl : atI [V.str "step", V.int n] 1 = some (V.int n)), _, rfl, Nat.lt_trans ts (by decide), _, _, rfl, rfl, (by show _ ≤ 16777216; (try simp only [str_len, str_e0]); omega), k⟩
  | double b =>
    rw [thingD] at dt
    rw [ThS] at ts
    obtain ⟨a, xs, rfl, hs, hd⟩ := dt.tup'
    obtain ⟨x0, r0, rfl, h0, hd⟩ := hd.c
    obtain ⟨x1, r1, rfl, h1, hd⟩ := hd.c
    cases hd.n
    cases h0.str'
    refine ⟨_, rfl, a, _, _, _, rfl, rfl, hs, (rfl : atI [V.str "double", x1] 0 = some (V.str "double")), ?_⟩
    refine ⟨_, rfl, rfl, _, rfl, ?_⟩
    rw [dec_ff (by decide)]
    refine iteF ?_
    refine ⟨_, rfl, rfl, _, rfl, ?_⟩
    rw [dec_tt]
    refine iteT ?_
    rw [thingC] at hc hc2
    have pl := planT_len ts
    refine ⟨_, rfl, a, _, _, _, rfl, rfl, hs, (rfl : atI [V.str "double", x1] 1 = some x1), x1, b, rfl, h1, ts, by omega, by omega, fun H2 s2 => ?_⟩
    have k := k _ s2
    rw [thingT] at k
    exact ⟨_, _, rfl, rfl, (by show _ ≤ 16777216; (try simp only [str_len, str_e0]); omega), _, _, rfl, rfl, (by show _ ≤ 16777216; (try simp only [str_len, str_e0]); omega), k⟩
  | call nm e =>
    rw [thingD] at dt
    rw [ThS] at ts
    obtain ⟨a, xs, rfl, hs, hd⟩ := dt.tup'
    obtain ⟨x0, r0, rfl, h0, hd⟩ := hd.c
    obtain ⟨x1, r1, rfl, h1, hd⟩ := hd.c
    obtain ⟨x2, r2, rfl, h2, hd⟩ := hd.c
    cases hd.n
    cases h0.str'
    cases h1.str'
    refine ⟨_, rfl, a, _, _, _, rfl, rfl, hs, (rfl : atI [V.str "call", V.str nm, x2] 0 = some (V.str "call")), ?_⟩
    refine ⟨_, rfl, rfl, _, rfl, ?_⟩
    rw [dec_ff (by decide)]
    refine iteF ?_
    refine ⟨_, rfl, rfl, _, rfl, ?_⟩
    rw [dec_ff (by decide)]
    refine iteF ?_
    refine ⟨_, rfl, rfl, _, rfl, ?_⟩
    rw [dec_tt]
    refine iteT ?_
    have l1 := ts.1.1
    have l2 := endT_len ts.2
    refine ⟨_, rfl, a, _, _, _, rfl, rfl, hs, (rfl : atI [V.str "call", V.str nm, x2] 1 = some (V.str nm)), _, _, rfl, rfl, (by show _ ≤ 16777216; (try simp only [str_len, str_e0]); omega), _, _, rfl, rfl, (by show _ ≤ 16777216; (try simp only [str_len, str_e0]); omega), _, rfl, a, _, _, _, rfl, rfl, hs, (rfl : atI [V.str "call", V.str nm, x2] 2 = some x2), x2, e, rfl, h2, ts.2, fun H2 s2 => ?_⟩
    have k := k _ s2
    rw [thingT] at k
    exact ⟨_, _, rfl, rfl, (by show _ ≤ 16777216; (try simp only [str_len, str_e0]); omega), k⟩
  | again n z =>
    rw [thingD] at dt
    rw [ThS] at ts
    obtain ⟨a, xs, rfl, hs, hd⟩ := dt.tup'
    obtain ⟨x0, r0, rfl, h0, hd⟩ := hd.c
    obtain ⟨x1, r1, rfl, h1, hd⟩ := hd.c
    obtain ⟨x2, r2, rfl, h2, hd⟩ := hd.c
    cases hd.n
    cases h0.str'
    cases h1.int'
    cases h2.str'
    refine ⟨_, rfl, a, _, _, _, rfl, rfl, hs, (rfl : atI [V.str "again", V.int n, V.str z] 0 = some (V.str "again")), ?_⟩
    refine ⟨_, rfl, rfl, _, rfl, ?_⟩
    rw [dec_ff (by decide)]
    refine iteF ?_
    refine ⟨_, rfl, rfl, _, rfl, ?_⟩
    rw [dec_ff (by decide)]
    refine iteF ?_
    refine ⟨_, rfl, rfl, _, rfl, ?_⟩
    rw [dec_ff (by decide)]
    refine iteF ?_
    refine ⟨_, rfl, rfl, _, rfl, ?_⟩
    rw [dec_tt]
    refine iteT ?_
    have k := k _ (Same.refl _)
    rw [thingT] at k
    have l1 := num_len' ts.1
    have l2 := ts.2.1
    exact ⟨_, rfl, a, _, _, _, rfl, rfl, hs, (rfl : atI [V.str "again", V.int n, V.str z] 1 = some (V.int n)), n, rfl, Nat.lt_trans ts.1 (by decide), _, _, rfl, rfl, (by show _ ≤ 16777216; (try simp only [str_len, str_e0]); omega), _, _, rfl, rfl, (by show _ ≤ 16777216; (try simp only [str_len, str_e0]); omega), _, rfl, a, _, _, _, rfl, rfl, hs, (rfl : atI [V.str "again", V.int n, V.str z] 2 = some (V.str z)), _, _, rfl, rfl, (by show _ ≤ 16777216; (try simp only [str_len, str_e0]); omega), k⟩
  | loop nm e1 e2 b =>
    rw [thingD] at dt
    rw [ThS] at ts
    obtain ⟨a, xs, rfl, hs, hd⟩ := dt.tup'
    obtain ⟨x0, r0, rfl, h0, hd⟩ := hd.c
    obtain ⟨x1, r1, rfl, h1, hd⟩ := hd.c
    obtain ⟨x2, r2, rfl, h2, hd⟩ := hd.c
    obtain ⟨x3, r3, rfl, h3, hd⟩ := hd.c
    obtain ⟨x4, r4, rfl, h4, hd⟩ := hd.c
    cases hd.n
    cases h0.str'
    cases h1.str'
    refine ⟨_, rfl, a, _, _, _, rfl, rfl, hs, (rfl : atI [V.str "for", V.str nm, x2, x3, x4] 0 = some (V.str "for")), ?_⟩
    refine ⟨_, rfl, rfl, _, rfl, ?_⟩
    rw [dec_ff (by decide)]
    refine iteF ?_
    refine ⟨_, rfl, rfl, _, rfl, ?_⟩
    rw [dec_ff (by decide)]
    refine iteF ?_
    refine ⟨_, rfl, rfl, _, rfl, ?_⟩
    rw [dec_ff (by decide)]
    refine iteF ?_
    refine ⟨_, rfl, rfl, _, rfl, ?_⟩
    rw [dec_ff (by decide)]
    refine iteF ?_
    refine ⟨_, rfl, rfl, _, rfl, ?_⟩
    rw [dec_tt]
    refine iteT ?_
    rw [thingC] at hc hc2
    obtain ⟨tn, t1, t2, tb⟩ := ts
    have l0 := tn.1
    have l1 := endT_len t1
    have l2 := endT_len t2
    have pl := planT_len tb
    refine ⟨_, rfl, a, _, _, _, rfl, rfl, hs, (rfl : atI [V.str "for", V.str nm, x2, x3, x4] 1 = some (V.str nm)), _, _, rfl, rfl, (by show _ ≤ 16777216; (try simp only [str_len, str_e0]); omega), _, _, rfl, rfl, (by show _ ≤ 16777216; (try simp only [str_len, str_e0]); omega), _, rfl, a, _, _, _, rfl, rfl, hs, (rfl : atI [V.str "for", V.str nm, x2, x3, x4] 2 = some x2), x2, e1, rfl, h2, t1, fun H2 s2 => ?_⟩
    have hs2 := same_t s2 hs
    refine ⟨_, _, rfl, rfl, (by show _ ≤ 16777216; (try simp only [str_len, str_e0]); omega), _, _, rfl, rfl, (by show _ ≤ 16777216; (try simp only [str_len, str_e0]); omega), _, rfl, a, _, _, _, rfl, rfl, hs2, (rfl : atI [V.str "for", V.str nm, x2, x3, x4] 3 = some x3), x3, e2, rfl, h3.mono s2, t2, fun H3 s3 => ?_⟩
    have hs3 := same_t s3 hs2
    refine ⟨_, _, rfl, rfl, (by show _ ≤ 16777216; (try simp only [str_len, str_e0]); omega), _, rfl, _, _, rfl, rfl, (by show _ ≤ 16777216; (try simp only [str_len, str_e0]); omega), _, rfl, a, _, _, _, rfl, rfl, hs3, (rfl : atI [V.str "for", V.str nm, x2, x3, x4] 4 = some x4), x4, b, rfl, (h4.mono s2).mono s3, tb, by omega, by omega, fun H4 s4 => ?_⟩
    have k := k _ ((s2.trans s3).trans s4)
    rw [thingT] at k
    exact ⟨_, _, rfl, rfl, (by show _ ≤ 16777216; (try simp only [str_len, str_e0]); omega), _, _, rfl, rfl, (by show _ ≤ 16777216; (try simp only [str_len, str_e0]); omega), k⟩
  | test e1 e2 b1 b2 =>
    rw [thingD] at dt
    rw [ThS] at ts
    obtain ⟨a, xs, rfl, hs, hd⟩ := dt.tup'
    obtain ⟨x0, r0, rfl, h0, hd⟩ := hd.c
    obtain ⟨x1, r1, rfl, h1, hd⟩ := hd.c
    obtain ⟨x2, r2, rfl, h2, hd⟩ := hd.c
    obtain ⟨x3, r3, rfl, h3, hd⟩ := hd.c
    obtain ⟨x4, r4, rfl, h4, hd⟩ := hd.c
    cases hd.n
    cases h0.str'
    refine ⟨_, rfl, a, _, _, _, rfl, rfl, hs, (rfl : atI [V.str "if", x1, x2, x3, x4] 0 = some (V.str "if")), ?_⟩
    refine ⟨_, rfl, rfl, _, rfl, ?_⟩
    rw [dec_ff (by decide)]
    refine iteF ?_
    refine ⟨_, rfl, rfl, _, rfl, ?_⟩
    rw [dec_ff (by decide)]
    refine iteF ?_
    refine ⟨_, rfl, rfl, _, rfl, ?_⟩
    rw [dec_ff (by decide)]
    refine iteF ?_
    refine ⟨_, rfl, rfl, _, rfl, ?_⟩
    rw [dec_ff (by decide)]
    refine iteF ?_
    refine ⟨_, rfl, rfl, _, rfl, ?_⟩
    rw [dec_ff (by decide)]
    refine iteF ?_
    rw [thingC] at hc hc2
    obtain ⟨t1, t2, tb1, tb2⟩ := ts
    have l1 := endT_len t1
    have l2 := endT_len t2
    have pl1 := planT_len tb1
    have pl2 := planT_len tb2
    refine ⟨_, rfl, a, _, _, _, rfl, rfl, hs, (rfl : atI [V.str "if", x1, x2, x3, x4] 1 = some x1), x1, e1, rfl, h1, t1, fun H2 s2 => ?_⟩
    have hs2 := same_t s2 hs
    refine ⟨_, _, rfl, rfl, (by show _ ≤ 16777216; (try simp only [str_len, str_e0]); omega), _, _, rfl, rfl, (by show _ ≤ 16777216; (try simp only [str_len, str_e0]); omega), _, rfl, a, _, _, _, rfl, rfl, hs2, (rfl : atI [V.str "if", x1, x2, x3, x4] 2 = some x2), x2, e2, rfl, h2.mono s2, t2, fun H3 s3 => ?_⟩
    have hs3 := same_t s3 hs2
    refine ⟨_, _, rfl, rfl, (by show _ ≤ 16777216; (try simp only [str_len, str_e0]); omega), _, _, rfl, rfl, (by show _ ≤ 16777216; (try simp only [str_len, str_e0]); omega), _, rfl, a, _, _, _, rfl, rfl, hs3, (rfl : atI [V.str "if", x1, x2, x3, x4] 3 = some x3), x3, b1, rfl, (h3.mono s2).mono s3, tb1, by omega, by omega, fun H4 s4 => ?_⟩
    have hs4 := same_t s4 hs3
    have s14 := (s2.trans s3).trans s4
    refine ⟨_, _, rfl, rfl, (by show _ ≤ 16777216; (try simp only [str_len, str_e0]); omega), _, _, rfl, rfl, (by show _ ≤ 16777216; (try simp only [str_len, str_e0]); omega), ?_⟩
    refine ⟨_, rfl, a, _, _, _, rfl, rfl, hs4, (rfl : atI [V.str "if", x1, x2, x3, x4] 4 = some x4), by show 0 ≤ sizeLine; decide, fun Z hZ => ?_⟩
    have sZ := same_upd (o := .tup []) hZ
    refine ⟨planD b2, .tuple [], (h4.mono s14).mono sZ, .tup (xs := []) (SqT.of upd_same) .nil, shaped_plan tb2 (by omega), by decide, _, rfl, ?_⟩
    rw [eqv_plan]
    have k := fun H5 s => k H5 ((s14.trans sZ).trans s)
    rw [thingT] at k
    refine ite2 (fun c => ?_) (fun c => ?_)
    · rw [if_pos c] at k
      exact ⟨_, rfl, k _ (Same.refl _)⟩
    · rw [if_neg c] at k
      refine ⟨_, rfl, _, _, rfl, rfl, (by show _ ≤ 16777216; (try simp only [str_len, str_e0]); omega), _, rfl, a, _, _, _, rfl, rfl, same_t sZ hs4, (rfl : atI [V.str "if", x1, x2, x3, x4] 4 = some x4), x4, b2, rfl, (h4.mono s14).mono sZ, tb2, by omega, by omega, fun H5 s5 => ?_⟩
      exact ⟨_, _, rfl, rfl, (by show _ ≤ 16777216; (try simp only [str_len, str_e0]); omega), _, _, rfl, rfl, (by show _ ≤ 16777216; (try simp only [str_len, str_e0]); omega), k H5 s5⟩
theorem law_written_step (T : Txt K mg) (f : Nat) (G_law_thing_text : FnOk P w K mg base CX0 (2 * f + 2) T.a_law_thing_text T.d_law_thing_text ["_law_thing"] (spThingText K f)) :
    FnOk P w K mg base CX0 (2 * f + 3) T.a_law_written T.d_law_written ["_law_plan"] (spPlanText K f) := by
  refine T.F_law_written.ok sc_law_written (fun vs H Q E h => ?_) (fun cdv A outer s H vs Q E hr h => ?_)
  · obtain ⟨v, t, rfl, _⟩ := h
    rfl
  obtain ⟨v, b, rfl, db, bs, hc, hc2, k⟩ := h
  refine ⟨_, (pss_one (ps_ret (pe_join pe_str (pe_lc (own := [("_law_thing", 1)]) (g := gName 1) (tt := tYes) rfl sc_law_written.nd (pi_tup (pv 0)) (blkOk_by (N := N_law_written) (sc := defScope s_law_written) (by decide +kernel)) (fun _ _ _ _ _ => (pg_name (i := 1) sc_law_written.nd rfl (Or.inl rfl))) (fun _ _ _ _ _ => pts_nil) (fun _ _ _ _ _ => (pe_call G_law_thing_text (hr.mono (by omega)) (by rfl) T.g_law_thing_text T.F_law_thing_text.kp T.b_law_thing_text .nil pass0 (pa_cons (pv 1) pa_nil))))))), ?_⟩
  obtain ⟨a, us, rfl, hs, hd⟩ := db.tup'
  rw [thingsD_eq] at hd
  have lu : us.length = b.length := by
    have := hd.length
    rw [List.length_map] at this
    exact this
  have cl := thingsC_len b
  refine ⟨⟨_, rfl⟩, _, rfl, a, rfl, ⟨us, hs⟩, fun R hR => ?_⟩
  refine lc_pure (walk_tup (xs := us)) (fun j => .str ((b.map thingT).getD j Str.empty)) (by omega) hR (fun H' sm => same_t sm hs) ?_ ?_
  · rintro j y H8 H9 Q' hj s8 ⟨rfl, hy⟩ kq
    obtain ⟨t, ht, dt⟩ := DpAll.at_ hd hy
    rw [getD_of' (r := thingT t) (by rw [List.getElem?_map, ht]; rfl)] at kq
    have hm := List.mem_of_getElem? ht
    have hcm := thingC_mem hm
    refine ⟨rfl, ?_⟩
    exact ⟨_, rfl, y, t, rfl, dt.mono s8, bs.mem hm, by omega, by omega, kq⟩
  intro H8 s8 eR
  have e8 : H8 R = some (.lst ((b.map thingT).map V.str)) := by
    rw [eR, lu, ← List.length_map (f := thingT)]
    show some (HO.lst ((List.range _).map (V.str ∘ fun j => (b.map thingT).getD j Str.empty))) = _
    rw [← List.map_map, range_getD]
  have ps := planSum bs
  refine ⟨_, R, b.map thingT, rfl, rfl, .inl (SqL.of e8), ?_, ?_⟩
  · have e1 : (Str.ofString "; ").length = 2 := by decide
    rw [List.length_map, e1]
    omega
  · rw [← planT_eq]
    exact k _ s8
theorem law_thing_text_all (T : Txt K mg) : ∀ f : Nat, FnOk P w K mg base CX0 (2 * f + 2) T.a_law_thing_text T.d_law_thing_text ["_law_thing"] (spThingText K f)
  | 0 => by
    have no : ∀ vs H Q E, ¬ spThingText K 0 vs H Q E := fun vs H Q E h => by
      obtain ⟨v, t, _, _, _, h1, _⟩ := h
      have := thingC_pos t
      omega
    exact ⟨fun vs H Q E h => absurd h (no vs H Q E), fun A outer s H args us vs Q E _ _ _ _ h => absurd h (no vs H Q E)⟩
  | f + 1 => law_thing_text_step T f (law_written_step T f (law_thing_text_all T f))
theorem ok_law_written (T : Txt K mg) : FnOk P w K mg base CX0 33 T.a_law_written T.d_law_written ["_law_plan"] (spPlanText K 15) := law_written_step T 15 (law_thing_text_all T 15)
/-- a draw below n -/
def spTake : Sp := fun vs H Q _ => ∃ (d l : Addr) (n : Int), vs = [.ref d, .int n] ∧ DrawAt H d l ∧ 0 < n ∧ n < 2 ^ 200 ∧
  ∀ (r : Int) H', 0 ≤ r → r < n → DrawAt H' d l → But (Only1 d) H H' → Q (.int r) H'
theorem ok_law_take (T : Txt K mg) : FnOk P w K mg base CX0 1 T.a_law_take T.d_law_take ["_law_draw", "_law_sides"] spTake := by
  refine T.F_law_take.ok sc_law_take (fun vs H Q E h => ?_) (fun cdv A outer s H vs Q E hr h => ?_)
  · obtain ⟨d, l, n, rfl, _⟩ := h
    rfl
  obtain ⟨d, l, n, rfl, D, hn0, hn, k⟩ := h
  refine ⟨_, (C8.pss_cut (ps_if (PW.pt (pw_and (pt_cmpR op_lt (pe_ix ix_list (pv 0) pe_int (fun _ _ => rfl)) (pv 1) (nomark _)) (pw_and1 (pt_cmpR op_lt (pe_ix ix_list (pv 0) pe_int (fun _ _ => rfl)) (pe_callB call_len_seq (by rfl) T.z_len (by decide +kernel) (pa_cons (pe_ix ix_list (pv 0) pe_int (fun _ _ => rfl)) pa_nil)) (nomark _))))) (pss_cons (ps_set (i := 2) sc_law_take.nd rfl (Or.inl rfl) (pe_ix ix_list (pe_ix ix_list (pv 0) pe_int (fun _ _ => rfl)) (pe_ix ix_list (pv 0) pe_int (fun _ _ => rfl)) (fun _ _ => rfl)))
      (pss_cons (ps_asg (pe_op op_add (pe_ix ix_list (pv 0) pe_int (fun _ _ => rfl)) pe_int) (pg_sub (pv 0) pe_int set_list))
      (pss_cons (ps_asg pe_int (pg_sub (pv 0) pe_int set_list))
      (pss_one (ps_if (pt_cmpR op_ge (pe_callB call_abs (by rfl) T.z_abs (by decide +kernel) (pa_cons (pv 2) pa_nil)) (pe_op op_pow pe_int pe_int) (nomark _)) (pss_one (ps_asg (pe_callB call_abs (by rfl) T.z_abs (by decide +kernel) (pa_cons (pv 2) pa_nil)) (pg_sub (pv 0) pe_int set_list))) (pss_one (ps_asg (pe_op op_mod (pe_op op_add (pe_op op_add (pe_op op_mul (pe_ix ix_list (pv 0) pe_int (fun _ _ => rfl)) pe_int) (pe_op op_mul (pe_op op_mod (pv 2) pe_int) pe_int)) pe_int) pe_int) (pg_sub (pv 0) pe_int set_list)))))))) pss_nil)
      (pss_cons (ps_if (pt_cmpR op_ge (pe_ix ix_list (pv 0) pe_int (fun _ _ => rfl)) (pv 1) (nomark _)) (pss_cons (ps_set (i := 3) sc_law_take.nd rfl (Or.inl rfl) (pe_op op_mod (pe_ix ix_list (pv 0) pe_int (fun _ _ => rfl)) (pv 1)))
      (pss_cons (ps_asg (pe_op op_fdivW (pe_ix ix_list (pv 0) pe_int (fun _ _ => rfl)) (pv 1)) (pg_sub (pv 0) pe_int set_list))
      (pss_one (ps_ret (pv 3))))) pss_nil)
      (pss_cons (ps_asg (pe_op op_mod (pe_op op_add (pe_op op_add (pe_op op_mul (pe_op op_mod (pe_op op_mul (pe_ix ix_list (pv 0) pe_int (fun _ _ => rfl)) (pe_ix ix_list (pv 0) pe_int (fun _ _ => rfl))) pe_int) pe_int) (pe_op op_mul (pe_ix ix_list (pv 0) pe_int (fun _ _ => rfl)) pe_int)) pe_int) pe_int) (pg_sub (pv 0) pe_int set_list))
      (pss_one (ps_ret (pe_op op_mod (pe_op op_add (pe_op op_fdivW (pe_ix ix_list (pv 0) pe_int (fun _ _ => rfl)) pe_int) (pe_op op_mul (pe_op op_mod (pe_ix ix_list (pv 0) pe_int (fun _ _ => rfl)) pe_int) pe_int)) (pv 1))))))), ?_⟩
  obtain ⟨ns, p, g, s, e1, e2, p0, g0, s0, s1, hl⟩ := D.ex
  have nld : l ≠ d := fun e => by
    rw [e, e1] at e2
    cases ns with
    | nil => cases e2
    | cons x r => cases e2
  have cw : CDivW 0 n := log_small hn0 hn (by decide) (by decide)
  refine ⟨fun σ' H' => ∃ c p g s, σ' = [some (.ref d), some (.int n), c, none] ∧ H' d = some (.lst [.ref l, .int p, .int g, .int s]) ∧ H' l = some (.lst (ns.map V.int)) ∧ 0 ≤ p ∧ 0 ≤ g ∧ 0 ≤ s ∧ s < 2147483647 ∧ But (Only1 d) H H', ?_, ?_⟩
  · refine ⟨_, rfl, d, _, 2, .int g, rfl, rfl, SqL.of e1, rfl, _, rfl, g, n, rfl, rfl, _, rfl, ?_⟩
    refine ite2 (fun c1 => ?_) (fun _ => ⟨_, p, g, s, rfl, e1, e2, p0, g0, s0, s1, But.refl _ _⟩)
    refine ⟨_, rfl, d, _, 1, .int p, rfl, rfl, SqL.of e1, rfl, _, rfl, d, _, 0, .ref l, rfl, rfl, SqL.of e1, rfl, l, _, rfl, .inl (SqL.of e2), p, _, rfl, rfl, _, rfl, ?_⟩
    refine ite2 (fun c2 => ?_) (fun _ => ⟨_, p, g, s, rfl, e1, e2, p0, g0, s0, s1, But.refl _ _⟩)
    have c2' : p < (((ns.map V.int).length : Nat) : Int) := of_decide_eq_true c2
    rw [List.length_map] at c2'
    obtain ⟨j, ej⟩ : ∃ j : Nat, p = (j : Int) := ⟨p.toNat, by omega⟩
    have hj : j < ns.length := by omega
    have ha : atI (ns.map V.int) p = some (.int ns[j]) := by
      rw [ej]
      exact atI_nat (by rw [List.getElem?_map, List.getElem?_eq_getElem hj]; rfl)
    -- cell = draw[0][draw[1]]
    refine ⟨_, rfl, d, _, 0, .ref l, rfl, rfl, SqL.of e1, rfl, _, rfl, d, _, 1, .int p, rfl, rfl, SqL.of e1, rfl, l, _, p, _, rfl, rfl, SqL.of e2, ha, ?_⟩
    generalize ns[j] = x
    -- draw[1] = draw[1] + 1; draw[2] = 0
    refine ⟨_, rfl, d, _, 1, .int p, rfl, rfl, SqL.of e1, rfl, p, 1, rfl, rfl, _, rfl, d, _, 1, 1, rfl, rfl, e1, rfl, ?_⟩
    refine ⟨_, rfl, d, _, 2, 2, rfl, rfl, upd_same, rfl, ?_⟩
    have b2 : ∀ o, But (Only1 d) H (upd (upd H d (.lst [.ref l, .int (p + 1), .int g, .int s])) d o) := fun o => ((But.refl _ _).put only1).put only1
    have e2' : ∀ o o', upd (upd H d o) d o' l = some (.lst (ns.map V.int)) := fun o o' => by
      rw [upd_ne nld, upd_ne nld]
      exact e2
    -- abs(cell) >= 10 ** 18
    refine ⟨_, rfl, x, rfl, 10, 18, rfl, rfl, ⟨by decide, by decide, by decide⟩, _, _, rfl, rfl, _, rfl, ?_⟩
    refine ite2 (fun _ => ?_) (fun _ => ?_)
    · refine ⟨_, rfl, x, rfl, _, rfl, d, _, 2, 2, rfl, rfl, upd_same, rfl, ?_⟩
      refine ⟨_, p + 1, _, s, rfl, upd_same, ?_, by omega, ?_, s0, s1, ((b2 _).put only1)⟩
      · rw [upd_ne nld]
        exact e2' _ _
      · split <;> omega
    · refine ⟨_, rfl, d, _, 3, .int s, rfl, rfl, SqL.of upd_same, rfl, s, 48271, rfl, rfl, .inr ⟨by decide, by decide⟩, _, rfl, x, 2147483629, rfl, rfl, (by show (0 : Int) < 2147483629; decide), _, 69621, rfl, rfl, .inr ⟨by decide, by decide⟩, _, _, rfl, rfl, _, 12345, rfl, rfl, _, 2147483647, rfl, rfl, (by show (0 : Int) < 2147483647; decide), _, rfl, d, _, 3, 3, rfl, rfl, upd_same, rfl, ?_⟩
      refine ⟨_, p + 1, 0, _, rfl, upd_same, ?_, by omega, by omega, Int.emod_nonneg _ (by decide), Int.emod_lt_of_pos _ (by decide), ((b2 _).put only1)⟩
      rw [upd_ne nld]
      exact e2' _ _
  · rintro σ' H1 ⟨c, p, g, s, rfl, e1, e2, p0, g0, s0, s1, b⟩
    refine ⟨_, rfl, d, _, 2, .int g, rfl, rfl, SqL.of e1, rfl, _, rfl, g, n, rfl, rfl, _, rfl, ?_⟩
    refine ite2 (fun c1 => ?_) (fun _ => ?_)
    · refine ⟨_, rfl, d, _, 2, .int g, rfl, rfl, SqL.of e1, rfl, _, rfl, g, n, rfl, rfl, hn0, ?_⟩
      refine ⟨_, rfl, d, _, 2, .int g, rfl, rfl, SqL.of e1, rfl, _, rfl, g, n, rfl, rfl, cw, _, rfl, d, _, 2, 2, rfl, rfl, e1, rfl, ?_⟩
      refine ⟨_, rfl, k _ _ (Int.emod_nonneg _ (by omega)) (Int.emod_lt_of_pos _ hn0) ⟨⟨ns, p, _, s, upd_same, by rw [upd_ne nld]; exact e2, p0, Int.ediv_nonneg g0 (by omega), s0, s1, hl⟩⟩ (b.put only1)⟩
    · refine ⟨_, rfl, d, _, 3, .int s, rfl, rfl, SqL.of e1, rfl, _, rfl, d, _, 3, .int s, rfl, rfl, SqL.of e1, rfl, s, s, rfl, rfl, .inl ⟨by omega, by omega⟩, _, 2147483629, rfl, rfl, (by show (0 : Int) < 2147483629; decide), _, 5, rfl, rfl, .inr ⟨by decide, by decide⟩, _, rfl, d, _, 3, .int s, rfl, rfl, SqL.of e1, rfl, s, 16811, rfl, rfl, .inr ⟨by decide, by decide⟩, _, _, rfl, rfl, _, 2531011, rfl, rfl, _, 2147483647, rfl, rfl, (by show (0 : Int) < 2147483647; decide), _, rfl, d, _, 3, 3, rfl, rfl, e1, rfl, ?_⟩
      have z0 : ∀ x : Int, 0 ≤ x % 2147483647 := fun x => Int.emod_nonneg _ (by decide)
      have z1 : ∀ x : Int, x % 2147483647 < 2147483647 := fun x => Int.emod_lt_of_pos _ (by decide)
      refine ⟨_, rfl, d, _, 3, _, rfl, rfl, SqL.of upd_same, rfl, _, 61, rfl, rfl, log_small (k := 10) (by decide) (by decide) (by decide) (by decide), _, rfl, d, _, 3, _, rfl, rfl, SqL.of upd_same, rfl, _, 8191, rfl, rfl, (by show (0 : Int) < 8191; decide), _, 31, rfl, rfl, .inr ⟨by decide, by decide⟩, _, _, rfl, rfl, _, rfl, _, n, rfl, rfl, hn0, ?_⟩
      exact k _ _ (Int.emod_nonneg _ (by omega)) (Int.emod_lt_of_pos _ hn0) ⟨⟨ns, p, g, _, upd_same, by rw [upd_ne nld]; exact e2, p0, g0, z0 _, z1 _, hl⟩⟩ (b.put only1)
/-- one of a row: a text's sign, a list's or tuple's item -/
def spPick (K : PySem.W.Frag) : Sp := fun vs H Q _ => ∃ (d l : Addr) (x : V), vs = [.ref d, x] ∧ DrawAt H d l ∧
  ((∃ z : Str, x = .str z ∧ 0 < z.length ∧ z.length ≤ 100000 ∧ ∀ (c : Nat) H', c ∈ z.cps.toList → DrawAt H' d l → But (Only1 d) H H' → Q (.str ⟨#[c]⟩) H') ∨
   ∃ (a : Addr) (xs : List V), x = .ref a ∧ a ≠ d ∧ (SqL K H a xs ∨ SqT K H a xs) ∧ 0 < xs.length ∧ xs.length ≤ 100000 ∧ ∀ (v : V) H', v ∈ xs → DrawAt H' d l → But (Only1 d) H H' → Q v H')
theorem ok_law_pick (T : Txt K mg) : FnOk P w K mg base CX0 2 T.a_law_pick T.d_law_pick ["_law_draw", "_law_row"] (spPick K) := by
  refine T.F_law_pick.ok sc_law_pick (fun vs H Q E h => ?_) (fun cdv A outer s H vs Q E hr h => ?_)
  · obtain ⟨d, l, x, rfl, _⟩ := h
    rfl
  obtain ⟨d, l, x, rfl, D, h⟩ := h
  refine ⟨_, (pss_one (ps_ret (pe_ix ix_seq (pv 1) (pe_call (ok_law_take T) (hr.mono (by decide)) (by rfl) T.g_law_take T.F_law_take.kp T.b_law_take .nil pass0 (pa_cons (pv 0) (pa_cons (pe_callB call_len (by rfl) T.z_len (by decide +kernel) (pa_cons (pv 1) pa_nil)) pa_nil))) (fun _ _ => rfl)))), ?_⟩
  have big : (100000 : Int) < 2 ^ 200 := by decide
  rcases h with ⟨z, rfl, h0, h1, k⟩ | ⟨a, xs, rfl, na, hs, h0, h1, k⟩
  · refine ⟨_, rfl, _, rfl, _, rfl, _, z.length, rfl, ⟨Nat.le_trans h1 (by decide), rfl⟩, d, l, _, rfl, D, by omega, by omega, fun r H' r0 r1 D' b => ?_⟩
    obtain ⟨j, rfl⟩ : ∃ j : Nat, r = (j : Int) := ⟨r.toNat, by omega⟩
    have hj : j < z.cps.toList.length := by
      rw [Array.length_toList]
      show j < z.length
      omega
    exact .inr (.inr ⟨z, _, _, rfl, rfl, Nat.le_trans h1 (by decide), atI_nat (List.getElem?_eq_getElem hj), k _ H' (List.getElem_mem hj) D' b⟩)
  · have hl : LenV K (.ref a) H xs.length := by
      rcases hs with hs | hs
      · exact .inl ⟨xs, hs, rfl⟩
      · exact .inr ⟨xs, hs, rfl⟩
    refine ⟨_, rfl, _, rfl, _, rfl, _, xs.length, rfl, hl, d, l, _, rfl, D, by omega, by omega, fun r H' r0 r1 D' b => ?_⟩
    obtain ⟨j, rfl⟩ : ∃ j : Nat, r = (j : Int) := ⟨r.toNat, by omega⟩
    have hj : j < xs.length := by omega
    rcases hs with hs | hs
    · exact .inl ⟨a, xs, _, _, rfl, rfl, but_l b na hs, atI_nat (List.getElem?_eq_getElem hj), k _ H' (List.getElem_mem hj) D' b⟩
    · exact .inr (.inl ⟨a, xs, _, _, rfl, rfl, but_t b na hs, atI_nat (List.getElem?_eq_getElem hj), k _ H' (List.getElem_mem hj) D' b⟩)
/-- an end, frozen -/
def spSomeEnd (K : PySem.W.Frag) : Sp := fun vs H Q _ => ∃ (d l sa : Addr) (sc : List Str) (wide : Bool) (G : Hp), vs = [.ref d, .ref sa, .bl wide] ∧ Same G H ∧ G d = none ∧ DrawAt H d l ∧ G sa = some (.lst (sc.map V.str)) ∧ sc ≠ [] ∧ sc.length ≤ 1000 ∧
  ∀ (v : V) (e : En) (G' H' : Hp), Grow (Only1 d) G H G' H' → DrawAt H' d l → Dp K G' v (endD e) → EndOk wide sc e → Q v H'
theorem ok_law_some_end (T : Txt K mg) : FnOk P w K mg base CX0 3 T.a_law_some_end T.d_law_some_end ["_law_draw", "_law_scope", "_law_wide"] (spSomeEnd K) := by
  refine T.F_law_some_end.ok sc_law_some_end (fun vs H Q E h => ?_) (fun cdv A outer s H vs Q E hr h => ?_)
  · obtain ⟨d, l, sa, sc, wide, G, rfl, _⟩ := h
    rfl
  obtain ⟨d, l, sa, sc, wide, G, rfl, sg, gd, D, es, sne, sl, k⟩ := h
  refine ⟨_, (pss_cons (ps_set (i := 3) sc_law_some_end.nd rfl (Or.inl rfl) (pe_ix ix_list (pe_lst (pa_cons pe_int (pa_cons (pe_call (ok_law_take T) (hr.mono (by decide)) (by rfl) T.g_law_take T.F_law_take.kp T.b_law_take .nil pass0 (pa_cons (pv 0) (pa_cons pe_int pa_nil))) (pa_cons (pe_call (ok_law_take T) (hr.mono (by decide)) (by rfl) T.g_law_take T.F_law_take.kp T.b_law_take .nil pass0 (pa_cons (pv 0) (pa_cons (pe_ix ix_list (pe_lst (pa_cons pe_int (pa_cons pe_int pa_nil))) (pe_callTy call_int1 (by rfl) T.z_int (by decide +kernel) (pa_cons (pv 2) pa_nil)) (fun _ _ => rfl)) pa_nil))) pa_nil)))) (pe_call (ok_law_take T) (hr.mono (by decide)) (by rfl) T.g_law_take T.F_law_take.kp T.b_law_take .nil pass0 (pa_cons (pv 0) (pa_cons pe_int pa_nil))) (fun _ _ => rfl)))
      (pss_cons (ps_if (pt_cmpR op_eq (pe_call (ok_law_take T) (hr.mono (by decide)) (by rfl) T.g_law_take T.F_law_take.kp T.b_law_take .nil pass0 (pa_cons (pv 0) (pa_cons pe_int pa_nil))) pe_int (nomark _)) (pss_one (ps_ret (pe_tup (pa_cons pe_str (pa_cons (pv 3) pa_nil))))) pss_nil)
      (pss_one (ps_ret (pe_tup (pa_cons (pe_call (ok_law_pick T) (hr.mono (by decide)) (by rfl) T.g_law_pick T.F_law_pick.kp T.b_law_pick .nil pass0 (pa_cons (pv 0) (pa_cons (pv 1) pa_nil))) (pa_cons (pe_op op_mul (pv 3) (pe_ix ix_list (pe_lst (pa_cons pe_int (pa_cons (pe_un un_neg pe_int) pa_nil))) (pe_call (ok_law_take T) (hr.mono (by decide)) (by rfl) T.g_law_take T.F_law_take.kp T.b_law_take .nil pass0 (pa_cons (pv 0) (pa_cons pe_int pa_nil))) (fun _ _ => rfl))) pa_nil))))))), ?_⟩
  have nsd : sa ≠ d := fun e => by rw [e, gd] at es; cases es
  have gr0 : Grow (Only1 d) G H G H := Grow.refl sg
  refine ⟨_, rfl, d, l, 5, rfl, D, by decide, by decide, fun m1 H1 a0 a1 D1 b1 => ?_⟩
  have gr1 := gr0.trans (Grow.draw gr0.gh gd b1) D.some'
  refine ⟨_, rfl, by show 2 ≤ sizeLine; decide, fun L1 hL1 => ?_⟩
  have gr2 := gr1.cell (o := .lst [.int 5, .int 100]) hL1
  have D2 := D1.upd (o := .lst [.int 5, .int 100]) hL1
  have at5 : atI [V.int 5, V.int 100] (if wide then 1 else 0) = some (.int (if wide then 100 else 5)) := by cases wide <;> rfl
  have w5 : (0 : Int) < (if wide then 100 else 5) ∧ (if wide then (100 : Int) else 5) ≤ 100 := by cases wide <;> decide
  have w6 : (5 : Int) ≤ (if wide then 100 else 5) := by cases wide <;> decide
  refine ⟨_, rfl, .inr ⟨wide, rfl, ?_⟩⟩
  refine ⟨L1, _, _, _, rfl, rfl, SqL.of upd_same, at5, d, l, _, rfl, D2, w5.1, Int.lt_of_le_of_lt w5.2 (by decide), fun m2 H3 c0 c1 D3 b3 => ?_⟩
  have gr3 := gr2.trans (Grow.draw gr2.gh gd b3) D2.some'
  refine ⟨by show 3 ≤ sizeLine; decide, fun L2 hL2 => ?_⟩
  have gr4 := gr3.cell (o := .lst [.int 0, .int m1, .int m2]) hL2
  have D4 := D3.upd (o := .lst [.int 0, .int m1, .int m2]) hL2
  refine ⟨_, rfl, d, l, 3, rfl, D4, by decide, by decide, fun j H5 j0 j1 D5 b5 => ?_⟩
  have gr5 := gr4.trans (Grow.draw gr4.gh gd b5) D4.some'
  obtain ⟨m, hm, hm0, hm1⟩ : ∃ m : Int, atI [V.int 0, V.int m1, V.int m2] j = some (.int m) ∧ 0 ≤ m ∧ m < (if wide then 100 else 5) := by
    obtain ⟨n, rfl⟩ : ∃ n : Nat, j = (n : Int) := ⟨j.toNat, by omega⟩
    match n, j1 with
    | 0, _ => exact ⟨0, rfl, by decide, w5.1⟩
    | 1, _ => exact ⟨m1, rfl, a0, by omega⟩
    | 2, _ => exact ⟨m2, rfl, c0, c1⟩
    | n + 3, e => omega
  refine ⟨L2, _, _, _, rfl, rfl, SqL.of (b5 _ _ upd_same (D3.ned hL2)), hm, ?_⟩
  have hmn : m.natAbs < (if wide then 100 else 5) := by cases wide <;> simp at hm1 ⊢ <;> omega
  refine ⟨_, rfl, d, l, 3, rfl, D5, by decide, by decide, fun q H6 q0 q1 D6 b6 => ?_⟩
  have gr6 := gr5.trans (Grow.draw gr5.gh gd b6) D5.some'
  have tupOk : ∀ (H7 : Hp) (x : Str) (i : Int) (p : Addr), Grow (Only1 d) G H G H7 → DrawAt H7 d l → H7 p = none → EndOk wide sc (x, i) → Q (.ref p) (upd H7 p (.tup [.str x, .int i])) := fun H7 x i p g7 D7 hp eo => by
    have g8 := g7.new (o := .tup [.str x, .int i]) hp D7.some'
    exact k _ (x, i) _ _ g8 (D7.upd hp) (.tup (xs := [.str x, .int i]) (SqT.of upd_same) (.cons (.str _) (.cons (.int _) .nil))) eo
  refine ⟨rfl, _, rfl, ite2 (fun _ => ?_) (fun _ => ?_)⟩
  · refine ⟨_, rfl, by show 2 ≤ sizeLine; decide, fun p hp => ?_⟩
    exact tupOk _ "" m p gr6 D6 hp ⟨hmn, .inl ⟨rfl, hm0⟩⟩
  · have es6 : H6 sa = some (.lst (sc.map V.str)) := gr6.gh _ _ es
    have sp : 0 < sc.length := List.length_pos_iff.mpr sne
    refine ⟨_, rfl, _, rfl, d, l, _, rfl, D6, .inr ⟨sa, _, rfl, nsd, .inl (SqL.of es6), by rw [List.length_map]; exact sp, by rw [List.length_map]; omega, fun v H7 hv D7 b7 => ?_⟩⟩
    obtain ⟨x, hx, rfl⟩ := List.mem_map.mp hv
    have gr7 := gr6.trans (Grow.draw gr6.gh gd b7) D6.some'
    refine ⟨_, rfl, _, rfl, by show 2 ≤ sizeLine; decide, fun L3 hL3 => ?_⟩
    have gr8 := gr7.cell (o := .lst [.int 1, .int (-1)]) hL3
    have D8 := D7.upd (o := .lst [.int 1, .int (-1)]) hL3
    refine ⟨_, rfl, d, l, 2, rfl, D8, by decide, by decide, fun z H9 z0 z1 D9 b9 => ?_⟩
    have gr9 := gr8.trans (Grow.draw gr8.gh gd b9) D8.some'
    obtain ⟨y, hy, hy2⟩ : ∃ y : Int, atI [V.int 1, V.int (-1)] z = some (.int y) ∧ (y = 1 ∨ y = -1) := by
      obtain ⟨n, rfl⟩ : ∃ n : Nat, z = (n : Int) := ⟨z.toNat, by omega⟩
      match n, z1 with
      | 0, _ => exact ⟨1, rfl, .inl rfl⟩
      | 1, _ => exact ⟨-1, rfl, .inr rfl⟩
      | n + 2, e => omega
    have yn : (m * y).natAbs < (if wide then 100 else 5) := by
      rcases hy2 with rfl | rfl
      · rw [Int.mul_one]; exact hmn
      · rw [Int.mul_neg, Int.mul_one, Int.natAbs_neg]; exact hmn
    refine ⟨L3, _, _, _, rfl, rfl, SqL.of (b9 _ _ upd_same (D7.ned hL3)), hy, _, _, rfl, rfl, .inr (by rcases hy2 with rfl | rfl <;> decide), by show 2 ≤ sizeLine; decide, fun p hp => ?_⟩
    exact tupOk _ x (m * y) p gr9 D9 hp ⟨yn, .inr hx⟩
def spLeaf (K : PySem.W.Frag) : Sp := fun vs H Q _ => ∃ (d l kc dk sa : Addr) (sc : List Str) (k : Kit) (r : Int) (deep : Nat) (G : Hp), vs = [.ref d, .ref kc, .ref sa, .int (deep : Nat)] ∧ Same G H ∧ G d = none ∧ DrawAt H d l ∧ KitAt H kc dk r k ∧ KnAt G dk k.kn ∧
  G sa = some (.lst (sc.map V.str)) ∧ (Str.ofString "n") ∈ sc ∧ sc.length ≤ 25 ∧
  ∀ (v : V) (t : Thing) (G' H' : Hp), Grow (Only1 d) G H G' H' → DrawAt H' d l → Dp K G' v (thingD t) → ThOk k t sc deep → thingC t = 1 → Q v H'
theorem ok_law_leaf (T : Txt K mg) : FnOk P w K mg base CX0 4 T.a_law_leaf T.d_law_leaf ["_law_draw", "_law_kit", "_law_scope", "_law_deep"] (spLeaf K) := by
  refine T.F_law_leaf.ok sc_law_leaf (fun vs H Q E h => ?_) (fun cdv A outer s H vs Q E hr h => ?_)
  · obtain ⟨d, l, kc, dk, sa, sc, k, r, deep, G, rfl, _⟩ := h
    rfl
  obtain ⟨d, l, kc, dk, sa, sc, k, r, deep, G, rfl, sg, gd, D, kit, kn, es, hn, sl, q⟩ := h
  refine ⟨_, (pss_cons (ps_setLc (i := 5) (own := [("_law_name", 4)]) (g := gName 4) (tt := _) rfl sc_law_leaf.nd rfl rfl (sw_true rfl rfl rfl (by decide +kernel)) (pi_list (pe_callB (call_sortedD rfl) (by rfl) T.z_sorted (by decide +kernel) (pa_cons (pe_ix ix_list (pv 1) pe_int (fun _ _ => rfl)) pa_nil))) (blkOk_by (N := N_law_leaf) (sc := defScope s_law_leaf) (by decide +kernel)) (fun _ _ _ _ _ => (pg_name (i := 4) sc_law_leaf.nd rfl (Or.inl rfl))) (fun _ _ _ _ _ => (pts_one (PW.pt (pw_and (pt_cmpR op_lt (pe_op op_add (pe_ix (r := rIxT K) ix_tup (pe_dget (hu_of hr) (pe_ix (r := rIxL K) ix_list (pv 1) pe_int (fun _ _ => rfl)) (pv 4) (fun _ _ => rfl)) pe_int (fun _ _ => rfl)) (pv 3)) pe_int (nomark _)) (pw_and1 (pt_cmpR op_lt (pe_ix (r := rIxT K) ix_tup (pe_dget (hu_of hr) (pe_ix (r := rIxL K) ix_list (pv 1) pe_int (fun _ _ => rfl)) (pv 4) (fun _ _ => rfl)) pe_int (fun _ _ => rfl)) pe_int (nomark _))))))) (fun _ _ _ _ _ => (pv 4)))
      (C8.pss_cut (ps_if (PW.pt (pw_and (pt_cmpR (op_neD hr.units) (pv 5) (pe_lst pa_nil) (nomark _)) (pw_and1 (pt_cmpR op_eq (pe_call (ok_law_take T) (hr.mono (by decide)) (by rfl) T.g_law_take T.F_law_take.kp T.b_law_take .nil pass0 (pa_cons (pv 0) (pa_cons pe_int pa_nil))) pe_int (nomark _))))) (pss_cons (ps_set (i := 4) sc_law_leaf.nd rfl (Or.inl rfl) (pe_call (ok_law_pick T) (hr.mono (by decide)) (by rfl) T.g_law_pick T.F_law_pick.kp T.b_law_pick .nil pass0 (pa_cons (pv 0) (pa_cons (pv 5) pa_nil))))
      (pss_cons (ps_set (i := 6) sc_law_leaf.nd rfl (Or.inl rfl) (pe_call (ok_law_some_end T) (hr.mono (by decide)) (by rfl) T.g_law_some_end T.F_law_some_end.kp T.b_law_some_end .nil pass0 (pa_cons (pv 0) (pa_cons (pv 2) (pa_cons (pe_ix ix_list (pv 1) pe_int (fun _ _ => rfl)) pa_nil)))))
      (pss_one (ps_ret (pe_tup (pa_cons pe_str (pa_cons (pv 4) (pa_cons (pe_ifExp (PW.pt (pw_and (pt_val (pe_ix ix_tup (pe_dget (hu_of hr) (pe_ix ix_list (pv 1) pe_int (fun _ _ => rfl)) (pv 4) (fun _ _ => rfl)) pe_int (fun _ _ => rfl))) (pw_and1 (pt_cmpR op_ne (pe_ix ix_tup (pv 6) pe_int (fun _ _ => rfl)) pe_str (nomark _))))) (pe_tup (pa_cons pe_str (pa_cons pe_int pa_nil))) (pv 6)) pa_nil)))))))) pss_nil)
      (pss_one (ps_ret (pe_tup (pa_cons pe_str (pa_cons (pe_ix ix_list (pe_lst (pa_cons (pe_call (ok_law_take T) (hr.mono (by decide)) (by rfl) T.g_law_take T.F_law_take.kp T.b_law_take .nil pass0 (pa_cons (pv 0) (pa_cons pe_int pa_nil))) (pa_cons (pe_call (ok_law_take T) (hr.mono (by decide)) (by rfl) T.g_law_take T.F_law_take.kp T.b_law_take .nil pass0 (pa_cons (pv 0) (pa_cons pe_int pa_nil))) pa_nil))) (pe_call (ok_law_take T) (hr.mono (by decide)) (by rfl) T.g_law_take T.F_law_take.kp T.b_law_take .nil pass0 (pa_cons (pv 0) (pa_cons pe_int pa_nil))) (fun _ _ => rfl)) pa_nil))))))), ?_⟩
  obtain ⟨kvs, e1, e2, e3⟩ := kn.ex
  have ki : ∀ {H'}, Same H H' → SqL K H' kc [.int r, .ref dk, .bl k.fig, .bl k.wide] := fun s => SqL.of (s _ _ kit)
  refine ⟨_, rfl, kc, _, _, _, rfl, rfl, SqL.of kit, (rfl : atI [V.int r, .ref dk, .bl k.fig, .bl k.wide] 1 = some (.ref dk)), dk, kvs, k.kn.map (·.1), rfl, .inl (sg _ _ e1), e2, by rw [List.length_map]; have := kn.len; omega, fun ys p hperm _ hp => ?_⟩
  have s1 : Same H _ := same_upd (o := .lst (ys.map V.str)) hp
  refine ⟨p, rfl, ⟨_, SqL.of upd_same⟩, fun R hR => ?_⟩
  have yl : ys.length < 60 := by
    rw [hperm.length_eq, List.length_map]
    exact kn.len
  let ok1 : Str → Prop := fun x => ∃ en : Bool × Int × Int, ((x, en) ∈ k.kn ∧ en.2.1 + deep < 9 ∧ en.2.2 < 4) ∧ ∃ p, valV kvs (Sum.inr x) = some (.ref p) ∧ G p = some (.tup [.bl en.1, .int en.2.1, .int en.2.2])
  refine lc_it (walk_list (xs := ys.map V.str)) (fun i H' => Same (upd H p (.lst (ys.map V.str))) H' ∧ ∃ fs : List Str, fs.length ≤ i ∧ (∀ x ∈ fs, ok1 x) ∧ H' R = some (.lst (fs.map V.str))) ⟨same_upd hR, [], Nat.le_refl _, (fun _ h => nomatch h), upd_same⟩ (fun i H' _ p => SqL.of (p.1 _ _ upd_same)) ?_ ?_
  · rintro i x H1 H2 hi ⟨sm, fs, fl, fo, eR⟩ ⟨rfl, hx⟩
    have hi : i < ys.length := by simpa using hi
    rw [List.getElem?_map] at hx
    obtain ⟨y, hy, rfl⟩ : ∃ y, ys[i]? = some y ∧ x = .str y := by
      cases h : ys[i]? with
      | none => rw [h] at hx; cases hx
      | some y => rw [h] at hx; exact ⟨y, rfl, (Option.some.inj hx).symm⟩
    have ym : y ∈ k.kn.map (·.1) := hperm.mem_iff.mp (List.mem_of_getElem? hy)
    obtain ⟨en, p2, q1, q2, q3⟩ := e3 y ym
    have s2 := s1.trans sm
    have dg : DGet H2 dk (.str y) (some (.ref p2)) := by
      have := DGet.k (k := Sum.inr y) (s2 _ _ (sg _ _ e1))
      rw [q2] at this
      exact this
    have st : SqT K H2 p2 [.bl en.1, .int en.2.1, .int en.2.2] := SqT.of (s2 _ _ (sg _ _ q3))
    have ak : ∀ {H' : Hp} (s : Same H H'), SqL K H' kc [.int r, .ref dk, .bl k.fig, .bl k.wide] := fun s => ki s
    refine ⟨rfl, ?_⟩
    refine ⟨_, rfl, kc, _, _, _, rfl, rfl, ki s2, (rfl : atI [V.int r, .ref dk, .bl k.fig, .bl k.wide] 1 = some (.ref dk)), _, rfl, dk, _, rfl, dg, p2, _, _, _, rfl, rfl, st, (rfl : atI [V.bl en.1, .int en.2.1, .int en.2.2] 1 = some (.int en.2.1)), _, rfl, _, _, rfl, rfl, _, _, rfl, rfl, _, rfl, ?_⟩
    refine ite2 (fun c1 => ?_) (fun c1 => ?_)
    · have c1' : en.2.1 + deep < 9 := of_decide_eq_true c1
      refine ⟨_, rfl, kc, _, _, _, rfl, rfl, ki s2, (rfl : atI [V.int r, .ref dk, .bl k.fig, .bl k.wide] 1 = some (.ref dk)), _, rfl, dk, _, rfl, dg, p2, _, _, _, rfl, rfl, st, (rfl : atI [V.bl en.1, .int en.2.1, .int en.2.2] 2 = some (.int en.2.2)), _, _, rfl, rfl, _, rfl, ?_⟩
      refine ite2 (fun c2 => ?_) (fun c2 => ?_)
      · have c2' : en.2.2 < 4 := of_decide_eq_true c2
        refine ⟨_, rfl, _, eR, ?_, same_put sm hR, fs ++ [y], ?_, ?_, ?_⟩
        · rw [List.length_map]
          exact small1000 (by omega)
        · rw [List.length_append, List.length_singleton]
          omega
        · intro z hz
          rcases List.mem_append.mp hz with hz | hz
          · exact fo z hz
          · rw [List.mem_singleton.mp hz]
            exact ⟨en, ⟨q1, c1', c2'⟩, p2, q2, q3⟩
        · rw [upd_same, List.map_append]
          rfl
      · exact ⟨sm, fs, by omega, fo, eR⟩
    · exact iteF ⟨sm, fs, by omega, fo, eR⟩
  rintro H1 ⟨sm, fs, fl, fo, eR⟩
  have fl : fs.length < 60 := by
    have : fs.length ≤ (ys.map V.str).length := fl
    rw [List.length_map] at this
    omega
  have s2 := s1.trans sm
  have gr1 : Grow (Only1 d) G H G H1 := ⟨Same.refl _, sg.trans s2, same_but s2, fun _ _ => rfl⟩
  have D1 := (D.mono s1).mono sm
  have dF : ∀ {H' : Hp} {l : List Str}, DpAll K H' (l.map V.str) (l.map PyData.str) := fun {H' l} => by
    induction l with
    | nil => exact .nil
    | cons x l ih => exact .cons (.str _) ih
  have nmOk : ∀ x, ok1 x → NameOk x := fun x ⟨en, h, _⟩ => kn.ok _ h.1
  have stepP : ∀ (H5 : Hp), Grow (Only1 d) G H G H5 → DrawAt H5 d l → ∀ (n : Int), 0 ≤ n → n < 100 → ∀ p, H5 p = none → Q (.ref p) (upd H5 p (.tup [.str "step", .int n])) := fun H5 g5 D5 n h0 h1 p hp => by
    have g6 := g5.new (o := .tup [.str "step", .int n]) hp D5.some'
    refine q _ (.step n) _ _ g6 (D5.upd hp) ?_ ?_ ?_
    · rw [thingD]
      exact .tup (xs := [.str "step", .int n]) (SqT.of upd_same) (.cons (.str _) (.cons (.int _) .nil))
    · rw [ThOk]
      exact ⟨h0, h1⟩
    · simp [thingC]
  refine ⟨fun σ H' => Grow (Only1 d) G H G H' ∧ DrawAt H' d l ∧ ∃ v4 v5 v6, σ = [some (.ref d), some (.ref kc), some (.ref sa), some (.int (deep : Nat)), v4, v5, v6], ?_, ?_⟩
  · refine ⟨_, rfl, by show 0 ≤ sizeLine; decide, fun N hN => ?_⟩
    have sN := same_upd (o := .lst []) hN
    have gr2 := gr1.cell (o := .lst []) hN
    have D2 := D1.upd (o := .lst []) hN
    refine ⟨.list (fs.map PyData.str), .list [], .lst (SqL.of (sN _ _ eR)) dF, .lst (SqL.of upd_same) .nil, shaped_list fun x hx => ⟨strOk_name (nmOk x (fo x hx)), Nat.zero_le _⟩, shaped_nil, _, rfl, ?_⟩
    rw [eqv_nil]
    refine ite2 (fun c1 => ?_) (fun c1 => iteF ⟨gr2, D2, _, _, _, rfl⟩)
    have fne : fs ≠ [] := by
      rintro rfl
      exact absurd c1 (by decide)
    refine ⟨_, rfl, d, l, 2, rfl, D2, by decide, by decide, fun z H3 z0 z1 D3 b3 => ?_⟩
    have gr3 := gr2.trans (Grow.draw gr2.gh gd b3) D2.some'
    refine ⟨rfl, _, rfl, ite2 (fun c2 => ?_) (fun c2 => ⟨gr3, D3, _, _, _, rfl⟩)⟩
    have nRd : R ≠ d := (D.mono s1).ned hR
    have eR3 := b3 _ _ (sN _ _ eR) nRd
    refine ⟨_, rfl, _, rfl, d, l, _, rfl, D3, .inr ⟨R, _, rfl, nRd, .inl (SqL.of eR3), ?_, ?_, fun v H4 hv D4 b4 => ?_⟩⟩
    · rw [List.length_map]
      exact List.length_pos_iff.mpr fne
    · rw [List.length_map]
      omega
    obtain ⟨nm, hnm, rfl⟩ := List.mem_map.mp hv
    have gr4 := gr3.trans (Grow.draw gr3.gh gd b4) D3.some'
    have nkd := kit.ne D
    have kit4 : KitAt H4 kc dk r k := gr4.h _ _ kit nkd
    have sg4 := gr4.gh
    refine ⟨_, rfl, _, rfl, _, rfl, kc, _, _, _, rfl, rfl, SqL.of kit4, (rfl : atI [V.int r, .ref dk, .bl k.fig, .bl k.wide] 3 = some (.bl k.wide)), ?_⟩
    refine ⟨d, l, sa, sc, k.wide, G, rfl, sg4, gd, D4, es, List.ne_nil_of_mem hn, by omega, fun v e G5 H5 g5 D5 de eo => ?_⟩
    have gr5 := gr4.trans g5 D4.some'
    obtain ⟨pe, x, y, rfl, he, hx, hy⟩ := de.tup2
    cases hx.str'
    cases hy.int'
    obtain ⟨en, ⟨hen, hw, hc⟩, p2, q2, q3⟩ := fo nm hnm
    have sg5 := gr5.gh
    have kit5 : KitAt H5 kc dk r k := gr5.h _ _ kit nkd
    have dg : DGet H5 dk (.str nm) (some (.ref p2)) := by
      have := DGet.k (k := Sum.inr nm) (sg5 _ _ (gr5.g _ _ e1))
      rw [q2] at this
      exact this
    have st : SqT K H5 p2 [.bl en.1, .int en.2.1, .int en.2.2] := SqT.of (sg5 _ _ (gr5.g _ _ q3))
    have he5 : SqT K H5 pe [.str e.1, .int e.2] := same_t sg5 he
    have fin : ∀ (H6 : Hp) (G6 : Hp) (e' : En) (v : V) (p : Addr), Grow (Only1 d) G H G6 H6 → DrawAt H6 d l → Dp K G6 v (endD e') → EndOk k.wide sc e' → (en.1 = true → e'.1 = "" ∨ e' = ((Str.ofString "n", 0) : En)) → H6 p = none → Q (.ref p) (upd H6 p (.tup [.str "call", .str nm, v])) := fun H6 G6 e' v p g6 D6 dv eo ef hp => by
      have g7 := g6.new (o := .tup [.str "call", .str nm, v]) hp D6.some'
      have s7 : Same G6 _ := same_upd (o := .tup [.str "call", .str nm, v]) (g6.gh.free hp)
      refine q _ (.call nm e') _ _ g7 (D6.upd hp) ?_ ?_ ?_
      · rw [thingD]
        exact .tup (xs := [.str "call", .str nm, v]) (SqT.of upd_same) (.cons (.str _) (.cons (.str _) (.cons (dv.mono s7) .nil)))
      · rw [ThOk]
        exact ⟨en, hen, hw, hc, eo, ef⟩
      · simp [thingC]
    have dE : Dp K G5 (.ref pe) (endD e) := .tup he (.cons (.str _) (.cons (.int _) .nil))
    refine ⟨_, rfl, ?_⟩
    refine ⟨_, rfl, kc, _, _, _, rfl, rfl, SqL.of kit5, (rfl : atI [V.int r, .ref dk, .bl k.fig, .bl k.wide] 1 = some (.ref dk)), _, rfl, dk, _, rfl, dg, p2, _, _, _, rfl, rfl, st, (rfl : atI [V.bl en.1, .int en.2.1, .int en.2.2] 0 = some (.bl en.1)), _, rfl, ?_⟩
    have useE : (en.1 = true → e.1 = "" ∨ e = ((Str.ofString "n", 0) : En)) → ∃ v, [some (V.ref d), some (V.ref kc), some (V.ref sa), some (V.int (deep : Nat)), some (V.str nm), some (V.ref R), some (V.ref pe)][6]? = some (some v) ∧ 3 ≤ sizeLine ∧ ∀ p, H5 p = none → Q (.ref p) (upd H5 p (.tup [.str "call", .str nm, v])) := fun hf =>
      ⟨_, rfl, by decide, fun p hp => fin H5 G5 e _ p gr5 D5 dE eo hf hp⟩
    refine ite2 (fun c3 => ?_) (fun c3 => iteF (useE (fun h => absurd h c3)))
    refine ⟨_, rfl, pe, _, _, _, rfl, rfl, he5, (rfl : atI [V.str e.1, .int e.2] 0 = some (.str e.1)), rfl, _, rfl, ?_⟩
    refine ite2 (fun c4 => ?_) (fun c4 => useE (fun _ => .inl ?_))
    · refine ⟨by show 2 ≤ sizeLine; decide, fun p hp => ?_⟩
      have g6 := gr5.new (o := .tup [.str "n", .int 0]) hp D5.some'
      refine ⟨by show 3 ≤ sizeLine; decide, fun p' hp' => ?_⟩
      exact fin _ _ ("n", 0) _ p' g6 (D5.upd hp) (.tup (xs := [.str "n", .int 0]) (SqT.of upd_same) (.cons (.str _) (.cons (.int _) .nil))) ⟨by show (0 : Int).natAbs < _; split <;> decide, .inr hn⟩ (fun _ => .inr rfl) hp'
    · have : ¬ (!decide (V.str e.1 = V.str "")) = true := c4
      simp at this
      exact this
  · rintro σ H3 ⟨gr3, D3, v4, v5, v6, rfl⟩
    refine ⟨_, rfl, d, l, 5, rfl, D3, by decide, by decide, fun x1 H4 a0 a1 D4 b4 => ?_⟩
    have gr4 := gr3.trans (Grow.draw gr3.gh gd b4) D3.some'
    refine ⟨_, rfl, d, l, 100, rfl, D4, by decide, by decide, fun x2 H5 c0 c1 D5 b5 => ?_⟩
    have gr5 := gr4.trans (Grow.draw gr4.gh gd b5) D4.some'
    refine ⟨by show 2 ≤ sizeLine; decide, fun L hL => ?_⟩
    have gr6 := gr5.cell (o := .lst [.int x1, .int x2]) hL
    have D6 := D5.upd (o := .lst [.int x1, .int x2]) hL
    refine ⟨_, rfl, d, l, 2, rfl, D6, by decide, by decide, fun x3 H7 e0 e1 D7 b7 => ?_⟩
    have gr7 := gr6.trans (Grow.draw gr6.gh gd b7) D6.some'
    obtain ⟨n, hn, n0, n1⟩ : ∃ n : Int, atI [V.int x1, V.int x2] x3 = some (.int n) ∧ 0 ≤ n ∧ n < 100 := by
      obtain ⟨j, rfl⟩ : ∃ j : Nat, x3 = (j : Int) := ⟨x3.toNat, by omega⟩
      match j, e1 with
      | 0, _ => exact ⟨x1, rfl, a0, by omega⟩
      | 1, _ => exact ⟨x2, rfl, c0, c1⟩
      | j + 2, e => omega
    refine ⟨L, _, _, _, rfl, rfl, SqL.of (b7 _ _ upd_same (D5.ned hL)), hn, by show 2 ≤ sizeLine; decide, fun p hp => ?_⟩
    exact stepP _ gr7 D7 n n0 n1 p hp
theorem kept_split : Txt.split "step for from to if else double call with again on halves thirds less n" " " = keptL := by decide +kernel
/-- the kept words, a new list -/
def spKept : Sp := fun vs H Q _ => vs = [] ∧ ∀ p, H p = none → Q (.ref p) (upd H p (.lst (keptL.map V.str)))
theorem ok_law_kept_words (T : Txt K mg) : FnOk P w K mg base CX0 1 T.a_law_kept_words T.d_law_kept_words [] spKept := by
  refine T.F_law_kept_words.ok sc_law_kept_words (fun vs H Q E h => ?_) (fun cdv A outer s H vs Q E hr h => ?_)
  · obtain ⟨rfl, _⟩ := h
    rfl
  obtain ⟨rfl, k⟩ := h
  refine ⟨_, (pss_one (ps_ret (pe_split pe_str pe_str))), ?_⟩
  refine ⟨⟨_, rfl⟩, _, _, rfl, rfl, by decide +kernel, by decide +kernel, fun p hp => ?_⟩
  rw [kept_split]
  exact k p hp
/-- a name that is free -/
def spFresh (K : PySem.W.Frag) : Sp := fun vs H Q _ => ∃ (d l ta : Addr) (taken : List Str), vs = [.ref d, .ref ta] ∧ DrawAt H d l ∧ H ta = some (.lst (taken.map V.str)) ∧ taken.length ≤ 25 ∧
  ∀ (nm : Str) (H' : Hp), But (Only1 d) H H' → DrawAt H' d l → NameOk nm → nm ∉ taken → Q (.str nm) H'
theorem signs_sum : ∀ cs : List Nat, ((cs.map fun c => (⟨#[c]⟩ : Str)).map (·.length)).sum = cs.length
  | [] => rfl
  | c :: r => by
    rw [List.map_cons, List.map_cons, List.sum_cons, signs_sum r, List.length_cons]
    show 1 + _ = _
    omega
theorem ok_law_fresh (T : Txt K mg) : FnOk P w K mg base CX0 3 T.a_law_fresh T.d_law_fresh ["_law_draw", "_law_taken"] (spFresh K) := by
  refine T.F_law_fresh.ok sc_law_fresh (fun vs H Q E h => ?_) (fun cdv A outer s H vs Q E hr h => ?_)
  · obtain ⟨d, l, ta, taken, rfl, _⟩ := h
    rfl
  obtain ⟨d, l, ta, taken, rfl, D, et, tl, k⟩ := h
  refine ⟨_, (pss_cons (ps_set (i := 2) sc_law_fresh.nd rfl (Or.inl rfl) (pe_ix ix_list (pe_lst (pa_cons pe_int (pa_cons pe_int (pa_cons pe_int (pa_cons pe_int (pa_cons pe_int (pa_cons (pe_op op_add pe_int (pe_call (ok_law_take T) (hr.mono (by decide)) (by rfl) T.g_law_take T.F_law_take.kp T.b_law_take .nil pass0 (pa_cons (pv 0) (pa_cons pe_int pa_nil)))) pa_nil))))))) (pe_call (ok_law_take T) (hr.mono (by decide)) (by rfl) T.g_law_take T.F_law_take.kp T.b_law_take .nil pass0 (pa_cons (pv 0) (pa_cons pe_int pa_nil))) (fun _ _ => rfl)))
      (pss_cons (ps_set (i := 3) sc_law_fresh.nd rfl (Or.inl rfl) (pe_join pe_str (pe_lc (own := [("_law_k", 6)]) (g := gName 6) (tt := tYes) rfl sc_law_fresh.nd (pi_range1 (by rfl) T.z_range (pa_cons (pv 2) pa_nil)) (blkOk_by (N := N_law_fresh) (sc := defScope s_law_fresh) (by decide +kernel)) (fun _ _ _ _ _ => (pg_name (i := 6) sc_law_fresh.nd rfl (Or.inl rfl))) (fun _ _ _ _ _ => pts_nil) (fun _ _ _ _ _ => (pe_call (ok_law_pick T) (hr.mono (by decide)) (by rfl) T.g_law_pick T.F_law_pick.kp T.b_law_pick .nil pass0 (pa_cons (pv 0) (pa_cons pe_str pa_nil)))))))
      (C8.pss_cut (ps_if (PW.pt (pw_and (pt_cmpR op_notIn_seq (pv 3) (pv 1) (by rfl)) (pw_and1 (pt_cmpR op_notIn_seq (pv 3) (pe_call0 (ok_law_kept_words T) (hr.mono (by decide)) (by rfl) T.g_law_kept_words T.F_law_kept_words.kp T.b_law_kept_words .nil pass0) (by rfl))))) (pss_one (ps_ret (pv 3))) pss_nil)
      (pss_cons (ps_setLc (i := 4) (own := [("_law_sign", 5)]) (g := gName 5) (tt := tYes) rfl sc_law_fresh.nd rfl rfl (sw_true rfl rfl rfl (by decide +kernel)) (pi_str pe_str) (blkOk_by (N := N_law_fresh) (sc := defScope s_law_fresh) (by decide +kernel)) (fun _ _ _ _ _ => (pg_name (i := 5) sc_law_fresh.nd rfl (Or.inl rfl))) (fun _ _ _ _ _ => pts_nil) (fun _ _ _ _ _ => (pe_op op_repS (pv 5) pe_int)))
      (pss_one (ps_ret (pe_ix ix_list (pe_lc (own := [("_law_one", 7)]) (g := gName 7) (tt := _) rfl sc_law_fresh.nd (pi_list (pv 4)) (blkOk_by (N := N_law_fresh) (sc := defScope s_law_fresh) (by decide +kernel)) (fun _ _ _ _ _ => (pg_name (i := 7) sc_law_fresh.nd rfl (Or.inl rfl))) (fun _ _ _ _ _ => (pts_one (pt_cmpR (r := rIn K true) op_notIn_seq (pv 7) (pv 1) (by rfl)))) (fun _ _ _ _ _ => (pv 7))) pe_int (fun _ _ => rfl)))))))), ?_⟩
  have ntd : ta ≠ d := by
    rintro rfl
    obtain ⟨ns, p, z, s, e, _⟩ := D.ex
    rw [et] at e
    cases taken with
    | nil => cases e
    | cons x r => cases e
  refine ⟨_, rfl, d, l, 8, rfl, D, by decide, by decide, fun m1 H1 a0 a1 D1 b1 => ?_⟩
  refine ⟨_, _, rfl, rfl, by show 6 ≤ sizeLine; decide, fun L1 hL1 => ?_⟩
  have D2 := D1.upd (o := .lst [.int 1, .int 1, .int 2, .int 3, .int 8, .int (1 + m1)]) hL1
  refine ⟨_, rfl, d, l, 6, rfl, D2, by decide, by decide, fun j H3 j0 j1 D3 b3 => ?_⟩
  obtain ⟨m, hm, hm0, hm1⟩ : ∃ m : Nat, atI [V.int 1, .int 1, .int 2, .int 3, .int 8, .int (1 + m1)] j = some (.int (m : Nat)) ∧ 1 ≤ m ∧ m ≤ 8 := by
    obtain ⟨n, rfl⟩ : ∃ n : Nat, j = (n : Int) := ⟨j.toNat, by omega⟩
    match n, j1 with
    | 0, _ => exact ⟨1, rfl, by decide, by decide⟩
    | 1, _ => exact ⟨1, rfl, by decide, by decide⟩
    | 2, _ => exact ⟨2, rfl, by decide, by decide⟩
    | 3, _ => exact ⟨3, rfl, by decide, by decide⟩
    | 4, _ => exact ⟨8, rfl, by decide, by decide⟩
    | 5, _ => exact ⟨(1 + m1).toNat, by rw [show (((1 + m1).toNat : Nat) : Int) = 1 + m1 by omega]; rfl, by omega, by omega⟩
    | n + 6, e => omega
  have b03 : But (Only1 d) H H3 := (b1.trans (But.new hL1)).trans b3
  refine ⟨L1, _, _, _, rfl, rfl, SqL.of (b3 _ _ upd_same (D1.ned hL1)), hm, ?_⟩
  refine ⟨⟨_, rfl⟩, ?_⟩
  refine ⟨_, rfl, (m : Int), rfl, by omega, by omega, fun R hR => ?_⟩
  have nRd := D3.ned hR
  refine lc_it walk_range (fun i H' => But (Only1 d) H3 H' ∧ DrawAt H' d l ∧ ∃ cs : List Nat, cs.length = i ∧ (∀ c ∈ cs, 97 ≤ c ∧ c ≤ 122) ∧ H' R = some (.lst (cs.map fun c => V.str ⟨#[c]⟩))) ⟨But.new hR, D3.upd hR, [], rfl, (fun _ h => nomatch h), upd_same⟩ (fun _ _ _ _ => trivial) ?_ ?_
  · rintro i x H5 H6 hi ⟨b5, D5, cs, lc, cl, eR⟩ ⟨rfl, rfl⟩
    have hi : i < m := by
      have hi : i < ((m : Int) - 0).toNat := hi
      omega
    refine ⟨rfl, ?_⟩
    refine ⟨_, rfl, d, l, _, rfl, D5, .inl ⟨letters, rfl, by decide +kernel, by decide +kernel, fun c H7 hc D7 b7 => ?_⟩⟩
    have eR7 := b7 _ _ eR nRd
    refine ⟨_, eR7, by rw [List.length_map, lc]; exact Nat.lt_of_lt_of_le hi (Nat.le_trans hm1 (by decide)), ?_⟩
    refine ⟨(b5.trans b7).put0 hR, D7.put nRd (D3.nel hR), cs ++ [c], by rw [List.length_append, lc]; rfl, fun c' h => ?_, by rw [upd_same, List.map_append]; rfl⟩
    rcases List.mem_append.mp h with h | h
    · exact cl c' h
    · rw [List.mem_singleton.mp h]
      exact letters_ok c hc
  rintro H5 ⟨b5, D5, cs, lc, cl, eR⟩
  have lc : cs.length = m := by
    have lc : cs.length = ((m : Int) - 0).toNat := lc
    omega
  refine ⟨_, R, cs.map fun c => (⟨#[c]⟩ : Str), rfl, rfl, .inl (SqL.of (by rw [eR, List.map_map]; rfl)), ?_, ?_⟩
  · rw [List.length_map, signs_sum]
    have e0 : (Str.ofString "").length = 0 := by decide
    rw [e0]
    omega
  rw [join_signs]
  have b05 := b03.trans b5
  have et5 := b05 _ _ et ntd
  have nl : (⟨cs.toArray⟩ : Str).length = m := by
    show cs.toArray.size = m
    rw [List.size_toArray]
    exact lc
  have kn : ∀ H8, But (Only1 d) H H8 → DrawAt H8 d l → ¬ (⟨cs.toArray⟩ : Str) ∈ taken → ¬ (⟨cs.toArray⟩ : Str) ∈ keptL → Q (.str ⟨cs.toArray⟩) H8 := fun H8 b8 D8 h1 h2 =>
    k _ H8 b8 D8 ⟨by rw [nl]; exact hm0, by rw [nl]; exact hm1, cl, h2⟩ h1
  refine ⟨fun σ H' => But (Only1 d) H H' ∧ DrawAt H' d l ∧ ∃ v2 v3 v4 v5 v6 v7, σ = [some (.ref d), some (.ref ta), v2, v3, v4, v5, v6, v7], ?_, ?_⟩
  · refine ⟨_, rfl, _, rfl, ta, _, rfl, .inl (SqL.of et5), rfl, flat_strs _, _, rfl, ?_⟩
    rw [show (if true = true then !inV (V.str ⟨cs.toArray⟩) (taken.map V.str) else inV (V.str ⟨cs.toArray⟩) (taken.map V.str)) = !decide ((⟨cs.toArray⟩ : Str) ∈ taken) by rw [if_pos rfl, inV_strs]]
    refine ite2 (fun c1 => ?_) (fun c1 => ?_)
    · have c1' : ¬ (⟨cs.toArray⟩ : Str) ∈ taken := by simpa using c1
      refine ⟨_, rfl, rfl, fun p hp => ⟨p, _, rfl, .inl (SqL.of upd_same), rfl, flat_strs _, _, rfl, ?_⟩⟩
      rw [show (if true = true then !inV (V.str ⟨cs.toArray⟩) (keptL.map V.str) else inV (V.str ⟨cs.toArray⟩) (keptL.map V.str)) = !decide ((⟨cs.toArray⟩ : Str) ∈ keptL) by rw [if_pos rfl, inV_strs]]
      have b6 := b05.trans (But.new (o := .lst (keptL.map V.str)) hp)
      have D6 := D5.upd (o := .lst (keptL.map V.str)) hp
      refine ite2 (fun c2 => ?_) (fun c2 => ?_)
      · have c2' : ¬ (⟨cs.toArray⟩ : Str) ∈ keptL := by simpa using c2
        exact ⟨_, rfl, kn _ b6 D6 c1' c2'⟩
      · exact ⟨b6, D6, _, _, _, _, _, _, rfl⟩
    · exact iteF ⟨b05, D5, _, _, _, _, _, _, rfl⟩
  · rintro σ H6 ⟨b6, D6, v2, v3, v4, v5, v6, v7, rfl⟩
    refine ⟨letters, rfl, fun S hS => ?_⟩
    have n26 : letters.cps.size = 26 := by decide +kernel
    have sp26 : spares.length = 26 := spares_len
    have rep_ok : ∀ c : Nat, (repS (⟨#[c]⟩ : Str) 2).length = 2 := fun c => rfl
    refine lc_pure walk_str (fun j => .str (spares.getD j Str.empty)) (by rw [n26]; decide) hS (fun _ _ => trivial) ?_ ?_
    · rintro j x H7 H8 Q' hj s7 ⟨rfl, c, hc, rfl⟩ kq
      have e : spares.getD j Str.empty = repS (⟨#[c]⟩ : Str) 2 := by
        refine getD_of' ?_
        unfold spares
        rw [List.getElem?_map, Array.getElem?_toList, hc]
        rfl
      refine ⟨rfl, ?_⟩
      refine ⟨_, rfl, _, 2, rfl, rfl, by decide, by decide, (by show 0 < 1; decide), (by show 1 * 2 ≤ 2 ^ 20; decide), (by show 2 ≤ sizeLine; decide), ?_⟩
      have q := kq _ (Same.refl _)
      rw [e] at q
      exact q
    intro H7 s7 eS
    have eS : H7 S = some (.lst (spares.map V.str)) := by
      rw [eS, n26, ← sp26]
      show some (HO.lst ((List.range _).map (V.str ∘ fun j => spares.getD j Str.empty))) = _
      rw [← List.map_map, range_getD]
    have b7 := b6.trans (same_but s7)
    have et7 := b7 _ _ et ntd
    refine ⟨_, rfl, S, rfl, ⟨_, SqL.of eS⟩, fun R2 hR2 => ?_⟩
    refine lc_it (walk_list (xs := spares.map V.str)) (fun i H' => Same H7 H' ∧ H' R2 = some (.lst (((spares.take i).filter fun x => !decide (x ∈ taken)).map V.str))) ⟨same_upd hR2, upd_same⟩ (fun i H' _ p => SqL.of (p.1 _ _ eS)) ?_ ?_
    · rintro i x H8 H9 hi ⟨s8, eR2⟩ ⟨rfl, hx⟩
      rw [List.getElem?_map] at hx
      obtain ⟨y, hy, rfl⟩ : ∃ y, spares[i]? = some y ∧ x = .str y := by
        cases h : spares[i]? with
        | none => rw [h] at hx; cases hx
        | some y => rw [h] at hx; exact ⟨y, rfl, (Option.some.inj hx).symm⟩
      refine ⟨rfl, ?_⟩
      refine ⟨_, rfl, _, rfl, ta, _, rfl, .inl (SqL.of (s8 _ _ et7)), rfl, flat_strs _, _, rfl, ?_⟩
      rw [show (if true = true then !inV (V.str y) (taken.map V.str) else inV (V.str y) (taken.map V.str)) = !decide (y ∈ taken) by rw [if_pos rfl, inV_strs]]
      have e : (spares.take (i + 1)).filter (fun x => !decide (x ∈ taken)) = (spares.take i).filter (fun x => !decide (x ∈ taken)) ++ (if (!decide (y ∈ taken)) = true then [y] else []) := by
        rw [take_snoc hy, List.filter_append, List.filter_cons, List.filter_nil]
      refine ite2 (fun c => ?_) (fun c => ?_)
      · rw [if_pos c] at e
        refine ⟨_, rfl, _, eR2, ?_, same_put s8 hR2, ?_⟩
        · rw [List.length_map]
          refine Nat.lt_of_le_of_lt (List.length_filter_le ..) ?_
          rw [List.length_take, sp26]
          exact Nat.lt_of_le_of_lt (Nat.min_le_right ..) (by decide)
        · rw [upd_same, e, List.map_append]
          rfl
      · rw [if_neg c, List.append_nil] at e
        rw [e]
        exact ⟨s8, eR2⟩
    rintro H8 ⟨s8, eR2⟩
    have ef : (spares.take (spares.map V.str).length).filter (fun x => !decide (x ∈ taken)) = spares.filter fun x => !decide (x ∈ taken) := by
      rw [List.length_map, List.take_length]
    rw [ef] at eR2
    obtain ⟨x, hx1, hx2⟩ := spare_free tl
    cases hz : spares.filter (fun x => !decide (x ∈ taken)) with
    | nil =>
      have : x ∈ spares.filter (fun x => !decide (x ∈ taken)) := List.mem_filter.mpr ⟨hx1, by simpa using hx2⟩
      rw [hz] at this
      cases this
    | cons y r =>
      rw [hz] at eR2
      have hy : y ∈ spares.filter (fun x => !decide (x ∈ taken)) := by rw [hz]; exact List.mem_cons_self ..
      obtain ⟨hy1, hy2⟩ := List.mem_filter.mp hy
      obtain ⟨o1, o2, o3⟩ := spares_ok y hy1
      refine ⟨R2, _, _, _, rfl, rfl, SqL.of eR2, atI_nat (j := 0) (xs := V.str y :: r.map V.str) rfl, ?_⟩
      exact k y _ (b7.trans (same_but s8)) ((D6.mono s7).mono s8) ⟨by omega, by omega, o2, o3⟩ (by simpa using hy2)
theorem thing_step (T : Txt K mg) (f : Nat) (G_law_drawn_body : FnOk P w K mg base CX0 (2 * f + 11) T.a_law_drawn_body T.d_law_drawn_body ["_law_draw", "_law_kit", "_law_scope", "_law_deep"] (spBody K f)) :
    FnOk P w K mg base CX0 (2 * f + 12) T.a_law_drawn_thing T.d_law_drawn_thing ["_law_draw", "_law_kit", "_law_scope", "_law_deep"] (spThing K (f + 1)) := by
  refine T.F_law_drawn_thing.ok sc_law_drawn_thing (fun vs H Q E h => ?_) (fun cdv A outer s H vs Q E hr h => ?_)
  · obtain ⟨d, l, kc, dk, sa, sc, k, r, deep, G, rfl, _⟩ := h
    rfl
  obtain ⟨d, l, kc, dk, sa, sc, k, r, deep, G, rfl, sg, gd, gk, D, kit, kn, es, hn, sl, r1, dp4, hf, q⟩ := h
  refine ⟨_, (pss_cons (ps_asg (pe_op op_sub (pe_ix ix_list (pv 1) pe_int (fun _ _ => rfl)) pe_int) (pg_sub (pv 1) pe_int set_list))
      (pss_cons (ps_set (i := 4) sc_law_drawn_thing.nd rfl (Or.inl rfl) (pe_call (ok_law_take T) (hr.mono (by omega)) (by rfl) T.g_law_take T.F_law_take.kp T.b_law_take .nil pass0 (pa_cons (pv 0) (pa_cons pe_int pa_nil))))
      (C8.pss_cut (ps_if (PW.pt (pw_or (pt_cmpR op_lt (pe_ix ix_list (pv 1) pe_int (fun _ _ => rfl)) pe_int (nomark _)) (pw_or (pt_cmpR op_gt (pv 3) pe_int (nomark _)) (pw_or1 (pt_cmpR op_lt (pv 4) pe_int (nomark _)))))) (pss_one (ps_ret (pe_call (ok_law_leaf T) (hr.mono (by omega)) (by rfl) T.g_law_leaf T.F_law_leaf.kp T.b_law_leaf .nil pass0 (pa_cons (pv 0) (pa_cons (pv 1) (pa_cons (pv 2) (pa_cons (pv 3) pa_nil))))))) pss_nil)
      (C8.pss_cut (ps_if (PW.pt (pw_and (pt_cmpR op_eq (pv 4) pe_int (nomark _)) (pw_and1 (pt_val (pe_ix ix_list (pv 1) pe_int (fun _ _ => rfl)))))) (pss_one (ps_ret (pe_tup (pa_cons pe_str (pa_cons (pe_call G_law_drawn_body (hr.mono (by omega)) (by rfl) T.g_law_drawn_body T.F_law_drawn_body.kp T.b_law_drawn_body .nil pass0 (pa_cons (pv 0) (pa_cons (pv 1) (pa_cons (pv 2) (pa_cons (pe_op op_add (pv 3) pe_int) pa_nil))))) pa_nil))))) pss_nil)
      (pss_cons (ps_par (i := 5) (j := 6) (by rfl) sc_law_drawn_thing.nd rfl rfl (by decide) rfl rfl (pa_cons (pe_call (ok_law_some_end T) (hr.mono (by omega)) (by rfl) T.g_law_some_end T.F_law_some_end.kp T.b_law_some_end .nil pass0 (pa_cons (pv 0) (pa_cons (pv 2) (pa_cons (pe_ix ix_list (pv 1) pe_int (fun _ _ => rfl)) pa_nil)))) (pa_cons (pe_call (ok_law_some_end T) (hr.mono (by omega)) (by rfl) T.g_law_some_end T.F_law_some_end.kp T.b_law_some_end .nil pass0 (pa_cons (pv 0) (pa_cons (pv 2) (pa_cons (pe_ix ix_list (pv 1) pe_int (fun _ _ => rfl)) pa_nil)))) pa_nil)) (by rfl))
      (pss_cons (ps_if (pt_cmpR op_lt (pv 4) pe_int (nomark _)) (pss_cons (ps_set (i := 7) sc_law_drawn_thing.nd rfl (Or.inl rfl) (pe_call (ok_law_fresh T) (hr.mono (by omega)) (by rfl) T.g_law_fresh T.F_law_fresh.kp T.b_law_fresh .nil pass0 (pa_cons (pv 0) (pa_cons (pv 2) pa_nil))))
      (pss_one (ps_ret (pe_tup (pa_cons pe_str (pa_cons (pv 7) (pa_cons (pv 5) (pa_cons (pv 6) (pa_cons (pe_call G_law_drawn_body (hr.mono (by omega)) (by rfl) T.g_law_drawn_body T.F_law_drawn_body.kp T.b_law_drawn_body .nil pass0 (pa_cons (pv 0) (pa_cons (pv 1) (pa_cons (pe_op op_cat (pv 2) (pe_lst (pa_cons (pv 7) pa_nil))) (pa_cons (pe_op op_add (pv 3) pe_int) pa_nil))))) pa_nil))))))))) pss_nil)
      (pss_cons (ps_asg (pe_op op_sub (pe_ix ix_list (pv 1) pe_int (fun _ _ => rfl)) pe_int) (pg_sub (pv 1) pe_int set_list))
      (pss_cons (ps_set (i := 8) sc_law_drawn_thing.nd rfl (Or.inl rfl) (pe_call G_law_drawn_body (hr.mono (by omega)) (by rfl) T.g_law_drawn_body T.F_law_drawn_body.kp T.b_law_drawn_body .nil pass0 (pa_cons (pv 0) (pa_cons (pv 1) (pa_cons (pv 2) (pa_cons (pe_op op_add (pv 3) pe_int) pa_nil))))))
      (pss_cons (ps_asg (pe_op op_add (pe_ix ix_list (pv 1) pe_int (fun _ _ => rfl)) pe_int) (pg_sub (pv 1) pe_int set_list))
      (pss_cons (ps_set (i := 9) sc_law_drawn_thing.nd rfl (Or.inl rfl) (pe_ifExp (pt_cmpR op_eq (pe_call (ok_law_take T) (hr.mono (by omega)) (by rfl) T.g_law_take T.F_law_take.kp T.b_law_take .nil pass0 (pa_cons (pv 0) (pa_cons pe_int pa_nil))) pe_int (nomark _)) (pe_tup pa_nil) (pe_call G_law_drawn_body (hr.mono (by omega)) (by rfl) T.g_law_drawn_body T.F_law_drawn_body.kp T.b_law_drawn_body .nil pass0 (pa_cons (pv 0) (pa_cons (pv 1) (pa_cons (pv 2) (pa_cons (pe_op op_add (pv 3) pe_int) pa_nil)))))))
      (pss_one (ps_ret (pe_tup (pa_cons pe_str (pa_cons (pv 5) (pa_cons (pv 6) (pa_cons (pv 8) (pa_cons (pv 9) pa_nil)))))))))))))))))), ?_⟩
  have nkd := kit.ne D
  have nkl := kit.nel D
  refine ⟨_, rfl, kc, _, 0, .int r, rfl, rfl, SqL.of kit, rfl, r, 1, rfl, rfl, _, rfl, kc, _, 0, 0, rfl, rfl, kit, rfl, ?_⟩
  have kit1 : KitAt (upd H kc (.lst [.int (r - 1), .ref dk, .bl k.fig, .bl k.wide])) kc dk (r - 1) k := upd_same
  have D1 : DrawAt (upd H kc (.lst [.int (r - 1), .ref dk, .bl k.fig, .bl k.wide])) d l := D.put nkd nkl
  have g1 : Grow (Two d kc) G H G (upd H kc (.lst [.int (r - 1), .ref dk, .bl k.fig, .bl k.wide])) := (Grow.refl sg).put gk (.inr (.inr rfl))
  refine ⟨_, rfl, d, l, 9, rfl, D1, by decide, by decide, fun fk H2 f0 f1 D2 b2 => ?_⟩
  have g2 := g1.trans (Grow.one (Grow.draw g1.gh gd b2)) (two_cell D1 kit1)
  have kit2 := kit1.but nkd b2
  clear b2 g1 D1 kit1
  -- a leaf?
  have lf : ∀ Q' : VK, (∀ v H', Q v H' → Q' v H') → spLeaf K [.ref d, .ref kc, .ref sa, .int (deep : Nat)] H2 Q' E0 := fun Q' hq =>
    ⟨d, l, kc, dk, sa, sc, k, _, deep, G, rfl, g2.gh, gd, D2, kit2, kn, es, hn, by omega, fun v t G3 H3 g3 D3 dv ok c1 => hq _ _ (q v t G3 H3 (g2.trans (Grow.one g3) (two_cell D2 kit2)) D3 (by rw [c1]; exact g3.h _ _ kit2 nkd) (by rw [c1]; exact r1) dv ok)⟩
  refine ⟨fun σ H' => H2 = H' ∧ 2 ≤ r - 1 ∧ deep ≤ 3 ∧ σ = [some (.ref d), some (.ref kc), some (.ref sa), some (.int (deep : Nat)), some (.int fk), none, none, none, none, none], ?_, ?_⟩
  · refine ⟨_, rfl, kc, _, 0, .int (r - 1), rfl, rfl, SqL.of kit2, rfl, _, _, rfl, rfl, _, rfl, ?_⟩
    refine ite2 (fun _ => ⟨_, rfl, _, rfl, _, rfl, _, rfl, lf _ (fun _ _ h => h)⟩) (fun c1 => ?_)
    have c1' : ¬ (r - 1 < 2) := fun e => c1 (decide_eq_true e)
    refine ⟨_, rfl, _, _, rfl, rfl, _, rfl, ?_⟩
    refine ite2 (fun _ => ⟨_, rfl, _, rfl, _, rfl, _, rfl, lf _ (fun _ _ h => h)⟩) (fun c2 => ?_)
    have c2' : ¬ ((deep : Int) > 3) := fun e => c2 (decide_eq_true e)
    refine ⟨_, rfl, _, _, rfl, rfl, _, rfl, ?_⟩
    refine ite2 (fun _ => ⟨_, rfl, _, rfl, _, rfl, _, rfl, lf _ (fun _ _ h => h)⟩) (fun c3 => ?_)
    exact ⟨rfl, by omega, by omega, rfl⟩
  rintro σ H' ⟨rfl, r3, d3, rfl⟩
  clear lf
  -- a body below
  have bd : ∀ (G3 H3 : Hp) (sb : Addr) (sc' : List Str) (r' : Int) (Q' : VK), Grow (Two d kc) G H G3 H3 → DrawAt H3 d l → KitAt H3 kc dk r' k → G3 sb = some (.lst (sc'.map V.str)) → (Str.ofString "n") ∈ sc' → sc'.length ≤ deep + 11 → 1 ≤ r' →
      (∀ (v : V) (b : List Thing) (G4 H4 : Hp), Grow (Two d kc) G H G4 H4 → Same G3 G4 → DrawAt H4 d l → KitAt H4 kc dk (r' - thingsC b) k → (thingsC b : Int) ≤ r' → Dp K G4 v (planD b) → BdOk k b sc' (deep + 1) → 1 ≤ b.length → b.length ≤ 3 → Q' v H4) →
      spBody K f [.ref d, .ref kc, .ref sb, .int ((deep : Int) + 1)] H3 Q' E0 := fun G3 H3 sb sc' r' Q' g3 D3 kit3 es' hn' sl' hr' hq => by
    refine ⟨d, l, kc, dk, sb, sc', k, r', deep + 1, G3, rfl, g3.gh, g3.none gd D.cell, g3.none gk (cell_lst kit), D3, kit3, kn.mono g3.g, es', hn', by omega, hr', by omega, by omega, fun v b G4 H4 g4 D4 kit4 cb dv ok l1 l2 => ?_⟩
    exact hq v b G4 H4 (g3.trans g4 (two_cell D3 kit3)) g4.g D4 kit4 cb dv ok l1 l2
  have fin : ∀ (G6 H6 : Hp) (xs : List V) (t : Thing) (ds : List PyData) (p : Addr), Grow (Two d kc) G H G6 H6 → DrawAt H6 d l → KitAt H6 kc dk (r - thingC t) k → (thingC t : Int) ≤ r → thingD t = .tuple ds → DpAll K G6 xs ds → ThOk k t sc deep → H6 p = none → Q (.ref p) (upd H6 p (.tup xs)) := fun G6 H6 xs t ds p g6 D6 kit6 hc ht hd ho hp => by
    have g7 := g6.new (o := .tup xs) hp (two_cell D6 kit6)
    have s7 : Same G6 _ := same_upd (o := .tup xs) (g6.gh.free hp)
    refine q _ t _ _ g7 (D6.upd hp) ((same_upd hp) _ _ kit6) hc ?_ ho
    rw [ht]
    exact .tup (SqT.of upd_same) (hd.mono s7)
  refine ⟨fun σ H' => H2 = H' ∧ σ = [some (.ref d), some (.ref kc), some (.ref sa), some (.int (deep : Nat)), some (.int fk), none, none, none, none, none], ?_, ?_⟩
  · refine ⟨_, rfl, rfl, _, rfl, ?_⟩
    refine ite2 (fun _ => ?_) (fun _ => iteF ⟨rfl, rfl⟩)
    refine ⟨_, rfl, kc, _, 2, .bl k.fig, rfl, rfl, SqL.of kit2, rfl, _, rfl, ?_⟩
    refine ite2 (fun c => ?_) (fun _ => ⟨rfl, rfl⟩)
    refine ⟨_, rfl, _, rfl, _, rfl, _, rfl, _, _, rfl, rfl, ?_⟩
    refine bd G H2 sa sc (r - 1) _ g2 D2 kit2 es hn (by omega) (by omega) fun v b G4 H4 g4 _ D4 kit4 cb dv ok l1 l2 => ?_
    refine ⟨by show 2 ≤ sizeLine; decide, fun p hp => ?_⟩
    refine fin G4 H4 [.str "double", v] (.double b) [.str "double", planD b] p g4 D4 ?_ ?_ (by rw [thingD]; rfl) (.cons (.str _) (.cons dv .nil)) ?_ hp
    · rw [thingC]
      rw [show r - ((thingsC b + 1 : Nat) : Int) = r - 1 - thingsC b by omega]
      exact kit4
    · rw [thingC]
      omega
    · rw [ThOk]
      exact ⟨d3, c, l1, l2, ok⟩
  rintro σ H' ⟨rfl, rfl⟩
  -- the two ends
  refine ⟨_, rfl, _, rfl, _, rfl, kc, _, 3, .bl k.wide, rfl, rfl, SqL.of kit2, rfl, ?_⟩
  refine ⟨d, l, sa, sc, k.wide, G, rfl, g2.gh, gd, D2, es, List.ne_nil_of_mem hn, by omega, fun v1 e1 G3 H3 g3 D3 dv1 eo1 => ?_⟩
  have g23 := g2.trans (Grow.one g3) (two_cell D2 kit2)
  have kit3 := kit2.but nkd g3.h
  refine ⟨_, rfl, _, rfl, _, rfl, kc, _, 3, .bl k.wide, rfl, rfl, SqL.of kit3, rfl, ?_⟩
  refine ⟨d, l, sa, sc, k.wide, G3, rfl, g23.gh, g23.none gd D.cell, D3, g23.g _ _ es, List.ne_nil_of_mem hn, by omega, fun v2 e2 G4 H4 g4 D4 dv2 eo2 => ?_⟩
  have g24 := g23.trans (Grow.one g4) (two_cell D3 kit3)
  have kit4 := kit3.but nkd g4.h
  have dv1' := dv1.mono g4.g
  try unfold tNil
  refine ⟨_, _, rfl, _, rfl, _, _, rfl, rfl, _, rfl, ?_⟩
  have lm : ((sc ++ [(Str.ofString "")]).map V.str).length ≤ 1000 := by
    rw [List.length_map, List.length_append, List.length_singleton]
    omega
  refine ite2 (fun _ => ?_) (fun _ => ?_)
  · refine ⟨_, rfl, _, rfl, d, l, sa, sc, rfl, D4, g24.gh _ _ (g24.g _ _ es), by omega, fun nm H5 b5 D5 no ns => ?_⟩
    have g5 := g24.trans (Grow.one (Grow.draw g24.gh (g24.none gd D.cell) b5)) (two_cell D4 kit4)
    have kit5 := kit4.but nkd b5
    refine ⟨_, rfl, _, rfl, _, rfl, _, rfl, _, rfl, _, rfl, _, rfl, by show 1 ≤ sizeLine; decide, fun L hL => ?_⟩
    have g6 := g5.cell (o := .lst [.str nm]) hL
    have D6 := D5.upd (o := .lst [.str nm]) hL
    have kit6 : KitAt (upd H5 L (.lst [.str nm])) kc dk (r - 1) k := (same_upd hL) _ _ kit5
    have es6 : (upd H5 L (.lst [.str nm])) sa = some (.lst (sc.map V.str)) := g6.gh _ _ (g5.g _ _ es)
    refine ⟨sa, L, _, _, rfl, rfl, es6, upd_same, ?_, fun S hS => ?_⟩
    · rw [List.length_map, List.length_singleton]
      exact Nat.le_trans (m := 1000) (by omega) (by decide)
    have g7 := g6.new (o := .lst (sc.map V.str ++ [.str nm])) hS (two_cell D6 kit6)
    have s7 : Same G4 _ := same_upd (o := .lst (sc.map V.str ++ [.str nm])) (g6.gh.free hS)
    refine ⟨_, rfl, _, _, rfl, rfl, ?_⟩
    refine bd _ _ S (sc ++ [nm]) (r - 1) _ g7 (D6.upd hS) ((same_upd hS) _ _ kit6) (by rw [upd_same, List.map_append]; rfl) (List.mem_append_left _ hn) (by rw [List.length_append, List.length_singleton]; omega) (by omega) fun v b G8 H8 g8 s8 D8 kit8 cb dv ok l1 l2 => ?_
    refine ⟨by show 5 ≤ sizeLine; decide, fun p hp => ?_⟩
    have s48 := s7.trans s8
    refine fin G8 H8 [.str "for", .str nm, v1, v2, v] (.loop nm e1 e2 b) [.str "for", .str nm, endD e1, endD e2, planD b] p g8 D8 ?_ ?_ (by rw [thingD]; rfl) (.cons (.str _) (.cons (.str _) (.cons (dv1'.mono s48) (.cons (dv2.mono s48) (.cons dv .nil))))) ?_ hp
    · rw [thingC]
      rw [show r - ((thingsC b + 1 : Nat) : Int) = r - 1 - thingsC b by omega]
      exact kit8
    · rw [thingC]
      omega
    · rw [ThOk]
      exact ⟨d3, no, ns, eo1, eo2, l1, l2, ok⟩
  · -- a test
    refine ⟨_, rfl, kc, _, 0, .int (r - 1), rfl, rfl, SqL.of kit4, rfl, _, 1, rfl, rfl, _, rfl, kc, _, 0, 0, rfl, rfl, kit4, rfl, ?_⟩
    have kit5 : KitAt (upd H4 kc (.lst [.int (r - 1 - 1), .ref dk, .bl k.fig, .bl k.wide])) kc dk (r - 1 - 1) k := upd_same
    have D5 : DrawAt (upd H4 kc (.lst [.int (r - 1 - 1), .ref dk, .bl k.fig, .bl k.wide])) d l := D4.put nkd (kit4.nel D4)
    have gk4 := g24.none gk (cell_lst kit)
    have g5 : Grow (Two d kc) G H G4 (upd H4 kc (.lst [.int (r - 1 - 1), .ref dk, .bl k.fig, .bl k.wide])) := g24.put gk4 (.inr (.inr rfl))
    refine ⟨_, rfl, _, rfl, _, rfl, _, rfl, _, _, rfl, rfl, ?_⟩
    refine bd _ _ sa sc (r - 1 - 1) _ g5 D5 kit5 (g24.g _ _ es) hn (by omega) (by omega) fun v3 b3 G6 H6 g6 s6 D6 kit6 cb3 dv3 ok3 l31 l32 => ?_
    have gk6 := g6.none gk (cell_lst kit)
    refine ⟨_, rfl, kc, _, 0, .int (r - 1 - 1 - thingsC b3), rfl, rfl, SqL.of kit6, rfl, _, 1, rfl, rfl, _, rfl, kc, _, 0, 0, rfl, rfl, kit6, rfl, ?_⟩
    have kit7 : KitAt (upd H6 kc (.lst [.int (r - 1 - 1 - thingsC b3 + 1), .ref dk, .bl k.fig, .bl k.wide])) kc dk (r - 1 - 1 - thingsC b3 + 1) k := upd_same
    have D7 : DrawAt (upd H6 kc (.lst [.int (r - 1 - 1 - thingsC b3 + 1), .ref dk, .bl k.fig, .bl k.wide])) d l := D6.put nkd (kit6.nel D6)
    have g7 : Grow (Two d kc) G H G6 (upd H6 kc (.lst [.int (r - 1 - 1 - thingsC b3 + 1), .ref dk, .bl k.fig, .bl k.wide])) := g6.put gk6 (.inr (.inr rfl))
    refine ⟨_, rfl, d, l, 2, rfl, D7, by decide, by decide, fun z H8 z0 z1 D8 b8 => ?_⟩
    have g8 := g7.trans (Grow.one (Grow.draw g7.gh (g7.none gd D.cell) b8)) (two_cell D7 kit7)
    have kit8 := kit7.but nkd b8
    refine ⟨rfl, _, rfl, ite2 (fun _ => ?_) (fun _ => ?_)⟩
    · refine ⟨by show 0 ≤ sizeLine; decide, fun R hR => ?_⟩
      have g9 := g8.new (o := .tup []) hR (two_cell D8 kit8)
      have s9 : Same G6 _ := same_upd (o := .tup []) (g8.gh.free hR)
      refine ⟨_, rfl, _, rfl, _, rfl, _, rfl, by show 5 ≤ sizeLine; decide, fun p hp => ?_⟩
      have s49 := s6.trans s9
      refine fin _ _ [.str "if", v1, v2, v3, .ref R] (.test e1 e2 b3 []) [.str "if", endD e1, endD e2, planD b3, planD []] p g9 (D8.upd hR) ?_ ?_ (by rw [thingD]; rfl) (.cons (.str _) (.cons (dv1'.mono s49) (.cons (dv2.mono s49) (.cons (dv3.mono s9) (.cons ?_ .nil))))) ?_ hp
      · rw [thingC, thingsC]
        rw [show r - ((thingsC b3 + 0 + 1 : Nat) : Int) = r - 1 - 1 - thingsC b3 + 1 by omega]
        exact (same_upd hR) _ _ kit8
      · rw [thingC, thingsC]
        omega
      · unfold planD thingsD
        exact .tup (xs := []) (SqT.of upd_same) .nil
      · rw [ThOk]
        exact ⟨d3, eo1, eo2, l31, l32, by decide, ok3, .nil⟩
    · refine ⟨_, rfl, _, rfl, _, rfl, _, rfl, _, _, rfl, rfl, ?_⟩
      refine bd _ _ sa sc _ _ g8 D8 kit8 (s6 _ _ (g24.g _ _ es)) hn (by omega) (by omega) fun v4 b4 G9 H9 g9 s9 D9 kit9 cb4 dv4 ok4 l41 l42 => ?_
      refine ⟨_, rfl, _, rfl, _, rfl, _, rfl, by show 5 ≤ sizeLine; decide, fun p hp => ?_⟩
      have s49 := s6.trans s9
      refine fin _ _ [.str "if", v1, v2, v3, v4] (.test e1 e2 b3 b4) [.str "if", endD e1, endD e2, planD b3, planD b4] p g9 D9 ?_ ?_ (by rw [thingD]; rfl) (.cons (.str _) (.cons (dv1'.mono s49) (.cons (dv2.mono s49) (.cons (dv3.mono s9) (.cons dv4 .nil))))) ?_ hp
      · rw [thingC]
        rw [show r - ((thingsC b3 + thingsC b4 + 1 : Nat) : Int) = r - 1 - 1 - thingsC b3 + 1 - thingsC b4 by omega]
        exact kit9
      · rw [thingC]
        omega
      · rw [ThOk]
        exact ⟨d3, eo1, eo2, l31, l32, l42, ok3, ok4⟩
theorem body_step (T : Txt K mg) (f : Nat) (G_law_drawn_thing : FnOk P w K mg base CX0 (2 * f + 10) T.a_law_drawn_thing T.d_law_drawn_thing ["_law_draw", "_law_kit", "_law_scope", "_law_deep"] (spThing K f)) :
    FnOk P w K mg base CX0 (2 * f + 11) T.a_law_drawn_body T.d_law_drawn_body ["_law_draw", "_law_kit", "_law_scope", "_law_deep"] (spBody K f) := by
  refine T.F_law_drawn_body.ok sc_law_drawn_body (fun vs H Q E h => ?_) (fun cdv A outer s H vs Q E hr h => ?_)
  · obtain ⟨d, l, kc, dk, sa, sc, k, r, deep, G, rfl, _⟩ := h
    rfl
  obtain ⟨d, l, kc, dk, sa, sc, k, r, deep, G, rfl, sg, gd, gk, D, kit, kn, es, hn, sl, r1, dp4, hf, q⟩ := h
  refine ⟨_, (pss_cons (ps_set (i := 4) sc_law_drawn_body.nd rfl (Or.inl rfl) (pe_lst (pa_cons (pe_call G_law_drawn_thing (hr.mono (by omega)) (by rfl) T.g_law_drawn_thing T.F_law_drawn_thing.kp T.b_law_drawn_thing .nil pass0 (pa_cons (pv 0) (pa_cons (pv 1) (pa_cons (pv 2) (pa_cons (pv 3) pa_nil))))) pa_nil)))
      (pss_cons (ps_for PassesOwn.never rfl (pi_range1 (by rfl) T.z_range (pa_cons (pe_call (ok_law_take T) (hr.mono (by omega)) (by rfl) T.g_law_take T.F_law_take.kp T.b_law_take .nil pass0 (pa_cons (pv 0) (pa_cons pe_int pa_nil))) pa_nil)) (pg_name (i := 5) sc_law_drawn_body.nd rfl (Or.inl rfl)) (pss_one (ps_if (pt_cmpR op_gt (pe_ix ix_list (pv 1) pe_int (fun _ _ => rfl)) pe_int (nomark _)) (pss_one (ps_expr (pe_bm PySem.F.plainAttrs_list PySem.F.slot_list_append PySem.F.type_list_append mt_append (pv 4) (pa_cons (pe_call G_law_drawn_thing (hr.mono (by omega)) (by rfl) T.g_law_drawn_thing T.F_law_drawn_thing.kp T.b_law_drawn_thing .nil pass0 (pa_cons (pv 0) (pa_cons (pv 1) (pa_cons (pv 2) (pa_cons (pv 3) pa_nil))))) pa_nil)))) pss_nil)))
      (pss_one (ps_ret (pe_callTy call_tuple_of (by rfl) T.z_tuple (by decide +kernel) (pa_cons (pv 4) pa_nil)))))), ?_⟩
  have nkd := kit.ne D
  refine ⟨_, rfl, _, rfl, _, rfl, _, rfl, d, l, kc, dk, sa, sc, k, r, deep, G, rfl, sg, gd, gk, D, kit, kn, es, hn, sl, r1, dp4, hf, fun v t G1 H1 g1 D1 kit1 c1 dv ok => ?_⟩
  refine ⟨by show 1 ≤ sizeLine; decide, fun L hL => ?_⟩
  have g2 := g1.cell (o := .lst [v]) hL
  have D2 := D1.upd (o := .lst [v]) hL
  have kit2 : KitAt (upd H1 L (.lst [v])) kc dk (r - thingC t) k := (same_upd hL) _ _ kit1
  have nLd := D1.ned hL
  have nLk : L ≠ kc := by
    rintro rfl
    rw [kit1] at hL
    cases hL
  have hLH : H L = none := g1.h.none (two_cell D1 kit1) hL
  have gL := g1.gh.free hL
  refine ⟨_, rfl, d, l, 3, rfl, D2, by decide, by decide, fun n H3 n0 n1 D3 b3 => ?_⟩
  have g3 := g2.trans (Grow.one (Grow.draw g2.gh (g2.none gd D.cell) b3)) (two_cell D2 kit2)
  have kit3 := kit2.but nkd b3
  refine ⟨n, rfl, by omega, by omega, for_it walk_range (fun i σ H' => ∃ (vs : List V) (b : List Thing) (G' : Hp), Grow (Two d kc) G H G' H' ∧ DrawAt H' d l ∧ KitAt H' kc dk (r - thingsC b) k ∧ (thingsC b : Int) ≤ r ∧ H' L = some (.lst vs) ∧ G' L = none ∧ DpAll K G' vs (thingsD b) ∧ BdOk k b sc deep ∧ 1 ≤ b.length ∧ b.length ≤ i + 1 ∧
    ∃ v5, σ = [some (.ref d), some (.ref kc), some (.ref sa), some (.int (deep : Nat)), some (.ref L), v5]) ?_ (fun _ _ _ _ _ => trivial) ?_ ?_⟩
  · refine ⟨[v], [t], G1, g3, D3, ?_, ?_, b3 _ _ upd_same nLd, gL, ?_, ?_, Nat.le_refl _, Nat.le_refl _, _, rfl⟩
    · rw [thingsC, thingsC]
      exact kit3
    · rw [thingsC, thingsC]
      exact c1
    · rw [thingsD, thingsD]
      exact .cons dv .nil
    · rw [BdOk]
      exact ⟨ok, .nil⟩
  · rintro i x σ H4 H5 hi ⟨vs, b, G4, g4, D4, kit4, c4, eL, gL4, dvs, okb, l1, l2, v5, rfl⟩ ⟨rfl, rfl⟩
    have hi : i < n.toNat := hi
    refine ⟨_, rfl, kc, _, 0, .int (r - thingsC b), rfl, rfl, SqL.of kit4, rfl, _, 0, rfl, rfl, _, rfl, ?_⟩
    refine ite2 (fun c => ?_) (fun _ => ⟨vs, b, G4, g4, D4, kit4, c4, eL, gL4, dvs, okb, l1, by omega, _, rfl⟩)
    have c' : 0 < r - (thingsC b : Int) := of_decide_eq_true c
    refine ⟨_, rfl, .inl ⟨rfl, _, SqL.of eL⟩, ?_⟩
    refine ⟨_, rfl, _, rfl, _, rfl, _, rfl, d, l, kc, dk, sa, sc, k, r - thingsC b, deep, G4, rfl, g4.gh, g4.none gd D.cell, g4.none gk (cell_lst kit), D4, kit4, kn.mono g4.g, g4.g _ _ es, hn, sl, by omega, dp4, hf, fun v6 t6 G6 H6 g6 D6 kit6 c6 dv6 ok6 => ?_⟩
    have eL6 : H6 L = some (.lst vs) := g6.h _ _ eL (by rintro (e | e); exact nLd e; exact nLk e)
    have g46 := g4.trans g6 (two_cell D4 kit4)
    have gL6 := g6.none gL4 (cell_lst eL)
    have lv := dvs.length
    rw [thingsD_eq, List.length_map] at lv
    try unfold tNil
    refine ⟨L, _, _, rfl, rfl, eL6, small1000 (by omega), ?_⟩
    refine ⟨vs ++ [v6], b ++ [t6], G6, g46.put gL6 (.inl hLH), D6.put nLd (D1.nel hL), ?_, ?_, upd_same, gL6, ?_, okb.snoc ok6, by simp, by simp; omega, _, rfl⟩
    · unfold KitAt
      rw [upd_ne (Ne.symm nLk), thingsC_snoc, show r - ((thingsC b + thingC t6 : Nat) : Int) = r - thingsC b - thingC t6 by omega]
      exact kit6
    · rw [thingsC_snoc]
      omega
    · rw [thingsD_eq, List.map_append, ← thingsD_eq]
      exact DpAll.snoc (dvs.mono g6.g) dv6
  · rintro σ H4 ⟨vs, b, G4, g4, D4, kit4, c4, eL, gL4, dvs, okb, l1, l2, v5, rfl⟩
    have l2 : b.length ≤ n.toNat + 1 := l2
    refine ⟨_, rfl, L, vs, rfl, .inl ⟨SqL.of eL, fun p hp => ?_⟩⟩
    have g5 := g4.new (o := .tup vs) hp (two_cell D4 kit4)
    have s5 : Same G4 _ := same_upd (o := .tup vs) (g4.gh.free hp)
    refine q _ b _ _ g5 (D4.upd hp) ((same_upd hp) _ _ kit4) c4 ?_ okb l1 (by omega)
    exact .tup (SqT.of upd_same) (dvs.mono s5)
theorem thing_all (T : Txt K mg) : ∀ f : Nat, FnOk P w K mg base CX0 (2 * f + 10) T.a_law_drawn_thing T.d_law_drawn_thing ["_law_draw", "_law_kit", "_law_scope", "_law_deep"] (spThing K f)
  | 0 => by
    have no : ∀ vs H Q E, ¬ spThing K 0 vs H Q E := fun vs H Q E h => by
      obtain ⟨d, l, kc, dk, sa, sc, k, r, deep, G, _, _, _, _, _, _, _, _, _, _, _, h1, h2, _⟩ := h
      omega
    exact ⟨fun vs H Q E h => absurd h (no vs H Q E), fun A outer s H args us vs Q E _ _ _ _ h => absurd h (no vs H Q E)⟩
  | f + 1 => thing_step T f (body_step T f (thing_all T f))
theorem ok_law_drawn_body (T : Txt K mg) : FnOk P w K mg base CX0 21 T.a_law_drawn_body T.d_law_drawn_body ["_law_draw", "_law_kit", "_law_scope", "_law_deep"] (spBody K 5) := body_step T 5 (thing_all T 5)
theorem grow_drop {d kc : Addr} {G H G1 H1 G2 H2 : Hp} (a : Grow (Only1 d) G H G1 H1) (b : Grow (Two d kc) G1 H1 G2 H2) (hk : H kc = none) (hm : ∀ c, Only1 d c → Cell (H1 c)) : Grow (Only1 d) G H G2 H2 :=
  ⟨a.g.trans b.g, b.gh, fun x o e n => b.h x o (a.h x o e n) (by
    rintro (z | z)
    · exact n z
    · rw [z, hk] at e
      cases e), fun c hc => (b.old c (a.h.cell hm hc)).trans (a.old c hc)⟩
/-- a plan, frozen -/
def spDrawn (K : PySem.W.Frag) : Sp := fun vs H Q _ => ∃ (d l : Addr) (G : Hp) (room : Int) (fig wide : Bool), vs = [.ref d, .int room, .bl fig, .bl wide] ∧ Same G H ∧ G d = none ∧ DrawAt H d l ∧ 1 ≤ room ∧
  ∀ (v : V) (b : List Thing) (G' H' : Hp), Grow (Only1 d) G H G' H' → DrawAt H' d l → Dp K G' v (planD b) → BdOk ⟨[], fig, wide⟩ b [Str.ofString "n"] 0 → 1 ≤ b.length → b.length ≤ 3 → (thingsC b : Int) ≤ room → Q v H'
theorem ok_law_drawn (T : Txt K mg) : FnOk P w K mg base CX0 22 T.a_law_drawn T.d_law_drawn ["_law_draw", "_law_room", "_law_figures", "_law_wide"] (spDrawn K) := by
  refine T.F_law_drawn.ok sc_law_drawn (fun vs H Q E h => ?_) (fun cdv A outer s H vs Q E hr h => ?_)
  · obtain ⟨d, l, G, room, fig, wide, rfl, _⟩ := h
    rfl
  obtain ⟨d, l, G, room, fig, wide, rfl, sg, gd, D, r1, q⟩ := h
  refine ⟨_, (pss_one (ps_ret (pe_call (ok_law_drawn_body T) (hr.mono (by decide)) (by rfl) T.g_law_drawn_body T.F_law_drawn_body.kp T.b_law_drawn_body .nil pass0 (pa_cons (pv 0) (pa_cons (pe_lst (pa_cons (pv 1) (pa_cons pe_dnewK (pa_cons (pv 2) (pa_cons (pv 3) pa_nil))))) (pa_cons (pe_lst (pa_cons pe_str pa_nil)) (pa_cons pe_int pa_nil))))))), ?_⟩
  refine ⟨_, rfl, _, rfl, fun dk hdk => ⟨_, rfl, _, rfl, by show 4 ≤ sizeLine; decide, fun kc hkc => ⟨by show 1 ≤ sizeLine; decide, fun sa hsa => ?_⟩⟩⟩
  have g1 := (Grow.refl (M := Only1 d) sg).new (o := .dK []) hdk D.some'
  have D1 := D.upd (o := .dK []) hdk
  have hk : H kc = none := by
    cases e : H kc with
    | none => rfl
    | some o =>
      rw [(same_upd hdk) _ _ e] at hkc
      cases hkc
  have g2 := g1.cell (o := .lst [.int room, .ref dk, .bl fig, .bl wide]) hkc
  have D2 := D1.upd (o := .lst [.int room, .ref dk, .bl fig, .bl wide]) hkc
  have g3 := g2.new (o := .lst [.str "n"]) hsa D2.some'
  have D3 := D2.upd (o := .lst [.str "n"]) hsa
  have s3 : Same _ _ := same_upd (o := .lst [.str "n"]) (g2.gh.free hsa)
  have gk : (upd (upd G dk (.dK [])) sa (.lst [.str "n"])) kc = none := by
    have n1 : kc ≠ sa := fun z => by rw [← z, upd_same] at hsa; cases hsa
    rw [upd_ne n1]
    exact g1.gh.free hkc
  refine ⟨d, l, kc, dk, sa, [Str.ofString "n"], ⟨[], fig, wide⟩, room, 0, _, rfl, g3.gh, g3.none gd D.cell, gk, D3, (same_upd hsa) _ _ upd_same, ⟨(by show 0 < 60; decide), (fun _ h => nomatch h), [], s3 _ _ upd_same, rfl, (fun _ h => nomatch h)⟩, upd_same, by decide, by decide, r1, by decide, by decide, fun v b G4 H4 g4 D4 _ c4 dv ok l1 l2 => ?_⟩
  exact q v b G4 H4 (grow_drop g3 g4 hk D3.some') D4 dv ok l1 l2 c4
def spSpoilt : Sp := fun vs H Q _ => ∃ (d l : Addr) (x : Str), vs = [.ref d, .str x] ∧ DrawAt H d l ∧ x.length ≤ 330000 ∧
  ∀ (y : Str) (H' : Hp), But (Only1 d) H H' → DrawAt H' d l → y.length ≤ 3 * x.length + 200 → Q (.str y) H'
theorem pick_text {ws : List Str} {v : V} (h : v ∈ ws.map V.str) : ∃ z, z ∈ ws ∧ v = .str z := by
  obtain ⟨z, hz, e⟩ := List.mem_map.mp h
  exact ⟨z, hz, e.symm⟩
theorem ok_law_spoilt_text (T : Txt K mg) : FnOk P w K mg base CX0 3 T.a_law_spoilt_text T.d_law_spoilt_text ["_law_draw", "_law_text"] spSpoilt := by
  refine T.F_law_spoilt_text.ok sc_law_spoilt_text (fun vs H Q E h => ?_) (fun cdv A outer s H vs Q E hr h => ?_)
  · obtain ⟨d, l, x, rfl, _⟩ := h
    rfl
  obtain ⟨d, l, x, rfl, D, hx, k⟩ := h
  refine ⟨_, (pss_cons (ps_set (i := 2) sc_law_spoilt_text.nd rfl (Or.inl rfl) (pe_split (pv 1) pe_str))
      (pss_cons (ps_set (i := 3) sc_law_spoilt_text.nd rfl (Or.inl rfl) (pe_call (ok_law_take T) (hr.mono (by decide)) (by rfl) T.g_law_take T.F_law_take.kp T.b_law_take .nil pass0 (pa_cons (pv 0) (pa_cons (pe_callB call_len_seq (by rfl) T.z_len (by decide +kernel) (pa_cons (pv 2) pa_nil)) pa_nil))))
      (pss_cons (ps_set (i := 4) sc_law_spoilt_text.nd rfl (Or.inl rfl) (pe_lst (pa_cons pe_str (pa_cons pe_str (pa_cons pe_str (pa_cons pe_str (pa_cons pe_str (pa_cons pe_str (pa_cons pe_str (pa_cons pe_str (pa_cons pe_str (pa_cons pe_str (pa_cons pe_str (pa_cons pe_str (pa_cons pe_str (pa_cons pe_str (pa_cons pe_str (pa_cons pe_str pa_nil))))))))))))))))))
      (pss_cons (ps_set (i := 5) sc_law_spoilt_text.nd rfl (Or.inl rfl) (pe_call (ok_law_take T) (hr.mono (by decide)) (by rfl) T.g_law_take T.F_law_take.kp T.b_law_take .nil pass0 (pa_cons (pv 0) (pa_cons pe_int pa_nil))))
      (pss_cons (ps_if (pt_cmpR op_eq (pv 5) pe_int (nomark _)) (pss_one (ps_ret (pe_join pe_str (pe_op op_cat (pe_slice sl_list (pv 2) po_none (po_some (pv 3))) (pe_slice sl_list (pv 2) (po_some (pe_op op_add (pv 3) pe_int)) po_none))))) pss_nil)
      (pss_cons (ps_if (pt_cmpR op_eq (pv 5) pe_int (nomark _)) (pss_one (ps_ret (pe_join pe_str (pe_op op_cat (pe_op op_cat (pe_slice sl_list (pv 2) po_none (po_some (pv 3))) (pe_op op_rep (pe_slice sl_list (pv 2) (po_some (pv 3)) (po_some (pe_op op_add (pv 3) pe_int))) pe_int)) (pe_slice sl_list (pv 2) (po_some (pe_op op_add (pv 3) pe_int)) po_none))))) pss_nil)
      (pss_cons (ps_if (pt_cmpR op_eq (pv 5) pe_int (nomark _)) (pss_one (ps_ret (pe_join pe_str (pe_op op_cat (pe_op op_cat (pe_slice sl_list (pv 2) po_none (po_some (pv 3))) (pe_lst (pa_cons (pe_call (ok_law_pick T) (hr.mono (by decide)) (by rfl) T.g_law_pick T.F_law_pick.kp T.b_law_pick .nil pass0 (pa_cons (pv 0) (pa_cons (pv 4) pa_nil))) pa_nil))) (pe_slice sl_list (pv 2) (po_some (pe_op op_add (pv 3) (pe_call (ok_law_take T) (hr.mono (by decide)) (by rfl) T.g_law_take T.F_law_take.kp T.b_law_take .nil pass0 (pa_cons (pv 0) (pa_cons pe_int pa_nil))))) po_none))))) pss_nil)
      (pss_cons (ps_if (pt_cmpR op_eq (pv 5) pe_int (nomark _)) (pss_one (ps_ret (pe_op op_add_str (pv 1) (pe_call (ok_law_pick T) (hr.mono (by decide)) (by rfl) T.g_law_pick T.F_law_pick.kp T.b_law_pick .nil pass0 (pa_cons (pv 0) (pa_cons (pe_lst (pa_cons pe_str (pa_cons pe_str (pa_cons pe_str (pa_cons pe_str (pa_cons pe_str (pa_cons pe_str (pa_cons (pe_op op_repB pe_str pe_int) pa_nil)))))))) pa_nil)))))) pss_nil)
      (pss_cons (ps_set (i := 6) sc_law_spoilt_text.nd rfl (Or.inl rfl) (pe_call (ok_law_take T) (hr.mono (by decide)) (by rfl) T.g_law_take T.F_law_take.kp T.b_law_take .nil pass0 (pa_cons (pv 0) (pa_cons (pe_op op_add (pe_callB call_len_str (by rfl) T.z_len (by decide +kernel) (pa_cons (pv 1) pa_nil)) pe_int) pa_nil))))
      (pss_one (ps_ret (pe_op op_add_str (pe_op op_add_str (pe_slice sl_str (pv 1) po_none (po_some (pv 6))) (pe_op op_repB (pe_call (ok_law_pick T) (hr.mono (by decide)) (by rfl) T.g_law_pick T.F_law_pick.kp T.b_law_pick .nil pass0 (pa_cons (pv 0) (pa_cons pe_str pa_nil))) (pe_call (ok_law_take T) (hr.mono (by decide)) (by rfl) T.g_law_take T.F_law_take.kp T.b_law_take .nil pass0 (pa_cons (pv 0) (pa_cons pe_int pa_nil))))) (pe_slice sl_str (pv 1) (po_some (pe_op op_add (pv 6) (pe_call (ok_law_take T) (hr.mono (by decide)) (by rfl) T.g_law_take T.F_law_take.kp T.b_law_take .nil pass0 (pa_cons (pv 0) (pa_cons pe_int pa_nil))))) po_none))))))))))))), ?_⟩
  have ws := wt_split x
  have wl := len_wt (Txt.split x " ")
  refine ⟨_, rfl, ⟨_, rfl⟩, x, " ", rfl, rfl, by decide +kernel, Nat.le_trans (by omega : x.length + 2 ≤ 400002) (by decide), fun W hW => ?_⟩
  generalize hys : Txt.split x " " = ys at ws wl ⊢
  have D1 := D.upd (o := .lst (ys.map V.str)) hW
  have b1 : But (Only1 d) H (upd H W (.lst (ys.map V.str))) := But.new hW
  have nW := D.ned hW
  have y1 : 1 ≤ ys.length := by
    have := PyProof.Rows.split_pos x " "
    rw [hys] at this
    exact this
  refine ⟨_, rfl, _, rfl, W, _, rfl, .inl (SqL.of upd_same), ?_⟩
  rw [List.length_map]
  refine ⟨d, l, _, rfl, D1, by omega, Int.lt_of_lt_of_le (show (ys.length : Int) < 1000000 by omega) (by decide), fun r H2 r0 r1 D2 b2 => ?_⟩
  have eW2 := b2 _ _ upd_same nW
  refine ⟨by show 16 ≤ sizeLine; decide, fun L hL => ?_⟩
  let some : List Str := ["step", "for", "n", "(", ")", ";", "0", "07", "99", "100", "abcdefghi", "x", "+", "<=", "else", "again"]
  have D3 := D2.upd (o := .lst (some.map V.str)) hL
  have eW3 : (upd H2 L (.lst (some.map V.str))) W = _ := (same_upd hL) _ _ eW2
  have eL3 : (upd H2 L (.lst (some.map V.str))) L = _ := upd_same
  have b3 : But (Only1 d) H (upd H2 L (.lst (some.map V.str))) := (b1.trans b2).trans (But.new hL)
  have nL := D2.ned hL
  show gName 4 (V.ref L) _ (upd H2 L (.lst (some.map V.str))) _
  generalize upd H2 L (.lst (some.map V.str)) = H3 at D3 eW3 eL3 b3 ⊢
  clear D2 b2 D1 b1 eW2
  refine ⟨_, rfl, d, l, 6, rfl, D3, by decide, by decide, fun f H4 f0 f1 D4 b4 => ?_⟩
  have eW4 := b4 _ _ eW3 nW
  have eL4 := b4 _ _ eL3 nL
  have b04 := b3.trans b4
  -- a joined row
  have big : ∀ {n : Nat}, n ≤ 4 * x.length + 300 → n ≤ sizeLine := fun h => Nat.le_trans h (Nat.le_trans (by omega : 4 * x.length + 300 ≤ 2000000) (by decide))
  have fin : ∀ (zs : List Str) (p : Addr) (H' : Hp), But (Only1 d) H H' → DrawAt H' d l → H' p = .some (.lst (zs.map V.str)) → wt zs ≤ 3 * x.length + 200 →
      ∃ a q, ∃ ys : List Str, V.str " " = .str a ∧ [V.ref p] = [V.ref q] ∧ (SqL K H' q (ys.map V.str) ∨ SqT K H' q (ys.map V.str)) ∧ (ys.map (·.length)).sum + ys.length * a.length ≤ 16777216 ∧ Q (.str (Txt.join a ys)) H' := fun zs p H' b' D' e hz => by
    refine ⟨" ", p, zs, rfl, rfl, .inl (SqL.of e), ?_, k _ _ b' D' (Nat.le_trans (wt_join zs) hz)⟩
    rw [show (Str.ofString " ").length = 1 by decide, Nat.mul_one]
    show wt zs ≤ 16777216
    omega
  have slc : ∀ (lo hi : Option Int) (H' : Hp) (R : VK), H' W = Option.some (.lst (ys.map V.str)) → (∀ p, H' p = none → R (.ref p) (upd H' p (.lst ((cutT ys lo hi).map V.str)))) → rSlL K (.ref W) lo hi H' R := fun lo hi H' R e q =>
    ⟨W, _, rfl, SqL.of e, fun p hp => by rw [cutV_strs]; exact q p hp⟩
  have cat : ∀ (A B : List Str) (p q : Addr) (H' : Hp) (R : VK), H' p = Option.some (.lst (A.map V.str)) → H' q = Option.some (.lst (B.map V.str)) → wt A + wt B ≤ 3 * x.length + 200 → (∀ u, H' u = none → R (.ref u) (upd H' u (.lst ((A ++ B).map V.str)))) → rCat (.ref p) (.ref q) H' R := fun A B p q H' R e1 e2 hw k' => by
    have l1 := len_wt A
    have l2 := len_wt B
    refine ⟨p, q, _, _, rfl, rfl, e1, e2, big (by rw [List.length_map, List.length_map]; omega), fun u hu => ?_⟩
    rw [← List.map_append]
    exact k' u hu
  have c1 := fun lo hi => wt_cut ys lo hi
  obtain ⟨rn, rfl⟩ : ∃ rn : Nat, r = (rn : Int) := ⟨r.toNat, by omega⟩
  have c2 := wt_ends ys rn (rn + 1) (by omega)
  have c3 : ((rn + 1 : Nat) : Int) = (rn : Int) + 1 := by omega
  rw [c3] at c2
  refine ⟨_, rfl, rfl, _, rfl, ?_⟩
  refine ite2 (fun _ => ?_) (fun _ => ?_)
  · refine ⟨⟨_, rfl⟩, _, rfl, ?_⟩
    try unfold tNoPart
    refine ⟨_, rfl, _, rfl, ?_⟩
    refine slc _ _ _ _ eW4 fun p hp => ?_
    refine ⟨_, rfl, _, rfl, _, _, rfl, rfl, _, rfl, ?_⟩
    try unfold tNoPart
    refine slc _ _ _ _ (same_upd hp _ _ eW4) fun q hq => ?_
    refine cat _ _ _ _ _ _ (same_upd hq _ _ upd_same) upd_same ?_ fun u hu => ?_
    · have := c1 none (Option.some (rn : Int))
      have := c1 (Option.some ((rn : Int) + 1)) none
      omega
    refine fin _ _ _ (b04.trans ((But.new hp).trans ((But.new hq).trans (But.new hu)))) (((D4.upd hp).upd hq).upd hu) upd_same ?_
    rw [wt_app]
    have := c1 none (Option.some (rn : Int))
    have := c1 (Option.some ((rn : Int) + 1)) none
    omega
  refine ⟨_, rfl, rfl, _, rfl, ?_⟩
  refine ite2 (fun _ => ?_) (fun _ => ?_)
  · refine ⟨⟨_, rfl⟩, _, rfl, ?_⟩
    try unfold tNoPart
    refine ⟨_, rfl, _, rfl, ?_⟩
    refine slc _ _ _ _ eW4 fun p hp => ?_
    have eWp := same_upd (o := .lst ((cutT ys none (Option.some (rn : Int))).map V.str)) hp _ _ eW4
    refine ⟨_, rfl, _, rfl, _, rfl, _, rfl, _, _, rfl, rfl, _, rfl, ?_⟩
    refine slc _ _ _ _ eWp fun q hq => ?_
    refine ⟨q, 2, _, rfl, rfl, upd_same, by decide, by decide, big ?_, fun t ht => ?_⟩
    · have h1 := c1 (Option.some (rn : Int)) (Option.some ((rn : Int) + 1))
      have h2 := len_wt (cutT ys (Option.some (rn : Int)) (Option.some ((rn : Int) + 1)))
      rw [List.length_map]
      show _ * 2 ≤ _
      omega
    rw [show (List.replicate (2 : Int).toNat ((cutT ys (Option.some (rn : Int)) (Option.some ((rn : Int) + 1))).map V.str)).flatten = (cutT ys (Option.some (rn : Int)) (Option.some ((rn : Int) + 1)) ++ cutT ys (Option.some (rn : Int)) (Option.some ((rn : Int) + 1))).map V.str by
      rw [List.map_append]
      show List.flatten [_, _] = _
      simp]
    have one : wt (cutT ys (Option.some (rn : Int)) (Option.some ((rn : Int) + 1))) ≤ x.length + 1 := Nat.le_trans (c1 _ _) (by omega)
    have h1 := c1 none (Option.some (rn : Int))
    have h2 := c1 (Option.some ((rn : Int) + 1)) none
    refine cat _ _ _ _ _ _ (same_upd ht _ _ (same_upd hq _ _ upd_same)) upd_same ?_ fun u hu => ?_
    · rw [wt_app]
      omega
    refine ⟨_, rfl, _, rfl, _, _, rfl, rfl, _, rfl, ?_⟩
    try unfold tNoPart
    refine slc _ _ _ _ (same_upd hu _ _ (same_upd ht _ _ (same_upd hq _ _ eWp))) fun v hv => ?_
    refine cat _ _ _ _ _ _ (same_upd hv _ _ upd_same) upd_same ?_ fun z hz => ?_
    · rw [wt_app, wt_app]
      omega
    refine fin _ _ _ (b04.trans ((But.new hp).trans ((But.new hq).trans ((But.new ht).trans ((But.new hu).trans ((But.new hv).trans (But.new hz))))))) ((((((D4.upd hp).upd hq).upd ht).upd hu).upd hv).upd hz) upd_same ?_
    rw [wt_app, wt_app, wt_app]
    omega
  refine ⟨_, rfl, rfl, _, rfl, ?_⟩
  refine ite2 (fun _ => ?_) (fun _ => ?_)
  · refine ⟨⟨_, rfl⟩, _, rfl, ?_⟩
    try unfold tNoPart
    refine ⟨_, rfl, _, rfl, ?_⟩
    refine slc _ _ _ _ eW4 fun p hp => ?_
    have eWp := same_upd (o := .lst ((cutT ys none (Option.some (rn : Int))).map V.str)) hp _ _ eW4
    have eLp := same_upd (o := .lst ((cutT ys none (Option.some (rn : Int))).map V.str)) hp _ _ eL4
    refine ⟨_, rfl, _, rfl, d, l, _, rfl, D4.upd hp, .inr ⟨L, _, rfl, nL, .inl (SqL.of eLp), by show 0 < 16; decide, by show 16 ≤ 100000; decide, fun y H5 hy D5 b5 => ?_⟩⟩
    obtain ⟨y, hys2, rfl⟩ := pick_text hy
    have ly : y.length ≤ 9 := by
      have : ∀ z ∈ some, z.length ≤ 9 := by decide
      exact this y hys2
    refine ⟨by show 1 ≤ sizeLine; decide, fun q hq => ?_⟩
    have ep5 := b5 _ _ upd_same (D4.ned hp)
    have eW5 := b5 _ _ eWp nW
    refine cat _ [y] _ _ _ _ (same_upd hq _ _ ep5) upd_same ?_ fun u hu => ?_
    · have := c1 none (Option.some (rn : Int))
      show _ + (y.length + 0 + 1) ≤ _
      omega
    have D6 := (D5.upd (o := .lst ([y].map V.str)) hq).upd (o := .lst ((cutT ys none (Option.some (rn : Int)) ++ [y]).map V.str)) hu
    refine ⟨_, rfl, _, rfl, _, rfl, d, l, 2, rfl, D6, by decide, by decide, fun m H7 m0 m1 D7 b7 => ?_⟩
    refine ⟨_, _, rfl, rfl, _, rfl, ?_⟩
    try unfold tNoPart
    have eW6 := same_upd (o := .lst ((cutT ys none (Option.some (rn : Int)) ++ [y]).map V.str)) hu _ _ (same_upd (o := .lst ([y].map V.str)) hq _ _ eW5)
    have eu7 := b7 u _ upd_same ((D5.upd (o := .lst ([y].map V.str)) hq).ned hu)
    refine slc _ _ _ _ (b7 _ _ eW6 nW) fun v hv => ?_
    obtain ⟨k2, hk2⟩ : ∃ k2 : Nat, (rn : Int) + m = (k2 : Int) := ⟨((rn : Int) + m).toNat, by omega⟩
    have c4 := wt_ends ys rn k2 (by omega)
    rw [hk2]
    refine cat _ _ _ _ _ _ (same_upd hv _ _ eu7) upd_same ?_ fun z hz => ?_
    · rw [wt_app]
      show _ + (y.length + 0 + 1) + _ ≤ _
      omega
    refine fin _ _ _ (b04.trans ((But.new hp).trans (b5.trans ((But.new hq).trans ((But.new hu).trans (b7.trans ((But.new hv).trans (But.new hz)))))))) ((D7.upd hv).upd hz) upd_same ?_
    rw [wt_app, wt_app]
    show _ + (y.length + 0 + 1) + _ ≤ _
    omega
  refine ⟨_, rfl, rfl, _, rfl, ?_⟩
  refine ite2 (fun _ => ?_) (fun _ => ?_)
  · refine ⟨_, rfl, _, rfl, ?_⟩
    let rs : List Str := ["; step 1", " ", ";", ")", " step", "; again 1 on less", repS "; step 1" 12]
    refine ⟨"; step 1", 12, rfl, rfl, by decide, by decide, by decide, by decide, by decide, ?_⟩
    refine ⟨by show 7 ≤ sizeLine; decide, fun R hR => ?_⟩
    have D5 := D4.upd (o := .lst (rs.map V.str)) hR
    refine ⟨d, l, _, rfl, D5, .inr ⟨R, rs.map V.str, rfl, D4.ned hR, .inl (SqL.of upd_same), by show 0 < 7; decide, by show 7 ≤ 100000; decide, fun y H6 hy D6 b6 => ?_⟩⟩
    obtain ⟨y, hys2, rfl⟩ := pick_text hy
    have ly : y.length ≤ 96 := by
      have : ∀ z ∈ rs, z.length ≤ 96 := by decide
      exact this y hys2
    refine ⟨_, _, rfl, rfl, big (by omega), k _ _ (b04.trans ((But.new hR).trans b6)) D6 ?_⟩
    rw [str_len]
    omega
  refine ⟨_, rfl, _, rfl, x, rfl, big (by omega), _, _, rfl, rfl, d, l, _, rfl, D4, by omega, Int.lt_of_lt_of_le (show (x.length : Int) + 1 < 1000000 by omega) (by decide), fun m H5 m0 m1 D5 b5 => ?_⟩
  refine ⟨_, rfl, ?_⟩
  try unfold tNoPart
  refine ⟨_, rfl, _, rfl, x, rfl, big (by omega), ?_⟩
  refine ⟨_, rfl, d, l, _, rfl, D5, .inl ⟨_, rfl, by decide, by decide, fun c H6 hc D6 b6 => ?_⟩⟩
  refine ⟨_, rfl, d, l, 2, rfl, D6, by decide, by decide, fun r2 H7 q0 q1 D7 b7 => ?_⟩
  have lr : (repS (⟨#[c]⟩ : Str) r2.toNat).length ≤ 1 := by
    rcases (by omega : r2 = 0 ∨ r2 = 1) with rfl | rfl
    · rw [show (0 : Int).toNat = 0 from rfl, repS_zero]
      decide
    · rw [show (1 : Int).toNat = 1 from rfl, repS_one]
      decide
  refine ⟨⟨#[c]⟩, r2, rfl, rfl, q0, Int.lt_trans q1 (by decide), by show 0 < 1; decide, ?_, big (by omega), ?_⟩
  · rw [show (⟨#[c]⟩ : Str).length = 1 from rfl, Nat.one_mul]
    exact Nat.le_trans (by omega : r2.toNat ≤ 2) (by decide)
  have h1 := cutS_len x none (Option.some m)
  refine ⟨_, _, rfl, rfl, big (by omega), ?_⟩
  refine ⟨_, rfl, _, rfl, _, rfl, d, l, 2, rfl, D7, by decide, by decide, fun r3 H8 w0 w1 D8 b8 => ?_⟩
  refine ⟨_, _, rfl, rfl, _, rfl, ?_⟩
  try unfold tNoPart
  have h2 := cutS_len x (Option.some (m + r3)) none
  refine ⟨x, rfl, big (by omega), _, _, rfl, rfl, ?_, ?_⟩
  · refine big ?_
    rw [str_len]
    omega
  refine k _ _ (b04.trans (b5.trans (b6.trans (b7.trans b8)))) D8 ?_
  rw [str_len, str_len]
  omega
/-- alike data are the same -/
def spSame (K : PySem.W.Frag) (n : Nat) : Sp := fun vs H Q _ => ∃ (x y : V) (d : PyData), vs = [x, y] ∧ Dp K H x d ∧ Dp K H y d ∧ dep d < n ∧ wid d ≤ 100000 ∧ ∀ H', Same H H' → Q (.bl true) H'
theorem same_step (T : Txt K mg) (n : Nat) (G_law_same : FnOk P w K mg base CX0 n T.a_law_same T.d_law_same ["_law_found", "_law_due"] (spSame K n)) :
    FnOk P w K mg base CX0 (n + 1) T.a_law_same T.d_law_same ["_law_found", "_law_due"] (spSame K (n + 1)) := by
  refine T.F_law_same.ok sc_law_same (fun vs H Q E h => ?_) (fun cdv A outer s H vs Q E hr h => ?_)
  · obtain ⟨x, y, d, rfl, _⟩ := h
    rfl
  obtain ⟨x, y, d, rfl, dx, dy, hn, hw, k⟩ := h
  refine ⟨_, (pss_cons (ps_if (pt_val (pe_callB call_isiT (by rfl) T.z_isinstance (by decide +kernel) (pa_cons (pv 1) (pa_cons (pe_tup (pa_cons (pe_bltn (v := .ty "list") (by rfl) T.z_list (by decide +kernel) rfl) (pa_cons (pe_bltn (v := .ty "tuple") (by rfl) T.z_tuple (by decide +kernel) rfl) pa_nil))) pa_nil)))) (pss_cons (ps_if (PW.pt (pw_or (pt_cmpR op_ne (pe_callB call_isi (by rfl) T.z_isinstance (by decide +kernel) (pa_cons (pv 0) (pa_cons (pe_bltn (v := .ty "list") (by rfl) T.z_list (by decide +kernel) rfl) pa_nil))) (pe_callB call_isi (by rfl) T.z_isinstance (by decide +kernel) (pa_cons (pv 1) (pa_cons (pe_bltn (v := .ty "list") (by rfl) T.z_list (by decide +kernel) rfl) pa_nil))) (nomark _)) (pw_or1 (pt_not (pt_val (pe_callB call_isiT (by rfl) T.z_isinstance (by decide +kernel) (pa_cons (pv 0) (pa_cons (pe_tup (pa_cons (pe_bltn (v := .ty "list") (by rfl) T.z_list (by decide +kernel) rfl) (pa_cons (pe_bltn (v := .ty "tuple") (by rfl) T.z_tuple (by decide +kernel) rfl) pa_nil))) pa_nil)))))))) (pss_one (ps_ret pe_bl)) pss_nil)
      (pss_one (ps_ret (pe_and (pe_cmpR op_eq (pe_callB call_len (by rfl) T.z_len (by decide +kernel) (pa_cons (pv 0) pa_nil)) (pe_callB call_len (by rfl) T.z_len (by decide +kernel) (pa_cons (pv 1) pa_nil)) (nomark _)) (pe_one (pe_callB (cr_all rfl) (by rfl) T.z_all (by decide +kernel) (pa_cons (pe_lc (own := [("_law_one", 2), ("_law_other", 3)]) (g := gTup K 2 ((gCons (gName 2) (gCons (gName 3) gNil)))) (tt := tYes) rfl sc_law_same.nd (RZ.pi_zipA (by rfl) T.z_zip (pa_cons (pv 0) (pa_cons (pv 1) pa_nil))) (blkOk_by (N := N_law_same) (sc := defScope s_law_same) (by decide +kernel)) (fun _ _ _ _ _ => (pg_tup rfl (pgs_cons (pg_name (i := 2) sc_law_same.nd rfl (Or.inl rfl)) (pgs_cons (pg_name (i := 3) sc_law_same.nd rfl (Or.inl rfl)) pgs_nil)))) (fun _ _ _ _ _ => pts_nil) (fun _ _ _ _ _ => (pe_call G_law_same hr (by rfl) T.g_law_same T.F_law_same.kp T.b_law_same .nil pass0 (pa_cons (pv 2) (pa_cons (pv 3) pa_nil))))) pa_nil))))))) pss_nil)
      (pss_cons (ps_if (pt_cmpR op_isN (pv 1) pe_non (nomark _)) (pss_one (ps_ret (pe_cmpR op_isN (pv 0) pe_non (nomark _)))) pss_nil)
      (pss_cons (ps_if (PW.pt (pw_or (pt_cmpR op_ne (pe_callB call_isi (by rfl) T.z_isinstance (by decide +kernel) (pa_cons (pv 0) (pa_cons (pe_bltn (v := .ty "bool") (by rfl) T.z_bool (by decide +kernel) rfl) pa_nil))) (pe_callB call_isi (by rfl) T.z_isinstance (by decide +kernel) (pa_cons (pv 1) (pa_cons (pe_bltn (v := .ty "bool") (by rfl) T.z_bool (by decide +kernel) rfl) pa_nil))) (nomark _)) (pw_or1 (pt_cmpR op_ne (pe_callB call_isi (by rfl) T.z_isinstance (by decide +kernel) (pa_cons (pv 0) (pa_cons (pe_bltn (v := .ty "int") (by rfl) T.z_int (by decide +kernel) rfl) pa_nil))) (pe_callB call_isi (by rfl) T.z_isinstance (by decide +kernel) (pa_cons (pv 1) (pa_cons (pe_bltn (v := .ty "int") (by rfl) T.z_int (by decide +kernel) rfl) pa_nil))) (nomark _))))) (pss_one (ps_ret pe_bl)) pss_nil)
      (pss_one (ps_ret (pe_and (pe_cmpR op_eq (pe_callB call_isi (by rfl) T.z_isinstance (by decide +kernel) (pa_cons (pv 0) (pa_cons (pe_bltn (v := .ty "str") (by rfl) T.z_str (by decide +kernel) rfl) pa_nil))) (pe_callB call_isi (by rfl) T.z_isinstance (by decide +kernel) (pa_cons (pv 1) (pa_cons (pe_bltn (v := .ty "str") (by rfl) T.z_str (by decide +kernel) rfl) pa_nil))) (nomark _)) (pe_one (pe_cmpR op_eq (pv 0) (pv 1) (nomark _))))))))), ?_⟩
  have kd := fun d => kit_d (K := K) d
  -- isinstance(due, (list, tuple))
  refine ⟨_, rfl, by show 2 ≤ sizeLine; decide, fun p hp => ?_⟩
  have s1 : Same H (upd H p (.tup clsLT)) := same_upd hp
  refine ⟨y, p, clsLT, _, _, _, rfl, upd_same, pairLT, dp_ty (Dp.mono s1 dy), kit2 (kd d).1 (kd d).2.1, _, rfl, ?_⟩
  refine ite2 (fun c1 => ?_) (fun c1 => ?_)
  · -- lists, tuples
    refine ⟨_, rfl, x, _, _, _, _, rfl, .ty _, dp_ty (Dp.mono s1 dx), (kd d).1, ?_⟩
    refine ⟨_, rfl, y, _, _, _, _, rfl, .ty _, dp_ty (Dp.mono s1 dy), (kd d).1, rfl, _, rfl, ?_⟩
    refine iteNS rfl ?_
    refine ⟨_, rfl, by show 2 ≤ sizeLine; decide, fun p2 hp2 => ?_⟩
    have s2 := s1.trans (same_upd (o := .tup clsLT) hp2)
    refine ⟨x, p2, clsLT, _, _, _, rfl, upd_same, pairLT, dp_ty (Dp.mono s2 dx), kit2 (kd d).1 (kd d).2.1, _, rfl, ?_⟩
    rw [c1]
    refine iteF ?_
    generalize hH : upd (upd H p (.tup clsLT)) p2 (.tup clsLT) = H2 at s2
    have dx2 := Dp.mono s2 dx
    have dy2 := Dp.mono s2 dy
    -- the turns of the comprehension
    have turn : ∀ (D : Addr) (xs ys : List V) (ds : List PyData), H2 D = none → DpAll K H2 xs ds → DpAll K H2 ys ds → depAll ds < n → widAll ds ≤ 100000 → ds.length ≤ 100000 → ∀ (i : Nat) (z : V) (H H' : Hp), i < min xs.length ys.length →
        (Same H2 H ∧ H D = some (.lst (List.replicate i (V.bl true)))) → YPair (fun i => xs[i]?) (fun i => ys[i]?) i H z H' → ∃ T u v du, z = .ref T ∧ H' T = some (.tup [u, v]) ∧ Dp K H' u du ∧ Dp K H' v du ∧ dep du < n ∧ wid du ≤ 100000 ∧ i < 100000 ∧ Same H2 H' ∧ H' D = some (.lst (List.replicate i (V.bl true))) := by
      rintro D xs ys ds hD ax ay hdp hwd hln i z H3 H4 hi ⟨sm, eD⟩ ⟨Tt, u, v, rfl, nT, rfl, gx, gy⟩
      have lx := ax.length
      obtain ⟨du, gd, pu⟩ := ax.get gx
      obtain ⟨dv, gd', pv⟩ := ay.get gy
      rw [gd] at gd'
      cases gd'
      have sm' := sm.trans (same_upd (o := .tup [u, v]) nT)
      have := dep_get gd
      have := wid_get gd
      refine ⟨Tt, u, v, du, rfl, upd_same, Dp.mono sm' pu, Dp.mono sm' pv, by omega, by omega, by omega, sm', ?_⟩
      rw [upd_ne (ne_of_none eD nT)]
      exact eD
    have fin : ∀ (m : Nat) (H' : Hp) (D : Addr), Same H2 H' → H' D = some (.lst (List.replicate m (V.bl true))) → ∃ (a : Addr) (bs : List Bool), ([.ref D] : List V) = [V.ref a] ∧ SqL K H' a (bs.map V.bl) ∧ Q (.bl (bs.all id)) H' := by
      intro m H' D sm eD
      refine ⟨D, List.replicate m true, rfl, SqL.of (by rw [List.map_replicate]; exact eD), ?_⟩
      rw [show (List.replicate m true).all id = true by simp]
      exact k _ (s2.trans sm)
    have body : ∀ (D : Addr) (i : Nat) (u v : V) (du : PyData) (H' : Hp), H2 D = none → Dp K H' u du → Dp K H' v du → dep du < n → wid du ≤ 100000 → i < 100000 → Same H2 H' → H' D = some (.lst (List.replicate i (V.bl true))) →
        spSame K n [u, v] H' (fun y H4 => ∃ acc, H4 D = some (.lst acc) ∧ acc.length < sizeLine ∧ (Same H2 (upd H4 D (.lst (acc ++ [y]))) ∧ (upd H4 D (.lst (acc ++ [y]))) D = some (.lst (List.replicate (i + 1) (V.bl true))))) E0 := by
      intro D i u v du H' hD pu pv hdp hwd hi sm eD
      refine ⟨u, v, du, rfl, pu, pv, hdp, hwd, fun H4 sm4 => ?_⟩
      refine ⟨List.replicate i (V.bl true), sm4 _ _ eD, ?_, ?_, ?_⟩
      · rw [List.length_replicate]
        exact Nat.lt_of_lt_of_le hi (by decide)
      · intro b o e
        rw [upd_ne (ne_of_none e hD)]
        exact sm4 _ _ (sm _ _ e)
      · rw [upd_same, List.replicate_succ']
    cases dx2 with
    | @lst a xs ds hs ha =>
      cases dy2 with
      | @lst b ys _ hs' ha' =>
        have hdp : depAll ds < n := by
          rw [dep] at hn
          omega
        have hwd : widAll ds ≤ 100000 ∧ ds.length ≤ 100000 := by
          rw [wid] at hw
          omega
        have lx := ha.length
        have ly := ha'.length
        have el : decide (V.int ((xs.length : Nat) : Int) = V.int ((ys.length : Nat) : Int)) = true := by
          rw [lx, ly]
          exact decide_eq_true rfl
        refine ⟨_, rfl, _, _, rfl, .inl ⟨xs, hs, rfl⟩, _, rfl, _, _, rfl, .inl ⟨ys, hs', rfl⟩, rfl, _, rfl, ?_⟩
        rw [el]
        refine iteT ?_
        refine ⟨_, rfl, _, rfl, a, b, xs, ys, rfl, .inl ⟨hs, hs', fun D hD => ?_⟩⟩
        refine lc_it (walk_zip rfl) (fun i H => Same H2 H ∧ H D = some (.lst (List.replicate i (V.bl true)))) ⟨same_upd hD, upd_same⟩ (fun i H _ p => ⟨same_l p.1 hs, same_l p.1 hs'⟩) ?_ (fun H' p => fin _ H' D p.1 p.2)
        intro i z H3 H4 hi p y
        obtain ⟨Tt, u, v, du, rfl, eT, pu, pv, h1, h2, h3, sm, eD⟩ := turn D xs ys ds hD ha ha' hdp hwd.1 hwd.2 i z H3 H4 hi p y
        refine ⟨Tt, [u, v], rfl, SqT.of eT, rfl, u, [v], rfl, v, [], rfl, rfl, rfl, ?_⟩
        exact ⟨_, rfl, _, rfl, body D i u v du H4 hD pu pv h1 h2 h3 sm eD⟩
    | @tup a xs ds hs ha =>
      cases dy2 with
      | @tup b ys _ hs' ha' =>
        have hdp : depAll ds < n := by
          rw [dep] at hn
          omega
        have hwd : widAll ds ≤ 100000 ∧ ds.length ≤ 100000 := by
          rw [wid] at hw
          omega
        have lx := ha.length
        have ly := ha'.length
        have el : decide (V.int ((xs.length : Nat) : Int) = V.int ((ys.length : Nat) : Int)) = true := by
          rw [lx, ly]
          exact decide_eq_true rfl
        refine ⟨_, rfl, _, _, rfl, .inr ⟨xs, hs, rfl⟩, _, rfl, _, _, rfl, .inr ⟨ys, hs', rfl⟩, rfl, _, rfl, ?_⟩
        rw [el]
        refine iteT ?_
        refine ⟨_, rfl, _, rfl, a, b, xs, ys, rfl, .inr ⟨hs, hs', fun D hD => ?_⟩⟩
        refine lc_it (walk_zipT rfl) (fun i H => Same H2 H ∧ H D = some (.lst (List.replicate i (V.bl true)))) ⟨same_upd hD, upd_same⟩ (fun i H _ p => ⟨same_t p.1 hs, same_t p.1 hs'⟩) ?_ (fun H' p => fin _ H' D p.1 p.2)
        intro i z H3 H4 hi p y
        obtain ⟨Tt, u, v, du, rfl, eT, pu, pv, h1, h2, h3, sm, eD⟩ := turn D xs ys ds hD ha ha' hdp hwd.1 hwd.2 i z H3 H4 hi p y
        refine ⟨Tt, [u, v], rfl, SqT.of eT, rfl, u, [v], rfl, v, [], rfl, rfl, rfl, ?_⟩
        exact ⟨_, rfl, _, rfl, body D i u v du H4 hD pu pv h1 h2 h3 sm eD⟩
    | non => exact absurd c1 (by decide)
    | bl b => exact absurd c1 (by decide : ¬ (isTn "list" "bool" || isTn "tuple" "bool") = true)
    | int i => exact absurd c1 (by decide : ¬ (isTn "list" "int" || isTn "tuple" "int") = true)
    | str x => exact absurd c1 (by decide : ¬ (isTn "list" "str" || isTn "tuple" "str") = true)
  · generalize upd H p (.tup clsLT) = H2 at s1
    have dx2 := Dp.mono s1 dx
    have dy2 := Dp.mono s1 dy
    cases dx2 with
    | lst hs ha => exact absurd rfl c1
    | tup hs ha => exact absurd rfl c1
    | non =>
      cases dy2
      refine ⟨_, rfl, rfl, _, rfl, ?_⟩
      refine iteT ?_
      exact ⟨_, rfl, rfl, k _ s1⟩
    | bl b =>
      cases dy2
      refine ⟨_, rfl, rfl, _, rfl, ?_⟩
      refine iteF ?_
      -- isinstance(.., bool), isinstance(.., int)
      refine ⟨_, rfl, _, _, _, _, _, rfl, .ty _, .base (.bl b), (kd (.bool b)).2.2.1, _, rfl, _, _, _, _, _, rfl, .ty _, .base (.bl b), (kd (.bool b)).2.2.1, rfl, _, rfl, ?_⟩
      refine iteNS rfl ?_
      refine ⟨_, rfl, _, _, _, _, _, rfl, .ty _, .base (.bl b), (kd (.bool b)).2.2.2.1, _, rfl, _, _, _, _, _, rfl, .ty _, .base (.bl b), (kd (.bool b)).2.2.2.1, rfl, _, rfl, ?_⟩
      refine iteNS rfl ?_
      refine ⟨_, rfl, _, _, _, _, _, rfl, .ty _, .base (.bl b), (kd (.bool b)).2.2.2.2, _, rfl, _, _, _, _, _, rfl, .ty _, .base (.bl b), (kd (.bool b)).2.2.2.2, rfl, _, rfl, ?_⟩
      rw [decide_eq_true rfl]
      refine iteT ?_
      refine ⟨_, rfl, _, rfl, rfl, ?_⟩
      rw [decide_eq_true rfl]
      exact k _ s1
    | int b =>
      cases dy2
      refine ⟨_, rfl, rfl, _, rfl, ?_⟩
      refine iteF ?_
      -- isinstance(.., bool), isinstance(.., int)
      refine ⟨_, rfl, _, _, _, _, _, rfl, .ty _, .base (.int b), (kd (.int b)).2.2.1, _, rfl, _, _, _, _, _, rfl, .ty _, .base (.int b), (kd (.int b)).2.2.1, rfl, _, rfl, ?_⟩
      refine iteNS rfl ?_
      refine ⟨_, rfl, _, _, _, _, _, rfl, .ty _, .base (.int b), (kd (.int b)).2.2.2.1, _, rfl, _, _, _, _, _, rfl, .ty _, .base (.int b), (kd (.int b)).2.2.2.1, rfl, _, rfl, ?_⟩
      refine iteNS rfl ?_
      refine ⟨_, rfl, _, _, _, _, _, rfl, .ty _, .base (.int b), (kd (.int b)).2.2.2.2, _, rfl, _, _, _, _, _, rfl, .ty _, .base (.int b), (kd (.int b)).2.2.2.2, rfl, _, rfl, ?_⟩
      rw [decide_eq_true rfl]
      refine iteT ?_
      refine ⟨_, rfl, _, rfl, rfl, ?_⟩
      rw [decide_eq_true rfl]
      exact k _ s1
    | str b =>
      cases dy2
      refine ⟨_, rfl, rfl, _, rfl, ?_⟩
      refine iteF ?_
      -- isinstance(.., bool), isinstance(.., int)
      refine ⟨_, rfl, _, _, _, _, _, rfl, .ty _, .base (.str b), (kd (.str b)).2.2.1, _, rfl, _, _, _, _, _, rfl, .ty _, .base (.str b), (kd (.str b)).2.2.1, rfl, _, rfl, ?_⟩
      refine iteNS rfl ?_
      refine ⟨_, rfl, _, _, _, _, _, rfl, .ty _, .base (.str b), (kd (.str b)).2.2.2.1, _, rfl, _, _, _, _, _, rfl, .ty _, .base (.str b), (kd (.str b)).2.2.2.1, rfl, _, rfl, ?_⟩
      refine iteNS rfl ?_
      refine ⟨_, rfl, _, _, _, _, _, rfl, .ty _, .base (.str b), (kd (.str b)).2.2.2.2, _, rfl, _, _, _, _, _, rfl, .ty _, .base (.str b), (kd (.str b)).2.2.2.2, rfl, _, rfl, ?_⟩
      rw [decide_eq_true rfl]
      refine iteT ?_
      refine ⟨_, rfl, _, rfl, rfl, ?_⟩
      rw [decide_eq_true rfl]
      exact k _ s1
theorem same_all (T : Txt K mg) : ∀ n, FnOk P w K mg base CX0 n T.a_law_same T.d_law_same ["_law_found", "_law_due"] (spSame K n)
  | 0 => by
    have no : ∀ vs H Q E, ¬ spSame K 0 vs H Q E := fun vs H Q E h => by
      obtain ⟨x, y, d, _, _, _, h, _⟩ := h
      omega
    exact ⟨fun vs H Q E h => absurd h (no vs H Q E), fun A outer s H args us vs Q E _ _ _ _ h => absurd h (no vs H Q E)⟩
  | n + 1 => same_step T n (same_all T n)
theorem ok_law_same (T : Txt K mg) : FnOk P w K mg base CX0 12 T.a_law_same T.d_law_same ["_law_found", "_law_due"] (spSame K 12) := same_all T 12
/-- what the law asks of an exception's class -/
structure UfC (T : Txt K mg) (C : Addr) : Prop where
  cls : ClsE K C
  word : PySem.W.findIn K (.ref C) "word" = some none
  kind : ∃ b, PySem.W.kitOne K (.ref C) (.ref T.x_Misread) = some b ∧ PySem.W.kitOne K (.ref C) (.ref T.x_Unfit) = some (!b)
  ve : PySem.W.kitOne K (.ref C) (.type "ValueError") = some true
def spClass (T : Txt K mg) : Addr → Value → Option Addr → Sp := fun a cls d vs H Q _ => ∃ (C dd : Addr) (fs : List (Str × V)) (wd : Str), vs = [.ref a] ∧ cls = .ref C ∧ d = some dd ∧ UfC T C ∧ H dd = some (.xd fs) ∧ fs.lookup (Str.ofString "word") = some (V.str wd) ∧ Q (.str wd) H
theorem ok_law_class (T : Txt K mg) : FnE P w K mg base 1 T.a_law_class T.d_law_class ["_law_e"] (spClass T) := by
  refine fn_ofE T.F_law_class sc_law_class (fun a cls d vs H Q E h => ?_) (fun cdv A outer s H vs Q E p cls d hz hf hr h => ?_)
  · obtain ⟨C, dd, fs, wd, rfl, _⟩ := h
    rfl
  obtain ⟨C, dd, fs, wd, rfl, rfl, rfl, U, ed, lw, k⟩ := h
  have hp : p ∈ (L2H.cxH CX0 P w K mg base N_law_class (Str.ofString "_law_class") (defScope s_law_class) T.a_law_class cdv A outer s H E p).nox.pn := List.mem_singleton.mpr rfl
  refine ⟨_, (pss_cons (ps_if (PW.pt (pw_or (pt_cmpR op_eq (pe_callB (call_isP U.cls hp hz hf) (by rfl) T.z_isinstance (by decide +kernel) (pa_cons (pv 0) (pa_cons (pe_glob (v := .ref T.x_Misread) rfl T.gx_Misread rfl) pa_nil))) (pe_callB (call_isP U.cls hp hz hf) (by rfl) T.z_isinstance (by decide +kernel) (pa_cons (pv 0) (pa_cons (pe_glob (v := .ref T.x_Unfit) rfl T.gx_Unfit rfl) pa_nil))) (nomark _)) (pw_or1 (pt_not (pt_val (pe_callB (call_isP U.cls hp hz hf) (by rfl) T.z_isinstance (by decide +kernel) (pa_cons (pv 0) (pa_cons (pe_bltn (v := .ty "ValueError") (by rfl) T.z_ValueError (by decide +kernel) rfl) pa_nil)))))))) (pss_one (ps_ret pe_str)) pss_nil)
      (pss_one (ps_ret (pe_xp U.cls U.word hp hz hf (pv 0))))), ?_⟩
  obtain ⟨b, k1, k2⟩ := U.kind
  refine ⟨_, rfl, _, _, b, fs, rfl, fun u hu => hu, ed, k1, ?_⟩
  refine ⟨_, rfl, _, _, !b, fs, rfl, fun u hu => hu, ed, k2, ?_⟩
  refine ⟨rfl, _, rfl, ?_⟩
  rw [show decide (V.bl b = V.bl (!b)) = false by cases b <;> decide]
  refine iteF ?_
  refine ⟨_, rfl, _, _, true, fs, rfl, fun u hu => hu, ed, U.ve, _, rfl, ?_⟩
  refine iteF ?_
  exact ⟨_, rfl, rfl, fs, _, ed, lw, k⟩
theorem pss_ex {X : Cx} {ss : List Stmt} {α : Type} {p : α → Prop} {t : α → TS} (h : ∀ x, p x → PSs X ss (t x)) : PSs X ss (fun D σ H => ∃ x, p x ∧ t x D σ H) :=
  ⟨fun pins s σ H D I ⟨x, hx, q⟩ => (h x hx).run pins s σ H D I q⟩
/-- what the law makes of an exception: BadText alone -/
def EXTried (T : Txt K mg) (Q : VK) : XK := fun cls d H' => ∃ (C dd : Addr) (fs : List (Str × V)) (wd : Str), cls = .ref C ∧ d = some dd ∧ UfC T C ∧ H' dd = some (.xd fs) ∧ fs.lookup (Str.ofString "word") = some (V.str wd) ∧
  PySem.W.exmOne K (.ref C) (.ref T.x_BadText) = some true ∧ PySem.W.findIn K (.ref C) "at" = some none ∧ ∃ v, fs.lookup (Str.ofString "at") = some v ∧ ∀ p, H' p = none → Q (.ref p) (upd H' p (.tup [.str wd, v]))
def TTried (T : Txt K mg) : (XK → Hp → VK → Prop) → Hp → VK → Prop := fun tl H Q =>
  tl (EXTried T Q) H fun v H' => 2 ≤ sizeLine ∧ ∀ p, H' p = none → Q (.ref p) (upd H' p (.tup [.str "told", v]))
theorem tried_gives {X : Cx} (T : Txt X.K X.mg) (cdg : Value) (q : Str) (hr : Room 3 X.A) : LamX.GivesTo X N_law_tried "_law_tried" (defScope s_law_tried) T.a_law_tried cdg (defBody s_law_tried) "_law_ask" q (TTried T) := by
  intro f c' s H Q tl act hc h
  have hr1 : Room 2 (cxOf C8.CX0 X.prog X.w X.K X.mg X.base N_law_tried "_law_tried" (defScope s_law_tried) T.a_law_tried cdg X.A X.stack s H C8.E0).nox.A := hr.deeper _
  refine ⟨_, pss_one (ps_try_manyA (X := (cxOf C8.CX0 X.prog X.w X.K X.mg X.base N_law_tried "_law_tried" (defScope s_law_tried) T.a_law_tried cdg X.A X.stack s H C8.E0).nox) (n := "_law_e") (i := 1)
      (tb := fun W D σ H => ∃ Ech : XK, (∀ cls d σ' H', Ech cls d H' → W cls d σ' H') ∧ tRet (tTup (tCons (tC (V.str "told")) (tCons (fun σZ HZ Q => σZ[0]? = some (some (V.ref f)) ∧ HZ c' = some (LamX.CodeO c' q) ∧ tl Ech HZ Q) tNil))) D σ H)
      rfl rfl sc_law_tried.nd rfl rfl LamX.takes0 (fun W pn xe tk _ => ?_)
      (.one ⟨rfl, by decide, .inl T.gx_BadText⟩ (fun a oe cls d pn hz hf => pss_ex (p := fun x : Addr × Addr => cls = .ref x.1 ∧ d = some x.2 ∧ UfC T x.1 ∧ PySem.W.findIn X.K (.ref x.1) "at" = some none) (t := fun x => tRet (tTup (tCons (tCallE a (.ref x.1) (some x.2) (spClass T) (tCons (tVar 1) tNil)) (tCons (tXp a x.2 "at" (tVar 1)) tNil)))) fun x hx => by
            obtain ⟨rfl, rfl, U, hn⟩ := hx
            exact pss_one (ps_ret (pe_tup (pa_cons (pe_callE (ok_law_class T) (L2H.roomH_of (hr1.mono (by decide))) hz hf (by rfl) T.g_law_class T.F_law_class.kp T.b_law_class (pa_cons (pv 1) pa_nil)) (pa_cons (pe_xp (p := (a, oe)) U.cls hn List.mem_cons_self hz hf (pv 1)) pa_nil))))) <|
        .one ⟨rfl, by decide, .inl T.gx_BadPage⟩ (fun _ _ _ _ _ _ _ => pss_one ps_never) <| .one ⟨rfl, by decide, .inl T.gx_Stopped⟩ (fun _ _ _ _ _ _ _ => pss_one ps_never) <|
        .tup (.cons ⟨rfl, by decide, .inl T.gx_NoName⟩ (.cons ⟨rfl, by decide, .inl T.gx_Twice⟩ (.cons ⟨rfl, by decide, .inl T.gx_NoPlan⟩ (.cons ⟨rfl, by decide, .inl T.gx_NoLabel⟩ (.cons ⟨rfl, by decide, .inl T.gx_Taken⟩ (.cons ⟨rfl, by decide, .inl T.gx_Ring⟩ (.cons ⟨rfl, by decide, .inl T.gx_NotPlain⟩ (.cons ⟨rfl, by decide, .inl T.gx_Tangled⟩ (.cons ⟨rfl, by decide, .inl T.gx_Breaks⟩ (.cons ⟨rfl, by decide, .inl T.gx_InUse⟩ (.cons ⟨rfl, by decide, .inl T.gx_Uneven⟩ .nil))))))))))) (by simp) (fun _ _ _ _ _ _ _ => pss_one ps_never) <|
        .one ⟨rfl, by decide, .inl T.gx_Refused⟩ (fun _ _ _ _ _ _ _ => pss_one ps_never) .nil)), ?_⟩
  · refine ⟨fun pins s' σ H' D I h' => ?_⟩
    obtain ⟨Ech, hW, h3⟩ := h'
    exact (pss_one (ps_ret (pe_tup (pa_cons pe_str (pa_cons (act W pn xe Ech _ _ tk hW) pa_nil))))).run pins s' σ H' D I h3
  · refine ⟨EXTried T Q, fun cls d σ' H' hx => ?_, rfl, hc, h⟩
    obtain ⟨C, dd, fs, wd, rfl, rfl, U, ed, lw, mt, hn, v, lv, k⟩ := hx
    refine ⟨true, mt, fun _ a ha hi => ?_, (fun z => nomatch z)⟩
    have hg : (σ'.set 1 (some (V.ref a)))[1]? = some (some (V.ref a)) := by rw [List.getElem?_set_self hi]
    refine ⟨(C, dd), ⟨rfl, rfl, U, hn⟩, ?_⟩
    exact ⟨_, hg, C, dd, fs, wd, rfl, rfl, rfl, U, ed, lw, _, hg, rfl, fs, v, ed, lv, by show 2 ≤ sizeLine; decide, k⟩
def spCutUp : Sp := fun vs H Q _ => ∃ x : Str, vs = [.str x] ∧ x.length ≤ 1000000 ∧ CutEnds H Q (lexT x)
theorem ok_law_cut_up (T : Txt K mg) : FnOk P w K mg base CX0 1 T.a_law_cut_up T.d_law_cut_up ["_law_text"] spCutUp := by
  refine T.F_law_cut_up.ok sc_law_cut_up (fun vs H Q E h => ?_) (fun cdv A outer s H vs Q E hr h => ?_)
  · obtain ⟨x, rfl, _⟩ := h
    rfl
  obtain ⟨x, rfl, hx, k⟩ := h
  refine ⟨_, (pss_cons (ps_set (i := 1) sc_law_cut_up.nd rfl (Or.inl rfl) (pe_lst pa_nil))
      (pss_cons (ps_set (i := 2) sc_law_cut_up.nd rfl (Or.inl rfl) pe_int)
      (pss_cons (ps_asg (pe_tup (pa_cons pe_str (pa_cons pe_str pa_nil))) (pg_tup rfl (pgs_cons (pg_name (i := 3) sc_law_cut_up.nd rfl (Or.inl rfl)) (pgs_cons (pg_name (i := 4) sc_law_cut_up.nd rfl (Or.inl rfl)) pgs_nil))))
      (pss_cons (ps_while PassesOwn.never (pt_cmpR op_lt (pv 2) (pe_callB call_len_str (by rfl) T.z_len (by decide +kernel) (pa_cons (pv 0) pa_nil)) (nomark _)) (pss_cons (ps_set (i := 5) sc_law_cut_up.nd rfl (Or.inl rfl) (pe_op op_add (pv 2) pe_int))
      (C8.pss_cut (ps_set (i := 6) sc_law_cut_up.nd rfl (Or.inl rfl) (pe_ifExp (pt_cmpR op_in_sign (pe_ix ix_str (pv 0) (pv 2) (fun _ _ => rfl)) (pv 3) (by rfl)) (pv 3) pe_str))
      (C8.pss_cut (ps_if (pt_cmpR op_in_sign (pe_ix ix_str (pv 0) (pv 2) (fun _ _ => rfl)) (pv 4) (by rfl)) (pss_one (ps_set (i := 6) sc_law_cut_up.nd rfl (Or.inl rfl) (pv 4))) pss_nil)
      (C8.pss_cut (ps_while PassesOwn.never (PW.pt (pw_and (pt_cmpR op_lt (pv 5) (pe_callB call_len_str (by rfl) T.z_len (by decide +kernel) (pa_cons (pv 0) pa_nil)) (nomark _)) (pw_and (pt_cmpR op_in_sign (pe_ix ix_str (pv 0) (pv 5) (fun _ _ => rfl)) (pv 6) (by rfl)) (pw_and1 (pt_cmpR op_ne (pv 6) pe_str (nomark _)))))) (pss_one (ps_set (i := 5) sc_law_cut_up.nd rfl (Or.inl rfl) (pe_op op_add (pv 5) pe_int))))
      (C8.pss_cut (ps_if (pt_cmpR op_eq (pe_slice sl_str (pv 0) (po_some (pv 2)) (po_some (pe_op op_add (pv 2) pe_int))) pe_str (nomark _)) (pss_one (ps_set (i := 5) sc_law_cut_up.nd rfl (Or.inl rfl) (pe_op op_add (pv 2) pe_int))) pss_nil)
      (pss_cons (ps_set (i := 7) sc_law_cut_up.nd rfl (Or.inl rfl) (pe_slice sl_str (pv 0) (po_some (pv 2)) (po_some (pv 5))))
      (C8.pss_cut (ps_set (i := 8) sc_law_cut_up.nd rfl (Or.inl rfl) (pe_ifExp (pt_cmpR op_eq (pv 6) (pv 3) (nomark _)) (pe_cmpR op_lt (pe_callB call_len_str (by rfl) T.z_len (by decide +kernel) (pa_cons (pv 7) pa_nil)) pe_int (nomark _)) (pe_and (pe_cmpR op_lt (pe_callB call_len_str (by rfl) T.z_len (by decide +kernel) (pa_cons (pv 7) pa_nil)) pe_int (nomark _)) (pe_one (pe_or (pe_cmpR op_ne (pe_ix ix_str (pv 7) pe_int (fun _ _ => rfl)) pe_str (nomark _)) (pe_one (pe_cmpR op_eq (pv 7) pe_str (nomark _))))))))
      (C8.pss_cut (ps_if (PW.pt (pw_or (PW.pt (pw_and (pt_cmpR op_eq (pv 6) pe_str (nomark _)) (pw_and1 (pt_cmpR op_notIn_seq (pv 7) (pe_lst (pa_cons pe_str (pa_cons pe_str (pa_cons pe_str (pa_cons pe_str (pa_cons pe_str (pa_cons pe_str (pa_cons pe_str pa_nil)))))))) (by rfl))))) (pw_or1 (PW.pt (pw_and (pt_cmpR op_ne (pv 6) pe_str (nomark _)) (pw_and1 (pt_not (pt_val (pv 8))))))))) (pss_one (ps_ret (pv 2))) pss_nil)
      (pss_cons (ps_if (pt_cmpR op_ne (pv 7) pe_str (nomark _)) (pss_one (ps_expr (pe_bm PySem.F.plainAttrs_list PySem.F.slot_list_append PySem.F.type_list_append mt_append (pv 1) (pa_cons (pe_tup (pa_cons (pv 7) (pa_cons (pv 2) pa_nil))) pa_nil)))) pss_nil)
      (pss_one (ps_set (i := 2) sc_law_cut_up.nd rfl (Or.inl rfl) (pv 5)))))))))))))
      (pss_one (ps_ret (pe_op op_cat (pv 1) (pe_lst (pa_cons (pe_tup (pa_cons pe_str (pa_cons (pe_callB call_len_str (by rfl) T.z_len (by decide +kernel) (pa_cons (pv 0) pa_nil)) pa_nil))) pa_nil))))))))), ?_⟩
  have hxl : x.length ≤ sizeLine := Nat.le_trans hx (by decide)
  have xl : x.cps.toList.length = x.length := Array.length_toList
  refine ⟨by show 0 ≤ sizeLine; decide, fun L hL => ?_⟩
  have sL := same_upd (o := .lst []) hL
  refine ⟨by show 2 ≤ sizeLine; decide, fun pt hpt => ?_⟩
  have spt := same_upd (o := .tup [.str "abcdefghijklmnopqrstuvwxyz", .str "0123456789"]) hpt
  refine ⟨pt, _, rfl, SqT.of upd_same, rfl, _, _, rfl, _, _, rfl, rfl, ?_⟩
  rw [lexT_GG] at k
  generalize hG : GG x.cps.toList (x.length + 1) 0 = G0 at k
  refine while_by (fun σ H' => Same H H' ∧ ∃ (i f : Nat) (vs : List V) (done : TL) (v5 v6 v7 v8 : Option V), H' L = some (.lst vs) ∧ Paired (SgRel H') vs (done.map txt) ∧ done.length ≤ i ∧ i ≤ x.length ∧ x.length - i < f ∧ G0 = joinG done (GG x.cps.toList f i) ∧ σ = [some (.str x), some (.ref L), some (.int (i : Nat)), some (.str lettersS'), some (.str digitsS), v5, v6, v7, v8])
    (fun σ _ => match σ with | _ :: _ :: some (.int m) :: _ => x.length - m.toNat | _ => 0) ⟨sL.trans spt, 0, x.length + 1, [], [], none, none, none, none, spt _ _ upd_same, .nil, Nat.zero_le _, by omega, by omega, by rw [joinG_nil, hG], rfl⟩ ?_ ?_
  · rintro σ H1 ⟨s1, i, f, vs, done, v5, v6, v7, v8, eL, ta, di, hi, hf, hle, rfl⟩
    refine ⟨_, rfl, _, rfl, x, rfl, hxl, _, _, rfl, rfl, _, rfl, ?_⟩
    refine ite2 (fun c => ?_) (fun c => ?_)
    · have c' : i < x.length := by
        have := of_decide_eq_true c
        omega
      have hg : x.cps.toList[i]? = some x.cps.toList[i] := List.getElem?_eq_getElem (by omega)
      have dr : x.cps.toList.drop i = x.cps.toList[i] :: x.cps.toList.drop (i + 1) := List.drop_eq_getElem_cons (by omega)
      generalize hcx : x.cps.toList[i] = cx at hg dr
      have di' : (x.cps.toList.drop i).length = x.length - i := by rw [List.length_drop, xl]
      have ll := lenOf_le cx (x.cps.toList.drop (i + 1))
      rw [← dr, di'] at ll
      refine ⟨_, rfl, _, _, rfl, rfl, ?_⟩
      refine ⟨fun σ H' => H1 = H' ∧ σ = [some (.str x), some (.ref L), some (.int (i : Nat)), some (.str lettersS'), some (.str digitsS), some (.int ((i + 1 : Nat) : Int)), some (.str (if cx ∈ lettersS'.cps.toList then lettersS' else "")), v7, v8], ?_, ?_⟩
      · refine ⟨_, rfl, _, rfl, x, _, _, rfl, rfl, hxl, atI_nat hg, _, rfl, cx, _, rfl, rfl, _, rfl, ?_⟩
        refine ite2 (fun c2 => ?_) (fun c2 => ?_)
        · exact ⟨_, rfl, rfl, by rw [if_pos (of_decide_eq_true c2)]; rfl⟩
        · exact ⟨rfl, by rw [if_neg (fun z => c2 (decide_eq_true z))]; rfl⟩
      rintro σ H' ⟨rfl, rfl⟩
      refine ⟨fun σ H' => H1 = H' ∧ σ = [some (.str x), some (.ref L), some (.int (i : Nat)), some (.str lettersS'), some (.str digitsS), some (.int ((i + 1 : Nat) : Int)), some (.str (setOf cx)), v7, v8], ?_, ?_⟩
      · refine ⟨_, rfl, _, rfl, x, _, _, rfl, rfl, hxl, atI_nat hg, _, rfl, cx, _, rfl, rfl, _, rfl, ?_⟩
        refine ite2 (fun c2 => ?_) (fun c2 => ?_)
        · exact ⟨_, rfl, rfl, by unfold setOf; rw [if_pos (of_decide_eq_true c2)]; rfl⟩
        · exact ⟨rfl, by unfold setOf; rw [if_neg (fun z => c2 (decide_eq_true z))]⟩
      rintro σ H' ⟨rfl, rfl⟩
      refine ⟨fun σ H' => H1 = H' ∧ σ = [some (.str x), some (.ref L), some (.int (i : Nat)), some (.str lettersS'), some (.str digitsS), some (.int ((i + 1 + runFrom (setOf cx).cps.toList (x.cps.toList.drop (i + 1)) : Nat) : Int)), some (.str (setOf cx)), v7, v8], ?_, ?_⟩
      · generalize hS : (setOf cx) = S
        refine while_by (fun σ H' => H1 = H' ∧ ∃ e : Nat, i + 1 ≤ e ∧ e ≤ x.length ∧ e + runFrom S.cps.toList (x.cps.toList.drop e) = i + 1 + runFrom S.cps.toList (x.cps.toList.drop (i + 1)) ∧ σ = [some (.str x), some (.ref L), some (.int (i : Nat)), some (.str lettersS'), some (.str digitsS), some (.int (e : Nat)), some (.str S), v7, v8])
          (fun σ _ => match σ with | _ :: _ :: _ :: _ :: _ :: some (.int m) :: _ => x.length - m.toNat | _ => 0) ⟨rfl, i + 1, Nat.le_refl _, by omega, rfl, rfl⟩ ?_ ?_
        · rintro σ H' ⟨rfl, e, he1, he2, er, rfl⟩
          refine ⟨_, rfl, _, rfl, x, rfl, hxl, _, _, rfl, rfl, _, rfl, ?_⟩
          refine ite2 (fun c4 => ?_) (fun c4 => ?_)
          · have c4' : e < x.length := by
              have := of_decide_eq_true c4
              omega
            have hge : x.cps.toList[e]? = some x.cps.toList[e] := List.getElem?_eq_getElem (by omega)
            have dre : x.cps.toList.drop e = x.cps.toList[e] :: x.cps.toList.drop (e + 1) := List.drop_eq_getElem_cons (by omega)
            refine ⟨_, rfl, _, rfl, x, _, _, rfl, rfl, hxl, atI_nat hge, _, rfl, _, _, rfl, rfl, _, rfl, ?_⟩
            refine ite2 (fun m => ?_) (fun m => ?_)
            · have m' : x.cps.toList[e] ∈ S.cps.toList := of_decide_eq_true m
              rw [dre, runFrom_pos m'] at er
              refine ⟨_, rfl, rfl, _, rfl, ?_⟩
              have sne : ¬ V.str S = V.str "" := fun z => by
                have z : S = Str.ofString "" := V.str.inj z
                rw [z] at m'
                exact absurd m' (by show ¬ _ ∈ ([] : List Nat); simp)
              rw [decide_eq_false sne]
              refine iteT ?_
              refine ⟨_, rfl, _, _, rfl, rfl, ⟨rfl, e + 1, by omega, by omega, by rw [← er]; omega, rfl⟩, ?_⟩
              show x.length - ((e : Int) + 1).toNat < x.length - ((e : Nat) : Int).toNat
              omega
            · have m' : ¬ x.cps.toList[e] ∈ S.cps.toList := fun q => m (decide_eq_true q)
              rw [dre, runFrom_neg m', Nat.add_zero] at er
              exact ⟨rfl, by rw [er]⟩
          · have c4' : ¬ e < x.length := fun q => c4 (decide_eq_true (by omega))
            rw [List.drop_of_length_le (by omega)] at er
            have er : e + 0 = _ := er
            rw [Nat.add_zero] at er
            exact iteF ⟨rfl, by rw [er]⟩
        · rintro σ H Q Q' hQ ⟨v1, e1, v2, e2, y, e3, e4, n1, n2, e5, e6, b, e7, q⟩
          refine ⟨v1, e1, v2, e2, y, e3, e4, n1, n2, e5, e6, b, e7, ?_⟩
          by_cases hb : b = true
          · rw [if_pos hb] at q ⊢
            obtain ⟨w1, f1, w2, f2, y2, f3, f4, f5, f6, f7, f8, w3, f9, g1, g2, g3, g4, b2, g5, q⟩ := q
            refine ⟨w1, f1, w2, f2, y2, f3, f4, f5, f6, f7, f8, w3, f9, g1, g2, g3, g4, b2, g5, ?_⟩
            by_cases hb2 : b2 = true
            · rw [if_pos hb2] at q ⊢
              obtain ⟨u1, h1, h2, b3, h3, q⟩ := q
              exact ⟨u1, h1, h2, b3, h3, hQ _ _ q⟩
            · rw [if_neg hb2] at q ⊢
              exact hQ _ _ q
          · rw [if_neg hb] at q ⊢
            exact hQ _ _ q
      rintro σ H' ⟨rfl, rfl⟩
      refine ⟨fun σ H' => H1 = H' ∧ σ = [some (.str x), some (.ref L), some (.int (i : Nat)), some (.str lettersS'), some (.str digitsS), some (.int ((i + lenOf cx (x.cps.toList.drop i) : Nat) : Int)), some (.str (setOf cx)), v7, v8], ?_, ?_⟩
      · refine ⟨_, rfl, _, rfl, _, rfl, _, rfl, _, _, rfl, rfl, _, rfl, x, rfl, hxl, rfl, _, rfl, ?_⟩
        have e2 : cutS x (some (i : Nat)) (some ((i : Int) + 2)) = ⟨((x.cps.toList.drop i).take 2).toArray⟩ := cutS_two x i c'
        rw [e2]
        refine ite2 (fun c3 => ?_) (fun c3 => ?_)
        · have c3' : (x.cps.toList.drop i).take 2 = [60, 61] := (le_two _).mp (V.str.inj (of_decide_eq_true c3))
          exact ⟨_, rfl, _, _, rfl, rfl, rfl, by unfold lenOf; rw [if_pos c3']; rfl⟩
        · have c3' : ¬ (x.cps.toList.drop i).take 2 = [60, 61] := fun z => c3 (decide_eq_true (congrArg V.str ((le_two _).mpr z)))
          refine ⟨rfl, ?_⟩
          unfold lenOf
          rw [if_neg c3', List.drop_drop, ← Nat.add_assoc]
      rintro σ H' ⟨rfl, rfl⟩
      generalize hn : lenOf cx (x.cps.toList.drop i) = n at ll
      refine ⟨_, rfl, _, rfl, _, rfl, _, rfl, _, rfl, x, rfl, hxl, ?_⟩
      rw [cutS_nat x i (i + n) (by omega) (by omega), Nat.add_sub_cancel_left]
      obtain ⟨q1, hq1⟩ : ∃ q, (⟨((x.cps.toList.drop i).take n).toArray⟩ : Str).cps.toList = cx :: q := by
        rw [dr]
        exact one_first ll.1
      have hlen : (⟨((x.cps.toList.drop i).take n).toArray⟩ : Str).length = n := by
        show ((x.cps.toList.drop i).take n).toArray.size = n
        rw [List.size_toArray, List.length_take]
        omega
      have fd : cx ∈ digitsS.cps.toList → ((n > 2 ∨ (cx = 48 ∧ n > 1)) → signOf cx (x.cps.toList.drop i) = none) ∧ (¬ (n > 2 ∨ (cx = 48 ∧ n > 1)) → ∃ tok, signOf cx (x.cps.toList.drop i) = some (tok, n) ∧ tokText tok = ⟨((x.cps.toList.drop i).take n).toArray⟩) := fun h => by
        have := sign_dig (r := x.cps.toList.drop (i + 1)) h
        rw [← dr, hn] at this
        exact this.2
      have fl : cx ∈ lettersS'.cps.toList → (n > 8 → signOf cx (x.cps.toList.drop i) = none) ∧ (¬ n > 8 → ∃ tok, signOf cx (x.cps.toList.drop i) = some (tok, n) ∧ tokText tok = ⟨((x.cps.toList.drop i).take n).toArray⟩) := fun h => by
        have := sign_let (r := x.cps.toList.drop (i + 1)) h
        rw [← dr, hn] at this
        exact this
      have fo : ¬ cx ∈ digitsS.cps.toList → ¬ cx ∈ lettersS'.cps.toList → cx ≠ 32 → (¬ (⟨((x.cps.toList.drop i).take n).toArray⟩ : Str) ∈ cutL → signOf cx (x.cps.toList.drop i) = none) ∧ ((⟨((x.cps.toList.drop i).take n).toArray⟩ : Str) ∈ cutL → ∃ tok, signOf cx (x.cps.toList.drop i) = some (tok, n) ∧ tokText tok = ⟨((x.cps.toList.drop i).take n).toArray⟩) := fun h1 h2 h3 => by
        have := sign_oth (r := x.cps.toList.drop (i + 1)) h1 h2 h3
        rw [← dr, hn] at this
        exact this
      have fs : cx = 32 → n = 1 := fun e => by
        rw [← hn, dr, e]
        exact len_space _
      generalize (⟨((x.cps.toList.drop i).take n).toArray⟩ : Str) = one at hq1 hlen fd fl fo ⊢
      have hol : one.length ≤ sizeLine := by omega
      have ol2 : one.cps.toList.length = n := by rw [cps_len, hlen]
      have one0 : ∀ {a : Nat} {z : Str}, z.cps.toList = [a] → (one = z ↔ cx = a ∧ n = 1) := fun {a z} hz => by
        constructor
        · intro e
          rw [e, hz] at hq1
          rw [e, hz] at ol2
          exact ⟨(List.cons.inj hq1).1.symm, ol2.symm⟩
        · rintro ⟨rfl, e⟩
          rw [e] at ol2
          rw [hq1] at ol2
          have q0 : q1 = [] := by
            cases q1 with
            | nil => rfl
            | cons _ _ => simp at ol2
          rw [q0] at hq1
          have e3 : one.cps.toList = z.cps.toList := by rw [hq1, hz]
          exact congrArg Str.mk (Array.toList_inj.mp e3)
      have sD : cx ∈ digitsS.cps.toList → setOf cx = digitsS := fun h => by
        unfold setOf
        rw [if_pos h]
      have sLt : cx ∈ lettersS'.cps.toList → setOf cx = lettersS' := fun h => by
        unfold setOf
        rw [if_neg (fdisj_ld cx h), if_pos h]
      have sO : ¬ cx ∈ digitsS.cps.toList → ¬ cx ∈ lettersS'.cps.toList → setOf cx = "" := fun h1 h2 => by
        unfold setOf
        rw [if_neg h1, if_neg h2]
      refine ⟨fun σ H' => H1 = H' ∧ ∃ g : Bool, (cx ∈ lettersS'.cps.toList → g = decide (¬ n > 8)) ∧ (cx ∈ digitsS.cps.toList → g = decide (¬ (n > 2 ∨ (cx = 48 ∧ n > 1)))) ∧ σ = [some (.str x), some (.ref L), some (.int (i : Nat)), some (.str lettersS'), some (.str digitsS), some (.int ((i + n : Nat) : Int)), some (.str (setOf cx)), some (.str one), some (.bl g)], ?_, ?_⟩
      · refine ⟨_, rfl, _, rfl, rfl, _, rfl, ?_⟩
        by_cases cl : cx ∈ lettersS'.cps.toList
        · rw [show decide (V.str (setOf cx) = V.str lettersS') = true by rw [sLt cl]; exact dec_tt _]
          refine iteT ?_
          refine ⟨_, rfl, one, rfl, hol, _, _, rfl, rfl, rfl, _, fun _ => ?_, fun z => absurd z (fdisj_ld cx cl), rfl⟩
          refine decide_eq_decide.mpr ?_
          rw [hlen]
          omega
        · have nl : setOf cx ≠ lettersS' := by
            by_cases cd : cx ∈ digitsS.cps.toList
            · rw [sD cd]
              decide +kernel
            · rw [sO cd cl]
              decide +kernel
          rw [dec_ff nl]
          refine iteF ?_
          refine ⟨_, rfl, one, rfl, hol, _, _, rfl, rfl, _, rfl, ?_⟩
          rw [hlen]
          by_cases c5 : n < 3
          · rw [decide_eq_true (show ((n : Nat) : Int) < 3 by omega)]
            refine iteT ?_
            refine ⟨_, rfl, one, _, cx, rfl, rfl, hol, atI_nat (j := 0) (show one.cps.toList[0]? = some cx by rw [hq1]; rfl), rfl, _, rfl, ?_⟩
            by_cases c48 : cx = 48
            · rw [show (!decide (V.str (⟨#[cx]⟩ : Str) = V.str "0")) = false by rw [c48]; decide]
              refine iteF ?_
              refine ⟨_, rfl, rfl, rfl, _, fun z => absurd z cl, fun _ => ?_, rfl⟩
              refine decide_eq_decide.mpr ⟨fun e => ?_, fun e => ?_⟩
              · have := (one0 (a := 48) (z := "0") (by decide)).mp (V.str.inj e)
                omega
              · exact congrArg V.str ((one0 (a := 48) (z := "0") (by decide)).mpr ⟨c48, by omega⟩)
            · have : (!decide (V.str (⟨#[cx]⟩ : Str) = V.str "0")) = true := by
                rw [decide_eq_false fun e => ?_]
                · rfl
                · have e2 := congrArg (fun z : Str => z.cps.toList) (V.str.inj e)
                  have e2 : [cx] = [48] := e2.trans (by decide)
                  exact c48 (List.cons.inj e2).1
              rw [this]
              refine iteT ⟨rfl, _, fun z => absurd z cl, fun _ => ?_, rfl⟩
              exact (decide_eq_true (by omega)).symm
          · rw [decide_eq_false (show ¬ ((n : Nat) : Int) < 3 by omega)]
            refine iteF ⟨rfl, _, fun z => absurd z cl, fun _ => ?_, rfl⟩
            exact (decide_eq_false (by omega)).symm
      rintro σ H' ⟨rfl, g, gL, gD, rfl⟩
      obtain ⟨f2, rfl⟩ : ∃ f2, f = f2 + 1 := ⟨f - 1, by omega⟩
      have bad : ∀ {H' : Hp}, cx ≠ 32 → signOf cx (x.cps.toList.drop i) = none → Same H1 H' → Q (.int (i : Nat)) H' := fun {H'} n32 hs s' => by
        rw [gg_sign hg n32, hs] at hle
        have hle : G0 = .error i := hle
        rw [hle] at k
        exact k _ (s1.trans s')
      have l32 : cx ∈ lettersS'.cps.toList → cx ≠ 32 := fun h e => by
        rw [e] at h
        exact absurd h (by decide +kernel)
      have d32 : cx ∈ digitsS.cps.toList → cx ≠ 32 := fun h e => by
        rw [e] at h
        exact absurd h (by decide +kernel)
      refine ⟨fun σ H' => Same H1 H' ∧ ((cx = 32 ∧ one = " " ∧ n = 1) ∨ (cx ≠ 32 ∧ ∃ tok, signOf cx (x.cps.toList.drop i) = some (tok, n) ∧ tokText tok = one)) ∧ σ = [some (.str x), some (.ref L), some (.int (i : Nat)), some (.str lettersS'), some (.str digitsS), some (.int ((i + n : Nat) : Int)), some (.str (setOf cx)), some (.str one), some (.bl g)], ?_, ?_⟩
      · refine ⟨_, rfl, rfl, _, rfl, ?_⟩
        by_cases cd : cx ∈ digitsS.cps.toList
        · have e0 : decide (V.str (setOf cx) = V.str "") = false := by
            rw [sD cd]
            exact dec_ff (by decide +kernel)
          rw [e0]
          refine iteF ?_
          refine ⟨_, rfl, rfl, _, rfl, ?_⟩
          rw [e0]
          refine iteT ?_
          refine ⟨_, rfl, _, rfl, ?_⟩
          rw [gD cd]
          by_cases hb : n > 2 ∨ (cx = 48 ∧ n > 1)
          · rw [decide_eq_false (fun z => z hb)]
            exact iteT ⟨_, rfl, bad (d32 cd) ((fd cd).1 hb) (Same.refl _)⟩
          · rw [decide_eq_true hb]
            refine iteF ⟨Same.refl _, .inr ⟨d32 cd, (fd cd).2 hb⟩, rfl⟩
        by_cases cl : cx ∈ lettersS'.cps.toList
        · have e0 : decide (V.str (setOf cx) = V.str "") = false := by
            rw [sLt cl]
            exact dec_ff (by decide +kernel)
          rw [e0]
          refine iteF ?_
          refine ⟨_, rfl, rfl, _, rfl, ?_⟩
          rw [e0]
          refine iteT ?_
          refine ⟨_, rfl, _, rfl, ?_⟩
          rw [gL cl]
          by_cases hb : n > 8
          · rw [decide_eq_false (fun z => z hb)]
            exact iteT ⟨_, rfl, bad (l32 cl) ((fl cl).1 hb) (Same.refl _)⟩
          · rw [decide_eq_true hb]
            refine iteF ⟨Same.refl _, .inr ⟨l32 cl, (fl cl).2 hb⟩, rfl⟩
        have e0 : decide (V.str (setOf cx) = V.str "") = true := by
          rw [sO cd cl]
          exact dec_tt _
        rw [e0]
        refine iteT ?_
        refine ⟨_, rfl, by show 7 ≤ sizeLine; decide, fun pl hpl => ?_⟩
        have sl := same_upd (o := .lst (cutL.map V.str)) hpl
        refine ⟨pl, _, rfl, .inl (SqL.of upd_same), rfl, rfl, _, rfl, ?_⟩
        show ite ((!inV (V.str one) (cutL.map V.str)) = true) _ _
        rw [inV_strs]
        by_cases ho : one ∈ cutL
        · rw [decide_eq_true ho]
          refine iteF ?_
          refine ⟨_, rfl, rfl, _, rfl, ?_⟩
          rw [e0]
          refine iteF ⟨sl, ?_, rfl⟩
          by_cases c32 : cx = 32
          · exact .inl ⟨c32, (one0 (a := 32) (z := " ") (by decide)).mpr ⟨c32, fs c32⟩, fs c32⟩
          · exact .inr ⟨c32, (fo cd cl c32).2 ho⟩
        · rw [decide_eq_false ho]
          have c32 : cx ≠ 32 := fun c32 => ho (by
            rw [(one0 (a := 32) (z := " ") (by decide)).mpr ⟨c32, fs c32⟩]
            decide)
          exact iteT ⟨_, rfl, bad c32 ((fo cd cl c32).1 ho) sl⟩
      rintro σ H2 ⟨s2, hF, rfl⟩
      have s12 := s1.trans s2
      have eL2 := s2 _ _ eL
      have ta2 := sg_keep ta fun b xs e => s2 _ _ e
      refine ⟨_, rfl, rfl, _, rfl, ?_⟩
      rcases hF with ⟨c32, ho, n1⟩ | ⟨c32, tok, hsg, htx⟩
      · rw [show decide (V.str one = V.str " ") = true by rw [ho]; exact dec_tt _]
        refine iteF ?_
        rw [n1]
        refine ⟨_, rfl, ⟨s12, i + 1, f2 + 1, vs, done, _, _, _, _, eL2, ta2, by omega, by omega, by omega, ?_, rfl⟩, ?_⟩
        · rw [hle, gg_space (by rw [hg, c32])]
        · show x.length - ((i + 1 : Nat) : Int).toNat < x.length - ((i : Nat) : Int).toNat
          omega
      · have no1 : one ≠ " " := fun z => c32 ((one0 (a := 32) (z := " ") (by decide)).mp z).1
        rw [dec_ff no1]
        refine iteT ?_
        refine ⟨_, rfl, .inl ⟨rfl, _, SqL.of eL2⟩, _, rfl, _, rfl, by show 2 ≤ sizeLine; decide, fun q hq => ?_⟩
        have sq := same_upd (o := .tup [.str one, .int (i : Nat)]) hq
        have eL3 := sq _ _ eL2
        have nqL : q ≠ L := fun z => by rw [z, eL2] at hq; cases hq
        have lvd : vs.length = done.length := by
          rw [Paired.length ta, List.length_map]
        refine ⟨L, _, _, rfl, rfl, eL3, (Nat.lt_of_le_of_lt (m := 1000000) (by omega) (by decide)), ?_⟩
        rw [gg_sign hg c32, hsg] at hle
        refine ⟨_, rfl, ⟨same_put (s12.trans sq) hL, i + n, f2, vs ++ [.ref q], done ++ [(tok, i)], _, _, _, _, upd_same, ?_, ?_, by omega, by omega, ?_, rfl⟩, ?_⟩
        · rw [List.map_append]
          have tk := tup_put (o := .lst (vs ++ [.ref q])) eL3
          refine sg_snoc (sg_keep (sg_keep ta2 fun b xs e => sq _ _ e) tk) ⟨q, rfl, ?_⟩
          rw [upd_ne nqL]
          show (upd H2 q (.tup [.str one, .int (i : Nat)])) q = some (.tup [.str (tokText tok), .int (i : Nat)])
          rw [htx]
          exact upd_same
        · rw [List.length_append, List.length_singleton]
          omega
        · rw [hle]
          show joinG done (match GG x.cps.toList f2 (i + n) with
            | .error e => .error e
            | .ok ts => .ok ((tok, i) :: ts)) = _
          cases GG x.cps.toList f2 (i + n) with
          | error e => rfl
          | ok more =>
            show Except.ok (done ++ ((tok, i) :: more)) = Except.ok ((done ++ [(tok, i)]) ++ more)
            rw [List.append_assoc]
            rfl
        · show x.length - ((i + n : Nat) : Int).toNat < x.length - ((i : Nat) : Int).toNat
          omega
    · have c' : ¬ i < x.length := fun q => c (decide_eq_true (by omega))
      obtain ⟨f2, rfl⟩ : ∃ f2, f = f2 + 1 := ⟨f - 1, by omega⟩
      have hix : i = x.length := by omega
      rw [gg_end (f := f2) (i := i) (by omega)] at hle
      rw [hle] at k
      have k : ∀ (S : Addr) (us : List V) (H' : Hp), Same H H' → H' S = some (.lst us) → Paired (SgRel H') us ((done ++ [(Tok.fin, i)]).map txt) → Q (.ref S) H' := k
      have lvd : vs.length = done.length := by
        rw [Paired.length ta, List.length_map]
      refine ⟨_, rfl, _, rfl, x, rfl, hxl, by show 2 ≤ sizeLine; decide, fun pq hpq => ?_⟩
      have sq := same_upd (o := .tup [.str "", .int (x.length : Nat)]) hpq
      refine ⟨by show 1 ≤ sizeLine; decide, fun pl hpl => ?_⟩
      have sl := same_upd (o := .lst [.ref pq]) hpl
      have s1l := sq.trans sl
      refine ⟨L, pl, vs, [.ref pq], rfl, rfl, s1l _ _ eL, upd_same, Nat.le_trans (by show vs.length + 1 ≤ 1000001; omega) (by decide), fun p hp => ?_⟩
      have sp := same_upd (o := .lst (vs ++ [.ref pq])) hp
      refine k p (vs ++ [.ref pq]) _ (s1.trans (s1l.trans sp)) upd_same ?_
      rw [List.map_append]
      refine sg_snoc (sg_keep ta fun b xs e => sp _ _ (s1l _ _ e)) ⟨pq, rfl, ?_⟩
      rw [hix]
      exact sp _ _ (sl _ _ upd_same)
  · rintro σ H Q Q' hQ ⟨v1, e1, v2, e2, y, e3, e4, n1, n2, e5, e6, b, e7, q⟩
    exact ⟨v1, e1, v2, e2, y, e3, e4, n1, n2, e5, e6, b, e7, hQ _ _ q⟩
/-- what a body, a bracket promise; f: how much deeper one may go -/
def spLBody (K : PySem.W.Frag) (f : Nat) : Sp := fun vs H Q _ => ∃ (S rm : Addr) (us : List V) (ts : TL) (len j m deep : Nat) (l : TL), vs = [.ref S, .int (j : Nat), .int (deep : Nat), .ref rm] ∧ LSg H S us ts len ∧ RoomAt H rm m ∧ ts.drop j = l ∧ l ≠ [] ∧ deep ≤ 4 ∧ 5 ≤ deep + f ∧
  ∀ res, BodyP deep m l res → LREnds K rm ts m H Q planD res
def spLBracket (K : PySem.W.Frag) (f : Nat) : Sp := fun vs H Q _ => ∃ (S rm : Addr) (us : List V) (ts : TL) (len j m deep : Nat) (l : TL), vs = [.ref S, .int (j : Nat), .int (deep : Nat), .ref rm] ∧ LSg H S us ts len ∧ RoomAt H rm m ∧ ts.drop j = l ∧ l ≠ [] ∧ deep ≤ 4 ∧ 4 ≤ deep + f ∧
  ∀ res, BrackP deep m l res → LREnds K rm ts m H Q planD res
theorem lbracket_step (T : Txt K mg) (f n : Nat) (hn : 4 ≤ n) (G_law_read_body : FnOk P w K mg base CX0 n T.a_law_read_body T.d_law_read_body ["_law_signs", "_law_at", "_law_deep", "_law_room"] (spLBody K f)) :
    FnOk P w K mg base CX0 (n + 1) T.a_law_read_bracket T.d_law_read_bracket ["_law_signs", "_law_at", "_law_deep", "_law_room"] (spLBracket K f) := by
  refine T.F_law_read_bracket.ok sc_law_read_bracket (fun vs H Q E h => ?_) (fun cdv A outer s H vs Q E hr h => ?_)
  · obtain ⟨S, rm, us, ts, len, j, m, deep, l, rfl, _⟩ := h
    rfl
  obtain ⟨S, rm, us, ts, len, j, m, deep, l, rfl, L, R, hl, hn0, hd4, hf, q⟩ := h
  refine ⟨_, (pss_cons (ps_if (PW.pt (pw_or (pt_cmpR op_ne (pe_ix ix_tup (pe_ix ix_list (pv 0) (pv 1) (fun _ _ => rfl)) pe_int (fun _ _ => rfl)) pe_str (nomark _)) (pw_or1 (pt_cmpR op_gt (pv 2) pe_int (nomark _))))) (pss_one (ps_ret (pe_tup (pa_cons pe_non (pa_cons (pv 1) pa_nil))))) pss_nil)
      (pss_cons (ps_asg (pe_call G_law_read_body hr (by rfl) T.g_law_read_body T.F_law_read_body.kp T.b_law_read_body .nil pass0 (pa_cons (pv 0) (pa_cons (pe_op op_add (pv 1) pe_int) (pa_cons (pe_op op_add (pv 2) pe_int) (pa_cons (pv 3) pa_nil))))) (pg_tup rfl (pgs_cons (pg_name (i := 4) sc_law_read_bracket.nd rfl (Or.inl rfl)) (pgs_cons (pg_name (i := 1) sc_law_read_bracket.nd rfl (Or.inl rfl)) pgs_nil))))
      (pss_cons (ps_if (PW.pt (pw_or (pt_cmpR op_isN (pv 4) pe_non (nomark _)) (pw_or1 (pt_cmpR op_ne (pe_ix ix_tup (pe_ix ix_list (pv 0) (pv 1) (fun _ _ => rfl)) pe_int (fun _ _ => rfl)) pe_str (nomark _))))) (pss_one (ps_ret (pe_tup (pa_cons pe_non (pa_cons (pv 1) pa_nil))))) pss_nil)
      (pss_one (ps_ret (pe_tup (pa_cons (pv 4) (pa_cons (pe_op op_add (pv 1) pe_int) pa_nil)))))))), ?_⟩
  obtain ⟨a0, m0, e0, t0, _⟩ := L.peek0 hl hn0
  have g0 := L.good hl
  have err : ∀ {H1 : Hp} (e : TL) (j1 : Nat) (p : Addr), BrackP deep m l (.error e) → But (Only1 rm) H H1 → ts.drop j1 = e → e ≠ [] → H1 p = none → Q (.ref p) (upd H1 p (.tup [.non, .int (j1 : Nat)])) := fun e j1 p hb b1 h1 h2 hp =>
    q _ hb _ j1 p (b1.trans (same_but (same_upd hp))) h1 h2 upd_same
  refine ⟨_, rfl, _, rfl, S, _, _, _, rfl, rfl, SqL.of L.sg, atI_nat e0, a0, _, _, _, rfl, rfl, SqT.of t0, rfl, rfl, _, rfl, ?_⟩
  rw [text_sign g0 (by decide +kernel)]
  cases c : tokIs (hd l) "sign" "(" with
  | false =>
    refine iteT ⟨_, rfl, by show 2 ≤ sizeLine; decide, fun p hp => ?_⟩
    refine err l j p ?_ (But.refl _ _) hl hn0 hp
    by_cases c2 : deep < 4
    · exact .open_ c2 (if_neg (by rw [c]; decide))
    · exact .deep (by omega)
  | true =>
  refine iteF ?_
  refine ⟨_, rfl, _, _, rfl, rfl, _, rfl, ?_⟩
  refine ite2 (fun c2 => ?_) (fun c2 => ?_)
  · have c2 : 4 ≤ deep := by have := of_decide_eq_true c2; omega
    refine ⟨_, rfl, by show 2 ≤ sizeLine; decide, fun p hp => ?_⟩
    exact err l j p (.deep c2) (But.refl _ _) hl hn0 hp
  have c2 : deep < 4 := by have : ¬ ((deep : Nat) : Int) > 3 := fun z => c2 (decide_eq_true z); omega
  have hw : wantR "sign" "(" l = .ok l.tail := if_pos c
  have hn1 := L.tail hl (tokIs_nf c (by decide))
  refine ⟨_, rfl, _, rfl, _, _, rfl, rfl, _, rfl, _, _, rfl, rfl, _, rfl, S, rm, us, ts, len, j + 1, m, deep + 1, l.tail, rfl, L, R, drop_tail hl, hn1, by omega, by omega, fun res hres => ?_⟩
  cases res with
  | error e =>
    intro H1 j1 p1 b1 hl1 hn1 ep
    refine ⟨p1, _, rfl, SqT.of ep, rfl, _, _, rfl, _, _, rfl, rfl, ?_⟩
    refine ⟨_, rfl, rfl, _, rfl, ?_⟩
    rw [decide_eq_true rfl]
    refine iteT ⟨_, rfl, by show 2 ≤ sizeLine; decide, fun p hp => ?_⟩
    exact err e j1 p (.body c2 hw hres) b1 hl1 hn1 hp
  | ok x =>
  obtain ⟨b, l2, m2⟩ := x
  intro v H1 j1 p1 b1 R1 mm hl1 hn1 dv ep nv
  refine ⟨p1, _, rfl, SqT.of ep, rfl, _, _, rfl, _, _, rfl, rfl, ?_⟩
  have L1 := L.but R b1
  have g1 := L1.good hl1
  obtain ⟨a1, m1, e1, t1, _⟩ := L1.peek0 hl1 hn1
  refine ⟨_, rfl, rfl, _, rfl, ?_⟩
  rw [decide_eq_false nv]
  refine iteF ?_
  refine ⟨_, rfl, _, rfl, S, _, _, _, rfl, rfl, SqL.of L1.sg, atI_nat e1, a1, _, _, _, rfl, rfl, SqT.of t1, rfl, rfl, _, rfl, ?_⟩
  rw [text_sign g1 (by decide +kernel)]
  cases c3 : tokIs (hd l2) "sign" ")" with
  | false =>
    refine iteT ⟨_, rfl, by show 2 ≤ sizeLine; decide, fun p hp => ?_⟩
    exact err l2 j1 p (.close c2 hw hres (if_neg (by rw [c3]; decide))) b1 hl1 hn1 hp
  | true =>
    refine iteF ?_
    refine ⟨_, rfl, _, rfl, _, _, rfl, rfl, by show 2 ≤ sizeLine; decide, fun p hp => ?_⟩
    have sp := same_upd (o := .tup [v, .int ((j1 + 1 : Nat) : Int)]) hp
    exact q _ (.ok c2 hw hres (if_pos c3)) v _ (j1 + 1) p (b1.trans (same_but sp)) ⟨sp _ _ R1.1, R1.2⟩ mm (drop_tail hl1) (L1.tail hl1 (tokIs_nf c3 (by decide))) (dv.mono sp) upd_same nv
/-- whether a sign is a number within bounds -/
def spFigure : Sp := fun vs H Q _ => ∃ (t : Tok) (lo hi : Int), vs = [.str (tokText t), .int lo, .int hi] ∧ GoodTok t ∧ ∀ H', Same H H' → Q (.bl (figT lo hi t)) H'
theorem ok_law_figure (T : Txt K mg) : FnOk P w K mg base CX0 1 T.a_law_figure T.d_law_figure ["_law_word", "_law_low", "_law_high"] spFigure := by
  refine T.F_law_figure.ok sc_law_figure (fun vs H Q E h => ?_) (fun cdv A outer s H vs Q E hr h => ?_)
  · obtain ⟨t, lo, hi, rfl, _⟩ := h
    rfl
  obtain ⟨t, lo, hi, rfl, gt, k⟩ := h
  refine ⟨_, (pss_one (ps_ret (pe_and (pe_cmpR op_ne (pv 0) pe_str (nomark _)) (pe_and (pe_callB (cr_all rfl) (by rfl) T.z_all (by decide +kernel) (pa_cons (pe_lc (own := [("_law_sign", 3)]) (g := gName 3) (tt := tYes) rfl sc_law_figure.nd (pi_str (pv 0)) (blkOk_by (N := N_law_figure) (sc := defScope s_law_figure) (by decide +kernel)) (fun _ _ _ _ _ => (pg_name (i := 3) sc_law_figure.nd rfl (Or.inl rfl))) (fun _ _ _ _ _ => pts_nil) (fun _ _ _ _ _ => (pe_cmpR op_in_sign (pv 3) pe_str (by rfl)))) pa_nil)) (pe_one (pe_chain op_le op_le (pv 1) (pe_callTy call_int_str (by rfl) T.z_int (by decide +kernel) (pa_cons (pv 0) pa_nil)) (pv 2))))))), ?_⟩
  have tl := good_len gt
  have fin : ∀ (b : Bool) (H' : Hp), figT lo hi t = b → Same H H' → Q (.bl b) H' := fun b H' e sm => by
    rw [← e]
    exact k H' sm
  refine ⟨_, rfl, rfl, ?_⟩
  have ae : ∀ {z : Str}, 1 ≤ z.length → (!decide (V.str z = V.str "")) = true := fun {z} h => by
    rw [decide_eq_false fun e => ?_]
    · rfl
    · have e : z = Str.ofString "" := V.str.inj e
      rw [e] at h
      exact absurd h (by decide)
  by_cases nf : t = .fin
  · subst nf
    exact ⟨_, rfl, iteF (fin _ _ rfl (Same.refl _))⟩
  obtain ⟨c0, r0, e0, hc0⟩ := text_first gt nf
  have l1 : 1 ≤ (tokText t).length := by
    rw [← cps_len, e0, List.length_cons]
    omega
  rw [ae l1]
  refine ⟨_, rfl, iteT ?_⟩
  unfold tAndV tCB tCons
  refine lc_sign (tokText t) (fun c => decide (c ∈ digitsS.cps.toList)) (by omega) (fun Q' q => ⟨_, rfl, q⟩) (fun _ => rfl) (fun c H' Q' q => ⟨_, rfl, c, _, rfl, rfl, q⟩) (fun D H' sm hD eD => ?_)
  refine ⟨D, _, rfl, SqL.of eD, ?_⟩
  rw [list_all_map]
  have nd : ∀ {t : Tok}, GoodTok t → c0 ∈ firsts t → (tokText t).cps.toList = c0 :: r0 → (∀ n, t ≠ .num n) → ((tokText t).cps.toList.all fun c => decide (c ∈ digitsS.cps.toList)) = false := fun {t} g h e nn => by
    rw [e, List.all_cons]
    have : ¬ c0 ∈ digitsS.cps.toList := by
      cases t with
      | num n => exact absurd rfl (nn n)
      | word w => exact fdisj_ld c0 h
      | sign w => exact fdisj_md c0 h
      | fin => cases h
    rw [decide_eq_false this]
    rfl
  cases t with
  | fin => exact absurd rfl nf
  | word w =>
    rw [nd gt hc0 e0 (fun n z => nomatch z)]
    exact ⟨_, rfl, iteF (fin _ _ rfl sm)⟩
  | sign w =>
    rw [nd gt hc0 e0 (fun n z => nomatch z)]
    exact ⟨_, rfl, iteF (fin _ _ rfl sm)⟩
  | num n =>
    have nl : n ≤ 99 := gt
    rw [show tokText (.num n) = numT n from rfl, numT_figs n nl]
    refine ⟨_, rfl, iteT ?_⟩
    refine ⟨_, rfl, _, rfl, _, _, rfl, numT_int n nl, by show (tokText (.num n)).length ≤ 640; omega, ?_⟩
    refine ⟨_, _, rfl, rfl, ?_⟩
    refine ⟨_, rfl, ?_⟩
    by_cases h1 : lo ≤ (n : Int)
    · show ite (decide (lo ≤ (n : Int)) = true) _ _
      rw [decide_eq_true h1]
      refine iteT ⟨_, rfl, _, _, rfl, rfl, fin (decide ((n : Int) ≤ hi)) _ ?_ sm⟩
      show (decide (lo ≤ (n : Int)) && decide ((n : Int) ≤ hi)) = _
      rw [decide_eq_true h1, Bool.true_and]
    · show ite (decide (lo ≤ (n : Int)) = true) _ _
      rw [decide_eq_false h1]
      refine iteF (fin _ _ ?_ sm)
      show (decide (lo ≤ (n : Int)) && decide ((n : Int) ≤ hi)) = _
      rw [decide_eq_false h1, Bool.false_and]
theorem ok_law_is_name (T : Txt K mg) : FnOk P w K mg base CX0 2 T.a_law_is_name T.d_law_is_name ["_law_word"] spIsName := by
  refine T.F_law_is_name.ok sc_law_is_name (fun vs H Q E h => ?_) (fun cdv A outer s H vs Q E hr h => ?_)
  · obtain ⟨z, rfl, _⟩ := h
    rfl
  obtain ⟨z, rfl, hz, k⟩ := h
  refine ⟨_, (pss_cons (ps_set (i := 1) sc_law_is_name.nd rfl (Or.inl rfl) (pe_and (pe_chain op_le op_le pe_int (pe_callB call_len_str (by rfl) T.z_len (by decide +kernel) (pa_cons (pv 0) pa_nil)) pe_int) (pe_one (pe_cmpR op_notIn_seq (pv 0) (pe_call0 (ok_law_kept_words T) (hr.mono (by decide)) (by rfl) T.g_law_kept_words T.F_law_kept_words.kp T.b_law_kept_words .nil pass0) (by rfl)))))
      (pss_one (ps_ret (pe_and (pv 1) (pe_one (pe_callB (cr_all rfl) (by rfl) T.z_all (by decide +kernel) (pa_cons (pe_lc (own := [("_law_sign", 2)]) (g := gName 2) (tt := tYes) rfl sc_law_is_name.nd (pi_str (pv 0)) (blkOk_by (N := N_law_is_name) (sc := defScope s_law_is_name) (by decide +kernel)) (fun _ _ _ _ _ => (pg_name (i := 2) sc_law_is_name.nd rfl (Or.inl rfl))) (fun _ _ _ _ _ => pts_nil) (fun _ _ _ _ _ => (pe_cmpR op_in_sign (pv 2) pe_str (by rfl)))) pa_nil))))))), ?_⟩
  have hzl : z.length ≤ sizeLine := Nat.le_trans hz (by decide)
  have k' : ∀ (b : Bool) H', isName z = b → Same H H' → Q (.bl b) H' := fun b H' e sm => by
    rw [← e]
    exact k H' sm
  -- the end, from what the first row stored
  have fin : ∀ (g : Bool) (H' : Hp) (Q' : VK), (isName z = (g && z.cps.toList.all fun c => decide (c ∈ lettersS.cps.toList))) → Same H H' →
      (∀ H'', Same H' H'' → Q' (.bl (g && z.cps.toList.all fun c => decide (c ∈ lettersS.cps.toList))) H'') → Q' (.bl (isName z)) H' := fun g H' Q' e sm q => by
    rw [e]
    exact q H' (Same.refl _)
  refine ⟨_, rfl, _, rfl, hzl, 1, _, rfl, rfl, _, rfl, ?_⟩
  refine ite2 (fun c1 => ?_) (fun c1 => ?_)
  · refine ⟨_, 8, rfl, rfl, _, rfl, ?_⟩
    refine ite2 (fun c2 => ?_) (fun c2 => ?_)
    · refine ⟨_, rfl, rfl, fun p hp => ?_⟩
      refine ⟨p, _, rfl, .inl (SqL.of upd_same), rfl, flat_words, ?_⟩
      refine ⟨_, rfl, _, rfl, ?_⟩
      refine ite2 (fun c3 => ?_) (fun c3 => ?_)
      · unfold tCB tCons
        refine lc_sign z (fun c => decide (c ∈ lettersS.cps.toList)) hz (fun Q' q => ⟨_, rfl, q⟩) (fun _ => rfl) (fun c H' Q' q => ⟨_, rfl, c, _, rfl, rfl, q⟩) (fun D H' sm hD eD => ?_)
        refine ⟨D, _, rfl, SqL.of eD, ?_⟩
        rw [list_all_map]
        refine k' _ _ ?_ ((same_upd hp).trans sm)
        unfold isName
        rw [c1, c2, show (!inV (.str z) (wordsL.map V.str)) = true from c3]
        rfl
      · refine k' _ _ ?_ (same_upd hp)
        unfold isName
        rw [c1, c2, show (!inV (.str z) (wordsL.map V.str)) = false from Bool.eq_false_iff.mpr c3]
        rfl
    · refine ⟨_, rfl, _, rfl, ?_⟩
      refine iteF (k' _ _ ?_ (Same.refl _))
      unfold isName
      rw [c1, Bool.eq_false_iff.mpr c2]
      rfl
  · refine ⟨_, rfl, ?_⟩
    refine iteF ⟨_, rfl, _, rfl, iteF (k' _ _ ?_ (Same.refl _))⟩
    unfold isName
    rw [Bool.eq_false_iff.mpr c1]
    rfl
def spLEnd (K : PySem.W.Frag) : Sp := fun vs H Q _ => ∃ (S : Addr) (us : List V) (ts : TL) (len j : Nat) (l : TL), vs = [.ref S, .int (j : Nat)] ∧ LSg H S us ts len ∧ ts.drop j = l ∧ l ≠ [] ∧ LEnds K ts H Q endD (endR l)
theorem ok_law_read_end (T : Txt K mg) : FnOk P w K mg base CX0 3 T.a_law_read_end T.d_law_read_end ["_law_signs", "_law_at"] (spLEnd K) := by
  refine T.F_law_read_end.ok sc_law_read_end (fun vs H Q E h => ?_) (fun cdv A outer s H vs Q E hr h => ?_)
  · obtain ⟨S, us, ts, len, j, l, rfl, _⟩ := h
    rfl
  obtain ⟨S, us, ts, len, j, l, rfl, L, hl, hn, q⟩ := h
  refine ⟨_, (pss_cons (ps_set (i := 2) sc_law_read_end.nd rfl (Or.inl rfl) (pe_ix ix_tup (pe_ix ix_list (pv 0) (pv 1) (fun _ _ => rfl)) pe_int (fun _ _ => rfl)))
      (pss_cons (ps_if (pt_val (pe_call (ok_law_figure T) (hr.mono (by decide)) (by rfl) T.g_law_figure T.F_law_figure.kp T.b_law_figure .nil pass0 (pa_cons (pv 2) (pa_cons pe_int (pa_cons pe_int pa_nil))))) (pss_one (ps_ret (pe_tup (pa_cons (pe_tup (pa_cons pe_str (pa_cons (pe_callTy call_int_str (by rfl) T.z_int (by decide +kernel) (pa_cons (pv 2) pa_nil)) pa_nil))) (pa_cons (pe_op op_add (pv 1) pe_int) pa_nil))))) pss_nil)
      (C8.pss_cut (ps_if (PW.pt (pw_and (pt_cmpR op_ne (pv 2) pe_str (nomark _)) (pw_and1 (pt_not (pt_val (pe_call (ok_law_is_name T) (hr.mono (by decide)) (by rfl) T.g_law_is_name T.F_law_is_name.kp T.b_law_is_name .nil pass0 (pa_cons (pv 2) pa_nil))))))) (pss_one (ps_ret (pe_tup (pa_cons pe_non (pa_cons (pv 1) pa_nil))))) pss_nil)
      (pss_cons (ps_if (pt_cmpR op_notIn_seq (pe_ix ix_tup (pe_ix ix_list (pv 0) (pe_op op_add (pv 1) pe_int) (fun _ _ => rfl)) pe_int (fun _ _ => rfl)) (pe_lst (pa_cons pe_str (pa_cons pe_str pa_nil))) (by rfl)) (pss_one (ps_ret (pe_tup (pa_cons (pe_tup (pa_cons (pv 2) (pa_cons pe_int pa_nil))) (pa_cons (pe_op op_add (pv 1) pe_int) pa_nil))))) pss_nil)
      (pss_cons (ps_if (pt_not (pt_val (pe_call (ok_law_figure T) (hr.mono (by decide)) (by rfl) T.g_law_figure T.F_law_figure.kp T.b_law_figure .nil pass0 (pa_cons (pe_ix ix_tup (pe_ix ix_list (pv 0) (pe_op op_add (pv 1) pe_int) (fun _ _ => rfl)) pe_int (fun _ _ => rfl)) (pa_cons pe_int (pa_cons pe_int pa_nil)))))) (pss_one (ps_ret (pe_tup (pa_cons pe_non (pa_cons (pe_op op_add (pv 1) pe_int) pa_nil))))) pss_nil)
      (pss_one (ps_ret (pe_tup (pa_cons (pe_tup (pa_cons (pv 2) (pa_cons (pe_op op_mul (pe_callTy call_int_str (by rfl) T.z_int (by decide +kernel) (pa_cons (pe_ix ix_tup (pe_ix ix_list (pv 0) (pe_op op_add (pv 1) pe_int) (fun _ _ => rfl)) pe_int (fun _ _ => rfl)) pa_nil)) (pe_ix ix_list (pe_lst (pa_cons pe_int (pa_cons (pe_un un_neg pe_int) pa_nil))) (pe_callTy call_int1 (by rfl) T.z_int (by decide +kernel) (pa_cons (pe_cmpR op_eq (pe_ix ix_tup (pe_ix ix_list (pv 0) (pe_op op_add (pv 1) pe_int) (fun _ _ => rfl)) pe_int (fun _ _ => rfl)) pe_str (nomark _)) pa_nil)) (fun _ _ => rfl))) pa_nil))) (pa_cons (pe_op op_add (pv 1) pe_int) pa_nil)))))))))), ?_⟩
  obtain ⟨a0, m0, e0, t0, _⟩ := L.peek0 hl hn
  obtain ⟨a1, m1, e1, t1⟩ := L.peek1 hl hn
  obtain ⟨a2, m2, e2, t2⟩ := L.peek2 hl hn
  have g0 := L.good hl
  have hl1 := drop_tail hl
  have g1 := L.good hl1
  have hl2 := drop_tail hl1
  have g2 := L.good hl2
  have gl0 := good_len g0
  refine ⟨_, rfl, _, rfl, S, _, _, _, rfl, rfl, SqL.of L.sg, atI_nat e0, a0, _, _, _, rfl, rfl, SqT.of t0, rfl, ?_⟩
  refine ⟨_, rfl, hd l, 0, 99, rfl, g0, fun H1 s1 => ?_⟩
  refine ⟨_, rfl, ?_⟩
  unfold endR at q
  cases hf : figT 0 99 (hd l) with
  | true =>
    obtain ⟨n, hm, hnum⟩ := (figT_num hn).1 hf
    rw [hm, hnum, if_pos (by rfl)] at q
    refine iteT ?_
    have nl : n ≤ 99 := by rw [hm] at g0; exact g0
    refine ⟨_, rfl, _, _, rfl, by rw [hm]; exact numT_int n nl, by omega, ?_⟩
    refine ⟨by show 2 ≤ sizeLine; decide, fun p hp => ?_⟩
    refine ⟨_, rfl, _, _, rfl, rfl, by show 2 ≤ sizeLine; decide, fun p2 hp2 => ?_⟩
    have sp := same_upd (o := .tup [.str "", .int (n : Nat)]) hp
    have sp2 := same_upd (o := .tup [.ref p, .int ((j + 1 : Nat) : Int)]) hp2
    exact q (.ref p) _ (j + 1) p2 (s1.trans (sp.trans sp2)) hl1 (L.tail hl (by rw [hm]; exact fun z => nomatch z)) ((Dp.tup (SqT.of upd_same) (.cons (.str _) (.cons (.int _) .nil))).mono sp2) upd_same (fun z => nomatch z)
  | false =>
    have ni : isNum (hd l) = false := by
      cases ht : hd l with
      | num n =>
        rw [ht] at hf g0
        have nl : n ≤ 99 := g0
        have : (decide ((0 : Int) ≤ (n : Int)) && decide ((n : Int) ≤ 99)) = false := hf
        rw [decide_eq_true (by omega), decide_eq_true (by omega)] at this
        cases this
      | word _ => rfl
      | sign _ => rfl
      | fin => rfl
    rw [ni, if_neg (by decide)] at q
    refine iteF ?_
    refine ⟨fun σ H' => Same H H' ∧ nameN l = .ok (tokText (hd l), l.tail) ∧ hd l ≠ .fin ∧ σ = [some (.ref S), some (.int (j : Nat)), some (.str (tokText (hd l)))], ?_, ?_⟩
    · refine ⟨_, rfl, rfl, _, rfl, ?_⟩
      rw [text_word g0 (by decide +kernel)]
      cases c : tokIs (hd l) "word" "n" with
      | true =>
        refine iteF ⟨s1, ?_, tokIs_nf c (by decide), rfl⟩
        unfold nameN
        rw [if_pos c, tokIs_text c]
      | false =>
        have en : nameN l = nameR l := by
          unfold nameN
          rw [if_neg (by rw [c]; decide)]
        refine iteT ?_
        refine ⟨_, rfl, tokText (hd l), rfl, by omega, fun H2 s2 => ?_⟩
        refine ⟨_, rfl, ?_⟩
        cases c2 : isName (tokText (hd l)) with
        | true =>
          obtain ⟨z1, z2⟩ := (nameR_text hn g0).1 c2
          exact iteF ⟨s1.trans s2, en.trans z1, z2, rfl⟩
        | false =>
          rw [en, (nameR_text hn g0).2 c2] at q
          refine iteT ?_
          refine ⟨_, rfl, by show 2 ≤ sizeLine; decide, fun p hp => ?_⟩
          have sp := same_upd (o := .tup [.non, .int (j : Nat)]) hp
          exact q _ j p ((s1.trans s2).trans sp) hl hn upd_same
    rintro σ H2 ⟨s2, en, nf, rfl⟩
    rw [en] at q
    have q : LEnds K ts H Q endD (plusR (tokText (hd l)) l.tail) := q
    have L2' := L.same s2
    have hn1 := L.tail hl nf
    refine ⟨_, rfl, _, rfl, _, _, rfl, rfl, S, _, _, _, rfl, rfl, SqL.of L2'.sg, atI_nat e1, a1, _, _, _, rfl, rfl, SqT.of (s2 _ _ t1), rfl, ?_⟩
    have iv : inV (V.str (tokText (hd l.tail))) [V.str "+", V.str "-"] = (tokIs (hd l.tail) "sign" "+" || tokIs (hd l.tail) "sign" "-") := by
      rw [show [V.str (Str.ofString "+"), V.str (Str.ofString "-")] = ([Str.ofString "+", Str.ofString "-"] : List Str).map V.str from rfl, inV_str]
      show (decide (V.str (tokText (hd l.tail)) = V.str (Str.ofString "+")) || (decide (V.str (tokText (hd l.tail)) = V.str (Str.ofString "-")) || false)) = _
      rw [text_sign g1 (by decide +kernel), text_sign g1 (by decide +kernel), Bool.or_false]
    refine ⟨by show 2 ≤ sizeLine; decide, fun pz hz => ?_⟩
    have sz := same_upd (o := .lst [.str "+", .str "-"]) hz
    have L3 := L2'.same sz
    refine ⟨pz, _, rfl, .inl (SqL.of upd_same), rfl, rfl, _, rfl, ?_⟩
    show ite ((!inV (V.str (tokText (hd l.tail))) [V.str "+", V.str "-"]) = true) _ _
    rw [iv]
    have hl3 := drop_tail hl2
    cases c1 : (tokIs (hd l.tail) "sign" "+" || tokIs (hd l.tail) "sign" "-") with
    | false =>
      rw [Bool.or_eq_false_iff] at c1
      have ep : plusR (tokText (hd l)) l.tail = .ok ((tokText (hd l), 0), l.tail) := by
        unfold plusR
        rw [if_neg (by rw [c1.1]; decide), if_neg (by rw [c1.2]; decide)]
      rw [ep] at q
      refine iteT ?_
      refine ⟨_, rfl, by show 2 ≤ sizeLine; decide, fun p hp => ?_⟩
      refine ⟨_, rfl, _, _, rfl, rfl, by show 2 ≤ sizeLine; decide, fun p2 hp2 => ?_⟩
      have sp := same_upd (o := .tup [.str (tokText (hd l)), .int 0]) hp
      have sp2 := same_upd (o := .tup [.ref p, .int ((j + 1 : Nat) : Int)]) hp2
      exact q (.ref p) _ (j + 1) p2 (s2.trans (sz.trans (sp.trans sp2))) hl1 hn1 ((Dp.tup (SqT.of upd_same) (.cons (.str _) (.cons (.int _) .nil))).mono sp2) upd_same (fun z => nomatch z)
    | true =>
      have nf1 : hd l.tail ≠ .fin := by
        rcases Bool.or_eq_true_iff.mp c1 with c | c
        · exact tokIs_nf c (by decide)
        · exact tokIs_nf c (by decide)
      have hn2 := L.tail hl1 nf1
      have pe : numR 1 99 l.tail.tail = .error l.tail.tail → plusR (tokText (hd l)) l.tail = .error l.tail.tail := fun e => by
        unfold plusR
        rcases Bool.or_eq_true_iff.mp c1 with c | c
        · rw [if_pos c, e]
        · rw [if_neg (by rw [tokIs_else c (by decide)]; decide), if_pos c, e]
      have po : ∀ n : Int, numR 1 99 l.tail.tail = .ok (n, l.tail.tail.tail) → plusR (tokText (hd l)) l.tail = .ok ((tokText (hd l), n * (if tokIs (hd l.tail) "sign" "-" = true then -1 else 1)), l.tail.tail.tail) := fun n e => by
        unfold plusR
        rcases Bool.or_eq_true_iff.mp c1 with c | c
        · rw [if_pos c, e, if_neg (by rw [tokIs_else c (by decide)]; decide), Int.mul_one]
        · rw [if_neg (by rw [tokIs_else c (by decide)]; decide), if_pos c, e, if_pos c]
          show Except.ok ((tokText (hd l), 0 - n), _) = _
          rw [show (0 : Int) - n = n * -1 by omega]
      refine iteF ?_
      refine ⟨_, rfl, _, rfl, _, _, rfl, rfl, S, _, _, _, rfl, rfl, SqL.of L3.sg, atI_nat e2, a2, _, _, _, rfl, rfl, SqT.of (sz _ _ (s2 _ _ t2)), rfl, ?_⟩
      refine ⟨hd l.tail.tail, 1, 99, rfl, g2, fun H4 s4 => ?_⟩
      refine ⟨_, rfl, ?_⟩
      have L4 := L3.same s4
      have s04 := s2.trans (sz.trans s4)
      cases hf2 : figT 1 99 (hd l.tail.tail) with
      | false =>
        rw [pe ((figT_num hn2).2 hf2)] at q
        refine iteT ?_
        refine ⟨_, rfl, _, _, rfl, rfl, by show 2 ≤ sizeLine; decide, fun p hp => ?_⟩
        have sp := same_upd (o := .tup [.non, .int ((j + 2 : Nat) : Int)]) hp
        exact q _ (j + 2) p (s04.trans sp) hl2 hn2 upd_same
      | true =>
        obtain ⟨n, hm, hnum⟩ := (figT_num hn2).1 hf2
        rw [po n hnum] at q
        refine iteF ?_
        have nl : n ≤ 99 := by rw [hm] at g2; exact g2
        have gl2 := good_len g2
        have n4 := s04
        refine ⟨_, rfl, _, rfl, _, rfl, _, _, rfl, rfl, S, _, _, _, rfl, rfl, SqL.of L4.sg, atI_nat e2, a2, _, _, _, rfl, rfl, SqT.of (s4 _ _ (sz _ _ (s2 _ _ t2))), rfl, ?_⟩
        refine ⟨_, _, rfl, by rw [hm]; exact numT_int n nl, by omega, ?_⟩
        refine ⟨_, rfl, by show 2 ≤ sizeLine; decide, fun pl hpl => ?_⟩
        have sl := same_upd (o := .lst [.int 1, .int (-1)]) hpl
        refine ⟨_, rfl, _, rfl, _, _, rfl, rfl, S, _, _, _, rfl, rfl, SqL.of (sl _ _ L4.sg), atI_nat e1, a1, _, _, _, rfl, rfl, SqT.of (sl _ _ (s4 _ _ (sz _ _ (s2 _ _ t1)))), rfl, rfl, .inr ⟨_, rfl, ?_⟩⟩
        rw [text_sign g1 (by decide +kernel)]
        refine ⟨pl, _, _, .int (if tokIs (hd l.tail) "sign" "-" = true then -1 else 1), rfl, rfl, SqL.of upd_same, ?_, _, _, rfl, rfl, ?_, ?_⟩
        · cases tokIs (hd l.tail) "sign" "-" <;> rfl
        · exact .inl ⟨by omega, by omega⟩
        generalize hkk : (if tokIs (hd l.tail) "sign" "-" = true then (-1 : Int) else 1) = kk at q ⊢
        refine ⟨by show 2 ≤ sizeLine; decide, fun p hp => ?_⟩
        refine ⟨_, rfl, _, _, rfl, rfl, by show 2 ≤ sizeLine; decide, fun p2 hp2 => ?_⟩
        have sp := same_upd (o := .tup [.str (tokText (hd l)), .int ((n : Int) * kk)]) hp
        have sp2 := same_upd (o := .tup [.ref p, .int ((j + 3 : Nat) : Int)]) hp2
        exact q (.ref p) _ (j + 3) p2 (s04.trans (sl.trans (sp.trans sp2))) hl3 (L.tail hl2 (by rw [hm]; exact fun z => nomatch z)) ((Dp.tup (SqT.of upd_same) (.cons (.str _) (.cons (.int _) .nil))).mono sp2) upd_same (fun z => nomatch z)
def spLLeaf (K : PySem.W.Frag) : Sp := fun vs H Q _ => ∃ (S : Addr) (us : List V) (ts : TL) (len j : Nat) (l : TL), vs = [.ref S, .int (j : Nat)] ∧ LSg H S us ts len ∧ ts.drop j = l ∧ l ≠ [] ∧
  (tokIs (hd l) "word" "step" = true ∨ tokIs (hd l) "word" "call" = true ∨ tokIs (hd l) "word" "again" = true) ∧ LEnds K ts H Q thingD (leafR l)
theorem ok_law_read_leaf (T : Txt K mg) : FnOk P w K mg base CX0 4 T.a_law_read_leaf T.d_law_read_leaf ["_law_signs", "_law_at"] (spLLeaf K) := by
  refine T.F_law_read_leaf.ok sc_law_read_leaf (fun vs H Q E h => ?_) (fun cdv A outer s H vs Q E hr h => ?_)
  · obtain ⟨S, us, ts, len, j, l, rfl, _⟩ := h
    rfl
  obtain ⟨S, us, ts, len, j, l, rfl, L, hl, hn, hw, q⟩ := h
  refine ⟨_, (pss_cons (ps_set (i := 2) sc_law_read_leaf.nd rfl (Or.inl rfl) (pe_ix ix_tup (pe_ix ix_list (pv 0) (pv 1) (fun _ _ => rfl)) pe_int (fun _ _ => rfl)))
      (pss_cons (ps_if (pt_cmpR op_eq (pv 2) pe_str (nomark _)) (pss_cons (ps_set (i := 3) sc_law_read_leaf.nd rfl (Or.inl rfl) (pe_call (ok_law_figure T) (hr.mono (by decide)) (by rfl) T.g_law_figure T.F_law_figure.kp T.b_law_figure .nil pass0 (pa_cons (pe_ix ix_tup (pe_ix ix_list (pv 0) (pe_op op_add (pv 1) pe_int) (fun _ _ => rfl)) pe_int (fun _ _ => rfl)) (pa_cons pe_int (pa_cons pe_int pa_nil)))))
      (pss_one (ps_ret (pe_ifExp (pt_truth (pv 3) (by intro _; rfl)) (pe_tup (pa_cons (pe_tup (pa_cons pe_str (pa_cons (pe_callTy call_int_str (by rfl) T.z_int (by decide +kernel) (pa_cons (pe_ix ix_tup (pe_ix ix_list (pv 0) (pe_op op_add (pv 1) pe_int) (fun _ _ => rfl)) pe_int (fun _ _ => rfl)) pa_nil)) pa_nil))) (pa_cons (pe_op op_add (pv 1) pe_int) pa_nil))) (pe_tup (pa_cons pe_non (pa_cons (pe_op op_add (pv 1) pe_int) pa_nil))))))) pss_nil)
      (pss_cons (ps_if (pt_cmpR op_eq (pv 2) pe_str (nomark _)) (pss_cons (ps_if (PW.pt (pw_or (pt_not (pt_val (pe_call (ok_law_is_name T) (hr.mono (by decide)) (by rfl) T.g_law_is_name T.F_law_is_name.kp T.b_law_is_name .nil pass0 (pa_cons (pe_ix ix_tup (pe_ix ix_list (pv 0) (pe_op op_add (pv 1) pe_int) (fun _ _ => rfl)) pe_int (fun _ _ => rfl)) pa_nil)))) (pw_or1 (pt_cmpR op_ne (pe_ix ix_tup (pe_ix ix_list (pv 0) (pe_op op_add (pv 1) pe_int) (fun _ _ => rfl)) pe_int (fun _ _ => rfl)) pe_str (nomark _))))) (pss_one (ps_ret (pe_tup (pa_cons pe_non (pa_cons (pe_op op_add (pe_op op_add (pv 1) pe_int) (pe_callTy call_int1 (by rfl) T.z_int (by decide +kernel) (pa_cons (pe_call (ok_law_is_name T) (hr.mono (by decide)) (by rfl) T.g_law_is_name T.F_law_is_name.kp T.b_law_is_name .nil pass0 (pa_cons (pe_ix ix_tup (pe_ix ix_list (pv 0) (pe_op op_add (pv 1) pe_int) (fun _ _ => rfl)) pe_int (fun _ _ => rfl)) pa_nil)) pa_nil))) pa_nil))))) pss_nil)
      (pss_cons (ps_asg (pe_call (ok_law_read_end T) (hr.mono (by decide)) (by rfl) T.g_law_read_end T.F_law_read_end.kp T.b_law_read_end .nil pass0 (pa_cons (pv 0) (pa_cons (pe_op op_add (pv 1) pe_int) pa_nil))) (pg_tup rfl (pgs_cons (pg_name (i := 4) sc_law_read_leaf.nd rfl (Or.inl rfl)) (pgs_cons (pg_name (i := 5) sc_law_read_leaf.nd rfl (Or.inl rfl)) pgs_nil))))
      (pss_one (ps_ret (pe_ifExp (pt_cmpR op_isN (pv 4) pe_non (nomark _)) (pe_tup (pa_cons pe_non (pa_cons (pv 5) pa_nil))) (pe_tup (pa_cons (pe_tup (pa_cons pe_str (pa_cons (pe_ix ix_tup (pe_ix ix_list (pv 0) (pe_op op_add (pv 1) pe_int) (fun _ _ => rfl)) pe_int (fun _ _ => rfl)) (pa_cons (pv 4) pa_nil)))) (pa_cons (pv 5) pa_nil)))))))) pss_nil)
      (pss_cons (ps_if (pt_not (pt_val (pe_call (ok_law_figure T) (hr.mono (by decide)) (by rfl) T.g_law_figure T.F_law_figure.kp T.b_law_figure .nil pass0 (pa_cons (pe_ix ix_tup (pe_ix ix_list (pv 0) (pe_op op_add (pv 1) pe_int) (fun _ _ => rfl)) pe_int (fun _ _ => rfl)) (pa_cons pe_int (pa_cons pe_int pa_nil)))))) (pss_one (ps_ret (pe_tup (pa_cons pe_non (pa_cons (pe_op op_add (pv 1) pe_int) pa_nil))))) pss_nil)
      (pss_cons (ps_if (PW.pt (pw_or (pt_cmpR op_ne (pe_ix ix_tup (pe_ix ix_list (pv 0) (pe_op op_add (pv 1) pe_int) (fun _ _ => rfl)) pe_int (fun _ _ => rfl)) pe_str (nomark _)) (pw_or1 (pt_cmpR op_notIn_seq (pe_ix ix_tup (pe_ix ix_list (pv 0) (pe_op op_add (pv 1) pe_int) (fun _ _ => rfl)) pe_int (fun _ _ => rfl)) (pe_lst (pa_cons pe_str (pa_cons pe_str (pa_cons pe_str pa_nil)))) (by rfl))))) (pss_one (ps_ret (pe_tup (pa_cons pe_non (pa_cons (pe_op op_add (pe_op op_add (pv 1) pe_int) (pe_callTy call_int1 (by rfl) T.z_int (by decide +kernel) (pa_cons (pe_cmpR op_eq (pe_ix ix_tup (pe_ix ix_list (pv 0) (pe_op op_add (pv 1) pe_int) (fun _ _ => rfl)) pe_int (fun _ _ => rfl)) pe_str (nomark _)) pa_nil))) pa_nil))))) pss_nil)
      (pss_one (ps_ret (pe_tup (pa_cons (pe_tup (pa_cons pe_str (pa_cons (pe_callTy call_int_str (by rfl) T.z_int (by decide +kernel) (pa_cons (pe_ix ix_tup (pe_ix ix_list (pv 0) (pe_op op_add (pv 1) pe_int) (fun _ _ => rfl)) pe_int (fun _ _ => rfl)) pa_nil)) (pa_cons (pe_ix ix_tup (pe_ix ix_list (pv 0) (pe_op op_add (pv 1) pe_int) (fun _ _ => rfl)) pe_int (fun _ _ => rfl)) pa_nil)))) (pa_cons (pe_op op_add (pv 1) pe_int) pa_nil)))))))))), ?_⟩
  obtain ⟨a0, m0, e0, t0, _⟩ := L.peek0 hl hn
  obtain ⟨a1, m1, e1, t1⟩ := L.peek1 hl hn
  obtain ⟨a2, m2, e2, t2⟩ := L.peek2 hl hn
  obtain ⟨a3, m3, e3, t3⟩ := L.peek3 hl hn
  have g0 := L.good hl
  have hl1 := drop_tail hl
  have g1 := L.good hl1
  have hl2 := drop_tail hl1
  have g2 := L.good hl2
  have hl3 := drop_tail hl2
  have g3 := L.good hl3
  have hl4 := drop_tail hl3
  have gl1 := good_len g1
  have gl3 := good_len g3
  have nf0 : hd l ≠ .fin := by
    rcases hw with h | h | h
    all_goals exact tokIs_nf h (by decide)
  have hn1 := L.tail hl nf0
  refine ⟨_, rfl, _, rfl, S, _, _, _, rfl, rfl, SqL.of L.sg, atI_nat e0, a0, _, _, _, rfl, rfl, SqT.of t0, rfl, ?_⟩
  refine ⟨_, rfl, rfl, _, rfl, ?_⟩
  rw [text_word g0 (by decide +kernel)]
  cases c1 : tokIs (hd l) "word" "step" with
  | true =>
    rw [(leaf_step c1).2] at q
    unfold stepR at q
    refine iteT ?_
    refine ⟨_, rfl, _, rfl, _, _, rfl, rfl, S, _, _, _, rfl, rfl, SqL.of L.sg, atI_nat e1, a1, _, _, _, rfl, rfl, SqT.of t1, rfl, ?_⟩
    refine ⟨hd l.tail, 0, 99, rfl, g1, fun H1 s1 => ?_⟩
    refine ⟨_, rfl, _, rfl, ?_⟩
    have L1 := L.same s1
    cases hf : figT 0 99 (hd l.tail) with
    | true =>
      obtain ⟨n, hm, hnum⟩ := (figT_num hn1).1 hf
      rw [hnum] at q
      have nl : n ≤ 99 := by rw [hm] at g1; exact g1
      refine iteT ?_
      refine ⟨_, rfl, _, rfl, _, _, rfl, rfl, S, _, _, _, rfl, rfl, SqL.of L1.sg, atI_nat e1, a1, _, _, _, rfl, rfl, SqT.of (s1 _ _ t1), rfl, ?_⟩
      refine ⟨_, _, rfl, by rw [hm]; exact numT_int n nl, by omega, ?_⟩
      refine ⟨by show 2 ≤ sizeLine; decide, fun p hp => ?_⟩
      refine ⟨_, rfl, _, _, rfl, rfl, by show 2 ≤ sizeLine; decide, fun p2 hp2 => ?_⟩
      have sp := same_upd (o := .tup [.str "step", .int (n : Nat)]) hp
      have sp2 := same_upd (o := .tup [.ref p, .int ((j + 2 : Nat) : Int)]) hp2
      refine q (.ref p) _ (j + 2) p2 (s1.trans (sp.trans sp2)) hl2 (L.tail hl1 (by rw [hm]; exact fun z => nomatch z)) ?_ upd_same (fun z => nomatch z)
      rw [thingD]
      exact (Dp.tup (SqT.of upd_same) (.cons (.str _) (.cons (.int _) .nil))).mono sp2
    | false =>
      rw [(figT_num hn1).2 hf] at q
      refine iteF ?_
      refine ⟨_, rfl, _, _, rfl, rfl, by show 2 ≤ sizeLine; decide, fun p hp => ?_⟩
      have sp := same_upd (o := .tup [.non, .int ((j + 1 : Nat) : Int)]) hp
      exact q _ (j + 1) p (s1.trans sp) hl1 hn1 upd_same
  | false =>
  refine iteF ?_
  refine ⟨_, rfl, rfl, _, rfl, ?_⟩
  rw [text_word g0 (by decide +kernel)]
  cases c2 : tokIs (hd l) "word" "call" with
  | true =>
    rw [(leaf_call c2).2] at q
    refine iteT ?_
    unfold callR at q
    refine ⟨_, rfl, _, rfl, _, _, rfl, rfl, S, _, _, _, rfl, rfl, SqL.of L.sg, atI_nat e1, a1, _, _, _, rfl, rfl, SqT.of t1, rfl, ?_⟩
    refine ⟨tokText (hd l.tail), rfl, by omega, fun H1 s1 => ⟨_, rfl, ?_⟩⟩
    have L1 := L.same s1
    cases b1 : isName (tokText (hd l.tail)) with
    | false =>
      rw [(nameR_text hn1 g1).2 b1] at q
      refine iteT ?_
      refine ⟨_, rfl, _, _, rfl, rfl, _, rfl, _, rfl, _, _, rfl, rfl, S, _, _, _, rfl, rfl, SqL.of L1.sg, atI_nat e1, a1, _, _, _, rfl, rfl, SqT.of (s1 _ _ t1), rfl, ?_⟩
      refine ⟨tokText (hd l.tail), rfl, by omega, fun H2 s2 => .inr ⟨_, rfl, ?_⟩⟩
      rw [b1]
      refine ⟨_, _, rfl, rfl, by show 2 ≤ sizeLine; decide, fun p hp => ?_⟩
      have sp := same_upd (o := .tup [.non, .int ((j + 1 : Nat) : Int)]) hp
      exact q _ (j + 1) p (s1.trans (s2.trans sp)) hl1 hn1 upd_same
    | true =>
    obtain ⟨z1, z2⟩ := (nameR_text hn1 g1).1 b1
    rw [z1] at q
    have hn2 := L.tail hl1 z2
    refine iteF ?_
    refine ⟨_, rfl, _, rfl, _, _, rfl, rfl, S, _, _, _, rfl, rfl, SqL.of L1.sg, atI_nat e2, a2, _, _, _, rfl, rfl, SqT.of (s1 _ _ t2), rfl, rfl, _, rfl, ?_⟩
    rw [text_word g2 (by decide +kernel)]
    have q : LEnds K ts H Q thingD (match wantR "word" "with" l.tail.tail with
      | .error e => .error e
      | .ok r => match endR r with
        | .error e => .error e
        | .ok (e, r) => .ok (.call (tokText (hd l.tail)) e, r)) := q
    cases c3 : tokIs (hd l.tail.tail) "word" "with" with
    | false =>
      rw [show wantR "word" "with" l.tail.tail = .error l.tail.tail from if_neg (by rw [c3]; decide)] at q
      refine iteT ?_
      refine ⟨_, rfl, _, _, rfl, rfl, _, rfl, _, rfl, _, _, rfl, rfl, S, _, _, _, rfl, rfl, SqL.of L1.sg, atI_nat e1, a1, _, _, _, rfl, rfl, SqT.of (s1 _ _ t1), rfl, ?_⟩
      refine ⟨tokText (hd l.tail), rfl, by omega, fun H2 s2 => .inr ⟨_, rfl, ?_⟩⟩
      rw [b1]
      refine ⟨_, _, rfl, rfl, by show 2 ≤ sizeLine; decide, fun p hp => ?_⟩
      have sp := same_upd (o := .tup [.non, .int ((j + 2 : Nat) : Int)]) hp
      exact q _ (j + 2) p (s1.trans (s2.trans sp)) hl2 hn2 upd_same
    | true =>
    rw [show wantR "word" "with" l.tail.tail = .ok l.tail.tail.tail from if_pos c3] at q
    have q : LEnds K ts H Q thingD (match endR l.tail.tail.tail with
        | .error e => .error e
        | .ok (e, r) => .ok (.call (tokText (hd l.tail)) e, r)) := q
    have hn3 := L.tail hl2 (tokIs_nf c3 (by decide))
    refine iteF ?_
    refine ⟨_, rfl, _, rfl, _, _, rfl, rfl, S, us, ts, len, j + 3, l.tail.tail.tail, rfl, L1, hl3, hn3, ?_⟩
    cases h4 : endR l.tail.tail.tail with
    | error e =>
      rw [h4] at q
      intro H4 j4 p4 s4 hl4 hn4 ep4
      refine ⟨p4, _, rfl, SqT.of ep4, rfl, _, _, rfl, _, _, rfl, rfl, ?_⟩
      refine ⟨_, rfl, rfl, _, rfl, ?_⟩
      rw [decide_eq_true rfl]
      refine iteT ⟨_, rfl, by show 2 ≤ sizeLine; decide, fun p hp => ?_⟩
      have sp := same_upd (o := .tup [.non, .int (j4 : Nat)]) hp
      exact q _ j4 p (s1.trans (s4.trans sp)) hl4 hn4 upd_same
    | ok x =>
      obtain ⟨e4, l4⟩ := x
      rw [h4] at q
      intro v4 H4 j4 p4 s4 hl4 hn4 d4 ep4 nv4
      refine ⟨p4, _, rfl, SqT.of ep4, rfl, _, _, rfl, _, _, rfl, rfl, ?_⟩
      refine ⟨_, rfl, rfl, _, rfl, ?_⟩
      rw [decide_eq_false nv4]
      have L4 := L1.same s4
      refine iteF ⟨_, rfl, _, rfl, _, _, rfl, rfl, S, _, _, _, rfl, rfl, SqL.of L4.sg, atI_nat e1, a1, _, _, _, rfl, rfl, SqT.of (s4 _ _ (s1 _ _ t1)), rfl, _, rfl, by show 3 ≤ sizeLine; decide, fun p hp => ?_⟩
      have sp := same_upd (o := .tup [.str "call", .str (tokText (hd l.tail)), v4]) hp
      refine ⟨_, rfl, by show 2 ≤ sizeLine; decide, fun p2 hp2 => ?_⟩
      have sp2 := same_upd (o := .tup [.ref p, .int (j4 : Nat)]) hp2
      refine q (.ref p) _ j4 p2 (s1.trans (s4.trans (sp.trans sp2))) hl4 hn4 ?_ upd_same (fun z => nomatch z)
      rw [thingD]
      exact (Dp.tup (SqT.of upd_same) (.cons (.str _) (.cons (.str _) (.cons (d4.mono sp) .nil)))).mono sp2
  | false =>
  have c3 : tokIs (hd l) "word" "again" = true := by
    rcases hw with h | h | h
    · rw [c1] at h; cases h
    · rw [c2] at h; cases h
    · exact h
  rw [(leaf_again c3).2] at q
  refine iteF ?_
  unfold againR at q
  refine ⟨_, rfl, _, rfl, _, _, rfl, rfl, S, _, _, _, rfl, rfl, SqL.of L.sg, atI_nat e1, a1, _, _, _, rfl, rfl, SqT.of t1, rfl, ?_⟩
  refine ⟨hd l.tail, 1, 9, rfl, g1, fun H1 s1 => ⟨_, rfl, ?_⟩⟩
  have L1 := L.same s1
  cases hf : figT 1 9 (hd l.tail) with
  | false =>
    rw [(figT_num hn1).2 hf] at q
    refine iteT ?_
    refine ⟨_, rfl, _, _, rfl, rfl, by show 2 ≤ sizeLine; decide, fun p hp => ?_⟩
    have sp := same_upd (o := .tup [.non, .int ((j + 1 : Nat) : Int)]) hp
    exact q _ (j + 1) p (s1.trans sp) hl1 hn1 upd_same
  | true =>
  obtain ⟨n, hm, hnum⟩ := (figT_num hn1).1 hf
  rw [hnum] at q
  have nl : n ≤ 99 := by rw [hm] at g1; exact g1
  have hn2 := L.tail hl1 (by rw [hm]; exact fun z => nomatch z)
  have q : LEnds K ts H Q thingD (match wantR "word" "on" l.tail.tail with
    | .error e => .error e
    | .ok r => wayR (n : Nat) r) := q
  refine iteF ?_
  refine ⟨_, rfl, _, rfl, _, _, rfl, rfl, S, _, _, _, rfl, rfl, SqL.of L1.sg, atI_nat e2, a2, _, _, _, rfl, rfl, SqT.of (s1 _ _ t2), rfl, rfl, _, rfl, ?_⟩
  rw [text_word g2 (by decide +kernel)]
  cases c4 : tokIs (hd l.tail.tail) "word" "on" with
  | false =>
    rw [show wantR "word" "on" l.tail.tail = .error l.tail.tail from if_neg (by rw [c4]; decide)] at q
    refine iteT ?_
    refine ⟨_, rfl, _, _, rfl, rfl, _, rfl, _, rfl, _, _, rfl, rfl, S, _, _, _, rfl, rfl, SqL.of L1.sg, atI_nat e2, a2, _, _, _, rfl, rfl, SqT.of (s1 _ _ t2), rfl, rfl, .inr ⟨_, rfl, ?_⟩⟩
    rw [text_word g2 (by decide +kernel), c4]
    refine ⟨_, _, rfl, rfl, by show 2 ≤ sizeLine; decide, fun p hp => ?_⟩
    have sp := same_upd (o := .tup [.non, .int ((j + 2 : Nat) : Int)]) hp
    exact q _ (j + 2) p (s1.trans sp) hl2 hn2 upd_same
  | true =>
  rw [show wantR "word" "on" l.tail.tail = .ok l.tail.tail.tail from if_pos c4] at q
  have q : LEnds K ts H Q thingD (wayR (n : Nat) l.tail.tail.tail) := q
  have hn3 := L.tail hl2 (tokIs_nf c4 (by decide))
  refine iteF ?_
  refine ⟨_, rfl, _, rfl, _, _, rfl, rfl, S, _, _, _, rfl, rfl, SqL.of L1.sg, atI_nat e3, a3, _, _, _, rfl, rfl, SqT.of (s1 _ _ t3), rfl, ?_⟩
  refine ⟨by show 3 ≤ sizeLine; decide, fun pz hz => ?_⟩
  have sz := same_upd (o := .lst [.str "halves", .str "thirds", .str "less"]) hz
  have L3 := L1.same sz
  refine ⟨pz, _, rfl, .inl (SqL.of upd_same), rfl, rfl, _, rfl, ?_⟩
  have iv : inV (V.str (tokText (hd l.tail.tail.tail))) [V.str "halves", V.str "thirds", V.str "less"] = (tokIs (hd l.tail.tail.tail) "word" "halves" || (tokIs (hd l.tail.tail.tail) "word" "thirds" || tokIs (hd l.tail.tail.tail) "word" "less")) := by
    rw [show [V.str (Str.ofString "halves"), V.str (Str.ofString "thirds"), V.str (Str.ofString "less")] = ([Str.ofString "halves", Str.ofString "thirds", Str.ofString "less"] : List Str).map V.str from rfl, inV_str]
    show (decide (V.str (tokText (hd l.tail.tail.tail)) = V.str (Str.ofString "halves")) || (decide (V.str (tokText (hd l.tail.tail.tail)) = V.str (Str.ofString "thirds")) || (decide (V.str (tokText (hd l.tail.tail.tail)) = V.str (Str.ofString "less")) || false))) = _
    rw [text_word g3 (by decide +kernel), text_word g3 (by decide +kernel), text_word g3 (by decide +kernel), Bool.or_false]
  show ite ((!inV (V.str (tokText (hd l.tail.tail.tail))) [V.str "halves", V.str "thirds", V.str "less"]) = true) _ _
  rw [iv]
  have wy : wayR (n : Nat) l.tail.tail.tail = (if (tokIs (hd l.tail.tail.tail) "word" "halves" || (tokIs (hd l.tail.tail.tail) "word" "thirds" || tokIs (hd l.tail.tail.tail) "word" "less")) = true then .ok (.again (n : Nat) (tokText (hd l.tail.tail.tail)), l.tail.tail.tail.tail) else .error l.tail.tail.tail) := by
    unfold wayR
    by_cases w1 : tokIs (hd l.tail.tail.tail) "word" "halves" = true
    · rw [if_pos w1, w1, tokIs_text w1]
      rfl
    · have w1' : tokIs (hd l.tail.tail.tail) "word" "halves" = false := by simpa using w1
      rw [if_neg w1, w1']
      by_cases w2 : tokIs (hd l.tail.tail.tail) "word" "thirds" = true
      · rw [if_pos w2, w2, tokIs_text w2]
        rfl
      · have w2' : tokIs (hd l.tail.tail.tail) "word" "thirds" = false := by simpa using w2
        rw [if_neg w2, w2']
        by_cases w3 : tokIs (hd l.tail.tail.tail) "word" "less" = true
        · rw [if_pos w3, w3, tokIs_text w3]
          rfl
        · have w3' : tokIs (hd l.tail.tail.tail) "word" "less" = false := by simpa using w3
          rw [if_neg w3, w3']
          rfl
  rw [wy] at q
  cases c5 : (tokIs (hd l.tail.tail.tail) "word" "halves" || (tokIs (hd l.tail.tail.tail) "word" "thirds" || tokIs (hd l.tail.tail.tail) "word" "less")) with
  | false =>
    rw [c5, if_neg (by decide)] at q
    refine iteT ?_
    refine ⟨_, rfl, _, _, rfl, rfl, _, rfl, _, rfl, _, _, rfl, rfl, S, _, _, _, rfl, rfl, SqL.of L3.sg, atI_nat e2, a2, _, _, _, rfl, rfl, SqT.of (sz _ _ (s1 _ _ t2)), rfl, rfl, .inr ⟨_, rfl, ?_⟩⟩
    rw [text_word g2 (by decide +kernel), c4]
    refine ⟨_, _, rfl, rfl, by show 2 ≤ sizeLine; decide, fun p hp => ?_⟩
    have sp := same_upd (o := .tup [.non, .int ((j + 3 : Nat) : Int)]) hp
    exact q _ (j + 3) p (s1.trans (sz.trans sp)) hl3 hn3 upd_same
  | true =>
    rw [c5, if_pos rfl] at q
    have nf3 : hd l.tail.tail.tail ≠ .fin := by
      rcases Bool.or_eq_true_iff.mp c5 with c | c
      · exact tokIs_nf c (by decide)
      · rcases Bool.or_eq_true_iff.mp c with c | c
        · exact tokIs_nf c (by decide)
        · exact tokIs_nf c (by decide)
    refine iteF ?_
    refine ⟨_, rfl, _, rfl, _, _, rfl, rfl, S, _, _, _, rfl, rfl, SqL.of L3.sg, atI_nat e1, a1, _, _, _, rfl, rfl, SqT.of (sz _ _ (s1 _ _ t1)), rfl, _, _, rfl, by rw [hm]; exact numT_int n nl, by omega, ?_⟩
    refine ⟨_, rfl, _, rfl, _, _, rfl, rfl, S, _, _, _, rfl, rfl, SqL.of L3.sg, atI_nat e3, a3, _, _, _, rfl, rfl, SqT.of (sz _ _ (s1 _ _ t3)), rfl, by show 3 ≤ sizeLine; decide, fun p hp => ?_⟩
    have sp := same_upd (o := .tup [.str "again", .int (n : Nat), .str (tokText (hd l.tail.tail.tail))]) hp
    refine ⟨_, rfl, _, _, rfl, rfl, by show 2 ≤ sizeLine; decide, fun p2 hp2 => ?_⟩
    have sp2 := same_upd (o := .tup [.ref p, .int ((j + 4 : Nat) : Int)]) hp2
    refine q (.ref p) _ (j + 4) p2 (s1.trans (sz.trans (sp.trans sp2))) hl4 (L.tail hl3 nf3) ?_ upd_same (fun z => nomatch z)
    rw [thingD]
    exact (Dp.tup (SqT.of upd_same) (.cons (.str _) (.cons (.int _) (.cons (.str _) .nil)))).mono sp2
/-- two ends with a sign or a word between them -/
def endsH (k z : Str) (l : TL) : Except TL ((En × En) × TL) := match endR l with
  | .error e => .error e
  | .ok (e1, r) => match wantR k z r with
    | .error e => .error e
    | .ok r => match endR r with
      | .error e => .error e
      | .ok (e2, r) => .ok ((e1, e2), r)
theorem testH_eq (l : TL) : testH l = endsH "sign" "<=" l := rfl
def endsD (p : En × En) : PyData := .tuple [endD p.1, endD p.2]
def spLEnds (K : PySem.W.Frag) : Sp := fun vs H Q _ => ∃ (S : Addr) (us : List V) (ts : TL) (len j : Nat) (l : TL) (k z : Str), vs = [.ref S, .int (j : Nat), .str z] ∧ LSg H S us ts len ∧ ts.drop j = l ∧ l ≠ [] ∧ ((k = "word" ∧ isLet z = true) ∨ (k = "sign" ∧ isMark z = true)) ∧ LEnds K ts H Q endsD (endsH k z l)
theorem ok_law_read_ends (T : Txt K mg) : FnOk P w K mg base CX0 4 T.a_law_read_ends T.d_law_read_ends ["_law_signs", "_law_at", "_law_middle"] (spLEnds K) := by
  refine T.F_law_read_ends.ok sc_law_read_ends (fun vs H Q E h => ?_) (fun cdv A outer s H vs Q E hr h => ?_)
  · obtain ⟨S, us, ts, len, j, l, k, z, rfl, _⟩ := h
    rfl
  obtain ⟨S, us, ts, len, j, l, k, z, rfl, L, hl, hn, hkz, q⟩ := h
  refine ⟨_, (pss_cons (ps_asg (pe_call (ok_law_read_end T) (hr.mono (by decide)) (by rfl) T.g_law_read_end T.F_law_read_end.kp T.b_law_read_end .nil pass0 (pa_cons (pv 0) (pa_cons (pv 1) pa_nil))) (pg_tup rfl (pgs_cons (pg_name (i := 3) sc_law_read_ends.nd rfl (Or.inl rfl)) (pgs_cons (pg_name (i := 1) sc_law_read_ends.nd rfl (Or.inl rfl)) pgs_nil))))
      (pss_cons (ps_if (PW.pt (pw_or (pt_cmpR op_isN (pv 3) pe_non (nomark _)) (pw_or1 (pt_cmpR op_ne (pe_ix ix_tup (pe_ix ix_list (pv 0) (pv 1) (fun _ _ => rfl)) pe_int (fun _ _ => rfl)) (pv 2) (nomark _))))) (pss_one (ps_ret (pe_tup (pa_cons pe_non (pa_cons (pv 1) pa_nil))))) pss_nil)
      (pss_cons (ps_asg (pe_call (ok_law_read_end T) (hr.mono (by decide)) (by rfl) T.g_law_read_end T.F_law_read_end.kp T.b_law_read_end .nil pass0 (pa_cons (pv 0) (pa_cons (pe_op op_add (pv 1) pe_int) pa_nil))) (pg_tup rfl (pgs_cons (pg_name (i := 4) sc_law_read_ends.nd rfl (Or.inl rfl)) (pgs_cons (pg_name (i := 1) sc_law_read_ends.nd rfl (Or.inl rfl)) pgs_nil))))
      (pss_one (ps_ret (pe_ifExp (pt_cmpR op_isN (pv 4) pe_non (nomark _)) (pe_tup (pa_cons pe_non (pa_cons (pv 1) pa_nil))) (pe_tup (pa_cons (pe_tup (pa_cons (pv 3) (pa_cons (pv 4) pa_nil))) (pa_cons (pv 1) pa_nil))))))))), ?_⟩
  have tkz : ∀ {t : Tok}, GoodTok t → decide (V.str (tokText t) = V.str z) = tokIs t k z := fun {t} g => by
    rcases hkz with ⟨rfl, h⟩ | ⟨rfl, h⟩
    · exact text_word g h
    · exact text_sign g h
  have nk : k ≠ Str.ofString "end" := by
    rcases hkz with ⟨rfl, h⟩ | ⟨rfl, h⟩
    · decide
    · decide
  unfold endsH at q
  refine ⟨_, rfl, _, rfl, S, us, ts, len, j, l, rfl, L, hl, hn, ?_⟩
  cases h1 : endR l with
  | error e =>
    rw [h1] at q
    intro H1 j1 p1 s1 hl1 hn1 ep
    refine ⟨p1, _, rfl, SqT.of ep, rfl, _, _, rfl, _, _, rfl, rfl, ?_⟩
    refine ⟨_, rfl, rfl, _, rfl, ?_⟩
    rw [decide_eq_true rfl]
    refine iteT ⟨_, rfl, by show 2 ≤ sizeLine; decide, fun p hp => ?_⟩
    have sp := same_upd (o := .tup [.non, .int (j1 : Nat)]) hp
    exact q _ j1 p (s1.trans sp) hl1 hn1 upd_same
  | ok x =>
    obtain ⟨e1, l1⟩ := x
    rw [h1] at q
    intro v1 H1 j1 p1 s1 hl1 hn1 d1 ep nv1
    refine ⟨p1, _, rfl, SqT.of ep, rfl, _, _, rfl, _, _, rfl, rfl, ?_⟩
    have L1 := L.same s1
    have g1 := L1.good hl1
    obtain ⟨a1, m1, e1', t1, _⟩ := L1.peek0 hl1 hn1
    refine ⟨_, rfl, rfl, _, rfl, ?_⟩
    rw [decide_eq_false nv1]
    refine iteF ?_
    refine ⟨_, rfl, _, rfl, S, _, _, _, rfl, rfl, SqL.of L1.sg, atI_nat e1', a1, _, _, _, rfl, rfl, SqT.of t1, rfl, _, rfl, rfl, _, rfl, ?_⟩
    rw [tkz g1]
    cases c : tokIs (hd l1) k z with
    | false =>
      have hw : wantR k z l1 = .error l1 := if_neg (by rw [c]; decide)
      have q : LEnds K ts H Q endsD (match wantR k z l1 with
        | .error e => .error e
        | .ok r => match endR r with
          | .error e => .error e
          | .ok (e2, r) => .ok ((e1, e2), r)) := q
      rw [hw] at q
      refine iteT ⟨_, rfl, by show 2 ≤ sizeLine; decide, fun p hp => ?_⟩
      have sp := same_upd (o := .tup [.non, .int (j1 : Nat)]) hp
      exact q _ j1 p (s1.trans sp) hl1 hn1 upd_same
    | true =>
      have hw : wantR k z l1 = .ok l1.tail := if_pos c
      have q : LEnds K ts H Q endsD (match wantR k z l1 with
        | .error e => .error e
        | .ok r => match endR r with
          | .error e => .error e
          | .ok (e2, r) => .ok ((e1, e2), r)) := q
      rw [hw] at q
      have q : LEnds K ts H Q endsD (match endR l1.tail with
          | .error e => .error e
          | .ok (e2, r) => .ok ((e1, e2), r)) := q
      refine iteF ?_
      have hn2 := L1.tail hl1 (tokIs_nf c nk)
      refine ⟨_, rfl, _, rfl, _, _, rfl, rfl, S, us, ts, len, j1 + 1, l1.tail, rfl, L1, drop_tail hl1, hn2, ?_⟩
      cases h2 : endR l1.tail with
      | error e =>
        rw [h2] at q
        intro H3 j3 p3 s3 hl3 hn3 ep3
        refine ⟨p3, _, rfl, SqT.of ep3, rfl, _, _, rfl, _, _, rfl, rfl, ?_⟩
        refine ⟨_, rfl, rfl, _, rfl, ?_⟩
        rw [decide_eq_true rfl]
        refine iteT ⟨_, rfl, by show 2 ≤ sizeLine; decide, fun p hp => ?_⟩
        have sp := same_upd (o := .tup [.non, .int (j3 : Nat)]) hp
        exact q _ j3 p (s1.trans (s3.trans sp)) hl3 hn3 upd_same
      | ok x =>
        obtain ⟨e2, l3⟩ := x
        rw [h2] at q
        intro v3 H3 j3 p3 s3 hl3 hn3 d3 ep3 nv3
        refine ⟨p3, _, rfl, SqT.of ep3, rfl, _, _, rfl, _, _, rfl, rfl, ?_⟩
        refine ⟨_, rfl, rfl, _, rfl, ?_⟩
        rw [decide_eq_false nv3]
        refine iteF ⟨_, rfl, _, rfl, by show 2 ≤ sizeLine; decide, fun p hp => ?_⟩
        have sp := same_upd (o := .tup [v1, v3]) hp
        refine ⟨_, rfl, by show 2 ≤ sizeLine; decide, fun p2 hp2 => ?_⟩
        have sp2 := same_upd (o := .tup [.ref p, .int (j3 : Nat)]) hp2
        exact q (.ref p) _ j3 p2 (s1.trans (s3.trans (sp.trans sp2))) hl3 hn3 ((Dp.tup (SqT.of upd_same) (.cons ((d1.mono s3).mono sp) (.cons (d3.mono sp) .nil))).mono sp2) upd_same (fun z => nomatch z)
def spLThing (K : PySem.W.Frag) (f : Nat) : Sp := fun vs H Q _ => ∃ (S rm : Addr) (us : List V) (ts : TL) (len j m deep : Nat) (l : TL), vs = [.ref S, .int (j : Nat), .int (deep : Nat), .ref rm] ∧ LSg H S us ts len ∧ RoomAt H rm m ∧ ts.drop j = l ∧ l ≠ [] ∧ deep ≤ 4 ∧ 4 ≤ deep + f ∧
  ∀ res, ThingP deep m l res → LREnds K rm ts (m + 1) H Q thingD res
theorem goingH_eq {l r1 r2 : TL} {nm : Str} (h1 : nameR l = .ok (nm, r1)) (h2 : wantR "word" "from" r1 = .ok r2) : goingH l = (match endsH "word" "to" r2 with | .error e => .error e | .ok (h, r) => .ok ((nm, h.1, h.2), r)) := by
  unfold goingH endsH
  rw [h1]
  simp only [h2]
  cases endR r2 with
  | error e => rfl
  | ok x =>
    obtain ⟨e1, r3⟩ := x
    simp only
    cases wantR "word" "to" r3 with
    | error e => rfl
    | ok r4 =>
      simp only
      cases endR r4 with
      | error e => rfl
      | ok y => rfl
theorem room_skip {K : PySem.W.Frag} {H H' : Hp} {rm : Addr} {m : Nat} (r : RoomAt H rm m) (b : But (Only1 rm) H H') {d : PyData} {v : V} (h : noL d = true) (dv : Dp K H v d) : Dp K H' v d := dp_skip r.1 b h dv
def Nest1 (z : Str) (l l1 : TL) (hs : List V) : Prop := (z = "for" ∧ tokIs (hd l) "word" "for" = true ∧ ∃ nm, nameR l.tail = .ok (nm, l.tail.tail) ∧ wantR "word" "from" l.tail.tail = .ok l1 ∧ hs = [.str "for", .str nm]) ∨
  (z = "if" ∧ tokIs (hd l) "word" "if" = true ∧ l1 = l.tail ∧ hs = [.str "if"]) ∨ (z = "double" ∧ tokIs (hd l) "word" "double" = true ∧ l1 = l.tail ∧ hs = [.str "double"])
def Nest2 (deep m : Nat) (l : TL) (z : Str) (l2 : TL) (hds : List PyData) : Prop :=
  (z ≠ "if" ∧ ∃ mk : List Thing → Thing, (∀ b, thingD (mk b) = .tuple (hds ++ [planD b])) ∧ (∀ e, BrackP deep (m + 1) l2 (.error e) → ThingP deep m l (.error e)) ∧ (∀ b r m2, BrackP deep (m + 1) l2 (.ok (b, r, m2)) → ThingP deep m l (.ok (mk b, r, m2)))) ∨
  (z = "if" ∧ tokIs (hd l) "word" "if" = true ∧ ∃ e1 e2, testH l.tail = .ok ((e1, e2), l2) ∧ hds = [.str "if", endD e1, endD e2])
theorem dps_app {K : PySem.W.Frag} {H : Hp} : ∀ {a b : List V} {x y : List PyData}, DpAll K H a x → DpAll K H b y → DpAll K H (a ++ b) (x ++ y)
  | _, _, _, _, .nil, h => h
  | _, _, _, _, .cons r q, h => .cons r (dps_app q h)
theorem plan_noL (b : List Thing) : noL (planD b) = true := by
  show noLs (thingsD b) = true
  exact things_noL b
theorem lthing_step (T : Txt K mg) (f n : Nat) (hn : 4 ≤ n) (G_law_read_bracket : FnOk P w K mg base CX0 (n + 1) T.a_law_read_bracket T.d_law_read_bracket ["_law_signs", "_law_at", "_law_deep", "_law_room"] (spLBracket K f)) :
    FnOk P w K mg base CX0 (n + 2) T.a_law_read_thing T.d_law_read_thing ["_law_signs", "_law_at", "_law_deep", "_law_room"] (spLThing K f) := by
  refine T.F_law_read_thing.ok sc_law_read_thing (fun vs H Q E h => ?_) (fun cdv A outer s H vs Q E hr h => ?_)
  · obtain ⟨S, rm, us, ts, len, j, m, deep, l, rfl, _⟩ := h
    rfl
  obtain ⟨S, rm, us, ts, len, j, m, deep, l, rfl, L, R, hl, hn0, hd4, hf, q⟩ := h
  refine ⟨_, (pss_cons (ps_set (i := 4) sc_law_read_thing.nd rfl (Or.inl rfl) (pe_ix ix_tup (pe_ix ix_list (pv 0) (pv 1) (fun _ _ => rfl)) pe_int (fun _ _ => rfl)))
      (pss_cons (ps_if (PW.pt (pw_or (pt_cmpR op_eq (pe_ix ix_list (pv 3) pe_int (fun _ _ => rfl)) pe_int (nomark _)) (pw_or1 (pt_cmpR op_notIn_seq (pv 4) (pe_lst (pa_cons pe_str (pa_cons pe_str (pa_cons pe_str (pa_cons pe_str (pa_cons pe_str (pa_cons pe_str pa_nil))))))) (by rfl))))) (pss_one (ps_ret (pe_tup (pa_cons pe_non (pa_cons (pv 1) pa_nil))))) pss_nil)
      (pss_cons (ps_asg (pe_op op_sub (pe_ix ix_list (pv 3) pe_int (fun _ _ => rfl)) pe_int) (pg_sub (pv 3) pe_int set_list))
      (pss_cons (ps_if (pt_cmpR op_in_seq (pv 4) (pe_lst (pa_cons pe_str (pa_cons pe_str (pa_cons pe_str pa_nil)))) (by rfl)) (pss_one (ps_ret (pe_call (ok_law_read_leaf T) (hr.mono (by omega)) (by rfl) T.g_law_read_leaf T.F_law_read_leaf.kp T.b_law_read_leaf .nil pass0 (pa_cons (pv 0) (pa_cons (pv 1) pa_nil))))) pss_nil)
      (pss_cons (ps_set (i := 5) sc_law_read_thing.nd rfl (Or.inl rfl) (pe_tup (pa_cons (pv 4) pa_nil)))
      (pss_cons (ps_set (i := 1) sc_law_read_thing.nd rfl (Or.inl rfl) (pe_op op_add (pv 1) pe_int))
      (C8.pss_cut (ps_if (pt_cmpR op_eq (pv 4) pe_str (nomark _)) (pss_cons (ps_if (PW.pt (pw_or (pt_not (pt_val (pe_call (ok_law_is_name T) (hr.mono (by omega)) (by rfl) T.g_law_is_name T.F_law_is_name.kp T.b_law_is_name .nil pass0 (pa_cons (pe_ix ix_tup (pe_ix ix_list (pv 0) (pv 1) (fun _ _ => rfl)) pe_int (fun _ _ => rfl)) pa_nil)))) (pw_or1 (pt_cmpR op_ne (pe_ix ix_tup (pe_ix ix_list (pv 0) (pe_op op_add (pv 1) pe_int) (fun _ _ => rfl)) pe_int (fun _ _ => rfl)) pe_str (nomark _))))) (pss_one (ps_ret (pe_tup (pa_cons pe_non (pa_cons (pe_op op_add (pv 1) (pe_callTy call_int1 (by rfl) T.z_int (by decide +kernel) (pa_cons (pe_call (ok_law_is_name T) (hr.mono (by omega)) (by rfl) T.g_law_is_name T.F_law_is_name.kp T.b_law_is_name .nil pass0 (pa_cons (pe_ix ix_tup (pe_ix ix_list (pv 0) (pv 1) (fun _ _ => rfl)) pe_int (fun _ _ => rfl)) pa_nil)) pa_nil))) pa_nil))))) pss_nil)
      (pss_cons (ps_set (i := 5) sc_law_read_thing.nd rfl (Or.inl rfl) (pe_op op_catT (pv 5) (pe_tup (pa_cons (pe_ix ix_tup (pe_ix ix_list (pv 0) (pv 1) (fun _ _ => rfl)) pe_int (fun _ _ => rfl)) pa_nil))))
      (pss_one (ps_set (i := 1) sc_law_read_thing.nd rfl (Or.inl rfl) (pe_op op_add (pv 1) pe_int))))) pss_nil)
      (C8.pss_cut (ps_if (pt_cmpR op_ne (pv 4) pe_str (nomark _)) (pss_cons (ps_asg (pe_call (ok_law_read_ends T) (hr.mono (by omega)) (by rfl) T.g_law_read_ends T.F_law_read_ends.kp T.b_law_read_ends .nil pass0 (pa_cons (pv 0) (pa_cons (pv 1) (pa_cons (pe_ifExp (pt_cmpR op_eq (pv 4) pe_str (nomark _)) pe_str pe_str) pa_nil)))) (pg_tup rfl (pgs_cons (pg_name (i := 6) sc_law_read_thing.nd rfl (Or.inl rfl)) (pgs_cons (pg_name (i := 1) sc_law_read_thing.nd rfl (Or.inl rfl)) pgs_nil))))
      (pss_cons (ps_if (pt_cmpR op_isN (pv 6) pe_non (nomark _)) (pss_one (ps_ret (pe_tup (pa_cons pe_non (pa_cons (pv 1) pa_nil))))) pss_nil)
      (pss_one (ps_set (i := 5) sc_law_read_thing.nd rfl (Or.inl rfl) (pe_op op_catT (pv 5) (pv 6)))))) pss_nil)
      (pss_cons (ps_asg (pe_call G_law_read_bracket (hr.mono (by omega)) (by rfl) T.g_law_read_bracket T.F_law_read_bracket.kp T.b_law_read_bracket .nil pass0 (pa_cons (pv 0) (pa_cons (pv 1) (pa_cons (pv 2) (pa_cons (pv 3) pa_nil))))) (pg_tup rfl (pgs_cons (pg_name (i := 7) sc_law_read_thing.nd rfl (Or.inl rfl)) (pgs_cons (pg_name (i := 1) sc_law_read_thing.nd rfl (Or.inl rfl)) pgs_nil))))
      (pss_cons (ps_if (PW.pt (pw_or (pt_cmpR op_isN (pv 7) pe_non (nomark _)) (pw_or1 (pt_cmpR op_ne (pv 4) pe_str (nomark _))))) (pss_one (ps_ret (pe_ifExp (pt_cmpR op_isN (pv 7) pe_non (nomark _)) (pe_tup (pa_cons pe_non (pa_cons (pv 1) pa_nil))) (pe_tup (pa_cons (pe_op op_catT (pv 5) (pe_tup (pa_cons (pv 7) pa_nil))) (pa_cons (pv 1) pa_nil)))))) pss_nil)
      (pss_cons (ps_if (pt_cmpR op_ne (pe_ix ix_tup (pe_ix ix_list (pv 0) (pv 1) (fun _ _ => rfl)) pe_int (fun _ _ => rfl)) pe_str (nomark _)) (pss_one (ps_ret (pe_tup (pa_cons (pe_op op_catT (pv 5) (pe_tup (pa_cons (pv 7) (pa_cons (pe_tup pa_nil) pa_nil)))) (pa_cons (pv 1) pa_nil))))) pss_nil)
      (pss_cons (ps_asg (pe_call G_law_read_bracket (hr.mono (by omega)) (by rfl) T.g_law_read_bracket T.F_law_read_bracket.kp T.b_law_read_bracket .nil pass0 (pa_cons (pv 0) (pa_cons (pe_op op_add (pv 1) pe_int) (pa_cons (pv 2) (pa_cons (pv 3) pa_nil))))) (pg_tup rfl (pgs_cons (pg_name (i := 8) sc_law_read_thing.nd rfl (Or.inl rfl)) (pgs_cons (pg_name (i := 1) sc_law_read_thing.nd rfl (Or.inl rfl)) pgs_nil))))
      (pss_one (ps_ret (pe_ifExp (pt_cmpR op_isN (pv 8) pe_non (nomark _)) (pe_tup (pa_cons pe_non (pa_cons (pv 1) pa_nil))) (pe_tup (pa_cons (pe_op op_catT (pv 5) (pe_tup (pa_cons (pv 7) (pa_cons (pv 8) pa_nil)))) (pa_cons (pv 1) pa_nil)))))))))))))))))), ?_⟩
  obtain ⟨a0, m0, e0, t0, _⟩ := L.peek0 hl hn0
  have g0 := L.good hl
  have hl1 := drop_tail hl
  have err : ∀ {H1 : Hp} (e : TL) (j1 : Nat) (p : Addr), ThingP deep m l (.error e) → But (Only1 rm) H H1 → ts.drop j1 = e → e ≠ [] → H1 p = none → Q (.ref p) (upd H1 p (.tup [.non, .int (j1 : Nat)])) := fun e j1 p hb b1 h1 h2 hp =>
    q _ hb _ j1 p (b1.trans (same_but (same_upd hp))) h1 h2 upd_same
  refine ⟨_, rfl, _, rfl, S, _, _, _, rfl, rfl, SqL.of L.sg, atI_nat e0, a0, _, _, _, rfl, rfl, SqT.of t0, rfl, ?_⟩
  refine ⟨_, rfl, rm, _, 0, .int ((12 : Int) - (m : Nat)), rfl, rfl, SqL.of R.1, rfl, rfl, _, rfl, ?_⟩
  have m12 := R.2
  by_cases cm : m = 12
  · rw [decide_eq_true (by rw [cm]; rfl)]
    refine iteT ⟨_, rfl, by show 2 ≤ sizeLine; decide, fun p hp => ?_⟩
    exact err l j p (.full (by omega)) (But.refl _ _) hl hn0 hp
  have hm : m < 12 := by omega
  rw [decide_eq_false (fun e => by have := V.int.inj e; omega)]
  refine iteF ?_
  refine ⟨_, rfl, by show 6 ≤ sizeLine; decide, fun pz hz => ?_⟩
  have sz := same_upd (o := .lst [.str "step", .str "for", .str "if", .str "double", .str "call", .str "again"]) hz
  refine ⟨pz, _, rfl, .inl (SqL.of upd_same), rfl, rfl, _, rfl, ?_⟩
  have iv : inV (V.str (tokText (hd l))) [V.str "step", V.str "for", V.str "if", V.str "double", V.str "call", V.str "again"] = (tokIs (hd l) "word" "step" || (tokIs (hd l) "word" "for" || (tokIs (hd l) "word" "if" || (tokIs (hd l) "word" "double" || (tokIs (hd l) "word" "call" || tokIs (hd l) "word" "again"))))) := by
    rw [show [V.str (Str.ofString "step"), V.str (Str.ofString "for"), V.str (Str.ofString "if"), V.str (Str.ofString "double"), V.str (Str.ofString "call"), V.str (Str.ofString "again")] = ([Str.ofString "step", Str.ofString "for", Str.ofString "if", Str.ofString "double", Str.ofString "call", Str.ofString "again"] : List Str).map V.str from rfl, inV_str]
    show (decide (V.str (tokText (hd l)) = V.str (Str.ofString "step")) || (decide (V.str (tokText (hd l)) = V.str (Str.ofString "for")) || (decide (V.str (tokText (hd l)) = V.str (Str.ofString "if")) || (decide (V.str (tokText (hd l)) = V.str (Str.ofString "double")) || (decide (V.str (tokText (hd l)) = V.str (Str.ofString "call")) || (decide (V.str (tokText (hd l)) = V.str (Str.ofString "again")) || false)))))) = _
    rw [text_word g0 (by decide +kernel), text_word g0 (by decide +kernel), text_word g0 (by decide +kernel), text_word g0 (by decide +kernel), text_word g0 (by decide +kernel), text_word g0 (by decide +kernel), Bool.or_false]
  show ite ((!inV (V.str (tokText (hd l))) [V.str "step", V.str "for", V.str "if", V.str "double", V.str "call", V.str "again"]) = true) _ _
  rw [iv]
  have bz : But (Only1 rm) H _ := same_but sz
  have Rz : RoomAt _ rm m := ⟨sz _ _ R.1, m12⟩
  have Lz := L.same sz
  generalize (upd H pz (.lst [.str "step", .str "for", .str "if", .str "double", .str "call", .str "again"])) = Hz at bz Rz Lz ⊢
  cases c6 : (tokIs (hd l) "word" "step" || (tokIs (hd l) "word" "for" || (tokIs (hd l) "word" "if" || (tokIs (hd l) "word" "double" || (tokIs (hd l) "word" "call" || tokIs (hd l) "word" "again"))))) with
  | false =>
    simp only [Bool.or_eq_false_iff] at c6
    obtain ⟨x1, x2, x3, x4, x5, x6⟩ := c6
    refine iteT ⟨_, rfl, by show 2 ≤ sizeLine; decide, fun p hp => ?_⟩
    refine err l j p (.leafBad hm (fun z => ?_) ?_) bz hl hn0 hp
    · rcases z with z | z | z
      · rw [x2] at z; cases z
      · rw [x3] at z; cases z
      · rw [x4] at z; cases z
    · unfold leafR
      rw [x1, x5, x6]
      rfl
  | true =>
  refine iteF ?_
  refine ⟨_, rfl, rm, _, 0, .int ((12 : Int) - (m : Nat)), rfl, rfl, SqL.of Rz.1, rfl, _, 1, rfl, rfl, _, rfl, rm, _, 0, 0, rfl, rfl, Rz.1, rfl, ?_⟩
  have e12 : (12 : Int) - (m : Nat) - 1 = 12 - ((m + 1 : Nat) : Int) := by omega
  have b2 : But (Only1 rm) H (upd Hz rm (.lst [.int ((12 : Int) - (m : Nat) - 1)])) := bz.put rfl
  have R2 : RoomAt (upd Hz rm (.lst [.int ((12 : Int) - (m : Nat) - 1)])) rm (m + 1) := ⟨by rw [e12]; exact upd_same, hm⟩
  have L2' : LSg (upd Hz rm (.lst [.int ((12 : Int) - (m : Nat) - 1)])) S us ts len := Lz.but Rz ((But.refl _ _).put rfl)
  show (tSeq _ _) _ _ (upd Hz rm (.lst [.int ((12 : Int) - (m : Nat) - 1)]))
  generalize (upd Hz rm (.lst [.int ((12 : Int) - (m : Nat) - 1)])) = H2 at b2 R2 L2' ⊢
  refine ⟨_, rfl, by show 3 ≤ sizeLine; decide, fun px hx => ?_⟩
  have sx := same_upd (o := .lst [.str "step", .str "call", .str "again"]) hx
  refine ⟨px, _, rfl, .inl (SqL.of upd_same), rfl, rfl, _, rfl, ?_⟩
  have iv2 : inV (V.str (tokText (hd l))) [V.str "step", V.str "call", V.str "again"] = (tokIs (hd l) "word" "step" || (tokIs (hd l) "word" "call" || tokIs (hd l) "word" "again")) := by
    rw [show [V.str (Str.ofString "step"), V.str (Str.ofString "call"), V.str (Str.ofString "again")] = ([Str.ofString "step", Str.ofString "call", Str.ofString "again"] : List Str).map V.str from rfl, inV_str]
    show (decide (V.str (tokText (hd l)) = V.str (Str.ofString "step")) || (decide (V.str (tokText (hd l)) = V.str (Str.ofString "call")) || (decide (V.str (tokText (hd l)) = V.str (Str.ofString "again")) || false))) = _
    rw [text_word g0 (by decide +kernel), text_word g0 (by decide +kernel), text_word g0 (by decide +kernel), Bool.or_false]
  show ite ((inV (V.str (tokText (hd l))) [V.str "step", V.str "call", V.str "again"]) = true) _ _
  rw [iv2]
  have b3 : But (Only1 rm) H _ := b2.trans (same_but sx)
  have R3 : RoomAt _ rm (m + 1) := ⟨sx _ _ R2.1, R2.2⟩
  have L3 := L2'.same sx
  generalize (upd H2 px (.lst [.str "step", .str "call", .str "again"])) = H3 at b3 R3 L3 ⊢
  cases c3 : (tokIs (hd l) "word" "step" || (tokIs (hd l) "word" "call" || tokIs (hd l) "word" "again")) with
  | true =>
    have hw : tokIs (hd l) "word" "step" = true ∨ tokIs (hd l) "word" "call" = true ∨ tokIs (hd l) "word" "again" = true := by
      simpa only [Bool.or_eq_true] using c3
    have nw : ¬ nestW l := by
      rcases hw with h | h | h
      · exact (leaf_step h).1
      · exact (leaf_call h).1
      · exact (leaf_again h).1
    refine iteT ?_
    refine ⟨_, rfl, _, rfl, S, us, ts, len, j, l, rfl, L3, hl, hn0, hw, ?_⟩
    cases hlf : leafR l with
    | error e =>
      intro H4 j4 p4 s4 hl4 hn4 ep
      exact q _ (.leafBad hm nw hlf) H4 j4 p4 (b3.trans (same_but s4)) hl4 hn4 ep
    | ok x =>
      obtain ⟨t, l4⟩ := x
      intro v4 H4 j4 p4 s4 hl4 hn4 d4 ep nv
      exact q _ (.leaf hm nw hlf) v4 H4 j4 p4 (b3.trans (same_but s4)) ⟨s4 _ _ R3.1, R3.2⟩ (Nat.le_refl _) hl4 hn4 d4 ep nv
  | false =>
  have hz : tokIs (hd l) "word" "for" = true ∨ tokIs (hd l) "word" "if" = true ∨ tokIs (hd l) "word" "double" = true := by
    simp only [Bool.or_eq_false_iff] at c3
    obtain ⟨y1, y2, y3⟩ := c3
    rw [y1, y2, y3] at c6
    simpa using c6
  have nf : hd l ≠ .fin := by
    rcases hz with h | h | h
    all_goals exact tokIs_nf h (by decide)
  have hn1 := L.tail hl nf
  refine iteF ?_
  refine ⟨_, rfl, by show 1 ≤ sizeLine; decide, fun ph hh => ?_⟩
  have sh := same_upd (o := .tup [.str (tokText (hd l))]) hh
  have b4 : But (Only1 rm) H _ := b3.trans (same_but sh)
  have R4 : RoomAt _ rm (m + 1) := ⟨sh _ _ R3.1, R3.2⟩
  have L4 := L3.same sh
  have eh : (upd H3 ph (.tup [.str (tokText (hd l))])) ph = some (.tup [.str (tokText (hd l))]) := upd_same
  generalize (upd H3 ph (.tup [.str (tokText (hd l))])) = H4 at b4 R4 L4 eh ⊢
  refine ⟨_, rfl, _, _, rfl, rfl, ?_⟩
  have hl2 := drop_tail hl1
  have hl3 := drop_tail hl2
  have g1 := L.good hl1
  have g2 := L.good hl2
  have gl1 := good_len g1
  refine ⟨fun σ H' => ∃ (z : Str) (p1 : Addr) (hs : List V) (j1 : Nat) (l1 : TL), Nest1 z l l1 hs ∧ But (Only1 rm) H H' ∧ RoomAt H' rm (m + 1) ∧ H' p1 = some (.tup hs) ∧ ts.drop j1 = l1 ∧ l1 ≠ [] ∧ σ = [some (.ref S), some (.int (j1 : Nat)), some (.int (deep : Nat)), some (.ref rm), some (.str z), some (.ref p1), none, none, none], ?_, ?_⟩
  · refine ⟨_, rfl, rfl, _, rfl, ?_⟩
    rw [text_word g0 (by decide +kernel)]
    cases w2 : tokIs (hd l) "word" "for" with
    | false =>
      refine iteF ?_
      rcases hz with h | h | h
      · rw [w2] at h; cases h
      · rw [tokIs_text h] at eh
        exact ⟨"if", ph, [.str "if"], j + 1, l.tail, .inr (.inl ⟨rfl, h, rfl, rfl⟩), b4, R4, eh, hl1, hn1, by rw [tokIs_text h]; rfl⟩
      · rw [tokIs_text h] at eh
        exact ⟨"double", ph, [.str "double"], j + 1, l.tail, .inr (.inr ⟨rfl, h, rfl, rfl⟩), b4, R4, eh, hl1, hn1, by rw [tokIs_text h]; rfl⟩
    | true =>
      have tw := tokIs_text w2
      refine iteT ?_
      obtain ⟨a1, m1, e1, t1, _⟩ := L4.peek0 hl1 hn1
      obtain ⟨a2, m2, e2, t2⟩ := L4.peek1 hl1 hn1
      refine ⟨_, rfl, _, rfl, S, _, _, _, rfl, rfl, SqL.of L4.sg, atI_nat e1, a1, _, _, _, rfl, rfl, SqT.of t1, rfl, ?_⟩
      refine ⟨tokText (hd l.tail), rfl, by omega, fun H5 s5 => ⟨_, rfl, ?_⟩⟩
      have L5 := L4.same s5
      have b5 : But (Only1 rm) H _ := b4.trans (same_but s5)
      cases b1 : isName (tokText (hd l.tail)) with
      | false =>
        refine iteT ?_
        refine ⟨_, rfl, _, rfl, _, rfl, S, _, _, _, rfl, rfl, SqL.of L5.sg, atI_nat e1, a1, _, _, _, rfl, rfl, SqT.of (s5 _ _ t1), rfl, ?_⟩
        refine ⟨tokText (hd l.tail), rfl, by omega, fun H6 s6 => .inr ⟨_, rfl, ?_⟩⟩
        rw [b1]
        refine ⟨_, _, rfl, rfl, by show 2 ≤ sizeLine; decide, fun p hp => ?_⟩
        exact err l.tail (j + 1) p (.going hm w2 (.head (by unfold goingH; rw [(nameR_text hn1 g1).2 b1]))) (b5.trans (same_but s6)) hl1 hn1 hp
      | true =>
      obtain ⟨z1, z2⟩ := (nameR_text hn1 g1).1 b1
      have hn2 := L.tail hl1 z2
      refine iteF ?_
      refine ⟨_, rfl, _, rfl, _, _, rfl, rfl, S, _, _, _, rfl, rfl, SqL.of L5.sg, atI_nat e2, a2, _, _, _, rfl, rfl, SqT.of (s5 _ _ t2), rfl, rfl, _, rfl, ?_⟩
      rw [text_word g2 (by decide +kernel)]
      cases c5 : tokIs (hd l.tail.tail) "word" "from" with
      | false =>
        refine iteT ?_
        refine ⟨_, rfl, _, rfl, _, rfl, S, _, _, _, rfl, rfl, SqL.of L5.sg, atI_nat e1, a1, _, _, _, rfl, rfl, SqT.of (s5 _ _ t1), rfl, ?_⟩
        refine ⟨tokText (hd l.tail), rfl, by omega, fun H6 s6 => .inr ⟨_, rfl, ?_⟩⟩
        rw [b1]
        refine ⟨_, _, rfl, rfl, by show 2 ≤ sizeLine; decide, fun p hp => ?_⟩
        exact err l.tail.tail (j + 2) p (.going hm w2 (.head (by unfold goingH; rw [z1]; simp only; rw [show wantR "word" "from" l.tail.tail = .error l.tail.tail from if_neg (by rw [c5]; decide)]))) (b5.trans (same_but s6)) hl2 hn2 hp
      | true =>
      have hn3 := L.tail hl2 (tokIs_nf c5 (by decide))
      refine iteF ?_
      refine ⟨_, rfl, _, rfl, _, rfl, S, _, _, _, rfl, rfl, SqL.of L5.sg, atI_nat e1, a1, _, _, _, rfl, rfl, SqT.of (s5 _ _ t1), rfl, by show 1 ≤ sizeLine; decide, fun pn hpn => ?_⟩
      have sn := same_upd (o := .tup [.str (tokText (hd l.tail))]) hpn
      refine ⟨ph, pn, _, _, rfl, rfl, SqT.of (sn _ _ (s5 _ _ eh)), SqT.of upd_same, (fun z => nomatch z), by show 2 ≤ sizeLine; decide, (fun z => nomatch z), fun _ p hp => ?_⟩
      have sp := same_upd (o := .tup [.str (tokText (hd l)), .str (tokText (hd l.tail))]) hp
      refine ⟨_, rfl, _, _, rfl, rfl, ?_⟩
      refine ⟨"for", p, [.str "for", .str (tokText (hd l.tail))], j + 3, l.tail.tail.tail, .inl ⟨rfl, w2, _, z1, if_pos c5, rfl⟩, b5.trans (same_but (sn.trans sp)), ⟨sp _ _ (sn _ _ (s5 _ _ R4.1)), R4.2⟩, ?_, hl3, hn3, by rw [tw]; rfl⟩
      rw [← tw]
      exact upd_same
  rintro σ H5 ⟨z, p1, hs, j1, l1, N1, b5, R5, eh5, hl1', hn1', rfl⟩
  have L5 := L.but R b5
  clear b4 R4 L4 eh b3 R3 L3 b2 R2 L2' bz Rz Lz
  refine ⟨fun σ H' => ∃ (p1 : Addr) (hs : List V) (hds : List PyData) (j2 : Nat) (l2 : TL) (v6 : Option V), Nest2 deep m l z l2 hds ∧ noLs hds = true ∧ hs ≠ [] ∧ hs.length ≤ 4 ∧ DpAll K H' hs hds ∧ But (Only1 rm) H H' ∧ RoomAt H' rm (m + 1) ∧ H' p1 = some (.tup hs) ∧ ts.drop j2 = l2 ∧ l2 ≠ [] ∧ σ = [some (.ref S), some (.int (j2 : Nat)), some (.int (deep : Nat)), some (.ref rm), some (.str z), some (.ref p1), v6, none, none], ?_, ?_⟩
  · refine ⟨_, rfl, rfl, _, rfl, ?_⟩
    rcases N1 with ⟨rfl, w2, nm, z1, z2, rfl⟩ | ⟨rfl, w2, rfl, rfl⟩ | ⟨rfl, w2, rfl, rfl⟩
    · rw [dec_ff (by decide)]
      refine iteT ?_
      refine ⟨_, rfl, _, rfl, _, rfl, rfl, _, rfl, ?_⟩
      rw [dec_tt]
      refine iteT ?_
      refine ⟨S, us, ts, len, j1, l1, "word", "to", rfl, L5, hl1', hn1', .inl ⟨rfl, by decide +kernel⟩, ?_⟩
      cases he : endsH "word" "to" l1 with
      | error e =>
        intro H6 j6 p6 s6 hl6 hn6 ep
        refine ⟨p6, _, rfl, SqT.of ep, rfl, _, _, rfl, _, _, rfl, rfl, ?_⟩
        refine ⟨_, rfl, rfl, _, rfl, ?_⟩
        rw [decide_eq_true rfl]
        refine iteT ⟨_, rfl, by show 2 ≤ sizeLine; decide, fun p hp => ?_⟩
        exact err e j6 p (.going hm w2 (.head ((goingH_eq z1 z2).trans (by rw [he])))) (b5.trans (same_but s6)) hl6 hn6 hp
      | ok x =>
        obtain ⟨h, l6⟩ := x
        intro v6 H6 j6 p6 s6 hl6 hn6 d6 ep nv
        refine ⟨p6, _, rfl, SqT.of ep, rfl, _, _, rfl, _, _, rfl, rfl, ?_⟩
        refine ⟨_, rfl, rfl, _, rfl, ?_⟩
        rw [decide_eq_false nv]
        refine iteF ?_
        obtain ⟨a6, us6, rfl, hs6, hd6⟩ := d6.tup'
        obtain ⟨x1, r1, rfl, d1, hd6⟩ := hd6.c
        obtain ⟨x2, r2, rfl, d2, hd6⟩ := hd6.c
        cases hd6.n
        refine ⟨_, rfl, _, rfl, p1, a6, _, _, rfl, rfl, SqT.of (s6 _ _ eh5), hs6, (fun z => nomatch z), by show 4 ≤ sizeLine; decide, (fun z => nomatch z), fun _ p hp => ?_⟩
        have sp := same_upd (o := .tup ([.str "for", .str nm] ++ [x1, x2])) hp
        have hgo : goingH l.tail = .ok ((nm, h.1, h.2), l6) := (goingH_eq z1 z2).trans (by rw [he])
        exact ⟨p, [.str "for", .str nm] ++ [x1, x2], [.str "for", .str nm, endD h.1, endD h.2], j6, l6, some (.ref a6), .inl ⟨by decide, fun b => .loop nm h.1 h.2 b, fun b => by rw [thingD]; rfl, fun e hb => .going hm w2 (.bad hgo hb), fun b r m2 hb => .going hm w2 (.ok hgo hb)⟩, by simp [noLs, noL, end_noL], by simp, by show 4 ≤ 4; decide, .cons (.str _) (.cons (.str _) (.cons (d1.mono sp) (.cons (d2.mono sp) .nil))), b5.trans (same_but (s6.trans sp)), ⟨sp _ _ (s6 _ _ R5.1), R5.2⟩, upd_same, hl6, hn6, rfl⟩
    · rw [dec_ff (by decide)]
      refine iteT ?_
      refine ⟨_, rfl, _, rfl, _, rfl, rfl, _, rfl, ?_⟩
      rw [dec_ff (by decide)]
      refine iteF ?_
      refine ⟨S, us, ts, len, j1, l.tail, "sign", "<=", rfl, L5, hl1', hn1', .inr ⟨rfl, by decide +kernel⟩, ?_⟩
      cases he : endsH "sign" "<=" l.tail with
      | error e =>
        intro H6 j6 p6 s6 hl6 hn6 ep
        refine ⟨p6, _, rfl, SqT.of ep, rfl, _, _, rfl, _, _, rfl, rfl, ?_⟩
        refine ⟨_, rfl, rfl, _, rfl, ?_⟩
        rw [decide_eq_true rfl]
        refine iteT ⟨_, rfl, by show 2 ≤ sizeLine; decide, fun p hp => ?_⟩
        exact err e j6 p (.choice hm w2 (.head he)) (b5.trans (same_but s6)) hl6 hn6 hp
      | ok x =>
        obtain ⟨h, l6⟩ := x
        intro v6 H6 j6 p6 s6 hl6 hn6 d6 ep nv
        refine ⟨p6, _, rfl, SqT.of ep, rfl, _, _, rfl, _, _, rfl, rfl, ?_⟩
        refine ⟨_, rfl, rfl, _, rfl, ?_⟩
        rw [decide_eq_false nv]
        refine iteF ?_
        obtain ⟨a6, us6, rfl, hs6, hd6⟩ := d6.tup'
        obtain ⟨x1, r1, rfl, d1, hd6⟩ := hd6.c
        obtain ⟨x2, r2, rfl, d2, hd6⟩ := hd6.c
        cases hd6.n
        refine ⟨_, rfl, _, rfl, p1, a6, _, _, rfl, rfl, SqT.of (s6 _ _ eh5), hs6, (fun z => nomatch z), by show 3 ≤ sizeLine; decide, (fun z => nomatch z), fun _ p hp => ?_⟩
        have sp := same_upd (o := .tup ([.str "if"] ++ [x1, x2])) hp
        exact ⟨p, [.str "if"] ++ [x1, x2], [.str "if", endD h.1, endD h.2], j6, l6, some (.ref a6), .inr ⟨rfl, w2, h.1, h.2, he, rfl⟩, by simp [noLs, noL, end_noL], by simp, by show 3 ≤ 4; decide, .cons (.str _) (.cons (d1.mono sp) (.cons (d2.mono sp) .nil)), b5.trans (same_but (s6.trans sp)), ⟨sp _ _ (s6 _ _ R5.1), R5.2⟩, upd_same, hl6, hn6, rfl⟩
    · rw [dec_tt]
      refine iteF ?_
      exact ⟨p1, [.str "double"], [.str "double"], j1, l.tail, none, .inl ⟨by decide, .double, fun b => by rw [thingD]; rfl, fun e hb => .dblBad hm w2 hb, fun b r m2 hb => .dbl hm w2 hb⟩, by simp [noLs, noL], by simp, by show 1 ≤ 4; decide, .cons (.str _) .nil, b5, R5, eh5, hl1', hn1', rfl⟩
  rintro σ H6 ⟨p2, hs2, hds, j2, l2, v6, N2, nl, hsn, hs4, dh, b6, R6, eh6, hl2', hn2', rfl⟩
  have L6 := L.but R b6
  have hs4' : hs2.length + 2 ≤ sizeLine := Nat.le_trans (by omega : hs2.length + 2 ≤ 6) (by decide)
  have hs5' : hs2.length + 1 ≤ sizeLine := by omega
  refine ⟨_, rfl, _, rfl, _, rfl, _, rfl, S, rm, us, ts, len, j2, m + 1, deep, l2, rfl, L6, R6, hl2', hn2', hd4, hf, fun res hres => ?_⟩
  cases res with
  | error e =>
    intro H7 j7 p7 b7 hl7 hn7 ep
    refine ⟨p7, _, rfl, SqT.of ep, rfl, _, _, rfl, _, _, rfl, rfl, ?_⟩
    refine ⟨_, rfl, rfl, _, rfl, ?_⟩
    rw [decide_eq_true rfl]
    refine iteT ?_
    refine ⟨_, rfl, rfl, _, rfl, ?_⟩
    rw [decide_eq_true rfl]
    refine iteT ⟨_, rfl, by show 2 ≤ sizeLine; decide, fun p hp => ?_⟩
    refine err e j7 p ?_ (b6.trans b7) hl7 hn7 hp
    rcases N2 with ⟨_, mk, _, hk, _⟩ | ⟨_, w2, e1, e2, ht, _⟩
    · exact hk e hres
    · exact .choice hm w2 (.bad ht hres)
  | ok x =>
  obtain ⟨b, l7, m7⟩ := x
  intro v7 H7 j7 p7 b7 R7 mm hl7 hn7 d7 ep nv
  refine ⟨p7, _, rfl, SqT.of ep, rfl, _, _, rfl, _, _, rfl, rfl, ?_⟩
  refine ⟨_, rfl, rfl, _, rfl, ?_⟩
  rw [decide_eq_false nv]
  refine iteF ?_
  refine ⟨_, rfl, rfl, _, rfl, ?_⟩
  have np2 : ∀ {H9 : Hp}, RoomAt H9 rm (m + 1) → H9 p2 = some (.tup hs2) → p2 ≠ rm := fun r e z => by
    have r1 := r.1
    rw [← z, e] at r1
    cases r1
  have eh7 : H7 p2 = some (.tup hs2) := b7 _ _ eh6 (np2 R6 eh6)
  have dh7 : DpAll K H7 hs2 hds := dps_skip R6.1 b7 nl dh
  have b67 := b6.trans b7
  rcases N2 with ⟨nz, mk, hmk, _, hk⟩ | ⟨rfl, w2, e1, e2, ht, rfl⟩
  · rw [dec_ff nz]
    refine iteT ?_
    refine ⟨_, rfl, rfl, _, rfl, ?_⟩
    rw [decide_eq_false nv]
    refine iteF ?_
    refine ⟨_, rfl, _, rfl, by show 1 ≤ sizeLine; decide, fun pb hpb => ?_⟩
    have sb := same_upd (o := .tup [v7]) hpb
    refine ⟨p2, pb, _, _, rfl, rfl, SqT.of (sb _ _ eh7), SqT.of upd_same, hsn, hs5', (fun z => nomatch z), fun _ pc hpc => ?_⟩
    have sc := same_upd (o := .tup (hs2 ++ [v7])) hpc
    refine ⟨_, rfl, by show 2 ≤ sizeLine; decide, fun p hp => ?_⟩
    have sp := same_upd (o := .tup [.ref pc, .int (j7 : Nat)]) hp
    refine q _ (hk b l7 m7 hres) (.ref pc) _ j7 p (b67.trans (same_but (sb.trans (sc.trans sp)))) ⟨sp _ _ (sc _ _ (sb _ _ R7.1)), R7.2⟩ mm hl7 hn7 ?_ upd_same (fun z => nomatch z)
    rw [hmk]
    have sbc := sb.trans sc
    exact (Dp.tup (SqT.of upd_same) (dps_app (dh7.mono sbc) (.cons (d7.mono sbc) .nil))).mono sp
  rw [dec_tt]
  refine iteF ?_
  have L7 := L.but R b67
  have g7 := L7.good hl7
  obtain ⟨a7, m7', e7, t7, _⟩ := L7.peek0 hl7 hn7
  refine ⟨_, rfl, _, rfl, S, _, _, _, rfl, rfl, SqL.of L7.sg, atI_nat e7, a7, _, _, _, rfl, rfl, SqT.of t7, rfl, rfl, _, rfl, ?_⟩
  rw [text_word g7 (by decide +kernel)]
  cases c7 : tokIs (hd l7) "word" "else" with
  | false =>
    refine iteT ?_
    refine ⟨_, rfl, _, rfl, by show 0 ≤ sizeLine; decide, fun pe hpe => ?_⟩
    have se := same_upd (o := .tup []) hpe
    refine ⟨by show 2 ≤ sizeLine; decide, fun pb hpb => ?_⟩
    have sb := same_upd (o := .tup [v7, .ref pe]) hpb
    refine ⟨p2, pb, _, _, rfl, rfl, SqT.of (sb _ _ (se _ _ eh7)), SqT.of upd_same, hsn, hs4', (fun z => nomatch z), fun _ pc hpc => ?_⟩
    have sc := same_upd (o := .tup (hs2 ++ [v7, .ref pe])) hpc
    refine ⟨_, rfl, by show 2 ≤ sizeLine; decide, fun p hp => ?_⟩
    have sp := same_upd (o := .tup [.ref pc, .int (j7 : Nat)]) hp
    refine q _ (.choice hm w2 (.ok ht hres c7)) (.ref pc) _ j7 p (b67.trans (same_but (se.trans (sb.trans (sc.trans sp))))) ⟨sp _ _ (sc _ _ (sb _ _ (se _ _ R7.1))), R7.2⟩ mm hl7 hn7 ?_ upd_same (fun z => nomatch z)
    show Dp K _ _ (thingD (.test e1 e2 b []))
    rw [thingD]
    have sbc := sb.trans sc
    have s9 := se.trans sbc
    have dn : Dp K _ (V.ref pe) (planD []) := Dp.tup (xs := []) (SqT.of (sbc _ _ (upd_same (a := pe) (o := .tup [])))) .nil
    exact (Dp.tup (SqT.of upd_same) (dps_app (dh7.mono s9) (.cons (d7.mono s9) (.cons dn .nil)))).mono sp
  | true =>
  have hn8 := L7.tail hl7 (tokIs_nf c7 (by decide))
  refine iteF ?_
  refine ⟨_, rfl, _, rfl, _, _, rfl, rfl, _, rfl, _, rfl, S, rm, us, ts, len, j7 + 1, m7, deep, l7.tail, rfl, L7, R7, drop_tail hl7, hn8, hd4, hf, fun res2 hres2 => ?_⟩
  cases res2 with
  | error e =>
    intro H8 j8 p8 b8 hl8 hn8' ep8
    refine ⟨p8, _, rfl, SqT.of ep8, rfl, _, _, rfl, _, _, rfl, rfl, ?_⟩
    refine ⟨_, rfl, rfl, _, rfl, ?_⟩
    rw [decide_eq_true rfl]
    refine iteT ⟨_, rfl, by show 2 ≤ sizeLine; decide, fun p hp => ?_⟩
    exact err e j8 p (.choice hm w2 (.elseBad ht hres c7 hres2)) (b67.trans b8) hl8 hn8' hp
  | ok y =>
  obtain ⟨c, l8, m8⟩ := y
  intro v8 H8 j8 p8 b8 R8 mm8 hl8 hn8' d8 ep8 nv8
  refine ⟨p8, _, rfl, SqT.of ep8, rfl, _, _, rfl, _, _, rfl, rfl, ?_⟩
  refine ⟨_, rfl, rfl, _, rfl, ?_⟩
  rw [decide_eq_false nv8]
  refine iteF ?_
  have eh8 : H8 p2 = some (.tup hs2) := b8 _ _ eh7 (np2 R6 eh6)
  have dh8 : DpAll K H8 hs2 _ := dps_skip R7.1 b8 nl dh7
  have d78 : Dp K H8 v7 (planD b) := dp_skip R7.1 b8 (plan_noL b) d7
  refine ⟨_, rfl, _, rfl, _, rfl, by show 2 ≤ sizeLine; decide, fun pb hpb => ?_⟩
  have sb := same_upd (o := .tup [v7, v8]) hpb
  refine ⟨p2, pb, _, _, rfl, rfl, SqT.of (sb _ _ eh8), SqT.of upd_same, hsn, hs4', (fun z => nomatch z), fun _ pc hpc => ?_⟩
  have sc := same_upd (o := .tup (hs2 ++ [v7, v8])) hpc
  refine ⟨_, rfl, by show 2 ≤ sizeLine; decide, fun p hp => ?_⟩
  have sp := same_upd (o := .tup [.ref pc, .int (j8 : Nat)]) hp
  refine q _ (.choice hm w2 (.elseOk ht hres c7 hres2)) (.ref pc) _ j8 p ((b67.trans b8).trans (same_but (sb.trans (sc.trans sp)))) ⟨sp _ _ (sc _ _ (sb _ _ R8.1)), R8.2⟩ (by omega) hl8 hn8' ?_ upd_same (fun z => nomatch z)
  show Dp K _ _ (thingD (.test e1 e2 b c))
  rw [thingD]
  have sbc := sb.trans sc
  exact (Dp.tup (SqT.of upd_same) (dps_app (dh8.mono sbc) (.cons (d78.mono sbc) (.cons (d8.mono sbc) .nil)))).mono sp
theorem prep_nil (res : Except TL (List Thing × TL × Nat)) : prep [] res = res := by
  cases res with
  | error e => rfl
  | ok x => rfl
theorem lbody_step (T : Txt K mg) (f n : Nat) (hn : 6 ≤ n) (G_law_read_thing : FnOk P w K mg base CX0 n T.a_law_read_thing T.d_law_read_thing ["_law_signs", "_law_at", "_law_deep", "_law_room"] (spLThing K f)) :
    FnOk P w K mg base CX0 (n + 1) T.a_law_read_body T.d_law_read_body ["_law_signs", "_law_at", "_law_deep", "_law_room"] (spLBody K (f + 1)) := by
  refine T.F_law_read_body.ok sc_law_read_body (fun vs H Q E h => ?_) (fun cdv A outer s H vs Q E hr h => ?_)
  · obtain ⟨S, rm, us, ts, len, j, m, deep, l, rfl, _⟩ := h
    rfl
  obtain ⟨S, rm, us, ts, len, j, m, deep, l, rfl, L, R, hl, hn0, hd4, hf, q⟩ := h
  refine ⟨_, (pss_cons (ps_set (i := 4) sc_law_read_body.nd rfl (Or.inl rfl) (pe_tup pa_nil))
      (pss_one (ps_while PassesOwn.never (pt_val pe_bl) (pss_cons (ps_asg (pe_call G_law_read_thing hr (by rfl) T.g_law_read_thing T.F_law_read_thing.kp T.b_law_read_thing .nil pass0 (pa_cons (pv 0) (pa_cons (pv 1) (pa_cons (pv 2) (pa_cons (pv 3) pa_nil))))) (pg_tup rfl (pgs_cons (pg_name (i := 5) sc_law_read_body.nd rfl (Or.inl rfl)) (pgs_cons (pg_name (i := 1) sc_law_read_body.nd rfl (Or.inl rfl)) pgs_nil))))
      (pss_cons (ps_if (pt_cmpR op_isN (pv 5) pe_non (nomark _)) (pss_one (ps_ret (pe_tup (pa_cons pe_non (pa_cons (pv 1) pa_nil))))) pss_nil)
      (C8.pss_cut (ps_set (i := 4) sc_law_read_body.nd rfl (Or.inl rfl) (pe_op op_catA (pv 4) (pe_tup (pa_cons (pv 5) pa_nil))))
      (pss_cons (ps_if (pt_cmpR op_ne (pe_ix ix_tup (pe_ix ix_list (pv 0) (pv 1) (fun _ _ => rfl)) pe_int (fun _ _ => rfl)) pe_str (nomark _)) (pss_one (ps_ret (pe_tup (pa_cons (pv 4) (pa_cons (pv 1) pa_nil))))) pss_nil)
      (pss_one (ps_set (i := 1) sc_law_read_body.nd rfl (Or.inl rfl) (pe_op op_add (pv 1) pe_int)))))))))), ?_⟩
  have err : ∀ {H1 : Hp} (e : TL) (j1 : Nat) (p : Addr), BodyP deep m l (.error e) → But (Only1 rm) H H1 → ts.drop j1 = e → e ≠ [] → H1 p = none → Q (.ref p) (upd H1 p (.tup [.non, .int (j1 : Nat)])) := fun e j1 p hb b1 h1 h2 hp =>
    q _ hb _ j1 p (b1.trans (same_but (same_upd hp))) h1 h2 upd_same
  refine ⟨by show 0 ≤ sizeLine; decide, fun pf hpf => ?_⟩
  have sf := same_upd (o := .tup []) hpf
  refine while_by (fun σ H' => But (Only1 rm) H H' ∧ ∃ (done : List Thing) (vs : List V) (j2 m2 : Nat) (l2 : TL) (p2 : Addr) (v5 : Option V), H' p2 = some (.tup vs) ∧ DpAll K H' vs (thingsD done) ∧ RoomAt H' rm m2 ∧ m + done.length ≤ m2 ∧ ts.drop j2 = l2 ∧ l2 ≠ [] ∧ (∀ res, BodyP deep m2 l2 res → BodyP deep m l (prep done res)) ∧ σ = [some (.ref S), some (.int (j2 : Nat)), some (.int (deep : Nat)), some (.ref rm), some (.ref p2), v5])
    (fun σ H' => match H' rm with | some (.lst [.int k]) => k.toNat | _ => 0) ?_ ?_ ?_
  · refine ⟨same_but sf, [], [], j, m, l, pf, none, upd_same, ?_, ⟨sf _ _ R.1, R.2⟩, by show m + 0 ≤ m; omega, hl, hn0, fun res h => by rw [prep_nil]; exact h, rfl⟩
    rw [thingsD]
    exact .nil
  · rintro σ H2 ⟨b2, done, vs, j2, m2, l2, p2, v5, eT, dvs, R2, md, hl2, hn2, ql, rfl⟩
    have L2' := L.but R b2
    refine ⟨_, rfl, ?_⟩
    refine iteT ?_
    refine ⟨_, rfl, _, rfl, _, rfl, _, rfl, S, rm, us, ts, len, j2, m2, deep, l2, rfl, L2', R2, hl2, hn2, hd4, by omega, fun res hres => ?_⟩
    cases res with
    | error e =>
      intro H3 j3 p3 b3 hl3 hn3 ep
      refine ⟨p3, _, rfl, SqT.of ep, rfl, _, _, rfl, _, _, rfl, rfl, ?_⟩
      refine ⟨_, rfl, rfl, _, rfl, ?_⟩
      rw [decide_eq_true rfl]
      refine iteT ⟨_, rfl, by show 2 ≤ sizeLine; decide, fun p hp => ?_⟩
      exact err e j3 p (ql _ (.bad hres)) (b2.trans b3) hl3 hn3 hp
    | ok x =>
    obtain ⟨t, l3, m3⟩ := x
    intro v3 H3 j3 p3 b3 R3 mm hl3 hn3 d3 ep nv
    refine ⟨p3, _, rfl, SqT.of ep, rfl, _, _, rfl, _, _, rfl, rfl, ?_⟩
    refine ⟨_, rfl, rfl, _, rfl, ?_⟩
    rw [decide_eq_false nv]
    refine iteF ?_
    have np2 : p2 ≠ rm := fun z => by
      have r1 := R2.1
      rw [← z, eT] at r1
      cases r1
    have eT3 : H3 p2 = some (.tup vs) := b3 _ _ eT np2
    have dv3 : DpAll K H3 vs (thingsD done) := dps_skip R2.1 b3 (things_noL done) dvs
    have m312 := R3.2
    have lv := dvs.length
    rw [thingsD_eq, List.length_map] at lv
    have lsz : vs.length + 1 ≤ sizeLine := Nat.le_trans (by omega : vs.length + 1 ≤ 13) (by decide)
    have dvn : ∀ {H9 : Hp}, Same H3 H9 → DpAll K H9 (vs ++ [v3]) (thingsD (done ++ [t])) := fun s9 => by
      rw [thingsD_eq, List.map_append, ← thingsD_eq]
      exact dps_app (dv3.mono s9) (.cons (d3.mono s9) .nil)
    refine ⟨fun σ H' => Same H3 H' ∧ ∃ p4, H' p4 = some (.tup (vs ++ [v3])) ∧ σ = [some (.ref S), some (.int (j3 : Nat)), some (.int (deep : Nat)), some (.ref rm), some (.ref p4), some v3], ?_, ?_⟩
    · refine ⟨_, rfl, _, rfl, by show 1 ≤ sizeLine; decide, fun pb hpb => ?_⟩
      have sb := same_upd (o := .tup [v3]) hpb
      refine ⟨p2, pb, _, _, rfl, rfl, SqT.of (sb _ _ eT3), SqT.of upd_same, lsz, (fun z => ?_), (fun _ z => nomatch z), fun _ _ pc hpc => ?_⟩
      · refine ⟨sb, pb, ?_, rfl⟩
        rw [z]
        exact upd_same
      · exact ⟨sb.trans (same_upd hpc), pc, upd_same, rfl⟩
    rintro σ H4 ⟨s4, p4, eT4, rfl⟩
    have b34 := b3.trans (same_but s4)
    have b24 := b2.trans b34
    have L4 := L.but R b24
    have R4 : RoomAt H4 rm m3 := ⟨s4 _ _ R3.1, R3.2⟩
    have g4 := L4.good hl3
    obtain ⟨a4, m4, e4, t4, _⟩ := L4.peek0 hl3 hn3
    refine ⟨_, rfl, _, rfl, S, _, _, _, rfl, rfl, SqL.of L4.sg, atI_nat e4, a4, _, _, _, rfl, rfl, SqT.of t4, rfl, rfl, _, rfl, ?_⟩
    rw [text_sign g4 (by decide +kernel)]
    cases c : tokIs (hd l3) "sign" ";" with
    | false =>
      refine iteT ⟨_, rfl, _, rfl, by show 2 ≤ sizeLine; decide, fun p hp => ?_⟩
      have sp := same_upd (o := .tup [.ref p4, .int (j3 : Nat)]) hp
      have qb : BodyP deep m l (.ok (done ++ [t], l3, m3)) := ql _ (.one hres c)
      refine q _ qb (.ref p4) _ j3 p (b24.trans (same_but sp)) ⟨sp _ _ R4.1, R4.2⟩ (by omega) hl3 hn3 ?_ upd_same (fun z => nomatch z)
      exact Dp.tup (SqT.of (sp _ _ eT4)) (dvn (s4.trans sp))
    | true =>
      refine iteF ?_
      refine ⟨_, rfl, _, _, rfl, rfl, ?_⟩
      refine ⟨⟨b24, done ++ [t], vs ++ [v3], j3 + 1, m3, l3.tail, p4, some v3, eT4, dvn s4, R4, ?_, drop_tail hl3, L4.tail hl3 (tokIs_nf c (by decide)), fun res hr => ?_, rfl⟩, ?_⟩
      · rw [List.length_append, List.length_singleton]
        omega
      · rw [← prep_prep]
        exact ql _ (body_of hres (.yes c hr))
      · rw [R4.1, R2.1]
        show ((12 : Int) - (m3 : Nat)).toNat < ((12 : Int) - (m2 : Nat)).toNat
        omega
  · rintro σ H Q Q' hQ ⟨b, e, h⟩
    exact ⟨b, e, hQ _ _ h⟩
theorem law_body_all (T : Txt K mg) : ∀ f : Nat, FnOk P w K mg base CX0 (3 * f + 4) T.a_law_read_body T.d_law_read_body ["_law_signs", "_law_at", "_law_deep", "_law_room"] (spLBody K f)
  | 0 => by
    have no : ∀ vs H Q E, ¬ spLBody K 0 vs H Q E := fun vs H Q E h => by
      obtain ⟨S, rm, us, ts, len, j, m, deep, l, _, _, _, _, _, h1, h2, _⟩ := h
      omega
    exact ⟨fun vs H Q E h => absurd h (no vs H Q E), fun A outer s H args us vs Q E _ _ _ _ h => absurd h (no vs H Q E)⟩
  | f + 1 => by
    have G1 := lbracket_step T f (3 * f + 4) (by omega) (law_body_all T f)
    have G2 := lthing_step T f (3 * f + 4) (by omega) G1
    exact lbody_step T f (3 * f + 6) (by omega) G2
theorem ok_law_read_body (T : Txt K mg) : FnOk P w K mg base CX0 19 T.a_law_read_body T.d_law_read_body ["_law_signs", "_law_at", "_law_deep", "_law_room"] (spLBody K 5) := law_body_all T 5
/-- what a reading answers -/
def outD : Except Nat (List Thing) → PyData
  | .ok b => .tuple [.str "told", planD b]
  | .error n => .tuple [.str "BadText", .int (n : Nat)]
def spReading (K : PySem.W.Frag) : Sp := fun vs H Q _ => ∃ x : Str, vs = [.str x] ∧ x.length ≤ 1000000 ∧ ∀ res, PlanP x res → ∀ v H', Same H H' → Dp K H' v (outD res) → Q v H'
theorem ok_law_reading (T : Txt K mg) : FnOk P w K mg base CX0 20 T.a_law_reading T.d_law_reading ["_law_text"] (spReading K) := by
  refine T.F_law_reading.ok sc_law_reading (fun vs H Q E h => ?_) (fun cdv A outer s H vs Q E hr h => ?_)
  · obtain ⟨x, rfl, _⟩ := h
    rfl
  obtain ⟨x, rfl, hx, k⟩ := h
  refine ⟨_, (pss_cons (ps_set (i := 1) sc_law_reading.nd rfl (Or.inl rfl) (pe_call (ok_law_cut_up T) (hr.mono (by decide)) (by rfl) T.g_law_cut_up T.F_law_cut_up.kp T.b_law_cut_up .nil pass0 (pa_cons (pv 0) pa_nil)))
      (pss_cons (ps_if (pt_val (pe_callB call_isi (by rfl) T.z_isinstance (by decide +kernel) (pa_cons (pv 1) (pa_cons (pe_bltn (v := .ty "int") (by rfl) T.z_int (by decide +kernel) rfl) pa_nil)))) (pss_one (ps_ret (pe_tup (pa_cons pe_str (pa_cons (pv 1) pa_nil))))) pss_nil)
      (pss_cons (ps_asg (pe_call (ok_law_read_body T) (hr.mono (by decide)) (by rfl) T.g_law_read_body T.F_law_read_body.kp T.b_law_read_body .nil pass0 (pa_cons (pe_op op_cat (pv 1) (pe_op op_rep (pe_lst (pa_cons (pe_tup (pa_cons pe_str (pa_cons (pe_callB call_len_str (by rfl) T.z_len (by decide +kernel) (pa_cons (pv 0) pa_nil)) pa_nil))) pa_nil)) pe_int)) (pa_cons pe_int (pa_cons pe_int (pa_cons (pe_lst (pa_cons pe_int pa_nil)) pa_nil))))) (pg_tup rfl (pgs_cons (pg_name (i := 2) sc_law_reading.nd rfl (Or.inl rfl)) (pgs_cons (pg_name (i := 3) sc_law_reading.nd rfl (Or.inl rfl)) pgs_nil))))
      (pss_cons (ps_if (PW.pt (pw_or (pt_cmpR op_isN (pv 2) pe_non (nomark _)) (pw_or1 (pt_cmpR op_ne (pe_ix ix_tup (pe_ix ix_list (pv 1) (pe_callB (call_min2 rfl) (by rfl) T.z_min (by decide +kernel) (pa_cons (pv 3) (pa_cons (pe_op op_sub (pe_callB call_len_seq (by rfl) T.z_len (by decide +kernel) (pa_cons (pv 1) pa_nil)) pe_int) pa_nil))) (fun _ _ => rfl)) pe_int (fun _ _ => rfl)) pe_str (nomark _))))) (pss_one (ps_ret (pe_tup (pa_cons pe_str (pa_cons (pe_ix ix_tup (pe_ix ix_list (pv 1) (pe_callB (call_min2 rfl) (by rfl) T.z_min (by decide +kernel) (pa_cons (pv 3) (pa_cons (pe_op op_sub (pe_callB call_len_seq (by rfl) T.z_len (by decide +kernel) (pa_cons (pv 1) pa_nil)) pe_int) pa_nil))) (fun _ _ => rfl)) pe_int (fun _ _ => rfl)) pa_nil))))) pss_nil)
      (pss_one (ps_ret (pe_tup (pa_cons pe_str (pa_cons (pv 2) pa_nil))))))))), ?_⟩
  have hxl : x.length ≤ sizeLine := Nat.le_trans hx (by decide)
  refine ⟨_, rfl, x, rfl, hx, ?_⟩
  cases hlex : lexT x with
  | error n =>
    intro H1 s1
    refine ⟨_, rfl, _, _, _, _, _, rfl, .ty _, .base (.int n), (kit_d (.int n)).2.2.2.1, _, rfl, ?_⟩
    refine iteT ⟨_, rfl, by show 2 ≤ sizeLine; decide, fun p hp => ?_⟩
    have sp := same_upd (o := .tup [.str "BadText", .int (n : Nat)]) hp
    exact k _ (.lex hlex) (.ref p) _ (s1.trans sp) (.tup (SqT.of upd_same) (.cons (.str _) (.cons (.int _) .nil)))
  | ok toks =>
    intro S us H1 s1 eS ps
    refine ⟨_, rfl, _, _, _, _, _, rfl, .ty _, sql_ty (SqL.of eS), (kit_d (.list [])).2.2.2.1, _, rfl, ?_⟩
    refine iteF ?_
    obtain ⟨gt, gd⟩ := lexT_good hlex
    have lus : us.length = toks.length := by rw [Paired.length ps, List.length_map]
    have lt0 : toks.length ≤ x.length + 1 := lexE_len hlex
    have sz1 : us.length + 4 ≤ sizeLine := Nat.le_trans (by omega : us.length + 4 ≤ 1000005) (by decide)
    have pk : ∀ {j : Nat} {l : TL}, toks.drop j = l → l ≠ [] → ∃ a, us[j]? = some (.ref a) ∧ H1 a = some (.tup [.str (tokText (hd l)), .int (posT l : Nat)]) ∧ j < toks.length := fun {j l} hl hn => by
      obtain ⟨t, e1, e2, e3⟩ := get_hd hl hn
      have jl : j < toks.length := (List.getElem?_eq_some_iff.mp e1).1
      obtain ⟨u, e4, a, rfl, e5⟩ := paired_get' ps (i := j) (b := txt t) (by rw [List.getElem?_map, e1]; rfl)
      refine ⟨a, e4, ?_, jl⟩
      rw [← e2, ← e3]
      exact e5
    refine ⟨_, rfl, _, rfl, x, rfl, hxl, by show 2 ≤ sizeLine; decide, fun pq hpq => ?_⟩
    have sq := same_upd (o := .tup [.str "", .int (x.length : Nat)]) hpq
    refine ⟨by show 1 ≤ sizeLine; decide, fun pl hpl => ?_⟩
    have sl := same_upd (o := .lst [.ref pq]) hpl
    refine ⟨pl, 4, [.ref pq], rfl, rfl, upd_same, by decide, by decide, by show 4 ≤ sizeLine; decide, fun pr hpr => ?_⟩
    have sr := same_upd (o := .lst [.ref pq, .ref pq, .ref pq, .ref pq]) hpr
    have s1r := sq.trans (sl.trans sr)
    refine ⟨S, pr, us, [.ref pq, .ref pq, .ref pq, .ref pq], rfl, rfl, s1r _ _ eS, upd_same, sz1, fun pS hpS => ?_⟩
    have sS := same_upd (o := .lst (us ++ [.ref pq, .ref pq, .ref pq, .ref pq])) hpS
    refine ⟨by show 1 ≤ sizeLine; decide, fun rm hrm => ?_⟩
    have sm := same_upd (o := .lst [.int 12]) hrm
    have s1m := s1r.trans (sS.trans sm)
    have epq := sm _ _ (sS _ _ (sr _ _ (sl _ _ (upd_same (H := H1) (a := pq) (o := .tup [.str "", .int (x.length : Nat)])))))
    have LS : LSg _ pS (us ++ [.ref pq, .ref pq, .ref pq, .ref pq]) toks x.length := ⟨sm _ _ upd_same, sg_app (sg_keep ps fun b xs e => s1m _ _ e) (.cons ⟨pq, rfl, epq⟩ (.cons ⟨pq, rfl, epq⟩ (.cons ⟨pq, rfl, epq⟩ (.cons ⟨pq, rfl, epq⟩ .nil)))), gt, gd.1⟩
    refine ⟨pS, rm, _, toks, x.length, 0, 0, 0, toks, rfl, LS, ⟨upd_same, by decide⟩, rfl, gd.ne, by decide, by decide, fun res hres => ?_⟩
    have keep : ∀ {H' : Hp}, But (Only1 rm) _ H' → Same H1 H' := fun {H'} b c o e => b c o (s1m c o e) (fun z => by
      have e2 := (s1r.trans sS) c o e
      rw [show c = rm from z, hrm] at e2
      cases e2)
    clear LS epq
    cases res with
    | error e =>
      intro H4 j4 p4 b4 hl4 hn4 ep
      have s14 := keep b4
      obtain ⟨a, e1, e2, jl⟩ := pk hl4 hn4
      refine ⟨p4, _, rfl, SqT.of ep, rfl, _, _, rfl, _, _, rfl, rfl, ?_⟩
      refine ⟨_, rfl, rfl, _, rfl, ?_⟩
      rw [decide_eq_true rfl]
      refine iteT ?_
      refine ⟨_, rfl, _, rfl, _, rfl, S, us, rfl, .inl (SqL.of (s14 _ _ eS)), _, _, rfl, rfl, _, _, rfl, S, us, _, .ref a, rfl, rfl, SqL.of (s14 _ _ eS), ?_, a, _, _, _, rfl, rfl, SqT.of (s14 _ _ e2), rfl, ?_⟩
      · rw [if_neg (by omega)]
        exact atI_nat e1
      refine ⟨by show 2 ≤ sizeLine; decide, fun p hp => ?_⟩
      have sp := same_upd (o := .tup [.str "BadText", .int (posT e : Nat)]) hp
      exact k _ (.bad hlex hres) (.ref p) _ (s1.trans (s14.trans sp)) (.tup (SqT.of upd_same) (.cons (.str _) (.cons (.int _) .nil)))
    | ok y =>
      obtain ⟨b, r, m2⟩ := y
      intro v4 H4 j4 p4 b4 R4 mm hl4 hn4 d4 ep nv
      have s14 := keep b4
      obtain ⟨a, e1, e2, jl⟩ := pk hl4 hn4
      refine ⟨p4, _, rfl, SqT.of ep, rfl, _, _, rfl, _, _, rfl, rfl, ?_⟩
      refine ⟨_, rfl, rfl, _, rfl, ?_⟩
      rw [decide_eq_false nv]
      refine iteF ?_
      have gr : GoodTok (hd r) := by
        cases r with
        | nil => exact absurd rfl hn4
        | cons t r' =>
          refine gt t (List.mem_of_mem_drop (i := j4) ?_)
          rw [hl4]
          exact List.mem_cons_self
      refine ⟨_, rfl, _, rfl, _, rfl, S, us, rfl, .inl (SqL.of (s14 _ _ eS)), _, _, rfl, rfl, _, _, rfl, S, us, _, .ref a, rfl, rfl, SqL.of (s14 _ _ eS), ?_, a, _, _, _, rfl, rfl, SqT.of (s14 _ _ e2), rfl, rfl, _, rfl, ?_⟩
      · rw [if_neg (by omega)]
        exact atI_nat e1
      rw [text_fin gr]
      cases c : tokIs (hd r) "end" "" with
      | false =>
        refine iteT ?_
        refine ⟨_, rfl, _, rfl, _, rfl, S, us, rfl, .inl (SqL.of (s14 _ _ eS)), _, _, rfl, rfl, _, _, rfl, S, us, _, .ref a, rfl, rfl, SqL.of (s14 _ _ eS), ?_, a, _, _, _, rfl, rfl, SqT.of (s14 _ _ e2), rfl, ?_⟩
        · rw [if_neg (by omega)]
          exact atI_nat e1
        refine ⟨by show 2 ≤ sizeLine; decide, fun p hp => ?_⟩
        have sp := same_upd (o := .tup [.str "BadText", .int (posT r : Nat)]) hp
        exact k _ (.more hlex hres c) (.ref p) _ (s1.trans (s14.trans sp)) (.tup (SqT.of upd_same) (.cons (.str _) (.cons (.int _) .nil)))
      | true =>
        refine iteF ?_
        refine ⟨_, rfl, by show 2 ≤ sizeLine; decide, fun p hp => ?_⟩
        have sp := same_upd (o := .tup [.str "told", v4]) hp
        exact k _ (.ok hlex hres c) (.ref p) _ (s1.trans (s14.trans sp)) (.tup (SqT.of upd_same) (.cons (.str _) (.cons (d4.mono sp) .nil)))
/-- goes on behind a sign if it comes next -/
def spPassed (K : PySem.W.Frag) (C : Addr) : Sp := fun vs H Q _ => ∃ (r S : Addr) (us : List V) (ts : List (Tok × Nat)) (i m : Nat) (t : Tok × Nat) (k z : Str), vs = [.ref r, .str k, .str z] ∧ Rdr H r C S us ts i m ∧ ts[i]? = some t ∧ PyData.strOk k = true ∧ PyData.strOk z = true ∧
  ∀ H', But (Only1 r) H H' → Rdr H' r C S us ts (if tokIs t.1 k z = true then i + 1 else i) m → Q (.bl (tokIs t.1 k z)) H'
theorem ok_Reader_passed (T : Txt K mg) : FnOk P w K mg base CX0 1 T.a_Reader_passed T.d_Reader_passed ["self", "kind", "thing"] (spPassed K T.c_Reader) := by
  refine T.F_Reader_passed.ok sc_Reader_passed (fun vs H Q E h => ?_) (fun cdv A outer s H vs Q E hr h => ?_)
  · obtain ⟨r, S, us, ts, i, m, t, k, z, rfl, _⟩ := h
    rfl
  obtain ⟨r, S, us, ts, i, m, t, k, z, rfl, R, ht, hk1, hz1, q⟩ := h
  refine ⟨_, (pss_cons (ps_if (pt_cmpR (op_neD hr.units) (pe_slice sl_tupA (pe_ix ix_list (pe_fld (pv 0) rfl) (pe_fld (pv 0) rfl) (fun _ _ => rfl)) po_none (po_some pe_int)) (pe_tup (pa_cons (pv 1) (pa_cons (pv 2) pa_nil))) (nomark _)) (pss_one (ps_ret pe_bl)) pss_nil)
      (pss_cons (ps_fldaug (pv 0) pe_int in_add)
      (pss_one (ps_ret pe_bl)))), ?_⟩
  obtain ⟨dx, ob⟩ := R.ob
  obtain ⟨a, e1, e2⟩ := R.peek ht
  refine ⟨_, rfl, r, _, dx, _, _, rfl, ob, T.cl_Reader, T.na_Reader_signs, rfl, _, rfl, r, _, dx, _, _, rfl, ob, T.cl_Reader, T.na_Reader_spot, rfl, S, _, _, _, rfl, rfl, SqL.of R.sg, atI_nat e1, ?_⟩
  unfold tNoPart
  refine ⟨2, rfl, a, _, rfl, SqT.of e2, (fun c => absurd c.2 (by show ¬ HT.sIx 3 3 (some 2) = 3; decide)), fun _ p hp => ?_⟩
  have s1 := same_upd (o := .tup [.str (kindT t.1), tokV t.1]) hp
  refine ⟨_, rfl, _, rfl, by show 2 ≤ sizeLine; decide, fun p2 hp2 => ?_⟩
  have s2 := same_upd (o := .tup [.str k, .str z]) hp2
  refine ⟨.tuple [.str (kindT t.1), tokDat t.1], .tuple [.str k, .str z], .tup (SqT.of (s2 _ _ upd_same)) (.cons (.str _) (.cons (tokDat_dp _) .nil)), .tup (SqT.of upd_same) (.cons (.str _) (.cons (.str _) .nil)), shaped_tok (R.tokOk ht) (kind_ok _), shaped_tok (t := .word z) hz1 hk1, ?_⟩
  have s3 := s1.trans s2
  refine ⟨_, rfl, ?_⟩
  cases hk : tokIs t.1 k z with
  | false =>
    rw [hk] at q
    have hk' : PyData.eqv (.tuple [.str (kindT t.1), tokDat t.1]) (.tuple [.str k, .str z]) = false := hk
    rw [hk']
    exact iteT (q _ (same_but s3) (R.same s3))
  | true =>
    rw [hk] at q
    have hk' : PyData.eqv (.tuple [.str (kindT t.1), tokDat t.1]) (.tuple [.str k, .str z]) = true := hk
    rw [hk']
    refine iteF ?_
    refine ⟨_, rfl, r, _, dx, _, _, rfl, s3 _ _ ob, T.cl_Reader, T.na_Reader_spot, rfl, _, _, rfl, rfl, dx, _, s3 _ _ ob, by show 3 < 1000; decide, ?_⟩
    rw [flR_put S i m (j := i + 1) (by omega)]
    refine q _ ((same_but s3).put rfl) (R.but ((same_but s3).put rfl) ⟨dx, upd_same⟩)
/-- an exception in the making: its word is set -/
def spRefI (K : PySem.W.Frag) : Sp := fun vs H Q _ => ∃ (a C : Addr) (z : Str), vs = [.ref a, .str z] ∧ H a = some (exo a C none) ∧ OexC K C ∧ PySem.W.findIn K (.ref C) "word" = some none ∧
  ∀ dx, H dx = none → dx ≠ a → Q .non (upd (upd H dx (exd dx [(Str.ofString "word", .str z)])) a (exo a C (some dx)))
theorem ok_Refused_init (T : Txt K mg) : FnOk P w K mg base CX0 1 T.a_Refused_init T.d_Refused_init ["self", "word"] (spRefI K) := by
  refine T.F_Refused_init.ok sc_Refused_init (fun vs H Q E h => ?_) (fun cdv A outer s H vs Q E hr h => ?_)
  · obtain ⟨a, C, z, rfl, _⟩ := h
    rfl
  obtain ⟨a, C, z, rfl, ea, oc, nf, k⟩ := h
  refine ⟨_, PSs.nox (pss_one (ps_ost (pv 0) (pv 1))), ?_⟩
  exact ⟨_, rfl, _, rfl, a, C, rfl, oc, nf, .inl ⟨ea, fun dx hdx ne => k dx hdx ne⟩⟩
theorem ok_BadText_init (T : Txt K mg) : FnOk P w K mg base CX0 2 T.a_BadText_init T.d_BadText_init ["self", "at"] (spAtI K T.x_BadText) := by
  refine T.F_BadText_init.ok sc_BadText_init (fun vs H Q E h => ?_) (fun cdv A outer s H vs Q E hr h => ?_)
  · obtain ⟨a, n, rfl, _⟩ := h
    rfl
  obtain ⟨a, n, rfl, ea, k⟩ := h
  refine ⟨_, PSs.nox (pss_cons (ps_expr (pe_cinit (by rfl) T.gx_Misread T.sg_Misread T.rd_Misread T.fc_Misread (ok_Refused_init T) (hr.mono (by decide)) T.F_Refused_init.kp T.b_Refused_init .nil pass0 (pa_cons (pv 0) (pa_cons pe_str pa_nil))))
      (pss_one (ps_ost (pv 0) (pv 1)))), ?_⟩
  refine ⟨_, rfl, a, T.x_BadText, _, rfl, ea, T.ox_BadText, T.nf_BadText_word, fun dx hdx ne => ?_⟩
  exact ⟨_, rfl, _, rfl, a, T.x_BadText, rfl, T.ox_BadText, T.nf_BadText_at, .inr ⟨dx, _, upd_same, (upd_ne ne).trans upd_same, by show 1 ≤ 900; decide, k dx _ hdx ne ((upd_ne (Ne.symm ne)).trans upd_same) upd_same fun b n1 n2 => (upd_ne n2).trans ((upd_ne n1).trans (upd_ne n2))⟩⟩
def spBad (K : PySem.W.Frag) (C CB : Addr) : Sp := fun vs H Q E => ∃ (r S : Addr) (us : List V) (ts : TL) (i m : Nat) (l : TL), vs = [.ref r] ∧ Rdr H r C S us ts i m ∧ ts.drop i = l ∧ l ≠ [] ∧ BadE CB (Only1 r) H E (posT l)
theorem ok_Reader_bad (T : Txt K mg) : FnOk P w K mg base (L2.CX P w) 4 T.a_Reader_bad T.d_Reader_bad ["self"] (spBad K T.c_Reader T.x_BadText) := by
  refine T.F_Reader_bad.okX sc_Reader_bad (fun vs H Q E h => ?_) (fun cdv A outer s H vs Q E hr h => ?_)
  · obtain ⟨r, S, us, ts, i, m, l, rfl, _⟩ := h
    rfl
  obtain ⟨r, S, us, ts, i, m, l, rfl, R, hl, hn, k⟩ := h
  refine ⟨_, (pss_one (ps_raise rfl (takes_of rfl rfl rfl rfl) (pmk_oex T.ox_BadText T.in_BadText T.ti_BadText (ok_BadText_init T) (hr.mono (by omega)) T.b_BadText_init .nil pass0 (by rfl) T.gx_BadText (pa_cons (pe_ix ix_tup (pe_ix ix_list (pe_fld (pv 0) rfl) (pe_fld (pv 0) rfl) (fun _ _ => rfl)) pe_int (fun _ _ => rfl)) pa_nil)))), ?_⟩
  obtain ⟨dx, ob⟩ := R.ob
  obtain ⟨t, ht, t1, t2⟩ := get_hd hl hn
  obtain ⟨a, e1, e2⟩ := R.peek ht
  refine ⟨_, rfl, r, _, dx, _, _, rfl, ob, T.cl_Reader, T.na_Reader_signs, rfl, _, rfl, r, _, dx, _, _, rfl, ob, T.cl_Reader, T.na_Reader_spot, rfl, S, _, _, _, rfl, rfl, SqL.of R.sg, atI_nat e1, a, _, _, _, rfl, rfl, SqT.of e2, rfl, ?_⟩
  refine ⟨by show 1 ≤ 1000; decide, fun b hb => ⟨b, (t.2 : Nat), rfl, upd_same, fun dd H1 hdd ne q1 q2 fr => ?_⟩⟩
  obtain ⟨h1, s1⟩ := made_sameX (fs := atF (t.2 : Nat)) hb ne hdd fr
  refine ⟨rfl, dd, _, q1, q2, h1, ?_⟩
  rw [← t2] at k
  exact k dd _ (same_but s1) h1 upd_same
/-- goes on behind a sign that is to come next -/
def spWant (K : PySem.W.Frag) (C CB : Addr) : Sp := fun vs H Q E => ∃ (r S : Addr) (us : List V) (ts : TL) (i m : Nat) (l : TL) (k z : Str), vs = [.ref r, .str k, .str z] ∧ Rdr H r C S us ts i m ∧ ts.drop i = l ∧ l ≠ [] ∧ PyData.strOk k = true ∧ PyData.strOk z = true ∧
  XEnds CB r H E (fun l' => l' = l.tail → ∀ H', But (Only1 r) H H' → Rdr H' r C S us ts (i + 1) m → Q .non H') (wantR k z l)
theorem ok_Reader_want (T : Txt K mg) : FnOk P w K mg base (L2.CX P w) 5 T.a_Reader_want T.d_Reader_want ["self", "kind", "thing"] (spWant K T.c_Reader T.x_BadText) := by
  refine T.F_Reader_want.okX sc_Reader_want (fun vs H Q E h => ?_) (fun cdv A outer s H vs Q E hr h => ?_)
  · obtain ⟨r, S, us, ts, i, m, l, k, z, rfl, _⟩ := h
    rfl
  obtain ⟨r, S, us, ts, i, m, l, k, z, rfl, R, hl, hn, hk1, hz1, q⟩ := h
  refine ⟨_, (pss_one (ps_if (pt_not (pt_val (pe_meth (pv 0) T.cl_Reader T.me_Reader_passed (ok_Reader_passed T) (hr.mono (by decide)) T.b_Reader_passed .nil pass0 (pa_cons (pv 1) (pa_cons (pv 2) pa_nil))))) (pss_one (ps_expr (pe_meth0 (pv 0) T.cl_Reader T.me_Reader_bad (ok_Reader_bad T) (hr.mono (by decide)) T.b_Reader_bad .nil (passes_call (takes_of rfl rfl rfl rfl) fun _ _ _ _ h => h)))) pss_nil)), ?_⟩
  obtain ⟨dx, ob⟩ := R.ob
  obtain ⟨t, ht, t1, t2⟩ := get_hd hl hn
  unfold wantR at q
  rw [← t1] at q
  refine ⟨_, rfl, r, dx, _, rfl, ob, rfl, _, rfl, _, rfl, r, S, us, ts, i, m, t, k, z, rfl, R, ht, hk1, hz1, fun H1 b1 R1 => ?_⟩
  cases hk : tokIs t.1 k z with
  | true =>
    rw [hk] at R1 q
    exact ⟨_, rfl, iteF (q rfl H1 b1 R1)⟩
  | false =>
    rw [hk] at R1 q
    refine ⟨_, rfl, iteT ?_⟩
    obtain ⟨dx1, ob1⟩ := R1.ob
    exact ⟨_, rfl, r, dx1, _, rfl, ob1, rfl, r, S, us, ts, i, m, l, rfl, R1, hl, hn, q.mono b1 R1.cell⟩
/-- a number within bounds that is to come next -/
def spNumber (K : PySem.W.Frag) (C CB : Addr) : Sp := fun vs H Q E => ∃ (r S : Addr) (us : List V) (ts : TL) (i m : Nat) (l : TL) (lo hi : Int), vs = [.ref r, .int lo, .int hi] ∧ Rdr H r C S us ts i m ∧ ts.drop i = l ∧ l ≠ [] ∧
  XEnds CB r H E (fun x => x.2 = l.tail → ∀ H', But (Only1 r) H H' → Rdr H' r C S us ts (i + 1) m → Q (.int x.1) H') (numR lo hi l)
theorem ok_Reader_number (T : Txt K mg) : FnOk P w K mg base (L2.CX P w) 5 T.a_Reader_number T.d_Reader_number ["self", "least", "most"] (spNumber K T.c_Reader T.x_BadText) := by
  refine T.F_Reader_number.okX sc_Reader_number (fun vs H Q E h => ?_) (fun cdv A outer s H vs Q E hr h => ?_)
  · obtain ⟨r, S, us, ts, i, m, l, lo, hi, rfl, _⟩ := h
    rfl
  obtain ⟨r, S, us, ts, i, m, l, lo, hi, rfl, R, hl, hn, q⟩ := h
  refine ⟨_, (pss_cons (ps_asg (pe_ix ix_list (pe_fld (pv 0) rfl) (pe_fld (pv 0) rfl) (fun _ _ => rfl)) (pg_tup rfl (pgs_cons (pg_name (i := 3) sc_Reader_number.nd rfl (Or.inl rfl)) (pgs_cons (pg_name (i := 4) sc_Reader_number.nd rfl (Or.inl rfl)) (pgs_cons (pg_name (i := 5) sc_Reader_number.nd rfl (Or.inl rfl)) pgs_nil)))))
      (pss_cons (ps_if (PW.pt (pw_or (pt_cmpR op_ne (pv 3) pe_str (nomark _)) (pw_or1 (pt_not (pt_chain op_le op_le (pv 1) (pv 4) (pv 2)))))) (pss_one (ps_expr (pe_meth0 (pv 0) T.cl_Reader T.me_Reader_bad (ok_Reader_bad T) (hr.mono (by decide)) T.b_Reader_bad .nil (passes_call (takes_of rfl rfl rfl rfl) fun _ _ _ _ h => h)))) pss_nil)
      (pss_cons (ps_fldaug (pv 0) pe_int in_add)
      (pss_one (ps_ret (pv 4)))))), ?_⟩
  obtain ⟨dx, ob⟩ := R.ob
  obtain ⟨t, ht, t1, t2⟩ := get_hd hl hn
  obtain ⟨a, e1, e2⟩ := R.peek ht
  refine ⟨_, rfl, r, _, dx, _, _, rfl, ob, T.cl_Reader, T.na_Reader_signs, rfl, _, rfl, r, _, dx, _, _, rfl, ob, T.cl_Reader, T.na_Reader_spot, rfl, S, _, _, _, rfl, rfl, SqL.of R.sg, atI_nat e1, ?_⟩
  refine ⟨a, _, rfl, SqT.of e2, rfl, _, _, rfl, _, _, rfl, _, _, rfl, rfl, ?_⟩
  refine ⟨_, rfl, rfl, _, rfl, ?_⟩
  cases l with
  | nil => exact absurd rfl hn
  | cons t' rest =>
    have et : t' = t := by
      obtain ⟨a1, b1⟩ := t'
      obtain ⟨a2, b2⟩ := t
      exact (Prod.ext t1 t2).symm
    subst et
    obtain ⟨tk, pos⟩ := t'
    cases tk with
    | num n =>
      refine ite2 (fun c => absurd c (by show ¬ (!decide ((V.str "number") = V.str "number")) = true; simp)) (fun _ => ?_)
      refine ⟨_, rfl, _, rfl, _, _, rfl, rfl, _, rfl, ?_⟩
      by_cases h1 : lo ≤ (n : Int)
      · rw [decide_eq_true h1]
        refine iteT ?_
        refine ⟨_, rfl, _, _, rfl, rfl, _, rfl, ?_⟩
        by_cases h2 : (n : Int) ≤ hi
        · have q : _ := q
          rw [decide_eq_true h2]
          refine iteF ?_
          have e : numR lo hi ((Tok.num n, pos) :: rest) = .ok ((n : Int), rest) := if_pos ⟨h1, h2⟩
          rw [e] at q
          refine ⟨_, rfl, r, _, dx, _, _, rfl, ob, T.cl_Reader, T.na_Reader_spot, rfl, _, _, rfl, rfl, dx, _, ob, by show 3 < 1000; decide, ?_⟩
          rw [flR_put S i m (j := i + 1) (by omega)]
          exact ⟨_, rfl, q rfl _ ((But.refl _ _).put rfl) (R.but ((But.refl _ _).put rfl) ⟨dx, upd_same⟩)⟩
        · rw [decide_eq_false h2]
          have e : numR lo hi ((Tok.num n, pos) :: rest) = .error ((Tok.num n, pos) :: rest) := if_neg (fun z => h2 z.2)
          rw [e] at q
          exact iteT ⟨_, rfl, r, dx, _, rfl, ob, rfl, r, S, us, ts, i, m, _, rfl, R, hl, hn, q⟩
      · rw [decide_eq_false h1]
        have e : numR lo hi ((Tok.num n, pos) :: rest) = .error ((Tok.num n, pos) :: rest) := if_neg (fun z => h1 z.1)
        rw [e] at q
        exact iteF ⟨_, rfl, iteT ⟨_, rfl, r, dx, _, rfl, ob, rfl, r, S, us, ts, i, m, _, rfl, R, hl, hn, q⟩⟩
    | word w =>
      exact iteT (iteT ⟨_, rfl, r, dx, _, rfl, ob, rfl, r, S, us, ts, i, m, _, rfl, R, hl, hn, q⟩)
    | sign w =>
      exact iteT (iteT ⟨_, rfl, r, dx, _, rfl, ob, rfl, r, S, us, ts, i, m, _, rfl, R, hl, hn, q⟩)
    | fin =>
      exact iteT (iteT ⟨_, rfl, r, dx, _, rfl, ob, rfl, r, S, us, ts, i, m, _, rfl, R, hl, hn, q⟩)
theorem ok_is_name (T : Txt K mg) : FnOk P w K mg base CX0 1 T.a_is_name T.d_is_name ["text"] spIsName := by
  refine T.F_is_name.ok sc_is_name (fun vs H Q E h => ?_) (fun cdv A outer s H vs Q E hr h => ?_)
  · obtain ⟨z, rfl, _⟩ := h
    rfl
  obtain ⟨z, rfl, hz, k⟩ := h
  refine ⟨_, (pss_one (ps_ret (pe_and (pe_chain op_le op_le pe_int (pe_callB call_len_str (by rfl) T.z_len (by decide +kernel) (pa_cons (pv 0) pa_nil)) (pe_glob rfl T.m_LONGEST T.r_LONGEST)) (pe_and (pe_cmpR op_notIn_seq (pv 0) (pe_glob rfl T.m_WORDS T.r_WORDS) (by rfl)) (pe_one (pe_callB (cr_all rfl) (by rfl) T.z_all (by decide +kernel) (pa_cons (pe_lc (own := [("sign", 1)]) (g := gName 1) (tt := tYes) rfl sc_is_name.nd (pi_str (pv 0)) (blkOk_by (N := N_is_name) (sc := defScope s_is_name) (by decide +kernel)) (fun _ _ _ _ _ => (pg_name (i := 1) sc_is_name.nd rfl (Or.inl rfl))) (fun _ _ _ _ _ => pts_nil) (fun _ _ _ _ _ => (pe_cmpR op_in_sign (pv 1) (pe_glob rfl T.m_LETTERS T.r_LETTERS) (by rfl)))) pa_nil))))))), ?_⟩
  have hzl : z.length ≤ sizeLine := Nat.le_trans hz (by decide)
  have k' : ∀ (b : Bool) H', isName z = b → Same H H' → Q (.bl b) H' := fun b H' e sm => by
    rw [← e]
    exact k H' sm
  have no : isName z = false → Q (.bl false) H := fun e => k' _ _ e (Same.refl _)
  -- 1 <= len(text) <= LONGEST
  refine ⟨_, rfl, _, rfl, hzl, 1, _, rfl, rfl, _, rfl, ?_⟩
  refine ite2 (fun c1 => ?_) (fun c1 => ?_)
  · refine ⟨_, 8, rfl, rfl, _, rfl, ?_⟩
    refine ite2 (fun c2 => ?_) (fun c2 => ?_)
    · refine ⟨_, rfl, T.p_WORDS, _, rfl, .inr (T.q_WORDS H), rfl, flat_words, _, rfl, ?_⟩
      refine ite2 (fun c3 => ?_) (fun c3 => ?_)
      · unfold tCB tCons
        refine lc_sign z (fun c => decide (c ∈ lettersS.cps.toList)) hz (fun Q' q => ⟨_, rfl, q⟩) (fun _ => rfl) (fun c H' Q' q => ⟨_, rfl, c, _, rfl, rfl, q⟩) (fun D H' sm hD eD => ?_)
        refine ⟨D, _, rfl, SqL.of eD, ?_⟩
        rw [list_all_map]
        refine k' _ _ ?_ sm
        unfold isName
        rw [c1, c2, show (!inV (.str z) (wordsL.map V.str)) = true from c3]
        rfl
      · refine no ?_
        unfold isName
        rw [c1, c2, show (!inV (.str z) (wordsL.map V.str)) = false from Bool.eq_false_iff.mpr c3]
        rfl
    · refine no ?_
      unfold isName
      rw [c1, Bool.eq_false_iff.mpr c2]
      rfl
  · refine ⟨_, rfl, ?_⟩
    refine iteF (no ?_)
    unfold isName
    rw [Bool.eq_false_iff.mpr c1]
    rfl
/-- a name that is to come next -/
def spPlainName (K : PySem.W.Frag) (C CB : Addr) : Sp := fun vs H Q E => ∃ (r S : Addr) (us : List V) (ts : TL) (i m : Nat) (l : TL), vs = [.ref r] ∧ Rdr H r C S us ts i m ∧ ts.drop i = l ∧ l ≠ [] ∧ (∀ w, hd l = .word w → w.length ≤ 100) ∧
  XEnds CB r H E (fun x => x.2 = l.tail → ∀ H', But (Only1 r) H H' → Rdr H' r C S us ts (i + 1) m → Q (.str x.1) H') (nameR l)
theorem ok_Reader_plain_name (T : Txt K mg) : FnOk P w K mg base (L2.CX P w) 5 T.a_Reader_plain_name T.d_Reader_plain_name ["self"] (spPlainName K T.c_Reader T.x_BadText) := by
  refine T.F_Reader_plain_name.okX sc_Reader_plain_name (fun vs H Q E h => ?_) (fun cdv A outer s H vs Q E hr h => ?_)
  · obtain ⟨r, S, us, ts, i, m, l, rfl, _⟩ := h
    rfl
  obtain ⟨r, S, us, ts, i, m, l, rfl, R, hl, hn, hw, q⟩ := h
  refine ⟨_, (pss_cons (ps_asg (pe_ix ix_list (pe_fld (pv 0) rfl) (pe_fld (pv 0) rfl) (fun _ _ => rfl)) (pg_tup rfl (pgs_cons (pg_name (i := 1) sc_Reader_plain_name.nd rfl (Or.inl rfl)) (pgs_cons (pg_name (i := 2) sc_Reader_plain_name.nd rfl (Or.inl rfl)) (pgs_cons (pg_name (i := 3) sc_Reader_plain_name.nd rfl (Or.inl rfl)) pgs_nil)))))
      (pss_cons (ps_if (PW.pt (pw_or (pt_cmpR op_ne (pv 1) pe_str (nomark _)) (pw_or1 (pt_not (pt_val (pe_call (ok_is_name T) (hr.mono (by decide)) (by rfl) T.g_is_name T.F_is_name.kp T.b_is_name .nil pass0 (pa_cons (pv 2) pa_nil))))))) (pss_one (ps_expr (pe_meth0 (pv 0) T.cl_Reader T.me_Reader_bad (ok_Reader_bad T) (hr.mono (by decide)) T.b_Reader_bad .nil (passes_call (takes_of rfl rfl rfl rfl) fun _ _ _ _ h => h)))) pss_nil)
      (pss_cons (ps_fldaug (pv 0) pe_int in_add)
      (pss_one (ps_ret (pv 2)))))), ?_⟩
  obtain ⟨dx, ob⟩ := R.ob
  obtain ⟨t, ht, t1, t2⟩ := get_hd hl hn
  obtain ⟨a, e1, e2⟩ := R.peek ht
  refine ⟨_, rfl, r, _, dx, _, _, rfl, ob, T.cl_Reader, T.na_Reader_signs, rfl, _, rfl, r, _, dx, _, _, rfl, ob, T.cl_Reader, T.na_Reader_spot, rfl, S, _, _, _, rfl, rfl, SqL.of R.sg, atI_nat e1, ?_⟩
  refine ⟨a, _, rfl, SqT.of e2, rfl, _, _, rfl, _, _, rfl, _, _, rfl, rfl, ?_⟩
  refine ⟨_, rfl, rfl, _, rfl, ?_⟩
  cases l with
  | nil => exact absurd rfl hn
  | cons t' rest =>
    have et : t' = t := by
      obtain ⟨a1, b1⟩ := t'
      obtain ⟨a2, b2⟩ := t
      exact (Prod.ext t1 t2).symm
    subst et
    obtain ⟨tk, pos⟩ := t'
    cases tk with
    | word nm =>
      refine ite2 (fun c => absurd c (by show ¬ (!decide ((V.str "word") = V.str "word")) = true; simp)) (fun _ => ?_)
      refine ⟨_, rfl, nm, rfl, by have := hw nm rfl; omega, fun H1 s1 => ?_⟩
      have ob1 := s1 _ _ ob
      have R1 := R.same s1
      by_cases hnm : isName nm = true
      · rw [hnm]
        refine ⟨_, rfl, iteF ?_⟩
        have e : nameR ((Tok.word nm, pos) :: rest) = .ok (nm, rest) := if_pos hnm
        rw [e] at q
        refine ⟨_, rfl, r, _, dx, _, _, rfl, ob1, T.cl_Reader, T.na_Reader_spot, rfl, _, _, rfl, rfl, dx, _, ob1, by show 3 < 1000; decide, ?_⟩
        rw [flR_put S i m (j := i + 1) (by omega)]
        exact ⟨_, rfl, q rfl _ ((same_but s1).put rfl) (R.but ((same_but s1).put rfl) ⟨dx, upd_same⟩)⟩
      · have hnm : isName nm = false := by simpa using hnm
        rw [hnm]
        have e : nameR ((Tok.word nm, pos) :: rest) = .error ((Tok.word nm, pos) :: rest) := if_neg (by rw [hnm]; decide)
        rw [e] at q
        exact ⟨_, rfl, iteT ⟨_, rfl, r, dx, _, rfl, ob1, rfl, r, S, us, ts, i, m, _, rfl, R1, hl, hn, BadE.mono q (same_but s1) R1.cell⟩⟩
    | num n => exact iteT (iteT ⟨_, rfl, r, dx, _, rfl, ob, rfl, r, S, us, ts, i, m, _, rfl, R, hl, hn, q⟩)
    | sign n => exact iteT (iteT ⟨_, rfl, r, dx, _, rfl, ob, rfl, r, S, us, ts, i, m, _, rfl, R, hl, hn, q⟩)
    | fin => exact iteT (iteT ⟨_, rfl, r, dx, _, rfl, ob, rfl, r, S, us, ts, i, m, _, rfl, R, hl, hn, q⟩)
/-- an end that is to come next -/
def spEnd (K : PySem.W.Frag) (C CB : Addr) : Sp := fun vs H Q E => ∃ (r S : Addr) (us : List V) (ts : TL) (i m : Nat) (l : TL), vs = [.ref r] ∧ Rdr H r C S us ts i m ∧ ts.drop i = l ∧ Gd l ∧
  XEnds CB r H E (fun x => ∀ v H' i', But (Only1 r) H H' → Rdr H' r C S us ts i' m → ts.drop i' = x.2 → Gd x.2 → Dp K H' v (endD x.1) → Q v H') (endR l)
theorem ok_Reader_end (T : Txt K mg) : FnOk P w K mg base (L2.CX P w) 6 T.a_Reader_end T.d_Reader_end ["self"] (spEnd K T.c_Reader T.x_BadText) := by
  refine T.F_Reader_end.okX sc_Reader_end (fun vs H Q E h => ?_) (fun cdv A outer s H vs Q E hr h => ?_)
  · obtain ⟨r, S, us, ts, i, m, l, rfl, _⟩ := h
    rfl
  obtain ⟨r, S, us, ts, i, m, l, rfl, R, hl, gl, q⟩ := h
  refine ⟨_, (pss_cons (ps_if (pt_cmpR op_eq (pe_ix ix_tup (pe_ix ix_list (pe_fld (pv 0) rfl) (pe_fld (pv 0) rfl) (fun _ _ => rfl)) pe_int (fun _ _ => rfl)) pe_str (nomark _)) (pss_one (ps_ret (pe_tup (pa_cons pe_str (pa_cons (pe_meth (pv 0) T.cl_Reader T.me_Reader_number (ok_Reader_number T) (hr.mono (by decide)) T.b_Reader_number .nil (passes_call (takes_of rfl rfl rfl rfl) fun _ _ _ _ h => h) (pa_cons pe_int (pa_cons (pe_glob rfl T.m_MOST_PLUS T.r_MOST_PLUS) pa_nil))) pa_nil))))) pss_nil)
      (C8.pss_cut (ps_set (i := 1) sc_Reader_end.nd rfl (Or.inl rfl) (pe_ifExp (pt_val (pe_meth (pv 0) T.cl_Reader T.me_Reader_passed (ok_Reader_passed T) (hr.mono (by decide)) T.b_Reader_passed .nil pass0 (pa_cons pe_str (pa_cons (pe_glob rfl T.m_SIZE T.r_SIZE) pa_nil)))) (pe_glob rfl T.m_SIZE T.r_SIZE) (pe_meth0 (pv 0) T.cl_Reader T.me_Reader_plain_name (ok_Reader_plain_name T) (hr.mono (by decide)) T.b_Reader_plain_name .nil (passes_call (takes_of rfl rfl rfl rfl) fun _ _ _ _ h => h))))
      (pss_cons (ps_if (pt_val (pe_meth (pv 0) T.cl_Reader T.me_Reader_passed (ok_Reader_passed T) (hr.mono (by decide)) T.b_Reader_passed .nil pass0 (pa_cons pe_str (pa_cons pe_str pa_nil)))) (pss_one (ps_ret (pe_tup (pa_cons (pv 1) (pa_cons (pe_meth (pv 0) T.cl_Reader T.me_Reader_number (ok_Reader_number T) (hr.mono (by decide)) T.b_Reader_number .nil (passes_call (takes_of rfl rfl rfl rfl) fun _ _ _ _ h => h) (pa_cons pe_int (pa_cons (pe_glob rfl T.m_MOST_PLUS T.r_MOST_PLUS) pa_nil))) pa_nil))))) pss_nil)
      (pss_cons (ps_if (pt_val (pe_meth (pv 0) T.cl_Reader T.me_Reader_passed (ok_Reader_passed T) (hr.mono (by decide)) T.b_Reader_passed .nil pass0 (pa_cons pe_str (pa_cons pe_str pa_nil)))) (pss_one (ps_ret (pe_tup (pa_cons (pv 1) (pa_cons (pe_op op_sub pe_int (pe_meth (pv 0) T.cl_Reader T.me_Reader_number (ok_Reader_number T) (hr.mono (by decide)) T.b_Reader_number .nil (passes_call (takes_of rfl rfl rfl rfl) fun _ _ _ _ h => h) (pa_cons pe_int (pa_cons (pe_glob rfl T.m_MOST_PLUS T.r_MOST_PLUS) pa_nil)))) pa_nil))))) pss_nil)
      (pss_one (ps_ret (pe_tup (pa_cons (pv 1) (pa_cons pe_int pa_nil))))))))), ?_⟩
  obtain ⟨dx, ob⟩ := R.ob
  have hn := gl.ne
  obtain ⟨t, ht, t1, t2⟩ := get_hd hl hn
  obtain ⟨a, e1, e2⟩ := R.peek ht
  unfold endR at q
  refine ⟨_, rfl, r, _, dx, _, _, rfl, ob, T.cl_Reader, T.na_Reader_signs, rfl, _, rfl, r, _, dx, _, _, rfl, ob, T.cl_Reader, T.na_Reader_spot, rfl, S, _, _, _, rfl, rfl, SqL.of R.sg, atI_nat e1, a, _, _, _, rfl, rfl, SqT.of e2, rfl, rfl, _, rfl, ?_⟩
  rw [isNum_kind, t1]
  refine ite2 (fun c => ?_) (fun c => ?_)
  · rw [if_pos c] at q
    refine ⟨_, rfl, r, dx, _, rfl, ob, rfl, r, S, us, ts, i, m, l, 0, 99, rfl, R, hl, hn, ?_⟩
    cases hnum : numR 0 99 l with
    | error e =>
      rw [hnum] at q
      exact q
    | ok x =>
      rw [hnum] at q
      obtain ⟨x1, x2⟩ := numR_tail hnum
      intro ex H1 b1 R1
      refine ⟨by show 2 ≤ sizeLine; decide, fun p hp => ?_⟩
      have sp := same_upd (o := .tup [.str "", .int x.1]) hp
      have q : ∀ v H' i', But (Only1 r) H H' → Rdr H' r T.c_Reader S us ts i' m → ts.drop i' = x.2 → Gd x.2 → Dp K H' v (endD (Str.ofString "", x.1)) → Q v H' := q
      refine q _ _ (i + 1) (b1.trans (same_but sp)) (R1.same sp) (by rw [x1]; exact drop_tail hl) (by rw [x1]; exact gl.tail x2) ?_
      exact .tup (SqT.of upd_same) (.cons (.str _) (.cons (.int _) .nil))
  · rw [if_neg c] at q
    refine ⟨fun σ H' => ∃ nm, nameN l = .ok (nm, l.tail) ∧ hd l ≠ .fin ∧ But (Only1 r) H H' ∧ Rdr H' r T.c_Reader S us ts (i + 1) m ∧ σ = [some (.ref r), some (.str nm)], ?_, ?_⟩
    · unfold nameN at q ⊢
      refine ⟨_, rfl, r, dx, _, rfl, ob, rfl, r, S, us, ts, i, m, t, "word", "n", rfl, R, ht, strOk_of _, strOk_of _, fun H1 b1 R1 => ?_⟩
      rw [t1] at R1 ⊢
      refine ⟨_, rfl, ?_⟩
      by_cases c1 : tokIs (hd l) "word" "n" = true
      · rw [c1] at R1 ⊢
        refine iteT ?_
        exact ⟨_, if_pos rfl, (fun z => by rw [z] at c1; exact absurd (tok_fin c1) (by decide)), b1, R1, rfl⟩
      · have c1 : tokIs (hd l) "word" "n" = false := by simpa using c1
        rw [c1] at R1 q ⊢
        rw [if_neg (by decide)] at q
        refine iteF ?_
        obtain ⟨dx1, ob1⟩ := R1.ob
        refine ⟨_, rfl, r, dx1, _, rfl, ob1, rfl, r, S, us, ts, i, m, l, rfl, R1, hl, hn, gl.word, ?_⟩
        cases hnm : nameR l with
        | error e =>
          rw [hnm] at q
          exact BadE.mono q b1 R1.cell
        | ok x =>
          obtain ⟨x1, x2, _⟩ := nameR_tail hnm
          intro ex H2 b2 R2
          refine ⟨x.1, ?_, (fun z => by rw [z] at x2; cases x2), b1.trans b2, R2, rfl⟩
          rw [if_neg (by decide), ← x1]
    rintro σ H1 ⟨nm, hnm, nf, b1, R1, rfl⟩
    rw [hnm] at q
    have q : XEnds T.x_BadText r H E (fun x => ∀ v H' i', But (Only1 r) H H' → Rdr H' r T.c_Reader S us ts i' m → ts.drop i' = x.2 → Gd x.2 → Dp K H' v (endD x.1) → Q v H') (plusR nm l.tail) := q
    have hl1 := drop_tail hl
    have g1 := gl.tail nf
    obtain ⟨t', ht', t1', t2'⟩ := get_hd hl1 g1.ne
    obtain ⟨dx1, ob1⟩ := R1.ob
    unfold plusR at q
    refine ⟨_, rfl, r, dx1, _, rfl, ob1, rfl, r, S, us, ts, i + 1, m, t', "sign", "+", rfl, R1, ht', strOk_of _, strOk_of _, fun H2 b2 R2 => ?_⟩
    rw [t1'] at R2 ⊢
    refine ⟨_, rfl, ?_⟩
    have hl3 : ts.drop (i + 1 + 1) = l.tail.tail := drop_tail hl1
    by_cases c1 : tokIs (hd l.tail) "sign" "+" = true
    · rw [if_pos c1] at q
      rw [c1] at R2 ⊢
      refine iteT ?_
      obtain ⟨dx2, ob2⟩ := R2.ob
      have g3 := g1.tailk c1 (by decide)
      refine ⟨_, rfl, _, rfl, r, dx2, _, rfl, ob2, rfl, r, S, us, ts, i + 1 + 1, m, l.tail.tail, 1, 99, rfl, R2, hl3, g3.ne, ?_⟩
      cases hnum : numR 1 99 l.tail.tail with
      | error e =>
        rw [hnum] at q
        exact BadE.mono q (b1.trans b2) R2.cell
      | ok x =>
        rw [hnum] at q
        obtain ⟨x1, x2⟩ := numR_tail hnum
        intro ex H4 b4 R4
        refine ⟨by show 2 ≤ sizeLine; decide, fun p hp => ?_⟩
        have sp := same_upd (o := .tup [.str nm, .int x.1]) hp
        have q : ∀ v H' i', But (Only1 r) H H' → Rdr H' r T.c_Reader S us ts i' m → ts.drop i' = x.2 → Gd x.2 → Dp K H' v (endD (nm, x.1)) → Q v H' := q
        exact q _ _ (i + 1 + 1 + 1) ((b1.trans (b2.trans b4)).trans (same_but sp)) (R4.same sp) (by rw [x1]; exact drop_tail hl3) (by rw [x1]; exact g3.tail x2) (.tup (SqT.of upd_same) (.cons (.str _) (.cons (.int _) .nil)))
    · rw [if_neg c1] at q
      have c1 : tokIs (hd l.tail) "sign" "+" = false := by simpa using c1
      rw [c1] at R2 ⊢
      refine iteF ?_
      obtain ⟨dx2, ob2⟩ := R2.ob
      refine ⟨_, rfl, r, dx2, _, rfl, ob2, rfl, r, S, us, ts, i + 1, m, t', "sign", "-", rfl, R2, ht', strOk_of _, strOk_of _, fun H3 b3 R3 => ?_⟩
      rw [t1'] at R3 ⊢
      refine ⟨_, rfl, ?_⟩
      by_cases c2 : tokIs (hd l.tail) "sign" "-" = true
      · rw [if_pos c2] at q
        rw [c2] at R3 ⊢
        refine iteT ?_
        obtain ⟨dx3, ob3⟩ := R3.ob
        have g3 := g1.tailk c2 (by decide)
        refine ⟨_, rfl, _, rfl, r, dx3, _, rfl, ob3, rfl, r, S, us, ts, i + 1 + 1, m, l.tail.tail, 1, 99, rfl, R3, hl3, g3.ne, ?_⟩
        cases hnum : numR 1 99 l.tail.tail with
        | error e =>
          rw [hnum] at q
          exact BadE.mono q (b1.trans (b2.trans b3)) R3.cell
        | ok x =>
          rw [hnum] at q
          obtain ⟨x1, x2⟩ := numR_tail hnum
          intro ex H4 b4 R4
          refine ⟨_, _, rfl, rfl, by show 2 ≤ sizeLine; decide, fun p hp => ?_⟩
          have sp := same_upd (o := .tup [.str nm, .int (0 - x.1)]) hp
          have q : ∀ v H' i', But (Only1 r) H H' → Rdr H' r T.c_Reader S us ts i' m → ts.drop i' = x.2 → Gd x.2 → Dp K H' v (endD (nm, 0 - x.1)) → Q v H' := q
          exact q _ _ (i + 1 + 1 + 1) ((b1.trans (b2.trans (b3.trans b4))).trans (same_but sp)) (R4.same sp) (by rw [x1]; exact drop_tail hl3) (by rw [x1]; exact g3.tail x2) (.tup (SqT.of upd_same) (.cons (.str _) (.cons (.int _) .nil)))
      · rw [if_neg c2] at q
        have c2 : tokIs (hd l.tail) "sign" "-" = false := by simpa using c2
        rw [c2] at R3 ⊢
        refine iteF ?_
        refine ⟨_, rfl, by show 2 ≤ sizeLine; decide, fun p hp => ?_⟩
        have sp := same_upd (o := .tup [.str nm, .int 0]) hp
        have q : ∀ v H' i', But (Only1 r) H H' → Rdr H' r T.c_Reader S us ts i' m → ts.drop i' = l.tail → Gd l.tail → Dp K H' v (endD (nm, 0)) → Q v H' := q
        exact q _ _ _ ((b1.trans (b2.trans b3)).trans (same_but sp)) (R3.same sp) hl1 g1 (.tup (SqT.of upd_same) (.cons (.str _) (.cons (.int _) .nil)))
/-- what a body, a bracket promise; f: how much deeper one may go -/
def spRBody (K : PySem.W.Frag) (C CB : Addr) (f : Nat) : Sp := fun vs H Q E => ∃ (r S : Addr) (us : List V) (ts : TL) (i m deep : Nat) (l : TL), vs = [.ref r, .int (deep : Nat)] ∧ Rdr H r C S us ts i m ∧ ts.drop i = l ∧ Gd l ∧ deep ≤ 4 ∧ 5 ≤ deep + f ∧
  ∀ res, BodyP deep m l res → RdEnds K CB r C S us ts m H Q E planD res
def spRBracket (K : PySem.W.Frag) (C CB : Addr) (f : Nat) : Sp := fun vs H Q E => ∃ (r S : Addr) (us : List V) (ts : TL) (i m deep : Nat) (l : TL), vs = [.ref r, .int (deep : Nat)] ∧ Rdr H r C S us ts i m ∧ ts.drop i = l ∧ Gd l ∧ deep ≤ 4 ∧ 4 ≤ deep + f ∧
  ∀ res, BrackP deep m l res → RdEnds K CB r C S us ts m H Q E planD res
theorem wantR_ok {k z : Str} {l r : TL} (h : wantR k z l = .ok r) : r = l.tail ∧ tokIs (hd l) k z = true := by
  unfold wantR at h
  by_cases c : tokIs (hd l) k z = true
  · rw [if_pos c] at h
    exact ⟨(Except.ok.inj h).symm, c⟩
  · rw [if_neg c] at h
    cases h
theorem wantR_bad {k z : Str} {l e : TL} (h : wantR k z l = .error e) : e = l := by
  unfold wantR at h
  by_cases c : tokIs (hd l) k z = true
  · rw [if_pos c] at h
    cases h
  · rw [if_neg c] at h
    exact (Except.error.inj h).symm
theorem bracket_step (T : Txt K mg) (f n : Nat) (hn : 6 ≤ n) (G_Reader_body : FnOk P w K mg base (L2.CX P w) n T.a_Reader_body T.d_Reader_body ["self", "deep"] (spRBody K T.c_Reader T.x_BadText f)) :
    FnOk P w K mg base (L2.CX P w) (n + 1) T.a_Reader_bracket T.d_Reader_bracket ["self", "deep"] (spRBracket K T.c_Reader T.x_BadText f) := by
  refine T.F_Reader_bracket.okX sc_Reader_bracket (fun vs H Q E h => ?_) (fun cdv A outer s H vs Q E hr h => ?_)
  · obtain ⟨r, S, us, ts, i, m, deep, l, rfl, _⟩ := h
    rfl
  obtain ⟨r, S, us, ts, i, m, deep, l, rfl, R, hl, gl, hd4, hf, q⟩ := h
  refine ⟨_, (pss_cons (ps_if (pt_cmpR op_ge (pv 1) (pe_glob rfl T.m_MOST_DEEP T.r_MOST_DEEP) (nomark _)) (pss_one (ps_expr (pe_meth0 (pv 0) T.cl_Reader T.me_Reader_bad (ok_Reader_bad T) (hr.mono (by omega)) T.b_Reader_bad .nil (passes_call (takes_of rfl rfl rfl rfl) fun _ _ _ _ h => h)))) pss_nil)
      (pss_cons (ps_expr (pe_meth (pv 0) T.cl_Reader T.me_Reader_want (ok_Reader_want T) (hr.mono (by omega)) T.b_Reader_want .nil (passes_call (takes_of rfl rfl rfl rfl) fun _ _ _ _ h => h) (pa_cons pe_str (pa_cons pe_str pa_nil))))
      (pss_cons (ps_set (i := 2) sc_Reader_bracket.nd rfl (Or.inl rfl) (pe_meth (pv 0) T.cl_Reader T.me_Reader_body G_Reader_body (hr.mono (by omega)) T.b_Reader_body .nil (passes_call (takes_of rfl rfl rfl rfl) fun _ _ _ _ h => h) (pa_cons (pe_op op_add (pv 1) pe_int) pa_nil)))
      (pss_cons (ps_expr (pe_meth (pv 0) T.cl_Reader T.me_Reader_want (ok_Reader_want T) (hr.mono (by omega)) T.b_Reader_want .nil (passes_call (takes_of rfl rfl rfl rfl) fun _ _ _ _ h => h) (pa_cons pe_str (pa_cons pe_str pa_nil))))
      (pss_one (ps_ret (pv 2))))))), ?_⟩
  obtain ⟨dx, ob⟩ := R.ob
  refine ⟨_, rfl, _, _, rfl, rfl, _, rfl, ?_⟩
  have hn := gl.ne
  refine ite2 (fun c => ?_) (fun c => ?_)
  · have c : 4 ≤ deep := by have := of_decide_eq_true c; omega
    exact ⟨_, rfl, r, dx, _, rfl, ob, rfl, r, S, us, ts, i, m, l, rfl, R, hl, hn, q _ (.deep c)⟩
  have c : deep < 4 := by have : ¬ (4 : Int) ≤ (deep : Nat) := fun z => c (decide_eq_true z); omega
  refine ⟨_, rfl, r, dx, _, rfl, ob, rfl, r, S, us, ts, i, m, l, "sign", "(", rfl, R, hl, hn, strOk_of _, strOk_of _, ?_⟩
  cases hw : wantR "sign" "(" l with
  | error e => exact q _ (.open_ c hw)
  | ok l1 =>
  obtain ⟨rfl, tw⟩ := wantR_ok hw
  have g1 := gl.tailk tw (by decide)
  refine fun _ H1 b1 R1 => ?_
  obtain ⟨dx1, ob1⟩ := R1.ob
  refine ⟨_, rfl, r, dx1, _, rfl, ob1, rfl, _, rfl, _, _, rfl, rfl, r, S, us, ts, i + 1, m, deep + 1, l.tail, rfl, R1, drop_tail hl, g1, by omega, by omega, fun res hres => ?_⟩
  cases res with
  | error e => exact (BadE.mono (q _ (.body c hw hres)) b1 R1.cell : BadE _ _ _ _ _)
  | ok x =>
  obtain ⟨b, l2, m2⟩ := x
  intro v H2 i2 b2 R2 hl2 g2 m0 m12 dv
  obtain ⟨dx2, ob2⟩ := R2.ob
  refine ⟨_, rfl, r, dx2, _, rfl, ob2, rfl, r, S, us, ts, i2, m2, l2, "sign", ")", rfl, R2, hl2, g2.ne, strOk_of _, strOk_of _, ?_⟩
  cases hw2 : wantR "sign" ")" l2 with
  | error e => exact (BadE.mono (q _ (.close c hw hres hw2)) (b1.trans b2) R2.cell : BadE _ _ _ _ _)
  | ok l3 =>
  obtain ⟨rfl, tw2⟩ := wantR_ok hw2
  refine fun _ H3 b3 R3 => ?_
  exact ⟨_, rfl, q _ (.ok c hw hres hw2) _ _ (i2 + 1) (b1.trans (b2.trans b3)) R3 (drop_tail hl2) (g2.tailk tw2 (by decide)) m0 m12 (dp_but ob2 b3 dv)⟩
/-- a going, behind its word -/
def spRGoing (K : PySem.W.Frag) (C CB : Addr) (f : Nat) : Sp := fun vs H Q E => ∃ (r S : Addr) (us : List V) (ts : TL) (i m deep : Nat) (l : TL), vs = [.ref r, .int (deep : Nat)] ∧ Rdr H r C S us ts i m ∧ ts.drop i = l ∧ Gd l ∧ deep ≤ 4 ∧ 4 ≤ deep + f ∧
  ∀ res, GoingP deep m l res → RdEnds K CB r C S us ts m H Q E thingD res
theorem going_step (T : Txt K mg) (f n : Nat) (hn : 6 ≤ n) (G_Reader_bracket : FnOk P w K mg base (L2.CX P w) n T.a_Reader_bracket T.d_Reader_bracket ["self", "deep"] (spRBracket K T.c_Reader T.x_BadText f)) :
    FnOk P w K mg base (L2.CX P w) (n + 1) T.a_Reader_going T.d_Reader_going ["self", "deep"] (spRGoing K T.c_Reader T.x_BadText f) := by
  refine T.F_Reader_going.okX sc_Reader_going (fun vs H Q E h => ?_) (fun cdv A outer s H vs Q E hr h => ?_)
  · obtain ⟨r, S, us, ts, i, m, deep, l, rfl, _⟩ := h
    rfl
  obtain ⟨r, S, us, ts, i, m, deep, l, rfl, R, hl, gl, hd4, hf, q⟩ := h
  refine ⟨_, (pss_cons (ps_set (i := 2) sc_Reader_going.nd rfl (Or.inl rfl) (pe_meth0 (pv 0) T.cl_Reader T.me_Reader_plain_name (ok_Reader_plain_name T) (hr.mono (by omega)) T.b_Reader_plain_name .nil (passes_call (takes_of rfl rfl rfl rfl) fun _ _ _ _ h => h)))
      (pss_cons (ps_expr (pe_meth (pv 0) T.cl_Reader T.me_Reader_want (ok_Reader_want T) (hr.mono (by omega)) T.b_Reader_want .nil (passes_call (takes_of rfl rfl rfl rfl) fun _ _ _ _ h => h) (pa_cons pe_str (pa_cons pe_str pa_nil))))
      (pss_cons (ps_set (i := 3) sc_Reader_going.nd rfl (Or.inl rfl) (pe_meth0 (pv 0) T.cl_Reader T.me_Reader_end (ok_Reader_end T) (hr.mono (by omega)) T.b_Reader_end .nil (passes_call (takes_of rfl rfl rfl rfl) fun _ _ _ _ h => h)))
      (pss_cons (ps_expr (pe_meth (pv 0) T.cl_Reader T.me_Reader_want (ok_Reader_want T) (hr.mono (by omega)) T.b_Reader_want .nil (passes_call (takes_of rfl rfl rfl rfl) fun _ _ _ _ h => h) (pa_cons pe_str (pa_cons pe_str pa_nil))))
      (pss_cons (ps_set (i := 4) sc_Reader_going.nd rfl (Or.inl rfl) (pe_meth0 (pv 0) T.cl_Reader T.me_Reader_end (ok_Reader_end T) (hr.mono (by omega)) T.b_Reader_end .nil (passes_call (takes_of rfl rfl rfl rfl) fun _ _ _ _ h => h)))
      (pss_one (ps_ret (pe_tup (pa_cons pe_str (pa_cons (pv 2) (pa_cons (pv 3) (pa_cons (pv 4) (pa_cons (pe_meth (pv 0) T.cl_Reader T.me_Reader_bracket G_Reader_bracket (hr.mono (by omega)) T.b_Reader_bracket .nil (passes_call (takes_of rfl rfl rfl rfl) fun _ _ _ _ h => h) (pa_cons (pv 1) pa_nil)) pa_nil))))))))))))), ?_⟩
  obtain ⟨dx, ob⟩ := R.ob
  refine ⟨_, rfl, r, dx, _, rfl, ob, rfl, r, S, us, ts, i, m, l, rfl, R, hl, gl.ne, gl.word, ?_⟩
  cases h1 : nameR l with
  | error e => exact q _ (.head (e := e) (by simp only [goingH, h1]))
  | ok x =>
  obtain ⟨nm, l1⟩ := x
  obtain ⟨x1, x2, _⟩ := nameR_tail h1
  have x1 : l1 = l.tail := x1
  subst x1
  have g1 : Gd l.tail := gl.tail (fun z => by rw [z] at x2; cases x2)
  intro ex H1 b1 R1
  obtain ⟨dx1, ob1⟩ := R1.ob
  refine ⟨_, rfl, r, dx1, _, rfl, ob1, rfl, r, S, us, ts, i + 1, m, l.tail, "word", "from", rfl, R1, drop_tail hl, g1.ne, strOk_of _, strOk_of _, ?_⟩
  cases h2 : wantR "word" "from" l.tail with
  | error e => exact (BadE.mono (q _ (.head (e := e) (by simp only [goingH, h1, h2]))) b1 R1.cell : BadE _ _ _ _ _)
  | ok l2 =>
  obtain ⟨rfl, tw2⟩ := wantR_ok h2
  have g2 := g1.tailk tw2 (by decide)
  refine fun _ H2 b2 R2 => ?_
  obtain ⟨dx2, ob2⟩ := R2.ob
  refine ⟨_, rfl, r, dx2, _, rfl, ob2, rfl, r, S, us, ts, i + 1 + 1, m, l.tail.tail, rfl, R2, drop_tail (drop_tail hl), g2, ?_⟩
  cases h3 : endR l.tail.tail with
  | error e => exact (BadE.mono (q _ (.head (e := e) (by simp only [goingH, h1, h2, h3]))) (b1.trans b2) R2.cell : BadE _ _ _ _ _)
  | ok x =>
  obtain ⟨e1, l3⟩ := x
  intro v1 H3 i3 b3 R3 hl3 g3 d3
  obtain ⟨dx3, ob3⟩ := R3.ob
  refine ⟨_, rfl, r, dx3, _, rfl, ob3, rfl, r, S, us, ts, i3, m, l3, "word", "to", rfl, R3, hl3, g3.ne, strOk_of _, strOk_of _, ?_⟩
  have b03 := b1.trans (b2.trans b3)
  cases h4 : wantR "word" "to" l3 with
  | error e => exact (BadE.mono (q _ (.head (e := e) (by simp only [goingH, h1, h2, h3, h4]))) b03 R3.cell : BadE _ _ _ _ _)
  | ok l4 =>
  obtain ⟨rfl, tw4⟩ := wantR_ok h4
  have g4 := g3.tailk tw4 (by decide)
  refine fun _ H4 b4 R4 => ?_
  obtain ⟨dx4, ob4⟩ := R4.ob
  refine ⟨_, rfl, r, dx4, _, rfl, ob4, rfl, r, S, us, ts, i3 + 1, m, l3.tail, rfl, R4, drop_tail hl3, g4, ?_⟩
  cases h5 : endR l3.tail with
  | error e => exact (BadE.mono (q _ (.head (e := e) (by simp only [goingH, h1, h2, h3, h4, h5]))) (b03.trans b4) R4.cell : BadE _ _ _ _ _)
  | ok x =>
  obtain ⟨e2, l5⟩ := x
  intro v2 H5 i5 b5 R5 hl5 g5 d5
  have hgo : goingH l = .ok ((nm, e1, e2), l5) := by simp only [goingH, h1, h2, h3, h4, h5]
  obtain ⟨dx5, ob5⟩ := R5.ob
  refine ⟨_, rfl, _, rfl, _, rfl, _, rfl, r, dx5, _, rfl, ob5, rfl, _, rfl, r, S, us, ts, i5, m, deep, l5, rfl, R5, hl5, g5, hd4, hf, fun res hres => ?_⟩
  have b05 := b03.trans (b4.trans b5)
  cases res with
  | error e => exact (BadE.mono (q _ (.bad hgo hres)) b05 R5.cell : BadE _ _ _ _ _)
  | ok x =>
  obtain ⟨b, l6, m6⟩ := x
  intro v6 H6 i6 b6 R6 hl6 g6 m0 m12 d6
  refine ⟨by show 5 ≤ sizeLine; decide, fun p hp => ?_⟩
  have sp := same_upd (o := .tup [.str "for", .str nm, v1, v2, v6]) hp
  have b36 := b4.trans (b5.trans b6)
  refine q _ (.ok hgo hres) _ _ i6 ((b05.trans b6).trans (same_but sp)) (R6.same sp) hl6 g6 m0 m12 ?_
  show Dp K _ _ (thingD (.loop nm e1 e2 b))
  rw [thingD]
  exact .tup (SqT.of upd_same) (.cons (.str _) (.cons (.str _) (.cons ((dp_but ob3 b36 d3).mono sp) (.cons ((dp_but ob5 b6 d5).mono sp) (.cons (d6.mono sp) .nil)))))
/-- one body or the other, behind its word -/
def spRChoice (K : PySem.W.Frag) (C CB : Addr) (f : Nat) : Sp := fun vs H Q E => ∃ (r S : Addr) (us : List V) (ts : TL) (i m deep : Nat) (l : TL), vs = [.ref r, .int (deep : Nat)] ∧ Rdr H r C S us ts i m ∧ ts.drop i = l ∧ Gd l ∧ deep ≤ 4 ∧ 4 ≤ deep + f ∧
  ∀ res, ChoiceP deep m l res → RdEnds K CB r C S us ts m H Q E thingD res
theorem choice_step (T : Txt K mg) (f n : Nat) (hn : 6 ≤ n) (G_Reader_bracket : FnOk P w K mg base (L2.CX P w) n T.a_Reader_bracket T.d_Reader_bracket ["self", "deep"] (spRBracket K T.c_Reader T.x_BadText f)) :
    FnOk P w K mg base (L2.CX P w) (n + 1) T.a_Reader_choice T.d_Reader_choice ["self", "deep"] (spRChoice K T.c_Reader T.x_BadText f) := by
  refine T.F_Reader_choice.okX sc_Reader_choice (fun vs H Q E h => ?_) (fun cdv A outer s H vs Q E hr h => ?_)
  · obtain ⟨r, S, us, ts, i, m, deep, l, rfl, _⟩ := h
    rfl
  obtain ⟨r, S, us, ts, i, m, deep, l, rfl, R, hl, gl, hd4, hf, q⟩ := h
  refine ⟨_, (pss_cons (ps_set (i := 2) sc_Reader_choice.nd rfl (Or.inl rfl) (pe_meth0 (pv 0) T.cl_Reader T.me_Reader_end (ok_Reader_end T) (hr.mono (by omega)) T.b_Reader_end .nil (passes_call (takes_of rfl rfl rfl rfl) fun _ _ _ _ h => h)))
      (pss_cons (ps_expr (pe_meth (pv 0) T.cl_Reader T.me_Reader_want (ok_Reader_want T) (hr.mono (by omega)) T.b_Reader_want .nil (passes_call (takes_of rfl rfl rfl rfl) fun _ _ _ _ h => h) (pa_cons pe_str (pa_cons pe_str pa_nil))))
      (pss_cons (ps_set (i := 3) sc_Reader_choice.nd rfl (Or.inl rfl) (pe_meth0 (pv 0) T.cl_Reader T.me_Reader_end (ok_Reader_end T) (hr.mono (by omega)) T.b_Reader_end .nil (passes_call (takes_of rfl rfl rfl rfl) fun _ _ _ _ h => h)))
      (pss_cons (ps_set (i := 4) sc_Reader_choice.nd rfl (Or.inl rfl) (pe_meth (pv 0) T.cl_Reader T.me_Reader_bracket G_Reader_bracket (hr.mono (by omega)) T.b_Reader_bracket .nil (passes_call (takes_of rfl rfl rfl rfl) fun _ _ _ _ h => h) (pa_cons (pv 1) pa_nil)))
      (pss_cons (ps_set (i := 5) sc_Reader_choice.nd rfl (Or.inl rfl) (pe_ifExp (pt_val (pe_meth (pv 0) T.cl_Reader T.me_Reader_passed (ok_Reader_passed T) (hr.mono (by omega)) T.b_Reader_passed .nil pass0 (pa_cons pe_str (pa_cons pe_str pa_nil)))) (pe_meth (pv 0) T.cl_Reader T.me_Reader_bracket G_Reader_bracket (hr.mono (by omega)) T.b_Reader_bracket .nil (passes_call (takes_of rfl rfl rfl rfl) fun _ _ _ _ h => h) (pa_cons (pv 1) pa_nil)) (pe_tup pa_nil)))
      (pss_one (ps_ret (pe_tup (pa_cons pe_str (pa_cons (pv 2) (pa_cons (pv 3) (pa_cons (pv 4) (pa_cons (pv 5) pa_nil))))))))))))), ?_⟩
  obtain ⟨dx2, ob2⟩ := R.ob
  refine ⟨_, rfl, r, dx2, _, rfl, ob2, rfl, r, S, us, ts, i, m, l, rfl, R, hl, gl, ?_⟩
  cases h3 : endR l with
  | error e => exact q _ (.head (e := e) (by simp only [testH, h3]))
  | ok x =>
  obtain ⟨e1, l3⟩ := x
  intro v1 H3 i3 b3 R3 hl3 g3 d3
  obtain ⟨dx3, ob3⟩ := R3.ob
  refine ⟨_, rfl, r, dx3, _, rfl, ob3, rfl, r, S, us, ts, i3, m, l3, "sign", "<=", rfl, R3, hl3, g3.ne, strOk_of _, strOk_of _, ?_⟩
  cases h4 : wantR "sign" "<=" l3 with
  | error e => exact (BadE.mono (q _ (.head (e := e) (by simp only [testH, h3, h4]))) b3 R3.cell : BadE _ _ _ _ _)
  | ok l4 =>
  obtain ⟨rfl, tw4⟩ := wantR_ok h4
  have g4 := g3.tailk tw4 (by decide)
  refine fun _ H4 b4 R4 => ?_
  obtain ⟨dx4, ob4⟩ := R4.ob
  refine ⟨_, rfl, r, dx4, _, rfl, ob4, rfl, r, S, us, ts, i3 + 1, m, l3.tail, rfl, R4, drop_tail hl3, g4, ?_⟩
  cases h5 : endR l3.tail with
  | error e => exact (BadE.mono (q _ (.head (e := e) (by simp only [testH, h3, h4, h5]))) (b3.trans b4) R4.cell : BadE _ _ _ _ _)
  | ok x =>
  obtain ⟨e2, l5⟩ := x
  intro v2 H5 i5 b5 R5 hl5 g5 d5
  have hgo : testH l = .ok ((e1, e2), l5) := by simp only [testH, h3, h4, h5]
  obtain ⟨dx5, ob5⟩ := R5.ob
  refine ⟨_, rfl, r, dx5, _, rfl, ob5, rfl, _, rfl, r, S, us, ts, i5, m, deep, l5, rfl, R5, hl5, g5, hd4, hf, fun res hres => ?_⟩
  have b05 := b3.trans (b4.trans b5)
  cases res with
  | error e => exact (BadE.mono (q _ (.bad hgo hres)) b05 R5.cell : BadE _ _ _ _ _)
  | ok x =>
  obtain ⟨b, l6, m6⟩ := x
  intro v6 H6 i6 b6 R6 hl6 g6 m0 m12 d6
  obtain ⟨dx6, ob6⟩ := R6.ob
  have fin : ∀ (c : List Thing) (l7 : TL) (m7 i7 : Nat) (v7 : V) (H7 : Hp) (p : Addr), ChoiceP deep m l (.ok (.test e1 e2 b c, l7, m7)) → But (Only1 r) H6 H7 → Rdr H7 r T.c_Reader S us ts i7 m7 → ts.drop i7 = l7 → Gd l7 → m ≤ m7 → m7 ≤ 12 → Dp K H7 v7 (planD c) → H7 p = none →
      Q (.ref p) (upd H7 p (.tup [.str "if", v1, v2, v6, v7])) := fun c l7 m7 i7 v7 H7 p hc b7 R7 hl7 g7 m0 m12 d7 hp => by
    have sp := same_upd (o := .tup [.str "if", v1, v2, v6, v7]) hp
    have b36 := b4.trans (b5.trans (b6.trans b7))
    refine q _ hc _ _ i7 ((b3.trans b36).trans (same_but sp)) (R7.same sp) hl7 g7 m0 m12 ?_
    show Dp K _ _ (thingD (.test e1 e2 b c))
    rw [thingD]
    exact .tup (SqT.of upd_same) (.cons (.str _) (.cons ((dp_but ob3 b36 d3).mono sp) (.cons ((dp_but ob5 (b6.trans b7) d5).mono sp) (.cons ((dp_but ob6 b7 d6).mono sp) (.cons (d7.mono sp) .nil)))))
  obtain ⟨t7, ht7, t71, _⟩ := get_hd hl6 g6.ne
  refine ⟨_, rfl, r, dx6, _, rfl, ob6, rfl, r, S, us, ts, i6, m6, t7, "word", "else", rfl, R6, ht7, strOk_of _, strOk_of _, fun H7 b7 R7 => ?_⟩
  rw [t71] at R7 ⊢
  refine ⟨_, rfl, ?_⟩
  by_cases c1 : tokIs (hd l6) "word" "else" = true
  · rw [c1] at R7 ⊢
    refine iteT ?_
    have g7 := g6.tailk c1 (by decide)
    obtain ⟨dx7, ob7⟩ := R7.ob
    refine ⟨_, rfl, r, dx7, _, rfl, ob7, rfl, _, rfl, r, S, us, ts, i6 + 1, m6, deep, l6.tail, rfl, R7, drop_tail hl6, g7, hd4, hf, fun res hres2 => ?_⟩
    cases res with
    | error e => exact (BadE.mono (q _ (.elseBad hgo hres c1 hres2)) (b05.trans (b6.trans b7)) R7.cell : BadE _ _ _ _ _)
    | ok x =>
    obtain ⟨c, l8, m8⟩ := x
    intro v8 H8 i8 b8 R8 hl8 g8 m02 m122 d8
    refine ⟨_, rfl, _, rfl, _, rfl, _, rfl, by show 5 ≤ sizeLine; decide, fun p hp => ?_⟩
    exact fin c l8 m8 i8 _ _ p (.elseOk hgo hres c1 hres2) (b7.trans b8) R8 hl8 g8 (by omega) m122 d8 hp
  · have c1 : tokIs (hd l6) "word" "else" = false := by simpa using c1
    rw [c1] at R7 ⊢
    refine iteF ?_
    refine ⟨by show 0 ≤ sizeLine; decide, fun z hz => ?_⟩
    have sz := same_upd (o := .tup []) hz
    refine ⟨_, rfl, _, rfl, _, rfl, _, rfl, by show 5 ≤ sizeLine; decide, fun p hp => ?_⟩
    exact fin [] l6 m6 i6 _ _ p (.ok hgo hres c1) (b7.trans (same_but sz)) (R7.same sz) hl6 g6 m0 m12 (.tup (xs := []) (SqT.of upd_same) .nil) hp
def spRThing (K : PySem.W.Frag) (C CB : Addr) (f : Nat) : Sp := fun vs H Q E => ∃ (r S : Addr) (us : List V) (ts : TL) (i m deep : Nat) (l : TL), vs = [.ref r, .int (deep : Nat)] ∧ Rdr H r C S us ts i m ∧ ts.drop i = l ∧ Gd l ∧ deep ≤ 4 ∧ 4 ≤ deep + f ∧
  ∀ res, ThingP deep m l res → RdEnds K CB r C S us ts (m + 1) H Q E thingD res
theorem tc2 {a b : V} {σ : L2.St} {H : Hp} {Q : List V → Hp → Prop} (h : Q [a, b] H) : tCons (tC a) (tCons (tC b) tNil) σ H Q := h
theorem thing_step_r (T : Txt K mg) (f n : Nat) (hn : 6 ≤ n) (G_Reader_bracket : FnOk P w K mg base (L2.CX P w) n T.a_Reader_bracket T.d_Reader_bracket ["self", "deep"] (spRBracket K T.c_Reader T.x_BadText f))
    (G_Reader_going : FnOk P w K mg base (L2.CX P w) (n + 1) T.a_Reader_going T.d_Reader_going ["self", "deep"] (spRGoing K T.c_Reader T.x_BadText f))
    (G_Reader_choice : FnOk P w K mg base (L2.CX P w) (n + 1) T.a_Reader_choice T.d_Reader_choice ["self", "deep"] (spRChoice K T.c_Reader T.x_BadText f)) :
    FnOk P w K mg base (L2.CX P w) (n + 2) T.a_Reader_thing T.d_Reader_thing ["self", "deep"] (spRThing K T.c_Reader T.x_BadText f) := by
  refine T.F_Reader_thing.okX sc_Reader_thing (fun vs H Q E h => ?_) (fun cdv A outer s H vs Q E hr h => ?_)
  · obtain ⟨r, S, us, ts, i, m, deep, l, rfl, _⟩ := h
    rfl
  obtain ⟨r, S, us, ts, i, m, deep, l, rfl, R, hl, gl, hd4, hf, q⟩ := h
  refine ⟨_, (pss_cons (ps_if (pt_cmpR op_ge (pe_fld (pv 0) rfl) (pe_glob rfl T.m_MOST_THINGS T.r_MOST_THINGS) (nomark _)) (pss_one (ps_expr (pe_meth0 (pv 0) T.cl_Reader T.me_Reader_bad (ok_Reader_bad T) (hr.mono (by omega)) T.b_Reader_bad .nil (passes_call (takes_of rfl rfl rfl rfl) fun _ _ _ _ h => h)))) pss_nil)
      (pss_cons (ps_fldaug (pv 0) pe_int in_add)
      (pss_cons (ps_if (pt_val (pe_meth (pv 0) T.cl_Reader T.me_Reader_passed (ok_Reader_passed T) (hr.mono (by omega)) T.b_Reader_passed .nil pass0 (pa_cons pe_str (pa_cons pe_str pa_nil)))) (pss_one (ps_ret (pe_tup (pa_cons pe_str (pa_cons (pe_meth (pv 0) T.cl_Reader T.me_Reader_number (ok_Reader_number T) (hr.mono (by omega)) T.b_Reader_number .nil (passes_call (takes_of rfl rfl rfl rfl) fun _ _ _ _ h => h) (pa_cons pe_int (pa_cons (pe_glob rfl T.m_MOST_STEP T.r_MOST_STEP) pa_nil))) pa_nil))))) pss_nil)
      (pss_cons (ps_if (pt_val (pe_meth (pv 0) T.cl_Reader T.me_Reader_passed (ok_Reader_passed T) (hr.mono (by omega)) T.b_Reader_passed .nil pass0 (pa_cons pe_str (pa_cons pe_str pa_nil)))) (pss_one (ps_ret (pe_meth (pv 0) T.cl_Reader T.me_Reader_going G_Reader_going (hr.mono (by omega)) T.b_Reader_going .nil (passes_call (takes_of rfl rfl rfl rfl) fun _ _ _ _ h => h) (pa_cons (pv 1) pa_nil)))) pss_nil)
      (pss_cons (ps_if (pt_val (pe_meth (pv 0) T.cl_Reader T.me_Reader_passed (ok_Reader_passed T) (hr.mono (by omega)) T.b_Reader_passed .nil pass0 (pa_cons pe_str (pa_cons pe_str pa_nil)))) (pss_one (ps_ret (pe_meth (pv 0) T.cl_Reader T.me_Reader_choice G_Reader_choice (hr.mono (by omega)) T.b_Reader_choice .nil (passes_call (takes_of rfl rfl rfl rfl) fun _ _ _ _ h => h) (pa_cons (pv 1) pa_nil)))) pss_nil)
      (pss_cons (ps_if (pt_val (pe_meth (pv 0) T.cl_Reader T.me_Reader_passed (ok_Reader_passed T) (hr.mono (by omega)) T.b_Reader_passed .nil pass0 (pa_cons pe_str (pa_cons pe_str pa_nil)))) (pss_one (ps_ret (pe_tup (pa_cons pe_str (pa_cons (pe_meth (pv 0) T.cl_Reader T.me_Reader_bracket G_Reader_bracket (hr.mono (by omega)) T.b_Reader_bracket .nil (passes_call (takes_of rfl rfl rfl rfl) fun _ _ _ _ h => h) (pa_cons (pv 1) pa_nil)) pa_nil))))) pss_nil)
      (pss_cons (ps_if (pt_val (pe_meth (pv 0) T.cl_Reader T.me_Reader_passed (ok_Reader_passed T) (hr.mono (by omega)) T.b_Reader_passed .nil pass0 (pa_cons pe_str (pa_cons pe_str pa_nil)))) (pss_cons (ps_set (i := 2) sc_Reader_thing.nd rfl (Or.inl rfl) (pe_meth0 (pv 0) T.cl_Reader T.me_Reader_plain_name (ok_Reader_plain_name T) (hr.mono (by omega)) T.b_Reader_plain_name .nil (passes_call (takes_of rfl rfl rfl rfl) fun _ _ _ _ h => h)))
      (pss_cons (ps_expr (pe_meth (pv 0) T.cl_Reader T.me_Reader_want (ok_Reader_want T) (hr.mono (by omega)) T.b_Reader_want .nil (passes_call (takes_of rfl rfl rfl rfl) fun _ _ _ _ h => h) (pa_cons pe_str (pa_cons pe_str pa_nil))))
      (pss_one (ps_ret (pe_tup (pa_cons pe_str (pa_cons (pv 2) (pa_cons (pe_meth0 (pv 0) T.cl_Reader T.me_Reader_end (ok_Reader_end T) (hr.mono (by omega)) T.b_Reader_end .nil (passes_call (takes_of rfl rfl rfl rfl) fun _ _ _ _ h => h)) pa_nil)))))))) pss_nil)
      (pss_cons (ps_expr (pe_meth (pv 0) T.cl_Reader T.me_Reader_want (ok_Reader_want T) (hr.mono (by omega)) T.b_Reader_want .nil (passes_call (takes_of rfl rfl rfl rfl) fun _ _ _ _ h => h) (pa_cons pe_str (pa_cons pe_str pa_nil))))
      (pss_cons (ps_set (i := 3) sc_Reader_thing.nd rfl (Or.inl rfl) (pe_meth (pv 0) T.cl_Reader T.me_Reader_number (ok_Reader_number T) (hr.mono (by omega)) T.b_Reader_number .nil (passes_call (takes_of rfl rfl rfl rfl) fun _ _ _ _ h => h) (pa_cons pe_int (pa_cons (pe_glob rfl T.m_MOST_AGAIN T.r_MOST_AGAIN) pa_nil))))
      (pss_cons (ps_expr (pe_meth (pv 0) T.cl_Reader T.me_Reader_want (ok_Reader_want T) (hr.mono (by omega)) T.b_Reader_want .nil (passes_call (takes_of rfl rfl rfl rfl) fun _ _ _ _ h => h) (pa_cons pe_str (pa_cons pe_str pa_nil))))
      (pss_cons (ps_for (passes_of rfl) rfl (pi_tup (pe_glob rfl T.m_WAYS T.r_WAYS)) (pg_name (i := 4) sc_Reader_thing.nd rfl (Or.inl rfl)) (pss_one (ps_if (pt_val (pe_meth (pv 0) T.cl_Reader T.me_Reader_passed (ok_Reader_passed T) (hr.mono (by omega)) T.b_Reader_passed .nil pass0 (pa_cons pe_str (pa_cons (pv 4) pa_nil)))) (pss_one (ps_ret (pe_tup (pa_cons pe_str (pa_cons (pv 3) (pa_cons (pv 4) pa_nil)))))) pss_nil)))
      (pss_one (ps_expr (pe_meth0 (pv 0) T.cl_Reader T.me_Reader_bad (ok_Reader_bad T) (hr.mono (by omega)) T.b_Reader_bad .nil (passes_call (takes_of rfl rfl rfl rfl) fun _ _ _ _ h => h))))))))))))))), ?_⟩
  obtain ⟨dx, ob⟩ := R.ob
  obtain ⟨t, ht, t1, t2⟩ := get_hd hl gl.ne
  refine ⟨_, rfl, r, _, dx, _, _, rfl, ob, T.cl_Reader, T.na_Reader_many, rfl, _, _, rfl, rfl, _, rfl, ?_⟩
  refine ite2 (fun c => ?_) (fun c => ?_)
  · have c : 12 ≤ m := by have := of_decide_eq_true c; omega
    exact ⟨_, rfl, r, dx, _, rfl, ob, rfl, r, S, us, ts, i, m, l, rfl, R, hl, gl.ne, q _ (.full c)⟩
  have hm : m < 12 := by have : ¬ (12 : Int) ≤ (m : Nat) := fun z => c (decide_eq_true z); omega
  refine ⟨_, rfl, r, _, dx, _, _, rfl, ob, T.cl_Reader, T.na_Reader_many, rfl, _, _, rfl, rfl, dx, _, ob, by show 3 < 1000; decide, ?_⟩
  rw [flR_putm S i m (j := m + 1) (by omega)]
  have b0 : But (Only1 r) H (upd H r (.ins T.c_Reader dx (flR S i (m + 1)))) := (But.refl _ _).put rfl
  have R0 : Rdr (upd H r (.ins T.c_Reader dx (flR S i (m + 1)))) r T.c_Reader S us ts i (m + 1) := R.but b0 ⟨dx, upd_same⟩
  generalize (upd H r (.ins T.c_Reader dx (flR S i (m + 1)))) = H0 at b0 R0 ⊢
  -- passed("word", ..): no, and yes
  have no : ∀ {w1 : Str} {Hh : Hp} {Q' : VK} {E' : XK}, ¬ tokIs (hd l) "word" w1 = true → PyData.strOk w1 = true → But (Only1 r) H Hh → Rdr Hh r T.c_Reader S us ts i (m + 1) → (∀ H', But (Only1 r) H H' → Rdr H' r T.c_Reader S us ts i (m + 1) → Q' (.bl false) H') →
      spPassed K T.c_Reader [.ref r, .str "word", .str w1] Hh Q' E' := fun {w1} _ _ _ h1 h2 b R k => by
    have h1 : tokIs (hd l) "word" w1 = false := by simpa using h1
    refine ⟨r, S, us, ts, i, m + 1, _, "word", _, rfl, R, ht, strOk_of _, h2, fun H1 b1 R1 => ?_⟩
    rw [t1, h1] at R1 ⊢
    exact k H1 (b.trans b1) R1
  have yes : ∀ {w1 : Str} {Hh : Hp} {Q' : VK} {E' : XK}, tokIs (hd l) "word" w1 = true → PyData.strOk w1 = true → But (Only1 r) H Hh → Rdr Hh r T.c_Reader S us ts i (m + 1) → (∀ H', But (Only1 r) H H' → Rdr H' r T.c_Reader S us ts (i + 1) (m + 1) → Q' (.bl true) H') →
      spPassed K T.c_Reader [.ref r, .str "word", .str w1] Hh Q' E' := fun h1 h2 b R k => by
    refine ⟨r, S, us, ts, i, m + 1, _, "word", _, rfl, R, ht, strOk_of _, h2, fun H1 b1 R1 => ?_⟩
    rw [t1, h1] at R1 ⊢
    exact k H1 (b.trans b1) R1
  have hl1 := drop_tail hl
  obtain ⟨dx0, ob0⟩ := R0.ob
  by_cases w1 : tokIs (hd l) "word" "step" = true
  · obtain ⟨nw, lf⟩ := leaf_step w1
    have g1 := gl.tailk w1 (by decide)
    refine ⟨_, rfl, r, dx0, _, rfl, ob0, rfl, tc2 (yes w1 (strOk_of _) b0 R0 fun H1 b1 R1 => ?_)⟩
    refine ⟨_, rfl, iteT ?_⟩
    obtain ⟨dx1, ob1⟩ := R1.ob
    refine ⟨_, rfl, r, dx1, _, rfl, ob1, rfl, r, S, us, ts, i + 1, m + 1, l.tail, 0, 99, rfl, R1, hl1, g1.ne, ?_⟩
    cases hnum : numR 0 99 l.tail with
    | error e => exact (BadE.mono (q _ (.leafBad (e := e) hm nw (by rw [lf]; simp only [stepR, hnum]))) b1 R1.cell : BadE _ _ _ _ _)
    | ok x =>
      obtain ⟨x1, x2⟩ := numR_tail hnum
      intro ex H2 b2 R2
      refine ⟨by show 2 ≤ sizeLine; decide, fun p hp => ?_⟩
      have sp := same_upd (o := .tup [.str "step", .int x.1]) hp
      refine q _ (.leaf (t := .step x.1) (r := x.2) hm nw (by rw [lf]; simp only [stepR, hnum])) _ _ (i + 1 + 1) ((b1.trans b2).trans (same_but sp)) (R2.same sp) (by rw [x1]; exact drop_tail hl1) (by rw [x1]; exact g1.tail x2) (Nat.le_refl _) (by omega) ?_
      rw [thingD]
      exact .tup (SqT.of upd_same) (.cons (.str _) (.cons (.int _) .nil))
  refine ⟨_, rfl, r, dx0, _, rfl, ob0, rfl, tc2 (no w1 (strOk_of _) b0 R0 fun H1 b1 R1 => ?_)⟩
  refine ⟨_, rfl, iteF ?_⟩
  obtain ⟨dx1, ob1⟩ := R1.ob
  by_cases w2 : tokIs (hd l) "word" "for" = true
  · have g1 := gl.tailk w2 (by decide)
    refine ⟨_, rfl, r, dx1, _, rfl, ob1, rfl, tc2 (yes w2 (strOk_of _) b1 R1 fun H2 b2 R2 => ?_)⟩
    refine ⟨_, rfl, iteT ?_⟩
    obtain ⟨dx2, ob2⟩ := R2.ob
    refine ⟨_, rfl, r, dx2, _, rfl, ob2, rfl, _, rfl, r, S, us, ts, i + 1, m + 1, deep, l.tail, rfl, R2, hl1, g1, hd4, hf, fun res hres => ?_⟩
    cases res with
    | error e => exact (BadE.mono (q _ (.going hm w2 hres)) b2 R2.cell : BadE _ _ _ _ _)
    | ok x =>
      obtain ⟨tt, l3, m3⟩ := x
      intro v H3 i3 b3 R3 hl3 g3 m0 m12 dv
      exact q _ (.going hm w2 hres) _ _ i3 (b2.trans b3) R3 hl3 g3 m0 m12 dv
  refine ⟨_, rfl, r, dx1, _, rfl, ob1, rfl, tc2 (no w2 (strOk_of _) b1 R1 fun H2 b2 R2 => ?_)⟩
  refine ⟨_, rfl, iteF ?_⟩
  obtain ⟨dx2, ob2⟩ := R2.ob
  by_cases w3 : tokIs (hd l) "word" "if" = true
  · have g1 := gl.tailk w3 (by decide)
    refine ⟨_, rfl, r, dx2, _, rfl, ob2, rfl, tc2 (yes w3 (strOk_of _) b2 R2 fun H3 b3 R3 => ?_)⟩
    refine ⟨_, rfl, iteT ?_⟩
    obtain ⟨dx3, ob3⟩ := R3.ob
    refine ⟨_, rfl, r, dx3, _, rfl, ob3, rfl, _, rfl, r, S, us, ts, i + 1, m + 1, deep, l.tail, rfl, R3, hl1, g1, hd4, hf, fun res hres => ?_⟩
    cases res with
    | error e => exact (BadE.mono (q _ (.choice hm w3 hres)) b3 R3.cell : BadE _ _ _ _ _)
    | ok x =>
      obtain ⟨tt, l3, m3⟩ := x
      intro v H4 i3 b4 R4 hl3 g3 m0 m12 dv
      exact q _ (.choice hm w3 hres) _ _ i3 (b3.trans b4) R4 hl3 g3 m0 m12 dv
  refine ⟨_, rfl, r, dx2, _, rfl, ob2, rfl, tc2 (no w3 (strOk_of _) b2 R2 fun H3 b3 R3 => ?_)⟩
  refine ⟨_, rfl, iteF ?_⟩
  obtain ⟨dx3, ob3⟩ := R3.ob
  by_cases w4 : tokIs (hd l) "word" "double" = true
  · have g1 := gl.tailk w4 (by decide)
    refine ⟨_, rfl, r, dx3, _, rfl, ob3, rfl, tc2 (yes w4 (strOk_of _) b3 R3 fun H4 b4 R4 => ?_)⟩
    refine ⟨_, rfl, iteT ?_⟩
    obtain ⟨dx4, ob4⟩ := R4.ob
    refine ⟨_, rfl, r, dx4, _, rfl, ob4, rfl, _, rfl, r, S, us, ts, i + 1, m + 1, deep, l.tail, rfl, R4, hl1, g1, hd4, hf, fun res hres => ?_⟩
    cases res with
    | error e => exact (BadE.mono (q _ (.dblBad hm w4 hres)) b4 R4.cell : BadE _ _ _ _ _)
    | ok x =>
      obtain ⟨b, l3, m3⟩ := x
      intro v H5 i3 b5 R5 hl3 g3 m0 m12 dv
      refine ⟨by show 2 ≤ sizeLine; decide, fun p hp => ?_⟩
      have sp := same_upd (o := .tup [.str "double", v]) hp
      refine q _ (.dbl hm w4 hres) _ _ i3 ((b4.trans b5).trans (same_but sp)) (R5.same sp) hl3 g3 m0 m12 ?_
      show Dp K _ _ (thingD (.double b))
      rw [thingD]
      exact .tup (SqT.of upd_same) (.cons (.str _) (.cons (dv.mono sp) .nil))
  refine ⟨_, rfl, r, dx3, _, rfl, ob3, rfl, tc2 (no w4 (strOk_of _) b3 R3 fun H4 b4 R4 => ?_)⟩
  refine ⟨_, rfl, iteF ?_⟩
  obtain ⟨dx4, ob4⟩ := R4.ob
  have nw : ¬ nestW l := fun z => by
    rcases z with z | z | z
    · exact w2 z
    · exact w3 z
    · exact w4 z
  by_cases w5 : tokIs (hd l) "word" "call" = true
  · have g1 := gl.tailk w5 (by decide)
    have lf := (leaf_call w5).2
    refine ⟨_, rfl, r, dx4, _, rfl, ob4, rfl, tc2 (yes w5 (strOk_of _) b4 R4 fun H5 b5 R5 => ?_)⟩
    refine ⟨_, rfl, iteT ?_⟩
    obtain ⟨dx5, ob5⟩ := R5.ob
    refine ⟨_, rfl, r, dx5, _, rfl, ob5, rfl, r, S, us, ts, i + 1, m + 1, l.tail, rfl, R5, hl1, g1.ne, g1.word, ?_⟩
    cases h1 : nameR l.tail with
    | error e => exact (BadE.mono (q _ (.leafBad (e := e) hm nw (by rw [lf]; simp only [callR, h1]))) b5 R5.cell : BadE _ _ _ _ _)
    | ok x =>
    obtain ⟨nm, l1⟩ := x
    obtain ⟨x1, x2, _⟩ := nameR_tail h1
    have x1 : l1 = l.tail.tail := x1
    subst x1
    have g2 : Gd l.tail.tail := g1.tail (fun z => by rw [z] at x2; cases x2)
    intro ex H6 b6 R6
    obtain ⟨dx6, ob6⟩ := R6.ob
    have hl2 := drop_tail hl1
    refine ⟨_, rfl, r, dx6, _, rfl, ob6, rfl, r, S, us, ts, i + 1 + 1, m + 1, l.tail.tail, "word", "with", rfl, R6, hl2, g2.ne, strOk_of _, strOk_of _, ?_⟩
    cases h2 : wantR "word" "with" l.tail.tail with
    | error e => exact (BadE.mono (q _ (.leafBad (e := e) hm nw (by rw [lf]; simp only [callR, h1, h2]))) (b5.trans b6) R6.cell : BadE _ _ _ _ _)
    | ok l2 =>
    obtain ⟨rfl, tw2⟩ := wantR_ok h2
    have g3 := g2.tailk tw2 (by decide)
    refine fun _ H7 b7 R7 => ?_
    obtain ⟨dx7, ob7⟩ := R7.ob
    refine ⟨_, rfl, _, rfl, r, dx7, _, rfl, ob7, rfl, r, S, us, ts, i + 1 + 1 + 1, m + 1, l.tail.tail.tail, rfl, R7, drop_tail hl2, g3, ?_⟩
    have b57 := b5.trans (b6.trans b7)
    cases h3 : endR l.tail.tail.tail with
    | error e => exact (BadE.mono (q _ (.leafBad (e := e) hm nw (by rw [lf]; simp only [callR, h1, h2, h3]))) b57 R7.cell : BadE _ _ _ _ _)
    | ok x =>
    obtain ⟨e1, l4⟩ := x
    intro v H8 i8 b8 R8 hl8 g8 dv
    refine ⟨by show 3 ≤ sizeLine; decide, fun p hp => ?_⟩
    have sp := same_upd (o := .tup [.str "call", .str nm, v]) hp
    refine q _ (.leaf (t := .call nm e1) (r := l4) hm nw (by rw [lf]; simp only [callR, h1, h2, h3])) _ _ i8 ((b57.trans b8).trans (same_but sp)) (R8.same sp) hl8 g8 (Nat.le_refl _) (by omega) ?_
    rw [thingD]
    exact .tup (SqT.of upd_same) (.cons (.str _) (.cons (.str _) (.cons (dv.mono sp) .nil)))
  refine ⟨_, rfl, r, dx4, _, rfl, ob4, rfl, tc2 (no w5 (strOk_of _) b4 R4 fun H5 b5 R5 => ?_)⟩
  refine ⟨_, rfl, iteF ?_⟩
  obtain ⟨dx5, ob5⟩ := R5.ob
  refine ⟨_, rfl, r, dx5, _, rfl, ob5, rfl, r, S, us, ts, i, m + 1, l, "word", "again", rfl, R5, hl, gl.ne, strOk_of _, strOk_of _, ?_⟩
  cases h0 : wantR "word" "again" l with
  | error e =>
    have ee := wantR_bad h0
    subst ee
    have w6 : ¬ tokIs (hd e) "word" "again" = true := fun z => by
      unfold wantR at h0
      rw [if_pos z] at h0
      cases h0
    exact (BadE.mono (q _ (.leafBad (e := e) hm nw (by unfold leafR; rw [if_neg w1, if_neg w5, if_neg w6]))) b5 R5.cell : BadE _ _ _ _ _)
  | ok l1 =>
  obtain ⟨rfl, w6⟩ := wantR_ok h0
  have g1 := gl.tailk w6 (by decide)
  have lf := (leaf_again w6).2
  refine fun _ H6 b6 R6 => ?_
  obtain ⟨dx6, ob6⟩ := R6.ob
  refine ⟨_, rfl, r, dx6, _, rfl, ob6, rfl, r, S, us, ts, i + 1, m + 1, l.tail, 1, 9, rfl, R6, hl1, g1.ne, ?_⟩
  cases hnum : numR 1 9 l.tail with
  | error e => exact (BadE.mono (q _ (.leafBad (e := e) hm nw (by rw [lf]; simp only [againR, hnum]))) (b5.trans b6) R6.cell : BadE _ _ _ _ _)
  | ok x =>
  obtain ⟨nn, l2⟩ := x
  obtain ⟨x1, x2⟩ := numR_tail hnum
  have x1 : l2 = l.tail.tail := x1
  subst x1
  have g2 := g1.tail x2
  intro ex H7 b7 R7
  obtain ⟨dx7, ob7⟩ := R7.ob
  have hl2 := drop_tail hl1
  refine ⟨_, rfl, r, dx7, _, rfl, ob7, rfl, r, S, us, ts, i + 1 + 1, m + 1, l.tail.tail, "word", "on", rfl, R7, hl2, g2.ne, strOk_of _, strOk_of _, ?_⟩
  have b57 := b5.trans (b6.trans b7)
  cases h2 : wantR "word" "on" l.tail.tail with
  | error e => exact (BadE.mono (q _ (.leafBad (e := e) hm nw (by rw [lf]; simp only [againR, hnum, h2]))) b57 R7.cell : BadE _ _ _ _ _)
  | ok l3 =>
  obtain ⟨rfl, tw2⟩ := wantR_ok h2
  have g3 := g2.tailk tw2 (by decide)
  have hl3 := drop_tail hl2
  refine fun _ H8 b8 R8 => ?_
  obtain ⟨t8, ht8, t81, _⟩ := get_hd hl3 g3.ne
  have lfa : leafR l = wayR nn l.tail.tail.tail := by rw [lf]; simp only [againR, hnum, h2]
  generalize hl8 : l.tail.tail.tail = l8 at lfa hl3 g3 t81 ⊢
  have b58 := b57.trans b8
  refine ⟨T.p_WAYS, rfl, ⟨_, T.q_WAYS _⟩, for_it walk_tup (fun j σ H' => But (Only1 r) H H' ∧ Rdr H' r T.c_Reader S us ts (i + 1 + 1 + 1) (m + 1) ∧ (∀ k z, k < j → [Str.ofString "halves", Str.ofString "thirds", Str.ofString "less"][k]? = some z → tokIs (hd l8) "word" z = false) ∧ ∃ v2 v4, σ = [some (.ref r), some (.int (deep : Nat)), v2, some (.int nn), v4]) ?_ (fun j σ H' _ _ => T.q_WAYS _) ?_ ?_⟩
  · exact ⟨b58, R8, fun k z h => absurd h (Nat.not_lt_zero _), _, _, rfl⟩
  · rintro j y σ H9 H10 hj ⟨b9, R9, no9, v2, v4, rfl⟩ ⟨rfl, hy⟩
    obtain ⟨z, hz, rfl⟩ : ∃ z, [Str.ofString "halves", Str.ofString "thirds", Str.ofString "less"][j]? = some z ∧ y = .str z := by
      rw [List.getElem?_map] at hy
      cases hq : [Str.ofString "halves", Str.ofString "thirds", Str.ofString "less"][j]? with
      | none =>
        have hy : Option.map V.str ([Str.ofString "halves", Str.ofString "thirds", Str.ofString "less"][j]?) = some y := hy
        rw [hq] at hy
        cases hy
      | some z =>
        have hy : Option.map V.str ([Str.ofString "halves", Str.ofString "thirds", Str.ofString "less"][j]?) = some y := hy
        rw [hq] at hy
        exact ⟨z, rfl, (Option.some.inj hy).symm⟩
    obtain ⟨dx9, ob9⟩ := R9.ob
    have zok : PyData.strOk z = true := by
      have := List.mem_of_getElem? hz
      simp only [List.mem_cons, List.not_mem_nil, or_false] at this
      rcases this with rfl | rfl | rfl <;> exact strOk_of _
    refine ⟨_, rfl, r, dx9, _, rfl, ob9, rfl, _, rfl, r, S, us, ts, _, _, t8, "word", z, rfl, R9, ht8, strOk_of _, zok, fun H11 b11 R11 => ?_⟩
    rw [t81] at R11 ⊢
    refine ⟨_, rfl, ?_⟩
    by_cases c : tokIs (hd l8) "word" z = true
    · rw [c] at R11 ⊢
      refine iteT ?_
      refine ⟨_, rfl, _, rfl, by show 3 ≤ sizeLine; decide, fun p hp => ?_⟩
      have sp := same_upd (o := .tup [.str "again", .int nn, .str z]) hp
      have lw : wayR nn l8 = .ok (.again nn z, l8.tail) := by
        match j, hz with
        | 0, hz =>
          have : z = Str.ofString "halves" := (Option.some.inj hz).symm
          subst this
          unfold wayR
          rw [if_pos c]
        | 1, hz =>
          have : z = Str.ofString "thirds" := (Option.some.inj hz).symm
          subst this
          unfold wayR
          rw [if_neg (by rw [no9 0 _ (by decide) rfl]; decide), if_pos c]
        | 2, hz =>
          have : z = Str.ofString "less" := (Option.some.inj hz).symm
          subst this
          unfold wayR
          rw [if_neg (by rw [no9 0 _ (by decide) rfl]; decide), if_neg (by rw [no9 1 _ (by decide) rfl]; decide), if_pos c]
        | _ + 3, hz => cases hz
      refine q _ (.leaf (t := .again nn z) (r := l8.tail) hm nw (by rw [lfa, lw])) _ _ (i + 1 + 1 + 1 + 1) ((b9.trans b11).trans (same_but sp)) (R11.same sp) (drop_tail hl3) (g3.tailk c (by decide)) (Nat.le_refl _) (by omega) ?_
      rw [thingD]
      exact .tup (SqT.of upd_same) (.cons (.str _) (.cons (.int _) (.cons (.str _) .nil)))
    · have c : tokIs (hd l8) "word" z = false := by simpa using c
      rw [c] at R11 ⊢
      refine iteF ?_
      refine ⟨b9.trans b11, R11, fun k z' hk hz' => ?_, _, _, rfl⟩
      by_cases e : k = j
      · subst e
        rw [hz] at hz'
        rw [← Option.some.inj hz']
        exact c
      · exact no9 k z' (by omega) hz'
  · rintro σ H9 ⟨b9, R9, no9, v2, v4, rfl⟩
    obtain ⟨dx9, ob9⟩ := R9.ob
    have lw : wayR nn l8 = .error l8 := by
      unfold wayR
      rw [if_neg (by rw [no9 0 _ (by decide) rfl]; decide), if_neg (by rw [no9 1 _ (by decide) rfl]; decide), if_neg (by rw [no9 2 _ (by decide) rfl]; decide)]
    exact ⟨_, rfl, r, dx9, _, rfl, ob9, rfl, r, S, us, ts, _, _, l8, rfl, R9, hl3, g3.ne, BadE.mono (q _ (.leafBad (e := l8) hm nw (by rw [lfa, lw]))) b9 R9.cell⟩
theorem body_step_r (T : Txt K mg) (f n : Nat) (hn : 8 ≤ n) (G_Reader_thing : FnOk P w K mg base (L2.CX P w) n T.a_Reader_thing T.d_Reader_thing ["self", "deep"] (spRThing K T.c_Reader T.x_BadText f)) :
    FnOk P w K mg base (L2.CX P w) (n + 1) T.a_Reader_body T.d_Reader_body ["self", "deep"] (spRBody K T.c_Reader T.x_BadText (f + 1)) := by
  refine T.F_Reader_body.okX sc_Reader_body (fun vs H Q E h => ?_) (fun cdv A outer s H vs Q E hr h => ?_)
  · obtain ⟨r, S, us, ts, i, m, deep, l, rfl, _⟩ := h
    rfl
  obtain ⟨r, S, us, ts, i, m, deep, l, rfl, R, hl, gl, hd4, hf, q⟩ := h
  refine ⟨_, (pss_cons (ps_set (i := 2) sc_Reader_body.nd rfl (Or.inl rfl) (pe_lst (pa_cons (pe_meth (pv 0) T.cl_Reader T.me_Reader_thing G_Reader_thing (hr.mono (by omega)) T.b_Reader_thing .nil (passes_call (takes_of rfl rfl rfl rfl) fun _ _ _ _ h => h) (pa_cons (pv 1) pa_nil)) pa_nil)))
      (pss_cons (ps_while (passes_of rfl) (pt_val (pe_meth (pv 0) T.cl_Reader T.me_Reader_passed (ok_Reader_passed T) (hr.mono (by omega)) T.b_Reader_passed .nil pass0 (pa_cons pe_str (pa_cons pe_str pa_nil)))) (pss_one (ps_expr (pe_bm PySem.F.plainAttrs_list PySem.F.slot_list_append PySem.F.type_list_append mt_append (pv 2) (pa_cons (pe_meth (pv 0) T.cl_Reader T.me_Reader_thing G_Reader_thing (hr.mono (by omega)) T.b_Reader_thing .nil (passes_call (takes_of rfl rfl rfl rfl) fun _ _ _ _ h => h) (pa_cons (pv 1) pa_nil)) pa_nil)))))
      (pss_one (ps_ret (pe_callTy call_tuple_of (by rfl) T.z_tuple (by decide +kernel) (pa_cons (pv 2) pa_nil)))))), ?_⟩
  obtain ⟨dx, ob⟩ := R.ob
  refine ⟨_, rfl, r, dx, _, rfl, ob, rfl, _, rfl, r, S, us, ts, i, m, deep, l, rfl, R, hl, gl, hd4, by omega, fun res hres => ?_⟩
  cases res with
  | error e => exact q _ (.bad hres)
  | ok x =>
  obtain ⟨t0, l1, m1⟩ := x
  intro v H1 i1 b1 R1 hl1 g1 m0 m12 dv
  refine ⟨by show 1 ≤ sizeLine; decide, fun L hL => ?_⟩
  have hL0 : H L = none := b1.none R1.cell hL
  have sL := same_upd (o := .lst [v]) hL
  obtain ⟨dx1, ob1⟩ := R1.ob
  have nLr : L ≠ r := fun z => by rw [z, ob1] at hL; cases hL
  refine while_by (fun σ H' => But (Only1 r) H H' ∧ ∃ (done : List Thing) (vs : List V) (j m2 : Nat) (l2 : TL), H' L = some (.lst vs) ∧ DpAll K H' vs (thingsD done) ∧ Rdr H' r T.c_Reader S us ts j m2 ∧ ts.drop j = l2 ∧ Gd l2 ∧ m + done.length ≤ m2 ∧ m2 ≤ 12 ∧ (∀ res, TailP deep m2 l2 res → BodyP deep m l (prep done res)) ∧ σ = [some (.ref r), some (.int (deep : Nat)), some (.ref L)])
    (fun σ H' => match H' L with | some (.lst vs) => 20 - vs.length | _ => 0) ?_ ?_ ?_
  · refine ⟨b1.trans (same_but sL), [t0], [v], i1, m1, l1, upd_same, ?_, R1.same sL, hl1, g1, m0, m12, fun res => body_of hres, rfl⟩
    simp only [thingsD]
    exact .cons (dv.mono sL) .nil
  · rintro σ H2 ⟨b2, done, vs, j, m2, l2, eL, dvs, R2, hl2, g2, md, m212, ql, rfl⟩
    obtain ⟨dx2, ob2⟩ := R2.ob
    have lv := dvs.length
    rw [thingsD_eq, List.length_map] at lv
    obtain ⟨t7, ht7, t71, _⟩ := get_hd hl2 g2.ne
    refine ⟨_, rfl, r, dx2, _, rfl, ob2, rfl, r, S, us, ts, j, m2, t7, "sign", ";", rfl, R2, ht7, strOk_of _, strOk_of _, fun H3 b3 R3 => ?_⟩
    rw [t71] at R3 ⊢
    refine ⟨_, rfl, ?_⟩
    have eL3 : H3 L = some (.lst vs) := b3 _ _ eL nLr
    by_cases c : tokIs (hd l2) "sign" ";" = true
    · rw [c] at R3 ⊢
      refine iteT ?_
      have g3 := g2.tailk c (by decide)
      obtain ⟨dx3, ob3⟩ := R3.ob
      refine ⟨_, rfl, .inl ⟨rfl, _, SqL.of eL3⟩, _, rfl, r, dx3, _, rfl, ob3, rfl, _, rfl, r, S, us, ts, j + 1, m2, deep, l2.tail, rfl, R3, drop_tail hl2, g3, hd4, by omega, fun res hres2 => ?_⟩
      cases res with
      | error e => exact (BadE.mono (q _ (ql _ (.yes c (.bad hres2)))) (b2.trans b3) (fun c e => R3.cell c e) : BadE _ _ _ _ _)
      | ok x =>
      obtain ⟨t, l4, m4⟩ := x
      intro v4 H4 i4 b4 R4 hl4 g4 m04 m412 d4
      have eL4 : H4 L = some (.lst vs) := b4 _ _ eL3 nLr
      have bL : But (Only1 L) H4 (upd H4 L (.lst (vs ++ [v4]))) := (But.refl _ _).put rfl
      try unfold tNil
      refine ⟨L, _, _, rfl, rfl, eL4, small1000 (by omega), ?_⟩
      obtain ⟨dx4, ob4⟩ := R4.ob
      refine ⟨⟨(b2.trans (b3.trans b4)).put0 hL0, done ++ [t], vs ++ [v4], i4, m4, l4, upd_same, ?_, ?_, hl4, g4, ?_, m412, fun res hr => ?_, rfl⟩, ?_⟩
      · rw [thingsD_eq, List.map_append, ← thingsD_eq]
        have d34 := dps_skip eL4 bL (things_noL done) (dps_but ob3 b4 (dps_but ob2 b3 dvs))
        exact DpAll.snoc d34 (dp_skip eL4 bL (thing_noL t) d4)
      · refine ⟨⟨dx4, ?_⟩, ?_, ?_, R4.ok⟩
        · rw [upd_ne nLr.symm]
          exact ob4
        · have : S ≠ L := fun z => by
            have s0 := R.sg
            rw [z, hL0] at s0
            cases s0
          rw [upd_ne this]
          exact R4.sg
        · exact R4.tk.keep fun c xs e => (tup_put eL4) c xs e
      · rw [List.length_append, List.length_singleton]
        omega
      · rw [← prep_prep]
        exact ql _ (.yes c (body_of hres2 hr))
      · show (match (upd H4 L (HO.lst (vs ++ [v4]))) L with | some (.lst vs) => 20 - vs.length | _ => 0) < (match H2 L with | some (.lst vs) => 20 - vs.length | _ => 0)
        rw [upd_same, eL]
        show 20 - (vs ++ [v4]).length < 20 - vs.length
        rw [List.length_append]
        show 20 - (vs.length + 1) < 20 - vs.length
        omega
    · have c : tokIs (hd l2) "sign" ";" = false := by simpa using c
      rw [c] at R3 ⊢
      refine iteF ?_
      refine ⟨_, rfl, L, vs, rfl, .inl ⟨SqL.of eL3, fun p hp => ?_⟩⟩
      have sp := same_upd (o := .tup vs) hp
      have qb := ql _ (.no c)
      have qb : BodyP deep m l (.ok (done ++ [], l2, m2)) := qb
      rw [List.append_nil] at qb
      refine q _ qb _ _ j ((b2.trans b3).trans (same_but sp)) (R3.same sp) hl2 g2 (by omega) m212 ?_
      exact .tup (SqT.of upd_same) ((dps_but ob2 b3 dvs).mono sp)
  · rintro σ H Q Q' hQ ⟨v1, e1, v2, e2, y, e3, e4, e5, r', S', us', ts', i', m', t', k', z', g1, g2, g3, g4, g5, h⟩
    refine ⟨v1, e1, v2, e2, y, e3, e4, e5, r', S', us', ts', i', m', t', k', z', g1, g2, g3, g4, g5, fun H' b R => ?_⟩
    obtain ⟨c, ec, qc⟩ := h H' b R
    exact ⟨c, ec, hQ _ _ qc⟩
theorem rbody_all (T : Txt K mg) : ∀ f : Nat, FnOk P w K mg base (L2.CX P w) (4 * f + 6) T.a_Reader_body T.d_Reader_body ["self", "deep"] (spRBody K T.c_Reader T.x_BadText f)
  | 0 => by
    have no : ∀ vs H Q E, ¬ spRBody K T.c_Reader T.x_BadText 0 vs H Q E := fun vs H Q E h => by
      obtain ⟨r, S, us, ts, i, m, deep, l, _, _, _, _, h1, h2, _⟩ := h
      omega
    exact ⟨fun vs H Q E h => absurd h (no vs H Q E), fun A outer s H args us vs Q E _ _ _ _ h => absurd h (no vs H Q E)⟩
  | f + 1 => by
    have G1 := bracket_step T f (4 * f + 6) (by omega) (rbody_all T f)
    have G2 := going_step T f (4 * f + 7) (by omega) G1
    have G3 := choice_step T f (4 * f + 7) (by omega) G1
    have G4 := thing_step_r T f (4 * f + 7) (by omega) G1 G2 G3
    exact body_step_r T f (4 * f + 9) (by omega) G4
theorem ok_Reader_body (T : Txt K mg) : FnOk P w K mg base (L2.CX P w) 26 T.a_Reader_body T.d_Reader_body ["self", "deep"] (spRBody K T.c_Reader T.x_BadText 5) := rbody_all T 5
def spRunOf : Sp := fun vs H Q _ => ∃ (x z : Str) (at_ : Nat), vs = [.str x, .int (at_ : Nat), .str z] ∧ at_ ≤ x.length ∧ x.length ≤ 1000000 ∧ Q (.int ((at_ + runFrom z.cps.toList (x.cps.toList.drop at_) : Nat) : Int)) H
theorem ok_run_of (T : Txt K mg) : FnOk P w K mg base CX0 1 T.a_run_of T.d_run_of ["text", "at", "some"] spRunOf := by
  refine T.F_run_of.ok sc_run_of (fun vs H Q E h => ?_) (fun cdv A outer s H vs Q E hr h => ?_)
  · obtain ⟨x, z, i, rfl, _⟩ := h
    rfl
  obtain ⟨x, z, i0, rfl, hi0, hx, k⟩ := h
  refine ⟨_, (pss_cons (ps_while PassesOwn.never (PW.pt (pw_and (pt_cmpR op_lt (pv 1) (pe_callB call_len_str (by rfl) T.z_len (by decide +kernel) (pa_cons (pv 0) pa_nil)) (nomark _)) (pw_and1 (pt_cmpR op_in_sign (pe_ix ix_str (pv 0) (pv 1) (fun _ _ => rfl)) (pv 2) (by rfl))))) (pss_one (ps_aug (i := 1) sc_run_of.nd rfl (Or.inl rfl) pe_int ip_add)))
      (pss_one (ps_ret (pv 1)))), ?_⟩
  have hxl : x.length ≤ sizeLine := Nat.le_trans hx (by decide)
  refine while_by (fun σ H' => H' = H ∧ ∃ i : Nat, σ = [some (.str x), some (.int (i : Nat)), some (.str z)] ∧ i ≤ x.length ∧ i + runFrom z.cps.toList (x.cps.toList.drop i) = i0 + runFrom z.cps.toList (x.cps.toList.drop i0)) (fun σ _ => match σ with | _ :: some (.int m) :: _ => x.length - m.toNat | _ => 0) ⟨rfl, i0, rfl, hi0, rfl⟩ ?_ ?_
  · rintro σ H1 ⟨rfl, i, rfl, hi, e⟩
    refine ⟨_, rfl, _, rfl, x, rfl, hxl, _, _, rfl, rfl, _, rfl, ?_⟩
    have xl : x.cps.toList.length = x.length := Array.length_toList
    refine ite2 (fun c => ?_) (fun c => ?_)
    · have c' : i < x.length := by
        have := of_decide_eq_true c
        omega
      have hg : x.cps.toList[i]? = some x.cps.toList[i] := List.getElem?_eq_getElem (by omega)
      have dr : x.cps.toList.drop i = x.cps.toList[i] :: x.cps.toList.drop (i + 1) := List.drop_eq_getElem_cons (by omega)
      refine ⟨_, rfl, _, rfl, x, _, _, rfl, rfl, hxl, atI_nat hg, _, rfl, _, _, rfl, rfl, _, rfl, ?_⟩
      refine ite2 (fun m => ?_) (fun m => ?_)
      · have m' : x.cps.toList[i] ∈ z.cps.toList := of_decide_eq_true m
        rw [dr, runFrom_pos m'] at e
        refine ⟨_, rfl, _, _, rfl, rfl, ⟨rfl, i + 1, rfl, by omega, by rw [← e]; omega⟩, ?_⟩
        show x.length - ((i : Int) + 1).toNat < x.length - ((i : Nat) : Int).toNat
        omega
      · have m' : ¬ x.cps.toList[i] ∈ z.cps.toList := fun q => m (decide_eq_true q)
        rw [dr, runFrom_neg m', Nat.add_zero] at e
        rw [← e] at k
        exact ⟨_, rfl, k⟩
    · have c' : ¬ i < x.length := fun q => c (decide_eq_true (by omega))
      have e0 : x.cps.toList.drop i = [] := List.drop_of_length_le (by omega)
      rw [e0] at e
      have e : i + 0 = _ := e
      rw [← e, Nat.add_zero] at k
      exact iteF ⟨_, rfl, k⟩
  · rintro σ H Q Q' hQ ⟨v1, e1, v2, e2, y, e3, e4, n1, n2, e5, e6, b, e7, q⟩
    refine ⟨v1, e1, v2, e2, y, e3, e4, n1, n2, e5, e6, b, e7, ?_⟩
    by_cases hb : b = true
    · rw [if_pos hb] at q ⊢
      obtain ⟨w1, f1, w2, f2, y2, f3, f4, f5, f6, f7, f8, w3, f9, g1, g2, g3, g4, b2, g5, q⟩ := q
      exact ⟨w1, f1, w2, f2, y2, f3, f4, f5, f6, f7, f8, w3, f9, g1, g2, g3, g4, b2, g5, hQ _ _ q⟩
    · rw [if_neg hb] at q ⊢
      exact hQ _ _ q
def SgEnds (C : Addr) (H : Hp) (Q : VK) (E : XK) (i : Nat) : Option (Tok × Nat) → Prop
  | some (tok, L) => ∀ p, H p = none → Q (.ref p) (upd H p (.tup [.str (kindT tok), tokV tok, .int ((i + L : Nat) : Int)]))
  | none => BadE C NoM H E i
def spSignAt (C : Addr) : Sp := fun vs H Q E => ∃ (x : Str) (i : Nat), vs = [.str x, .int (i : Nat)] ∧ i < x.length ∧ x.length ≤ 1000000 ∧ SgEnds C H Q E i (signAt (x.cps.toList.drop i))
theorem ok_sign_at (T : Txt K mg) : FnOk P w K mg base (L2.CX P w) 4 T.a_sign_at T.d_sign_at ["text", "at"] (spSignAt T.x_BadText) := by
  refine T.F_sign_at.okX sc_sign_at (fun vs H Q E h => ?_) (fun cdv A outer s H vs Q E hr h => ?_)
  · obtain ⟨x, i, rfl, _⟩ := h
    rfl
  obtain ⟨x, i, rfl, hi, hx, k⟩ := h
  refine ⟨_, (pss_cons (ps_if (pt_cmpR op_in_sign (pe_ix ix_str (pv 0) (pv 1) (fun _ _ => rfl)) (pe_glob rfl T.m_DIGITS T.r_DIGITS) (by rfl)) (pss_cons (ps_set (i := 2) sc_sign_at.nd rfl (Or.inl rfl) (pe_call (ok_run_of T) (hr.mono (by decide)) (by rfl) T.g_run_of T.F_run_of.kp T.b_run_of .nil pass0 (pa_cons (pv 0) (pa_cons (pv 1) (pa_cons (pe_glob rfl T.m_DIGITS T.r_DIGITS) pa_nil)))))
      (pss_cons (ps_if (PW.pt (pw_or (pt_cmpR op_gt (pe_op op_sub (pv 2) (pv 1)) pe_int (nomark _)) (pw_or1 (PW.pt (pw_and (pt_cmpR op_eq (pe_ix ix_str (pv 0) (pv 1) (fun _ _ => rfl)) pe_str (nomark _)) (pw_and1 (pt_cmpR op_gt (pe_op op_sub (pv 2) (pv 1)) pe_int (nomark _)))))))) (pss_one (ps_raise rfl (takes_of rfl rfl rfl rfl) (pmk_oex T.ox_BadText T.in_BadText T.ti_BadText (ok_BadText_init T) (hr.mono (by omega)) T.b_BadText_init .nil pass0 (by rfl) T.gx_BadText (pa_cons (pv 1) pa_nil)))) pss_nil)
      (pss_one (ps_ret (pe_tup (pa_cons pe_str (pa_cons (pe_callTy call_int_str (by rfl) T.z_int (by decide +kernel) (pa_cons (pe_slice sl_str (pv 0) (po_some (pv 1)) (po_some (pv 2))) pa_nil)) (pa_cons (pv 2) pa_nil)))))))) pss_nil)
      (pss_cons (ps_if (pt_cmpR op_in_sign (pe_ix ix_str (pv 0) (pv 1) (fun _ _ => rfl)) (pe_glob rfl T.m_LETTERS T.r_LETTERS) (by rfl)) (pss_cons (ps_set (i := 2) sc_sign_at.nd rfl (Or.inl rfl) (pe_call (ok_run_of T) (hr.mono (by decide)) (by rfl) T.g_run_of T.F_run_of.kp T.b_run_of .nil pass0 (pa_cons (pv 0) (pa_cons (pv 1) (pa_cons (pe_glob rfl T.m_LETTERS T.r_LETTERS) pa_nil)))))
      (pss_cons (ps_if (pt_cmpR op_gt (pe_op op_sub (pv 2) (pv 1)) (pe_glob rfl T.m_LONGEST T.r_LONGEST) (nomark _)) (pss_one (ps_raise rfl (takes_of rfl rfl rfl rfl) (pmk_oex T.ox_BadText T.in_BadText T.ti_BadText (ok_BadText_init T) (hr.mono (by omega)) T.b_BadText_init .nil pass0 (by rfl) T.gx_BadText (pa_cons (pv 1) pa_nil)))) pss_nil)
      (pss_one (ps_ret (pe_tup (pa_cons pe_str (pa_cons (pe_slice sl_str (pv 0) (po_some (pv 1)) (po_some (pv 2))) (pa_cons (pv 2) pa_nil)))))))) pss_nil)
      (pss_cons (ps_if (pt_cmpR op_eq (pe_slice sl_str (pv 0) (po_some (pv 1)) (po_some (pe_op op_add (pv 1) pe_int))) pe_str (nomark _)) (pss_one (ps_ret (pe_tup (pa_cons pe_str (pa_cons pe_str (pa_cons (pe_op op_add (pv 1) pe_int) pa_nil)))))) pss_nil)
      (pss_cons (ps_if (pt_cmpR op_notIn_sign (pe_ix ix_str (pv 0) (pv 1) (fun _ _ => rfl)) pe_str (by rfl)) (pss_one (ps_raise rfl (takes_of rfl rfl rfl rfl) (pmk_oex T.ox_BadText T.in_BadText T.ti_BadText (ok_BadText_init T) (hr.mono (by omega)) T.b_BadText_init .nil pass0 (by rfl) T.gx_BadText (pa_cons (pv 1) pa_nil)))) pss_nil)
      (pss_one (ps_ret (pe_tup (pa_cons pe_str (pa_cons (pe_ix ix_str (pv 0) (pv 1) (fun _ _ => rfl)) (pa_cons (pe_op op_add (pv 1) pe_int) pa_nil)))))))))), ?_⟩
  have hxl : x.length ≤ sizeLine := Nat.le_trans hx (by decide)
  have xl : x.cps.toList.length = x.length := Array.length_toList
  have hg : x.cps.toList[i]? = some x.cps.toList[i] := List.getElem?_eq_getElem (by omega)
  have dr : x.cps.toList.drop i = x.cps.toList[i] :: x.cps.toList.drop (i + 1) := List.drop_eq_getElem_cons (by omega)
  have dl : (x.cps.toList.drop i).length = x.length - i := by rw [List.length_drop, xl]
  generalize hc : x.cps.toList[i] = c at hg dr
  rw [signAt_eq dr] at k
  unfold signOf at k
  have no : BadE T.x_BadText NoM H E i → ∀ (b : Addr), H b = none → ∀ dd H1, upd H b (exo b T.x_BadText none) dd = none → dd ≠ b → H1 b = some (exo b T.x_BadText (some dd)) → H1 dd = some (exd dd (atF i)) → (∀ c, c ≠ b → c ≠ dd → H1 c = upd H b (exo b T.x_BadText none) c) →
      (V.non = V.non) ∧ ∃ d fs, H1 b = some (exo b T.x_BadText (some d)) ∧ H1 d = some (exd d fs) ∧ H d = none ∧ E (.ref T.x_BadText) (some d) (upd (del H1 b) d (.xd fs)) := fun kk b hb dd H1 hdd ne q1 q2 fr => by
    obtain ⟨h1, s1⟩ := made_sameX (fs := atF i) hb ne hdd fr
    exact ⟨rfl, dd, _, q1, q2, h1, kk dd _ (same_but s1) h1 upd_same⟩
  refine ⟨_, rfl, _, rfl, x, _, _, rfl, rfl, hxl, atI_nat hg, c, _, rfl, rfl, _, rfl, ?_⟩
  refine ite2 (fun c1 => ?_) (fun c1 => ?_)
  · have c1' : c ∈ digitsS.cps.toList := of_decide_eq_true c1
    rw [if_pos c1'] at k
    have rl := runFrom_le digitsS.cps.toList (x.cps.toList.drop i)
    have ra := fun {a} => runFrom_all (S := digitsS.cps.toList) (l := x.cps.toList.drop i) (c := a)
    have rp : 1 ≤ runFrom digitsS.cps.toList (x.cps.toList.drop i) := by
      rw [dr, runFrom_pos c1']
      omega
    refine ⟨_, rfl, _, rfl, x, digitsS, i, rfl, by omega, hx, ?_⟩
    generalize hR : runFrom digitsS.cps.toList (x.cps.toList.drop i) = L at k rl ra rp
    by_cases hbad : L > 2 ∨ (c = 48 ∧ L > 1)
    · rw [if_pos hbad] at k
      refine ⟨_, rfl, _, rfl, _, _, rfl, rfl, _, _, rfl, rfl, _, rfl, ?_⟩
      by_cases b1 : ((i + L : Nat) : Int) - (i : Nat) > 2
      · rw [decide_eq_true b1]
        exact iteT (iteT ⟨_, rfl, by show 1 ≤ 1000; decide, fun b hb => ⟨b, _, rfl, upd_same, no k b hb⟩⟩)
      · rw [decide_eq_false b1]
        refine iteF ?_
        have hb2 : c = 48 ∧ L > 1 := hbad.resolve_left (by omega)
        refine ⟨_, rfl, _, rfl, x, _, _, rfl, rfl, hxl, atI_nat hg, rfl, _, rfl, ?_⟩
        have hc0 : decide (V.str (⟨#[c]⟩ : Str) = V.str (Str.ofString "0")) = true := by
          rw [hb2.1]
          decide
        rw [hc0]
        refine iteT ?_
        refine ⟨_, rfl, _, rfl, _, _, rfl, rfl, _, _, rfl, rfl, _, rfl, ?_⟩
        rw [decide_eq_true (show ((i + L : Nat) : Int) - (i : Nat) > 1 by have := hb2.2; omega)]
        exact iteT ⟨_, rfl, by show 1 ≤ 1000; decide, fun b hb => ⟨b, _, rfl, upd_same, no k b hb⟩⟩
    rw [if_neg hbad] at k
    have b1 : ¬ ((i + L : Nat) : Int) - (i : Nat) > 2 := by omega
    have sl640 : (⟨((x.cps.toList.drop i).take L).toArray⟩ : Str).length ≤ 640 := by
      show ((x.cps.toList.drop i).take L).toArray.size ≤ 640
      rw [List.size_toArray, List.length_take]
      omega
    refine ⟨_, rfl, _, rfl, _, _, rfl, rfl, _, _, rfl, rfl, _, rfl, ?_⟩
    rw [decide_eq_false b1]
    refine iteF ?_
    have hsl : cutS x (some (i : Nat)) (some ((i + L : Nat) : Int)) = ⟨((x.cps.toList.drop i).take L).toArray⟩ := by
      rw [cutS_nat x i (i + L) (by omega) (by omega), Nat.add_sub_cancel_left]
    have it : PySem.intText? (⟨((x.cps.toList.drop i).take L).toArray⟩ : Str) = some ((decVal ((x.cps.toList.drop i).take L) : Nat) : Int) := by
      have hl : ((x.cps.toList.drop i).take L).length = L := by rw [List.length_take]; omega
      match hm : (x.cps.toList.drop i).take L, hl with
      | [a], _ => exact dec_one a (ra (by rw [hm]; simp))
      | [a, b], _ => exact dec_two a (ra (by rw [hm]; simp)) b (ra (by rw [hm]; simp))
      | [], e => simp at e; omega
      | a :: b :: d :: r, e => simp at e; omega
    refine ⟨_, rfl, _, rfl, x, _, _, rfl, rfl, hxl, atI_nat hg, rfl, _, rfl, ?_⟩
    refine ite2 (fun c2 => ?_) (fun _ => iteF ?_)
    · have c48 : c = 48 := by
        have h := V.str.inj (of_decide_eq_true c2)
        have h2 := congrArg (fun z : Str => z.cps.toList) h
        have h3 : [c] = [48] := h2
        simpa using h3
      have b2 : ¬ ((i + L : Nat) : Int) - (i : Nat) > 1 := by
        intro z
        exact hbad (.inr ⟨c48, by omega⟩)
      refine ⟨_, rfl, _, rfl, _, _, rfl, rfl, _, _, rfl, rfl, _, rfl, ?_⟩
      rw [decide_eq_false b2]
      refine iteF ?_
      refine ⟨_, rfl, _, rfl, _, rfl, _, rfl, _, rfl, x, rfl, hxl, ?_⟩
      rw [hsl]
      exact ⟨_, _, rfl, it, sl640, _, rfl, by show 3 ≤ sizeLine; decide, fun p hp => k p hp⟩
    · refine ⟨_, rfl, _, rfl, _, rfl, _, rfl, _, rfl, x, rfl, hxl, ?_⟩
      rw [hsl]
      exact ⟨_, _, rfl, it, sl640, _, rfl, by show 3 ≤ sizeLine; decide, fun p hp => k p hp⟩
  · have c1' : ¬ c ∈ digitsS.cps.toList := fun z => c1 (decide_eq_true z)
    rw [if_neg c1'] at k
    refine ⟨_, rfl, _, rfl, x, _, _, rfl, rfl, hxl, atI_nat hg, c, _, rfl, rfl, _, rfl, ?_⟩
    refine ite2 (fun c2 => ?_) (fun c2 => ?_)
    · have c2' : c ∈ lettersS'.cps.toList := of_decide_eq_true c2
      rw [if_pos c2'] at k
      have rl := runFrom_le lettersS'.cps.toList (x.cps.toList.drop i)
      refine ⟨_, rfl, _, rfl, x, lettersS', i, rfl, by omega, hx, ?_⟩
      generalize hR : runFrom lettersS'.cps.toList (x.cps.toList.drop i) = L at k rl
      by_cases hbad : L > 8
      · rw [if_pos hbad] at k
        refine ⟨_, rfl, _, rfl, _, _, rfl, rfl, _, _, rfl, rfl, _, rfl, ?_⟩
        rw [decide_eq_true (show ((i + L : Nat) : Int) - (i : Nat) > 8 by omega)]
        exact iteT ⟨_, rfl, by show 1 ≤ 1000; decide, fun b hb => ⟨b, _, rfl, upd_same, no k b hb⟩⟩
      rw [if_neg hbad] at k
      have b1 : ¬ ((i + L : Nat) : Int) - (i : Nat) > 8 := by omega
      refine ⟨_, rfl, _, rfl, _, _, rfl, rfl, _, _, rfl, rfl, _, rfl, ?_⟩
      rw [decide_eq_false b1]
      refine iteF ?_
      have hsl : cutS x (some (i : Nat)) (some ((i + L : Nat) : Int)) = ⟨((x.cps.toList.drop i).take L).toArray⟩ := by
        rw [cutS_nat x i (i + L) (by omega) (by omega), Nat.add_sub_cancel_left]
      refine ⟨_, rfl, _, rfl, _, rfl, _, rfl, _, rfl, x, rfl, hxl, ?_⟩
      rw [hsl]
      exact ⟨_, rfl, by show 3 ≤ sizeLine; decide, fun p hp => k p hp⟩
    · have c2' : ¬ c ∈ lettersS'.cps.toList := fun z => c2 (decide_eq_true z)
      rw [if_neg c2'] at k
      refine ⟨_, rfl, _, rfl, _, rfl, _, rfl, _, _, rfl, rfl, _, rfl, x, rfl, hxl, rfl, _, rfl, ?_⟩
      have e2 : cutS x (some (i : Nat)) (some ((i : Int) + 2)) = ⟨((x.cps.toList.drop i).take 2).toArray⟩ := cutS_two x i hi
      rw [e2]
      refine ite2 (fun c3 => ?_) (fun c3 => ?_)
      · have c3' : (x.cps.toList.drop i).take 2 = [60, 61] := (le_two _).mp (V.str.inj (of_decide_eq_true c3))
        rw [if_pos c3'] at k
        exact ⟨_, rfl, _, _, rfl, rfl, by show 3 ≤ sizeLine; decide, fun p hp => k p hp⟩
      · have c3' : ¬ (x.cps.toList.drop i).take 2 = [60, 61] := fun z => c3 (decide_eq_true (congrArg V.str ((le_two _).mpr z)))
        rw [if_neg c3'] at k
        refine ⟨_, rfl, _, rfl, x, _, _, rfl, rfl, hxl, atI_nat hg, c, _, rfl, rfl, _, rfl, ?_⟩
        by_cases c4 : c ∈ marksS.cps.toList
        · rw [if_pos c4] at k
          rw [show (!decide (c ∈ (Str.ofString "();+-").cps.toList)) = false from congrArg Bool.not (decide_eq_true c4)]
          refine iteF ?_
          exact ⟨_, rfl, _, rfl, x, _, _, rfl, rfl, hxl, atI_nat hg, _, rfl, _, _, rfl, rfl, by show 3 ≤ sizeLine; decide, fun p hp => k p hp⟩
        · rw [if_neg c4] at k
          rw [show (!decide (c ∈ (Str.ofString "();+-").cps.toList)) = true from congrArg Bool.not (decide_eq_false c4)]
          exact iteT ⟨_, rfl, by show 1 ≤ 1000; decide, fun b hb => ⟨b, _, rfl, upd_same, no k b hb⟩⟩
def LexEnds (C : Addr) (H : Hp) (Q : VK) (E : XK) : Except Nat (List (Tok × Nat)) → Prop
  | .ok toks => ∀ (p : Addr) (us : List V) (H' : Hp), Same H H' → H p = none → H' p = some (.lst us) → ToksAt H' us toks → Q (.ref p) H'
  | .error n => BadE C NoM H E n
def spSignsOf (C : Addr) : Sp := fun vs H Q E => ∃ (x : Str), vs = [.str x] ∧ x.length ≤ 1000000 ∧ LexEnds C H Q E (lexT x)
def joinE (done : List (Tok × Nat)) : Except Nat (List (Tok × Nat)) → Except Nat (List (Tok × Nat))
  | .ok more => .ok (done ++ more)
  | .error e => .error e
theorem joinE_nil (r : Except Nat (List (Tok × Nat))) : joinE [] r = r := by
  cases r <;> rfl
theorem sp_set : (Str.ofString " ").cps.toList = [32] := by decide
theorem ok_signs_of (T : Txt K mg) : FnOk P w K mg base (L2.CX P w) 5 T.a_signs_of T.d_signs_of ["text"] (spSignsOf T.x_BadText) := by
  refine T.F_signs_of.okX sc_signs_of (fun vs H Q E h => ?_) (fun cdv A outer s H vs Q E hr h => ?_)
  · obtain ⟨x, rfl, _⟩ := h
    rfl
  obtain ⟨x, rfl, hx, k⟩ := h
  refine ⟨_, (pss_cons (ps_set (i := 1) sc_signs_of.nd rfl (Or.inl rfl) (pe_lst pa_nil))
      (pss_cons (ps_set (i := 2) sc_signs_of.nd rfl (Or.inl rfl) (pe_call (ok_run_of T) (hr.mono (by decide)) (by rfl) T.g_run_of T.F_run_of.kp T.b_run_of .nil pass0 (pa_cons (pv 0) (pa_cons pe_int (pa_cons pe_str pa_nil)))))
      (pss_cons (ps_while (passes_of rfl) (pt_cmpR op_lt (pv 2) (pe_callB call_len_str (by rfl) T.z_len (by decide +kernel) (pa_cons (pv 0) pa_nil)) (nomark _)) (pss_cons (ps_asg (pe_call (ok_sign_at T) (hr.mono (by decide)) (by rfl) T.g_sign_at T.F_sign_at.kp T.b_sign_at .nil (passes_call (takes_of rfl rfl rfl rfl) fun _ _ _ _ h => h) (pa_cons (pv 0) (pa_cons (pv 2) pa_nil))) (pg_tup rfl (pgs_cons (pg_name (i := 3) sc_signs_of.nd rfl (Or.inl rfl)) (pgs_cons (pg_name (i := 4) sc_signs_of.nd rfl (Or.inl rfl)) (pgs_cons (pg_name (i := 5) sc_signs_of.nd rfl (Or.inl rfl)) pgs_nil)))))
      (pss_cons (ps_expr (pe_bm PySem.F.plainAttrs_list PySem.F.slot_list_append PySem.F.type_list_append mt_append (pv 1) (pa_cons (pe_tup (pa_cons (pv 3) (pa_cons (pv 4) (pa_cons (pv 2) pa_nil)))) pa_nil)))
      (pss_one (ps_set (i := 2) sc_signs_of.nd rfl (Or.inl rfl) (pe_call (ok_run_of T) (hr.mono (by decide)) (by rfl) T.g_run_of T.F_run_of.kp T.b_run_of .nil pass0 (pa_cons (pv 0) (pa_cons (pv 5) (pa_cons pe_str pa_nil)))))))))
      (pss_cons (ps_expr (pe_bm PySem.F.plainAttrs_list PySem.F.slot_list_append PySem.F.type_list_append mt_append (pv 1) (pa_cons (pe_tup (pa_cons pe_str (pa_cons pe_str (pa_cons (pe_callB call_len_str (by rfl) T.z_len (by decide +kernel) (pa_cons (pv 0) pa_nil)) pa_nil)))) pa_nil)))
      (pss_one (ps_ret (pv 1))))))), ?_⟩
  have hxl : x.length ≤ sizeLine := Nat.le_trans hx (by decide)
  have xl : x.cps.toList.length = x.length := Array.length_toList
  refine ⟨by show 0 ≤ sizeLine; decide, fun L hL => ?_⟩
  refine ⟨_, rfl, x, " ", 0, rfl, Nat.zero_le _, by omega, ?_⟩
  rw [List.drop_zero, sp_set, Nat.zero_add]
  have r0 := runFrom_le [32] x.cps.toList
  refine while_by (fun σ H' => Same H H' ∧ ∃ (i f : Nat) (vs : List V) (done : List (Tok × Nat)) (v3 v4 v5 : Option V), H' L = some (.lst vs) ∧ ToksAt H' vs done ∧ done.length ≤ i ∧ i ≤ x.length ∧ x.length - i < f ∧ lexT x = joinE done (lexE f i (x.cps.toList.drop i)) ∧ σ = [some (.str x), some (.ref L), some (.int (i : Nat)), v3, v4, v5])
    (fun σ _ => match σ with | _ :: _ :: some (.int m) :: _ => x.length - m.toNat | _ => 0) ⟨same_upd hL, _, x.length + 1, [], [], _, _, _, upd_same, .nil, Nat.zero_le _, by omega, by omega, by rw [joinE_nil]; rfl, rfl⟩ ?_ ?_
  · rintro σ H1 ⟨s1, i, f1, vs, done, v3, v4, v5, eL, ta, dl, hi, hf, hle, rfl⟩
    refine ⟨_, rfl, _, rfl, x, rfl, hxl, _, _, rfl, rfl, _, rfl, ?_⟩
    have ld : vs.length = done.length := Paired.length ta
    refine ite2 (fun c => ?_) (fun c => ?_)
    · have c' : i < x.length := by
        have := of_decide_eq_true c
        omega
      have dr : x.cps.toList.drop i = x.cps.toList[i] :: x.cps.toList.drop (i + 1) := List.drop_eq_getElem_cons (by omega)
      obtain ⟨f2, rfl⟩ : ∃ f2, f1 = f2 + 1 := ⟨f1 - 1, by omega⟩
      rw [dr] at hle
      unfold lexE at hle
      rw [← dr] at hle
      refine ⟨_, rfl, _, rfl, x, i, rfl, c', by omega, ?_⟩
      cases hsg : signAt (x.cps.toList.drop i) with
      | none =>
        rw [hsg] at hle
        have hle : lexT x = .error i := hle
        rw [hle] at k
        exact fun dd H' b h e => k dd H' (same_but (s1.trans (But.same b))) (s1.free h) e
      | some tl =>
        obtain ⟨tok, n⟩ := tl
        rw [hsg] at hle
        simp only at hle
        obtain ⟨n1, n2⟩ := signAt_pos hsg
        rw [List.length_drop, xl] at n2
        rw [List.drop_drop, List.drop_drop] at hle
        have rb := runFrom_le [32] (x.cps.toList.drop (i + n))
        rw [List.length_drop, xl] at rb
        have hle2 : lexT x = joinE (done ++ [(tok, i)]) (lexE f2 (i + n + runFrom [32] (x.cps.toList.drop (i + n))) (x.cps.toList.drop (i + n + runFrom [32] (x.cps.toList.drop (i + n))))) := by
          rw [hle]
          cases lexE f2 (i + n + runFrom [32] (x.cps.toList.drop (i + n))) (x.cps.toList.drop (i + n + runFrom [32] (x.cps.toList.drop (i + n)))) with
          | error e => rfl
          | ok more =>
            show Except.ok (done ++ ((tok, i) :: more)) = Except.ok ((done ++ [(tok, i)]) ++ more)
            rw [List.append_assoc]
            rfl
        intro p hp
        have sp := same_upd (o := .tup [.str (kindT tok), tokV tok, .int ((i + n : Nat) : Int)]) hp
        refine ⟨p, _, rfl, SqT.of upd_same, rfl, _, _, rfl, _, _, rfl, _, _, rfl, rfl, ?_⟩
        have eL1 := sp _ _ eL
        refine ⟨_, rfl, .inl ⟨rfl, _, SqL.of eL1⟩, _, rfl, _, rfl, _, rfl, by show 3 ≤ sizeLine; decide, fun q hq => ?_⟩
        have sq := same_upd (o := .tup [.str (kindT tok), tokV tok, .int (i : Nat)]) hq
        have eL2 := sq _ _ eL1
        refine ⟨L, _, _, rfl, rfl, eL2, (Nat.lt_of_le_of_lt (m := 1000000) (by omega) (by decide)), ?_⟩
        refine ⟨_, rfl, _, rfl, x, " ", i + n, rfl, by omega, by omega, ?_⟩
        rw [sp_set]
        have s2 := (s1.trans sp).trans sq
        have nqL : q ≠ L := fun z => by rw [z, eL1] at hq; cases hq
        refine ⟨⟨same_put s2 hL, i + n + runFrom [32] (x.cps.toList.drop (i + n)), f2, vs ++ [.ref q], done ++ [(tok, i)], some (.str (kindT tok)), some (tokV tok), some (.int ((i + n : Nat) : Int)), upd_same, ?_, ?_, by omega, by omega, hle2, rfl⟩, ?_⟩
        · have tk := tup_put (o := .lst (vs ++ [.ref q])) eL2
          refine toks_snoc (ToksAt.keep (ta.keep fun b xs e => sq _ _ (sp _ _ e)) tk) ⟨q, rfl, ?_⟩
          rw [upd_ne nqL]
          exact upd_same
        · rw [List.length_append, List.length_singleton]
          omega
        · show x.length - ((i + n + runFrom [32] (x.cps.toList.drop (i + n)) : Nat) : Int).toNat < x.length - ((i : Nat) : Int).toNat
          omega
    · have c' : ¬ i < x.length := fun q => c (decide_eq_true (by omega))
      have e0 : x.cps.toList.drop i = [] := List.drop_of_length_le (by omega)
      obtain ⟨f2, rfl⟩ : ∃ f2, f1 = f2 + 1 := ⟨f1 - 1, by omega⟩
      rw [e0] at hle
      have hle : lexT x = .ok (done ++ [(Tok.fin, i)]) := hle
      rw [hle] at k
      have hix : i = x.length := by omega
      refine ⟨_, rfl, .inl ⟨rfl, _, SqL.of eL⟩, _, rfl, x, rfl, hxl, by show 3 ≤ sizeLine; decide, fun q hq => ?_⟩
      have sq := same_upd (o := .tup [.str "end", .str "", .int (x.length : Nat)]) hq
      have eL1 := sq _ _ eL
      have nqL : q ≠ L := fun z => by rw [z, eL] at hq; cases hq
      refine ⟨L, _, _, rfl, rfl, eL1, (Nat.lt_of_le_of_lt (m := 1000000) (by omega) (by decide)), ?_⟩
      refine ⟨_, rfl, k L (vs ++ [.ref q]) _ (same_put (s1.trans sq) hL) hL upd_same ?_⟩
      have tk := tup_put (o := .lst (vs ++ [.ref q])) eL1
      refine toks_snoc (ToksAt.keep (ta.keep fun b xs e => sq _ _ e) tk) ⟨q, rfl, ?_⟩
      rw [upd_ne nqL, hix]
      exact upd_same
  · rintro σ H Q Q' hQ ⟨v1, e1, v2, e2, y, e3, e4, n1, n2, e5, e6, b, e7, q⟩
    exact ⟨v1, e1, v2, e2, y, e3, e4, n1, n2, e5, e6, b, e7, hQ _ _ q⟩
def InitEnds (CB r C : Addr) (H : Hp) (Q : VK) (E : XK) : Except Nat TL → Prop
  | .ok toks => ∀ H' S us, But (Only1 r) H H' → Rdr H' r C S us toks 0 0 → Q .non H'
  | .error n => BadE CB (Only1 r) H E n
def spRInit (K : PySem.W.Frag) (C CB : Addr) : Sp := fun vs H Q E => ∃ (r dx : Addr) (x : Str), vs = [.ref r, .str x] ∧ H r = some (.ins C dx []) ∧ x.length ≤ 1000000 ∧ InitEnds CB r C H Q E (lexT x)
theorem ok_Reader_init (T : Txt K mg) : FnOk P w K mg base (L2.CX P w) 6 T.a_Reader_init T.d_Reader_init ["self", "text"] (spRInit K T.c_Reader T.x_BadText) := by
  refine T.F_Reader_init.okX sc_Reader_init (fun vs H Q E h => ?_) (fun cdv A outer s H vs Q E hr h => ?_)
  · obtain ⟨r, dx, x, rfl, _⟩ := h
    rfl
  obtain ⟨r, dx, x, rfl, ob, hx, q⟩ := h
  refine ⟨_, (pss_cons (ps_fld (pv 0) (pe_call (ok_signs_of T) (hr.mono (by decide)) (by rfl) T.g_signs_of T.F_signs_of.kp T.b_signs_of .nil (passes_call (takes_of rfl rfl rfl rfl) fun _ _ _ _ h => h) (pa_cons (pv 1) pa_nil)) rfl)
      (pss_cons (ps_fld (pv 0) pe_int rfl)
      (pss_one (ps_fld (pv 0) pe_int rfl)))), ?_⟩
  refine ⟨_, rfl, x, rfl, hx, ?_⟩
  cases hlex : lexT x with
  | error n =>
    rw [hlex] at q
    exact fun dd H' b h e => q dd H' (fun c o ec _ => b _ _ ec (fun z => z.elim)) h e
  | ok toks =>
  rw [hlex] at q
  intro p us H1 s1 hp ep tk
  have ob1 := s1 _ _ ob
  refine ⟨_, rfl, r, _, dx, _, rfl, ob1, T.cl_Reader, T.na_Reader_signs, by show 0 < 1000; decide, ?_⟩
  refine ⟨_, rfl, r, _, dx, _, rfl, upd_same, T.cl_Reader, T.na_Reader_spot, by show 1 < 1000; decide, ?_⟩
  refine ⟨_, rfl, r, _, dx, _, rfl, upd_same, T.cl_Reader, T.na_Reader_many, by show 2 < 1000; decide, ?_⟩
  have npr : p ≠ r := fun z => by rw [z, ob1] at ep; cases ep
  refine q _ p us ((((same_but (M := Only1 r) s1).put rfl).put rfl).put rfl) ⟨⟨dx, upd_same⟩, ?_, ?_, fun t ht => good_ok ((lexT_good hlex).1 t ht)⟩
  · rw [upd_ne npr, upd_ne npr, upd_ne npr]
    exact ep
  · refine tk.keep fun c xs e => ?_
    have ncr : c ≠ r := fun z => by rw [z, ob1] at e; cases e
    rw [upd_ne ncr, upd_ne ncr, upd_ne ncr]
    exact e
def PlanEnds (K : PySem.W.Frag) (CB : Addr) (H : Hp) (Q : VK) (E : XK) : Except Nat (List Thing) → Prop
  | .ok b => ∀ v H', Same H H' → Dp K H' v (planD b) → Q v H'
  | .error n => BadE CB NoM H E n
/-- the plan that a text writes -/
def spReadPlan (K : PySem.W.Frag) (CB : Addr) : Sp := fun vs H Q E => ∃ (x : Str), vs = [.str x] ∧ x.length ≤ 1000000 ∧ ∀ res, PlanP x res → PlanEnds K CB H Q E res
theorem ok_read_plan (T : Txt K mg) : FnOk P w K mg base (L2.CX P w) 27 T.a_read_plan T.d_read_plan ["text"] (spReadPlan K T.x_BadText) := by
  refine T.F_read_plan.okX sc_read_plan (fun vs H Q E h => ?_) (fun cdv A outer s H vs Q E hr h => ?_)
  · obtain ⟨x, rfl, _⟩ := h
    rfl
  obtain ⟨x, rfl, hx, q⟩ := h
  refine ⟨_, (pss_cons (ps_set (i := 1) sc_read_plan.nd rfl (Or.inl rfl) (pe_make T.mk_Reader (ok_Reader_init T) (hr.mono (by decide)) (by rfl) T.gc_Reader T.b_Reader_init .nil (passes_call (takes_of rfl rfl rfl rfl) fun _ _ _ _ h => h) (pa_cons (pv 0) pa_nil)))
      (pss_cons (ps_set (i := 2) sc_read_plan.nd rfl (Or.inl rfl) (pe_meth (pv 1) T.cl_Reader T.me_Reader_body (ok_Reader_body T) (hr.mono (by decide)) T.b_Reader_body .nil (passes_call (takes_of rfl rfl rfl rfl) fun _ _ _ _ h => h) (pa_cons pe_int pa_nil)))
      (pss_cons (ps_expr (pe_meth (pv 1) T.cl_Reader T.me_Reader_want (ok_Reader_want T) (hr.mono (by decide)) T.b_Reader_want .nil (passes_call (takes_of rfl rfl rfl rfl) fun _ _ _ _ h => h) (pa_cons pe_str (pa_cons pe_str pa_nil))))
      (pss_one (ps_ret (pv 2)))))), ?_⟩
  refine ⟨_, rfl, fun r dx nr ndx ne => ?_⟩
  have s0 : Same H (upd (upd H dx (.own r)) r (.ins T.c_Reader dx [])) := fun c o e => by
    rw [upd_ne (ne_of_none e nr), upd_ne (ne_of_none e ndx)]
    exact e
  have bs : ∀ {H' : Hp}, But (Only1 r) (upd (upd H dx (.own r)) r (.ins T.c_Reader dx [])) H' → Same H H' := fun b c o e => b _ _ (s0 _ _ e) (fun z => by
    rw [show c = r from z, nr] at e
    cases e)
  have bad : ∀ {H1 : Hp} {n : Nat}, PlanP x (.error n) → But (Only1 r) (upd (upd H dx (.own r)) r (.ins T.c_Reader dx [])) H1 → (∀ c, Only1 r c → Cell (H1 c)) → BadE T.x_BadText (Only1 r) H1 E n := fun {H1 n} hp b1 cl dd H' b h e => by
    have k : BadE T.x_BadText NoM H E n := q _ hp
    have b2 := b1.trans b
    have h1 := b1.none cl h
    have h0 : H dd = none := by
      by_cases e1 : dd = r
      · rw [e1]; exact nr
      · by_cases e2 : dd = dx
        · rw [e2]; exact ndx
        · rw [upd_ne e1, upd_ne e2] at h1
          exact h1
    exact k dd H' (same_but (bs b2)) h0 e
  refine ⟨r, dx, x, rfl, upd_same, hx, ?_⟩
  have c0 : ∀ c, Only1 r c → Cell ((upd (upd H dx (.own r)) r (.ins T.c_Reader dx [])) c) := fun c e => by
    rw [show c = r from e]
    exact cell_ins upd_same
  cases hlex : lexT x with
  | error n => exact bad (.lex hlex) (But.refl _ _) c0
  | ok toks =>
  refine fun H1 S us b1 R1 => ⟨rfl, ?_⟩
  obtain ⟨dx1, ob1⟩ := R1.ob
  refine ⟨_, rfl, r, dx1, _, rfl, ob1, rfl, r, S, us, toks, 0, 0, 0, toks, rfl, R1, rfl, (lexT_good hlex).2, by decide, by decide, fun res hres => ?_⟩
  cases res with
  | error e => exact (bad (.bad hlex hres) b1 R1.cell : BadE _ _ _ _ _)
  | ok y =>
  obtain ⟨b, l2, m2⟩ := y
  intro v H2 i2 b2 R2 hl2 g2 m0 m12 dv
  obtain ⟨dx2, ob2⟩ := R2.ob
  refine ⟨_, rfl, r, dx2, _, rfl, ob2, rfl, r, S, us, toks, i2, m2, l2, "end", "", rfl, R2, hl2, g2.ne, strOk_of _, strOk_of _, ?_⟩
  cases hw : wantR "end" "" l2 with
  | error e =>
    have ee := wantR_bad hw
    subst ee
    have nt : tokIs (hd e) "end" "" = false := by
      cases c : tokIs (hd e) "end" "" with
      | false => rfl
      | true =>
        unfold wantR at hw
        rw [if_pos c] at hw
        cases hw
    exact (bad (.more hlex hres nt) (b1.trans b2) R2.cell : BadE _ _ _ _ _)
  | ok l3 =>
  obtain ⟨rfl, tw⟩ := wantR_ok hw
  refine fun _ H3 b3 R3 => ?_
  exact ⟨_, rfl, q _ (.ok hlex hres tw) _ _ (bs (b1.trans (b2.trans b3))) (dp_but ob2 b3 dv)⟩
def LV : Nat := 40
def spLaw (K : PySem.W.Frag) (Pt : Addr) : Sp := fun vs H Q _ => ∃ (a : Addr) (ns : List Int), vs = [.ref a] ∧ H Pt = some (.tbl #[]) ∧ SqL K H a (ns.map V.int) ∧ ns.length ≤ 63 ∧ ∀ H', Q (.bl true) H'
theorem ok_same13 (T : Txt K mg) : FnOk P w K mg base CX0 13 T.a_law_same T.d_law_same ["_law_found", "_law_due"] (spSame K 13) := same_all T 13
theorem out_dep {x : Str} {res : Except Nat (List Thing)} (h : PlanP x res) : dep (outD res) < 13 ∧ wid (outD res) ≤ 100000 := by
  cases res with
  | error n => simp [outD, dep, depAll, wid, widAll]
  | ok b =>
    obtain ⟨h1, h2⟩ := out_small h b rfl
    simp only [outD, dep, depAll, wid, widAll, List.length_cons, List.length_nil]
    omega
theorem ok_law (T : Txt K mg) (c Pt : Addr) (hc : T.d_law.code = .ref c) (TB : LamX.TabB base mg c Pt) : FnOk P w K mg base CX0 LV T.a_law T.d_law ["_law_script"] (spLaw K Pt) := by
  refine okC T.F_law sc_law (fun vs H Q E h => ?_) hc (fun A outer s H vs Q E hr h => ?_)
  · obtain ⟨a, ns, rfl, _⟩ := h
    rfl
  obtain ⟨a, ns, rfl, hP, hS, hl, k⟩ := h
  obtain ⟨ocT, odT, kVT, docT, pmT, anT, cdT, ctT, oslT, eT, lkT, hcT⟩ := T.F_law_tried.ex
  have hbT := T.b_law_tried
  rw [eT] at lkT hbT
  let TT : List (Addr × Str) := [(Pt, (cxOf CX0 P w K mg base N_law (Str.ofString "law") (defScope s_law) T.a_law (.ref c) A outer s H E).env.qual ++ "<lambda>")]
  have hcode : (cxOf CX0 P w K mg base N_law (Str.ofString "law") (defScope s_law) T.a_law (.ref c) A outer s H E).nox.env.code = .ref c := rfl
  have gv := tried_gives (X := (cxOf CX0 P w K mg base N_law (Str.ofString "law") (defScope s_law) T.a_law (.ref c) A outer s H E).nox) T cdT ((cxOf CX0 P w K mg base N_law (Str.ofString "law") (defScope s_law) T.a_law (.ref c) A outer s H E).env.qual ++ "<lambda>") (hr.mono (by decide))
  refine ⟨_, (pss_cons (ps_set (i := 1) sc_law.nd rfl (Or.inl rfl) (pe_call (ok_law_begin T) (hr.mono (by decide)) (by rfl) T.g_law_begin T.F_law_begin.kp T.b_law_begin .nil pass0 (pa_cons (pv 0) pa_nil)))
      (pss_cons (ps_for PassesOwn.never rfl (pi_range1 (by rfl) T.z_range (pa_cons pe_int pa_nil)) (pg_name (i := 2) sc_law.nd rfl (Or.inl rfl)) (pss_cons (ps_set (i := 5) sc_law.nd rfl (Or.inr rfl) (pe_call (ok_law_written T) (hr.mono (by decide)) (by rfl) T.g_law_written T.F_law_written.kp T.b_law_written .nil pass0 (pa_cons (pe_call (ok_law_drawn T) (hr.mono (by decide)) (by rfl) T.g_law_drawn T.F_law_drawn.kp T.b_law_drawn .nil pass0 (pa_cons (pv 1) (pa_cons (pe_op op_add pe_int (pe_call (ok_law_take T) (hr.mono (by decide)) (by rfl) T.g_law_take T.F_law_take.kp T.b_law_take .nil pass0 (pa_cons (pv 1) (pa_cons pe_int pa_nil)))) (pa_cons pe_bl (pa_cons pe_bl pa_nil))))) pa_nil)))
      (C8.pss_cut (ps_for PassesOwn.never rfl (pi_range1 (by rfl) T.z_range (pa_cons (pe_op op_add pe_int (pe_call (ok_law_take T) (hr.mono (by decide)) (by rfl) T.g_law_take T.F_law_take.kp T.b_law_take .nil pass0 (pa_cons (pv 1) (pa_cons pe_int pa_nil)))) pa_nil)) (pg_name (i := 3) sc_law.nd rfl (Or.inl rfl)) (pss_one (ps_set (i := 5) sc_law.nd rfl (Or.inr rfl) (pe_call (ok_law_spoilt_text T) (hr.mono (by decide)) (by rfl) T.g_law_spoilt_text T.F_law_spoilt_text.kp T.b_law_spoilt_text .nil pass0 (pa_cons (pv 1) (pa_cons (pv 5) pa_nil))))))
      (pss_one (ps_if (pt_not (pt_val (pe_call (ok_same13 T) (hr.mono (by decide)) (by rfl) T.g_law_same T.F_law_same.kp T.b_law_same .nil pass0 (pa_cons (LamX.pe_lamcall (T := TT) (by rfl) T.g_law_tried T.F_law_tried.kp lkT hcT hbT sc_law_tried rfl (.inl rfl) gv TB hcode (List.mem_singleton.mpr rfl) (fun p hp _ => by rw [List.mem_singleton.mp hp]) (k := 28) (hr.mono (by decide)) (LamX.lamS_by (sc := defScope s_law) (by decide +kernel)) rfl (fun _ _ _ _ _ => rfl) (fun A' outer' s' H' E' f' c' hrL => (pe_call (ok_read_plan T) (hrL.mono (by decide)) (by rfl) T.g_read_plan T.F_read_plan.kp T.b_read_plan .nil (passes_call (takes_of rfl rfl rfl rfl) fun _ _ _ _ h => h) (pa_cons (pv 5) pa_nil)))) (pa_cons (pe_call (ok_law_reading T) (hr.mono (by decide)) (by rfl) T.g_law_reading T.F_law_reading.kp T.b_law_reading .nil pass0 (pa_cons (pv 5) pa_nil)) pa_nil))))) (pss_one (ps_ret pe_bl)) pss_nil)))))
      (pss_cons (ps_set (i := 4) sc_law.nd rfl (Or.inl rfl) (pe_lst (pa_cons pe_str (pa_cons pe_str (pa_cons pe_str (pa_cons pe_str (pa_cons pe_str (pa_cons (pe_op op_repS pe_str pe_int) pa_nil))))))))
      (pss_cons (ps_set (i := 4) sc_law.nd rfl (Or.inl rfl) (pe_op op_cat (pv 4) (pe_lst (pa_cons pe_str (pa_cons pe_str (pa_cons pe_str (pa_cons pe_str pa_nil)))))))
      (pss_cons (ps_for PassesOwn.never rfl (pi_list (pv 4)) (pg_name (i := 5) sc_law.nd rfl (Or.inr rfl)) (pss_one (ps_if (pt_not (pt_val (pe_call (ok_same13 T) (hr.mono (by decide)) (by rfl) T.g_law_same T.F_law_same.kp T.b_law_same .nil pass0 (pa_cons (LamX.pe_lamcall (T := TT) (by rfl) T.g_law_tried T.F_law_tried.kp lkT hcT hbT sc_law_tried rfl (.inl rfl) gv TB hcode (List.mem_singleton.mpr rfl) (fun p hp _ => by rw [List.mem_singleton.mp hp]) (k := 28) (hr.mono (by decide)) (LamX.lamS_by (sc := defScope s_law) (by decide +kernel)) rfl (fun _ _ _ _ _ => rfl) (fun A' outer' s' H' E' f' c' hrL => (pe_call (ok_read_plan T) (hrL.mono (by decide)) (by rfl) T.g_read_plan T.F_read_plan.kp T.b_read_plan .nil (passes_call (takes_of rfl rfl rfl rfl) fun _ _ _ _ h => h) (pa_cons (pv 5) pa_nil)))) (pa_cons (pe_call (ok_law_reading T) (hr.mono (by decide)) (by rfl) T.g_law_reading T.F_law_reading.kp T.b_law_reading .nil pass0 (pa_cons (pv 5) pa_nil)) pa_nil))))) (pss_one (ps_ret pe_bl)) pss_nil)))
      (pss_one (ps_ret pe_bl))))))), ?_⟩
  have t0 : LamX.Tabs TT H := fun p hp => by
    rw [List.mem_singleton.mp hp]
    exact LamX.TabS.nil hP
  refine ⟨_, rfl, a, ns, rfl, hS, hl, fun d l H1 nd _ s1 D1 => ?_⟩
  have t1 := t0.ext s1
  let S : Option V → Option V → Option V → Option V → L2.St := fun v2 v3 v4 v5 => [some (.ref a), some (.ref d), v2, v3, v4, v5]
  let Md : L2.St → Hp → Prop := fun σ H' => ∃ (x : Str) (v2 v3 v4 : Option V), DrawAt H' d l ∧ LamX.Tabs TT H' ∧ x.length ≤ 1000000 ∧ σ = S v2 v3 v4 (some (.str x))
  -- the program's answer and the law's
  have key : ∀ (x : Str) (v2 v3 v4 : Option V) (H' : Hp) (R : VK), LamX.Tabs TT H' → DrawAt H' d l → x.length ≤ 1000000 → (∀ H2, DrawAt H2 d l → LamX.Tabs TT H2 → LamX.ExtN H' H2 → R (.bl true) H2) →
      tCall (spSame K 13) [] E0 (tCons (LamX.tLam TT (TTried T) fun E' => tCall (spReadPlan K T.x_BadText) [] E' (tCons (tVar 5) tNil)) (tCons (tCall (spReading K) [] E0 (tCons (tVar 5) tNil)) tNil)) (S v2 v3 v4 (some (.str x))) H' R := by
    intro x v2 v3 v4 H' R tb D hx kR
    refine ⟨tb, fun H13 x13 t13 => ?_⟩
    have D13 := D.ext x13
    have kq : ∀ (Q' : VK), (∀ res, PlanP x res → ∀ p H14, Same H13 H14 → Dp K H14 (.ref p) (outD res) → Q' (.ref p) H14) →
        TTried T (fun E' H' Q2 => tCall (spReadPlan K T.x_BadText) [] E' (tCons (tVar 5) tNil) (S v2 v3 v4 (some (.str x))) H' Q2) H13 Q' := by
      intro Q' kq
      refine ⟨_, rfl, x, rfl, hx, fun res hres => ?_⟩
      cases res with
      | ok b =>
        intro v H' s' dv
        refine ⟨by show 2 ≤ sizeLine; decide, fun p hp => kq _ hres p _ (s'.trans (same_upd hp)) ?_⟩
        exact .tup (SqT.of upd_same) (.cons (.str _) (.cons (dv.mono (same_upd hp)) .nil))
      | error n =>
        intro dd H' b' hdd edd
        exact ⟨T.x_BadText, dd, atF n, Str.ofString "BadText", rfl, rfl, ⟨T.ce_BadText, T.nf_BadText_word, ⟨true, T.ki_BadText_Misread, T.ki_BadText_Unfit⟩, T.ki_BadText_VE⟩, edd, rfl, T.em_BadText_BadText, T.nf_BadText_at, _, rfl,
          fun p hp => kq _ hres p _ (b'.same.trans (same_upd hp)) (.tup (SqT.of upd_same) (.cons (.str _) (.cons (.int _) .nil)))⟩
    refine kq _ fun res hres p H14 s14 d14 => ?_
    refine ⟨_, rfl, x, rfl, hx, fun res2 hres2 v2 H15 s15 d15 => ?_⟩
    obtain rfl := plan_det hres hres2
    obtain ⟨h1, h2⟩ := out_dep hres
    refine ⟨_, _, _, rfl, d14.mono s15, d15, h1, h2, fun H16 s16 => ?_⟩
    have s316 := (s14.trans s15).trans s16
    exact kR H16 (D13.mono s316) (t13.ext s316) (x13.trans (LamX.ExtN.of s316))
  refine ⟨10, rfl, by decide, by decide, for_it walk_range (fun _ σ H => DrawAt H d l ∧ LamX.Tabs TT H ∧ ∃ v2 v3 v4 v5, σ = S v2 v3 v4 v5) ⟨D1, t1, _, _, _, _, rfl⟩ (fun _ _ _ _ _ => trivial) ?_ ?_⟩
  · rintro i x σ H2 H3 hi ⟨D2, t2, v2, v3, v4, v5, rfl⟩ ⟨rfl, rfl⟩
    have sG : Same (fun _ => none) H3 := fun b o e => nomatch e
    refine ⟨_, rfl, _, rfl, d, l, 11, rfl, D2, by decide, by decide, fun n H4 n0 n1 D4 b4 => ?_⟩
    have t4 := tabs_but t2 D2 b4
    have sG4 : Same (fun _ => none) H4 := fun b o e => nomatch e
    refine ⟨_, _, rfl, rfl, d, l, fun _ => none, 1 + n, true, true, rfl, sG4, rfl, D4, by omega, fun v b G5 H5 g5 D5 dv ok l1 l2 lc => ?_⟩
    have t5 := tabs_but t4 D4 g5.h
    have lc : thingsC b ≤ 11 := by omega
    refine ⟨v, b, rfl, dv.mono g5.gh, bdS_drawn ok, by omega, by omega, fun H6 s6 => ?_⟩
    have D6 := D5.mono s6
    have t6 := t5.ext s6
    have lp : (planT b).length ≤ 36000 := by
      have h1 := join_len "; " (b.map thingT)
      have h2 := planSum (bdS_drawn ok)
      rw [show (Str.ofString "; ").length = 2 by decide, List.length_map, ← planT_eq] at h1
      omega
    generalize planT b = y at lp ⊢
    clear dv ok lc l1 l2 g5 D5 t5
    refine ⟨Md, ?_, ?_⟩
    · refine ⟨_, rfl, d, l, 3, rfl, D6, by decide, by decide, fun m H7 m0 m1 D7 b7 => ?_⟩
      have t7 := tabs_but t6 D6 b7
      refine ⟨_, _, rfl, rfl, _, rfl, by omega, by omega, for_it walk_range (fun j σ H' => ∃ (x : Str) (v2 v3 v4 : Option V), DrawAt H' d l ∧ LamX.Tabs TT H' ∧ x.length + 100 ≤ 36100 * 3 ^ j ∧ σ = S v2 v3 v4 (some (.str x))) ⟨y, _, _, _, D7, t7, by rw [Nat.pow_zero]; omega, rfl⟩ (fun _ _ _ _ _ => trivial) ?_ ?_⟩
      · rintro j z σ H8 H9 hj ⟨x, v2, v3, v4, D8, t8, lx, rfl⟩ ⟨rfl, rfl⟩
        have hj : j < (1 + m).toNat := hj
        have lj : x.length + 100 ≤ 36100 * 3 ^ 2 := Nat.le_trans lx (Nat.mul_le_mul_left _ (Nat.pow_le_pow_right (by decide) (by omega)))
        refine ⟨_, rfl, _, rfl, d, l, x, rfl, D8, by omega, fun y2 H10 b10 D10 ly => ?_⟩
        refine ⟨y2, _, _, _, D10, tabs_but t8 D8 b10, ?_, rfl⟩
        rw [Nat.pow_succ]
        omega
      · rintro σ H8 ⟨x, v2, v3, v4, D8, t8, lx, rfl⟩
        have lx : x.length + 100 ≤ 36100 * 3 ^ (1 + m).toNat := lx
        have lj : x.length + 100 ≤ 36100 * 3 ^ 3 := Nat.le_trans lx (Nat.mul_le_mul_left _ (Nat.pow_le_pow_right (by decide) (by omega)))
        exact ⟨x, _, _, _, D8, t8, by omega, rfl⟩
    · rintro σ H7 ⟨x, v2, v3, v4, D7, t7, lx, rfl⟩
      refine key x v2 v3 v4 H7 _ t7 D7 lx fun H8 D8 t8 _ => ?_
      exact ⟨_, rfl, iteF ⟨D8, t8, _, _, _, _, rfl⟩⟩
  · rintro σ H2 ⟨D2, t2, v2, v3, v4, v5, rfl⟩
    have rp : repS "step 1; " 13 = "step 1; step 1; step 1; step 1; step 1; step 1; step 1; step 1; step 1; step 1; step 1; step 1; step 1; " := by decide +kernel
    refine ⟨"step 1; ", 13, rfl, rfl, by decide, by decide, by decide, by decide, by decide, ?_⟩
    refine ⟨by show 6 ≤ sizeLine; decide, fun L hL => ?_⟩
    refine ⟨_, rfl, ?_⟩
    refine ⟨by show 4 ≤ sizeLine; decide, fun M hM => ?_⟩
    let f1 : List Str := ["", " ", "step", "step 1;", "double (double (double (double (double (step 1)))))", repS "step 1; " 13]
    let f2 : List Str := ["step\n1", "step 1\n", "\nstep 1", "step 1 \n; step 2"]
    have D4 := (D2.upd (o := .lst (f1.map V.str)) hL).upd (o := .lst (f2.map V.str)) hM
    have t4 := (t2.ext (same_upd (o := .lst (f1.map V.str)) hL)).ext (same_upd (o := .lst (f2.map V.str)) hM)
    refine ⟨L, M, f1.map V.str, f2.map V.str, rfl, rfl, same_upd hM _ _ upd_same, upd_same, by decide, fun N hN => ?_⟩
    have D5 := D4.upd (o := .lst (f1.map V.str ++ f2.map V.str)) hN
    have t5 := t4.ext (same_upd (o := .lst (f1.map V.str ++ f2.map V.str)) hN)
    have eN : (upd (upd (upd H2 L (.lst (f1.map V.str))) M (.lst (f2.map V.str))) N (.lst (f1.map V.str ++ f2.map V.str))) N = _ := upd_same
    have all : ∀ z ∈ f1 ++ f2, z.length ≤ 1000000 := by decide +kernel
    refine ⟨_, rfl, N, rfl, ⟨_, SqL.of eN⟩, for_it (walk_list (xs := f1.map V.str ++ f2.map V.str)) (fun i σ H' => DrawAt H' d l ∧ LamX.Tabs TT H' ∧ H' N = some (.lst (f1.map V.str ++ f2.map V.str)) ∧ ∃ v2 v3 v4 v5, σ = S v2 v3 v4 v5) ⟨D5, t5, eN, _, _, _, _, rfl⟩ (fun j σ H _ p => SqL.of p.2.2.1) ?_ ?_⟩
    · rintro i x σ H6 H7 hi ⟨D6, t6, e6, v2, v3, v4, v5, rfl⟩ ⟨rfl, hx⟩
      obtain ⟨z, hz, rfl⟩ : ∃ z, z ∈ f1 ++ f2 ∧ x = .str z := by
        rw [← List.map_append, List.getElem?_map] at hx
        cases q : (f1 ++ f2)[i]? with
        | none => rw [q] at hx; cases hx
        | some z => rw [q] at hx; exact ⟨z, List.mem_of_getElem? q, (Option.some.inj hx).symm⟩
      refine key z v2 v3 v4 _ _ t6 D6 (all z hz) fun H8 D8 t8 x8 => ?_
      exact ⟨_, rfl, iteF ⟨D8, t8, x8 _ _ e6 (fun ps z => nomatch z), _, _, _, _, rfl⟩⟩
    · rintro σ H6 ⟨D6, t6, e6, v2, v3, v4, v5, rfl⟩
      exact k _
end
theorem all_mk {l : PySem.W.OpenLaw} {w : World} {K : PySem.W.Frag} {h : Heap} {mg : Str → Option Value} {fa : Addr} (X : K.In h) (G : h.Ns mainGlobals mg) (hfa : mg "law" = some (.ref fa))
    {C_Reader : Addr} (gc_Reader : PySem.W.nsIn K mainGlobals "Reader" = some (some (.ref C_Reader))) (pg_Reader : PySem.W.plainGet K C_Reader Str.empty = true) (hd_Reader : PySem.W.hasDictIn K C_Reader = true) (po_Reader : PySem.W.plainOver K C_Reader = true) (sa_Reader : PySem.W.findIn K (.ref C_Reader) "__setattr__" = some (some (.builtin "object.__setattr__"))) (mk_Reader : PySem.W.makesIn K C_Reader = true) (kc_Reader : PySem.W.keepIn K (.ref C_Reader) = true)
    (na_Reader_signs : PySem.W.findIn K (.ref C_Reader) "signs" = some none)
    (na_Reader_spot : PySem.W.findIn K (.ref C_Reader) "spot" = some none)
    (na_Reader_many : PySem.W.findIn K (.ref C_Reader) "many" = some none)
    {x_Refused : Addr} (gx_Refused : PySem.W.nsIn K mainGlobals "Refused" = some (some (.ref x_Refused)))
    {x_Misread : Addr} (gx_Misread : PySem.W.nsIn K mainGlobals "Misread" = some (some (.ref x_Misread)))
    {x_Unfit : Addr} (gx_Unfit : PySem.W.nsIn K mainGlobals "Unfit" = some (some (.ref x_Unfit)))
    {x_BadText : Addr} (gx_BadText : PySem.W.nsIn K mainGlobals "BadText" = some (some (.ref x_BadText)))
    {x_BadPage : Addr} (gx_BadPage : PySem.W.nsIn K mainGlobals "BadPage" = some (some (.ref x_BadPage)))
    {x_Stopped : Addr} (gx_Stopped : PySem.W.nsIn K mainGlobals "Stopped" = some (some (.ref x_Stopped)))
    {x_NoName : Addr} (gx_NoName : PySem.W.nsIn K mainGlobals "NoName" = some (some (.ref x_NoName)))
    {x_Twice : Addr} (gx_Twice : PySem.W.nsIn K mainGlobals "Twice" = some (some (.ref x_Twice)))
    {x_NoPlan : Addr} (gx_NoPlan : PySem.W.nsIn K mainGlobals "NoPlan" = some (some (.ref x_NoPlan)))
    {x_NoLabel : Addr} (gx_NoLabel : PySem.W.nsIn K mainGlobals "NoLabel" = some (some (.ref x_NoLabel)))
    {x_Taken : Addr} (gx_Taken : PySem.W.nsIn K mainGlobals "Taken" = some (some (.ref x_Taken)))
    {x_Ring : Addr} (gx_Ring : PySem.W.nsIn K mainGlobals "Ring" = some (some (.ref x_Ring)))
    {x_NotPlain : Addr} (gx_NotPlain : PySem.W.nsIn K mainGlobals "NotPlain" = some (some (.ref x_NotPlain)))
    {x_Tangled : Addr} (gx_Tangled : PySem.W.nsIn K mainGlobals "Tangled" = some (some (.ref x_Tangled)))
    {x_Breaks : Addr} (gx_Breaks : PySem.W.nsIn K mainGlobals "Breaks" = some (some (.ref x_Breaks)))
    {x_InUse : Addr} (gx_InUse : PySem.W.nsIn K mainGlobals "InUse" = some (some (.ref x_InUse)))
    {x_Uneven : Addr} (gx_Uneven : PySem.W.nsIn K mainGlobals "Uneven" = some (some (.ref x_Uneven)))
    {f0 : Addr} {od0 an0 : Option Addr} {sl0 : Array (Option Value)} {oc0 kV0 dc0 pm0 cd0 ct0 : Value}
    (a0 : PySem.W.nsIn K mainGlobals "_law_begin" = some (some (.ref f0)))
    (l0 : K.lookup f0 = some ⟨oc0, od0, .func (PySem.W.fnOf "_law_begin" "_law_begin" (defArgs s_law_begin) (defBody s_law_begin) (defScope s_law_begin) .none kV0 dc0 pm0 an0 cd0 ct0), sl0⟩) (c0 : PySem.W.codeIn K cd0 "_law_begin" = true) (k0 : PySem.W.keepIn K (.ref f0) = true)
    {f1 : Addr} {od1 an1 : Option Addr} {sl1 : Array (Option Value)} {oc1 kV1 dc1 pm1 cd1 ct1 : Value}
    (a1 : PySem.W.nsIn K mainGlobals "_law_end_text" = some (some (.ref f1)))
    (l1 : K.lookup f1 = some ⟨oc1, od1, .func (PySem.W.fnOf "_law_end_text" "_law_end_text" (defArgs s_law_end_text) (defBody s_law_end_text) (defScope s_law_end_text) .none kV1 dc1 pm1 an1 cd1 ct1), sl1⟩) (c1 : PySem.W.codeIn K cd1 "_law_end_text" = true) (k1 : PySem.W.keepIn K (.ref f1) = true)
    {f2 : Addr} {od2 an2 : Option Addr} {sl2 : Array (Option Value)} {oc2 kV2 dc2 pm2 cd2 ct2 : Value}
    (a2 : PySem.W.nsIn K mainGlobals "_law_thing_text" = some (some (.ref f2)))
    (l2 : K.lookup f2 = some ⟨oc2, od2, .func (PySem.W.fnOf "_law_thing_text" "_law_thing_text" (defArgs s_law_thing_text) (defBody s_law_thing_text) (defScope s_law_thing_text) .none kV2 dc2 pm2 an2 cd2 ct2), sl2⟩) (c2 : PySem.W.codeIn K cd2 "_law_thing_text" = true) (k2 : PySem.W.keepIn K (.ref f2) = true)
    {f3 : Addr} {od3 an3 : Option Addr} {sl3 : Array (Option Value)} {oc3 kV3 dc3 pm3 cd3 ct3 : Value}
    (a3 : PySem.W.nsIn K mainGlobals "_law_written" = some (some (.ref f3)))
    (l3 : K.lookup f3 = some ⟨oc3, od3, .func (PySem.W.fnOf "_law_written" "_law_written" (defArgs s_law_written) (defBody s_law_written) (defScope s_law_written) .none kV3 dc3 pm3 an3 cd3 ct3), sl3⟩) (c3 : PySem.W.codeIn K cd3 "_law_written" = true) (k3 : PySem.W.keepIn K (.ref f3) = true)
    {f4 : Addr} {od4 an4 : Option Addr} {sl4 : Array (Option Value)} {oc4 kV4 dc4 pm4 cd4 ct4 : Value}
    (a4 : PySem.W.nsIn K mainGlobals "_law_take" = some (some (.ref f4)))
    (l4 : K.lookup f4 = some ⟨oc4, od4, .func (PySem.W.fnOf "_law_take" "_law_take" (defArgs s_law_take) (defBody s_law_take) (defScope s_law_take) .none kV4 dc4 pm4 an4 cd4 ct4), sl4⟩) (c4 : PySem.W.codeIn K cd4 "_law_take" = true) (k4 : PySem.W.keepIn K (.ref f4) = true)
    {f5 : Addr} {od5 an5 : Option Addr} {sl5 : Array (Option Value)} {oc5 kV5 dc5 pm5 cd5 ct5 : Value}
    (a5 : PySem.W.nsIn K mainGlobals "_law_pick" = some (some (.ref f5)))
    (l5 : K.lookup f5 = some ⟨oc5, od5, .func (PySem.W.fnOf "_law_pick" "_law_pick" (defArgs s_law_pick) (defBody s_law_pick) (defScope s_law_pick) .none kV5 dc5 pm5 an5 cd5 ct5), sl5⟩) (c5 : PySem.W.codeIn K cd5 "_law_pick" = true) (k5 : PySem.W.keepIn K (.ref f5) = true)
    {f6 : Addr} {od6 an6 : Option Addr} {sl6 : Array (Option Value)} {oc6 kV6 dc6 pm6 cd6 ct6 : Value}
    (a6 : PySem.W.nsIn K mainGlobals "_law_some_end" = some (some (.ref f6)))
    (l6 : K.lookup f6 = some ⟨oc6, od6, .func (PySem.W.fnOf "_law_some_end" "_law_some_end" (defArgs s_law_some_end) (defBody s_law_some_end) (defScope s_law_some_end) .none kV6 dc6 pm6 an6 cd6 ct6), sl6⟩) (c6 : PySem.W.codeIn K cd6 "_law_some_end" = true) (k6 : PySem.W.keepIn K (.ref f6) = true)
    {f7 : Addr} {od7 an7 : Option Addr} {sl7 : Array (Option Value)} {oc7 kV7 dc7 pm7 cd7 ct7 : Value}
    (a7 : PySem.W.nsIn K mainGlobals "_law_leaf" = some (some (.ref f7)))
    (l7 : K.lookup f7 = some ⟨oc7, od7, .func (PySem.W.fnOf "_law_leaf" "_law_leaf" (defArgs s_law_leaf) (defBody s_law_leaf) (defScope s_law_leaf) .none kV7 dc7 pm7 an7 cd7 ct7), sl7⟩) (c7 : PySem.W.codeIn K cd7 "_law_leaf" = true) (k7 : PySem.W.keepIn K (.ref f7) = true)
    {f8 : Addr} {od8 an8 : Option Addr} {sl8 : Array (Option Value)} {oc8 kV8 dc8 pm8 cd8 ct8 : Value}
    (a8 : PySem.W.nsIn K mainGlobals "_law_kept_words" = some (some (.ref f8)))
    (l8 : K.lookup f8 = some ⟨oc8, od8, .func (PySem.W.fnOf "_law_kept_words" "_law_kept_words" (defArgs s_law_kept_words) (defBody s_law_kept_words) (defScope s_law_kept_words) .none kV8 dc8 pm8 an8 cd8 ct8), sl8⟩) (c8 : PySem.W.codeIn K cd8 "_law_kept_words" = true) (k8 : PySem.W.keepIn K (.ref f8) = true)
    {f9 : Addr} {od9 an9 : Option Addr} {sl9 : Array (Option Value)} {oc9 kV9 dc9 pm9 cd9 ct9 : Value}
    (a9 : PySem.W.nsIn K mainGlobals "_law_fresh" = some (some (.ref f9)))
    (l9 : K.lookup f9 = some ⟨oc9, od9, .func (PySem.W.fnOf "_law_fresh" "_law_fresh" (defArgs s_law_fresh) (defBody s_law_fresh) (defScope s_law_fresh) .none kV9 dc9 pm9 an9 cd9 ct9), sl9⟩) (c9 : PySem.W.codeIn K cd9 "_law_fresh" = true) (k9 : PySem.W.keepIn K (.ref f9) = true)
    {f10 : Addr} {od10 an10 : Option Addr} {sl10 : Array (Option Value)} {oc10 kV10 dc10 pm10 cd10 ct10 : Value}
    (a10 : PySem.W.nsIn K mainGlobals "_law_drawn_thing" = some (some (.ref f10)))
    (l10 : K.lookup f10 = some ⟨oc10, od10, .func (PySem.W.fnOf "_law_drawn_thing" "_law_drawn_thing" (defArgs s_law_drawn_thing) (defBody s_law_drawn_thing) (defScope s_law_drawn_thing) .none kV10 dc10 pm10 an10 cd10 ct10), sl10⟩) (c10 : PySem.W.codeIn K cd10 "_law_drawn_thing" = true) (k10 : PySem.W.keepIn K (.ref f10) = true)
    {f11 : Addr} {od11 an11 : Option Addr} {sl11 : Array (Option Value)} {oc11 kV11 dc11 pm11 cd11 ct11 : Value}
    (a11 : PySem.W.nsIn K mainGlobals "_law_drawn_body" = some (some (.ref f11)))
    (l11 : K.lookup f11 = some ⟨oc11, od11, .func (PySem.W.fnOf "_law_drawn_body" "_law_drawn_body" (defArgs s_law_drawn_body) (defBody s_law_drawn_body) (defScope s_law_drawn_body) .none kV11 dc11 pm11 an11 cd11 ct11), sl11⟩) (c11 : PySem.W.codeIn K cd11 "_law_drawn_body" = true) (k11 : PySem.W.keepIn K (.ref f11) = true)
    {f12 : Addr} {od12 an12 : Option Addr} {sl12 : Array (Option Value)} {oc12 kV12 dc12 pm12 cd12 ct12 : Value}
    (a12 : PySem.W.nsIn K mainGlobals "_law_drawn" = some (some (.ref f12)))
    (l12 : K.lookup f12 = some ⟨oc12, od12, .func (PySem.W.fnOf "_law_drawn" "_law_drawn" (defArgs s_law_drawn) (defBody s_law_drawn) (defScope s_law_drawn) .none kV12 dc12 pm12 an12 cd12 ct12), sl12⟩) (c12 : PySem.W.codeIn K cd12 "_law_drawn" = true) (k12 : PySem.W.keepIn K (.ref f12) = true)
    {f13 : Addr} {od13 an13 : Option Addr} {sl13 : Array (Option Value)} {oc13 kV13 dc13 pm13 cd13 ct13 : Value}
    (a13 : PySem.W.nsIn K mainGlobals "_law_spoilt_text" = some (some (.ref f13)))
    (l13 : K.lookup f13 = some ⟨oc13, od13, .func (PySem.W.fnOf "_law_spoilt_text" "_law_spoilt_text" (defArgs s_law_spoilt_text) (defBody s_law_spoilt_text) (defScope s_law_spoilt_text) .none kV13 dc13 pm13 an13 cd13 ct13), sl13⟩) (c13 : PySem.W.codeIn K cd13 "_law_spoilt_text" = true) (k13 : PySem.W.keepIn K (.ref f13) = true)
    {f14 : Addr} {od14 an14 : Option Addr} {sl14 : Array (Option Value)} {oc14 kV14 dc14 pm14 cd14 ct14 : Value}
    (a14 : PySem.W.nsIn K mainGlobals "_law_same" = some (some (.ref f14)))
    (l14 : K.lookup f14 = some ⟨oc14, od14, .func (PySem.W.fnOf "_law_same" "_law_same" (defArgs s_law_same) (defBody s_law_same) (defScope s_law_same) .none kV14 dc14 pm14 an14 cd14 ct14), sl14⟩) (c14 : PySem.W.codeIn K cd14 "_law_same" = true) (k14 : PySem.W.keepIn K (.ref f14) = true)
    {f15 : Addr} {od15 an15 : Option Addr} {sl15 : Array (Option Value)} {oc15 kV15 dc15 pm15 cd15 ct15 : Value}
    (a15 : PySem.W.nsIn K mainGlobals "_law_class" = some (some (.ref f15)))
    (l15 : K.lookup f15 = some ⟨oc15, od15, .func (PySem.W.fnOf "_law_class" "_law_class" (defArgs s_law_class) (defBody s_law_class) (defScope s_law_class) .none kV15 dc15 pm15 an15 cd15 ct15), sl15⟩) (c15 : PySem.W.codeIn K cd15 "_law_class" = true) (k15 : PySem.W.keepIn K (.ref f15) = true)
    {f16 : Addr} {od16 an16 : Option Addr} {sl16 : Array (Option Value)} {oc16 kV16 dc16 pm16 cd16 ct16 : Value}
    (a16 : PySem.W.nsIn K mainGlobals "_law_tried" = some (some (.ref f16)))
    (l16 : K.lookup f16 = some ⟨oc16, od16, .func (PySem.W.fnOf "_law_tried" "_law_tried" (defArgs s_law_tried) (defBody s_law_tried) (defScope s_law_tried) .none kV16 dc16 pm16 an16 cd16 ct16), sl16⟩) (c16 : PySem.W.codeIn K cd16 "_law_tried" = true) (k16 : PySem.W.keepIn K (.ref f16) = true)
    {f17 : Addr} {od17 an17 : Option Addr} {sl17 : Array (Option Value)} {oc17 kV17 dc17 pm17 cd17 ct17 : Value}
    (a17 : PySem.W.nsIn K mainGlobals "_law_cut_up" = some (some (.ref f17)))
    (l17 : K.lookup f17 = some ⟨oc17, od17, .func (PySem.W.fnOf "_law_cut_up" "_law_cut_up" (defArgs s_law_cut_up) (defBody s_law_cut_up) (defScope s_law_cut_up) .none kV17 dc17 pm17 an17 cd17 ct17), sl17⟩) (c17 : PySem.W.codeIn K cd17 "_law_cut_up" = true) (k17 : PySem.W.keepIn K (.ref f17) = true)
    {f18 : Addr} {od18 an18 : Option Addr} {sl18 : Array (Option Value)} {oc18 kV18 dc18 pm18 cd18 ct18 : Value}
    (a18 : PySem.W.nsIn K mainGlobals "_law_read_bracket" = some (some (.ref f18)))
    (l18 : K.lookup f18 = some ⟨oc18, od18, .func (PySem.W.fnOf "_law_read_bracket" "_law_read_bracket" (defArgs s_law_read_bracket) (defBody s_law_read_bracket) (defScope s_law_read_bracket) .none kV18 dc18 pm18 an18 cd18 ct18), sl18⟩) (c18 : PySem.W.codeIn K cd18 "_law_read_bracket" = true) (k18 : PySem.W.keepIn K (.ref f18) = true)
    {f19 : Addr} {od19 an19 : Option Addr} {sl19 : Array (Option Value)} {oc19 kV19 dc19 pm19 cd19 ct19 : Value}
    (a19 : PySem.W.nsIn K mainGlobals "_law_figure" = some (some (.ref f19)))
    (l19 : K.lookup f19 = some ⟨oc19, od19, .func (PySem.W.fnOf "_law_figure" "_law_figure" (defArgs s_law_figure) (defBody s_law_figure) (defScope s_law_figure) .none kV19 dc19 pm19 an19 cd19 ct19), sl19⟩) (c19 : PySem.W.codeIn K cd19 "_law_figure" = true) (k19 : PySem.W.keepIn K (.ref f19) = true)
    {f20 : Addr} {od20 an20 : Option Addr} {sl20 : Array (Option Value)} {oc20 kV20 dc20 pm20 cd20 ct20 : Value}
    (a20 : PySem.W.nsIn K mainGlobals "_law_is_name" = some (some (.ref f20)))
    (l20 : K.lookup f20 = some ⟨oc20, od20, .func (PySem.W.fnOf "_law_is_name" "_law_is_name" (defArgs s_law_is_name) (defBody s_law_is_name) (defScope s_law_is_name) .none kV20 dc20 pm20 an20 cd20 ct20), sl20⟩) (c20 : PySem.W.codeIn K cd20 "_law_is_name" = true) (k20 : PySem.W.keepIn K (.ref f20) = true)
    {f21 : Addr} {od21 an21 : Option Addr} {sl21 : Array (Option Value)} {oc21 kV21 dc21 pm21 cd21 ct21 : Value}
    (a21 : PySem.W.nsIn K mainGlobals "_law_read_end" = some (some (.ref f21)))
    (l21 : K.lookup f21 = some ⟨oc21, od21, .func (PySem.W.fnOf "_law_read_end" "_law_read_end" (defArgs s_law_read_end) (defBody s_law_read_end) (defScope s_law_read_end) .none kV21 dc21 pm21 an21 cd21 ct21), sl21⟩) (c21 : PySem.W.codeIn K cd21 "_law_read_end" = true) (k21 : PySem.W.keepIn K (.ref f21) = true)
    {f22 : Addr} {od22 an22 : Option Addr} {sl22 : Array (Option Value)} {oc22 kV22 dc22 pm22 cd22 ct22 : Value}
    (a22 : PySem.W.nsIn K mainGlobals "_law_read_leaf" = some (some (.ref f22)))
    (l22 : K.lookup f22 = some ⟨oc22, od22, .func (PySem.W.fnOf "_law_read_leaf" "_law_read_leaf" (defArgs s_law_read_leaf) (defBody s_law_read_leaf) (defScope s_law_read_leaf) .none kV22 dc22 pm22 an22 cd22 ct22), sl22⟩) (c22 : PySem.W.codeIn K cd22 "_law_read_leaf" = true) (k22 : PySem.W.keepIn K (.ref f22) = true)
    {f23 : Addr} {od23 an23 : Option Addr} {sl23 : Array (Option Value)} {oc23 kV23 dc23 pm23 cd23 ct23 : Value}
    (a23 : PySem.W.nsIn K mainGlobals "_law_read_ends" = some (some (.ref f23)))
    (l23 : K.lookup f23 = some ⟨oc23, od23, .func (PySem.W.fnOf "_law_read_ends" "_law_read_ends" (defArgs s_law_read_ends) (defBody s_law_read_ends) (defScope s_law_read_ends) .none kV23 dc23 pm23 an23 cd23 ct23), sl23⟩) (c23 : PySem.W.codeIn K cd23 "_law_read_ends" = true) (k23 : PySem.W.keepIn K (.ref f23) = true)
    {f24 : Addr} {od24 an24 : Option Addr} {sl24 : Array (Option Value)} {oc24 kV24 dc24 pm24 cd24 ct24 : Value}
    (a24 : PySem.W.nsIn K mainGlobals "_law_read_thing" = some (some (.ref f24)))
    (l24 : K.lookup f24 = some ⟨oc24, od24, .func (PySem.W.fnOf "_law_read_thing" "_law_read_thing" (defArgs s_law_read_thing) (defBody s_law_read_thing) (defScope s_law_read_thing) .none kV24 dc24 pm24 an24 cd24 ct24), sl24⟩) (c24 : PySem.W.codeIn K cd24 "_law_read_thing" = true) (k24 : PySem.W.keepIn K (.ref f24) = true)
    {f25 : Addr} {od25 an25 : Option Addr} {sl25 : Array (Option Value)} {oc25 kV25 dc25 pm25 cd25 ct25 : Value}
    (a25 : PySem.W.nsIn K mainGlobals "_law_read_body" = some (some (.ref f25)))
    (l25 : K.lookup f25 = some ⟨oc25, od25, .func (PySem.W.fnOf "_law_read_body" "_law_read_body" (defArgs s_law_read_body) (defBody s_law_read_body) (defScope s_law_read_body) .none kV25 dc25 pm25 an25 cd25 ct25), sl25⟩) (c25 : PySem.W.codeIn K cd25 "_law_read_body" = true) (k25 : PySem.W.keepIn K (.ref f25) = true)
    {f26 : Addr} {od26 an26 : Option Addr} {sl26 : Array (Option Value)} {oc26 kV26 dc26 pm26 cd26 ct26 : Value}
    (a26 : PySem.W.nsIn K mainGlobals "_law_reading" = some (some (.ref f26)))
    (l26 : K.lookup f26 = some ⟨oc26, od26, .func (PySem.W.fnOf "_law_reading" "_law_reading" (defArgs s_law_reading) (defBody s_law_reading) (defScope s_law_reading) .none kV26 dc26 pm26 an26 cd26 ct26), sl26⟩) (c26 : PySem.W.codeIn K cd26 "_law_reading" = true) (k26 : PySem.W.keepIn K (.ref f26) = true)
    {f27 : Addr} {od27 an27 : Option Addr} {sl27 : Array (Option Value)} {oc27 kV27 dc27 pm27 cd27 ct27 : Value}
    (a27 : PySem.W.findIn K (.ref C_Reader) "passed" = some (some (.ref f27))) (i27 : PySem.W.isFn K (.ref f27) = true)
    (l27 : K.lookup f27 = some ⟨oc27, od27, .func (PySem.W.fnOf "passed" "Reader.passed" (defArgs s_Reader_passed) (defBody s_Reader_passed) (defScope s_Reader_passed) .none kV27 dc27 pm27 an27 cd27 ct27), sl27⟩) (c27 : PySem.W.codeIn K cd27 "Reader.passed" = true) (k27 : PySem.W.keepIn K (.ref f27) = true)
    {f28 : Addr} {od28 an28 : Option Addr} {sl28 : Array (Option Value)} {oc28 kV28 dc28 pm28 cd28 ct28 : Value}
    (a28 : PySem.W.findIn K (.ref x_Refused) "__init__" = some (some (.ref f28)))
    {Td28 : Addr}    (l28 : K.lookup f28 = some ⟨oc28, od28, .func (PySem.W.fnOf "__init__" "Refused.__init__" (defArgs s_Refused_init) (defBody s_Refused_init) (defScope s_Refused_init) (.ref Td28) kV28 dc28 pm28 an28 cd28 ct28), sl28⟩) (c28 : PySem.W.codeIn K cd28 "Refused.__init__" = true) (k28 : PySem.W.keepIn K (.ref f28) = true)
    {oe28 : Option Addr} {nd28 : Nat} {sd28 : Array (Option Value)} {td28 : PySem.Tok} (q28 : K.lookup Td28 = some ⟨.type "tuple", oe28, .seq #[Value.str "Refused" td28] nd28, sd28⟩)
    {f29 : Addr} {od29 an29 : Option Addr} {sl29 : Array (Option Value)} {oc29 kV29 dc29 pm29 cd29 ct29 : Value}
    (a29 : PySem.W.findIn K (.ref x_BadText) "__init__" = some (some (.ref f29)))
    {Td29 : Addr}    (l29 : K.lookup f29 = some ⟨oc29, od29, .func (PySem.W.fnOf "__init__" "BadText.__init__" (defArgs s_BadText_init) (defBody s_BadText_init) (defScope s_BadText_init) (.ref Td29) kV29 dc29 pm29 an29 cd29 ct29), sl29⟩) (c29 : PySem.W.codeIn K cd29 "BadText.__init__" = true) (k29 : PySem.W.keepIn K (.ref f29) = true)
    {oe29 : Option Addr} {nd29 : Nat} {sd29 : Array (Option Value)} {td29 : PySem.Tok} (q29 : K.lookup Td29 = some ⟨.type "tuple", oe29, .seq #[Value.int 0 td29] nd29, sd29⟩)
    {f30 : Addr} {od30 an30 : Option Addr} {sl30 : Array (Option Value)} {oc30 kV30 dc30 pm30 cd30 ct30 : Value}
    (a30 : PySem.W.findIn K (.ref C_Reader) "bad" = some (some (.ref f30))) (i30 : PySem.W.isFn K (.ref f30) = true)
    (l30 : K.lookup f30 = some ⟨oc30, od30, .func (PySem.W.fnOf "bad" "Reader.bad" (defArgs s_Reader_bad) (defBody s_Reader_bad) (defScope s_Reader_bad) .none kV30 dc30 pm30 an30 cd30 ct30), sl30⟩) (c30 : PySem.W.codeIn K cd30 "Reader.bad" = true) (k30 : PySem.W.keepIn K (.ref f30) = true)
    {f31 : Addr} {od31 an31 : Option Addr} {sl31 : Array (Option Value)} {oc31 kV31 dc31 pm31 cd31 ct31 : Value}
    (a31 : PySem.W.findIn K (.ref C_Reader) "want" = some (some (.ref f31))) (i31 : PySem.W.isFn K (.ref f31) = true)
    (l31 : K.lookup f31 = some ⟨oc31, od31, .func (PySem.W.fnOf "want" "Reader.want" (defArgs s_Reader_want) (defBody s_Reader_want) (defScope s_Reader_want) .none kV31 dc31 pm31 an31 cd31 ct31), sl31⟩) (c31 : PySem.W.codeIn K cd31 "Reader.want" = true) (k31 : PySem.W.keepIn K (.ref f31) = true)
    {f32 : Addr} {od32 an32 : Option Addr} {sl32 : Array (Option Value)} {oc32 kV32 dc32 pm32 cd32 ct32 : Value}
    (a32 : PySem.W.findIn K (.ref C_Reader) "number" = some (some (.ref f32))) (i32 : PySem.W.isFn K (.ref f32) = true)
    (l32 : K.lookup f32 = some ⟨oc32, od32, .func (PySem.W.fnOf "number" "Reader.number" (defArgs s_Reader_number) (defBody s_Reader_number) (defScope s_Reader_number) .none kV32 dc32 pm32 an32 cd32 ct32), sl32⟩) (c32 : PySem.W.codeIn K cd32 "Reader.number" = true) (k32 : PySem.W.keepIn K (.ref f32) = true)
    {f33 : Addr} {od33 an33 : Option Addr} {sl33 : Array (Option Value)} {oc33 kV33 dc33 pm33 cd33 ct33 : Value}
    (a33 : PySem.W.nsIn K mainGlobals "is_name" = some (some (.ref f33)))
    (l33 : K.lookup f33 = some ⟨oc33, od33, .func (PySem.W.fnOf "is_name" "is_name" (defArgs s_is_name) (defBody s_is_name) (defScope s_is_name) .none kV33 dc33 pm33 an33 cd33 ct33), sl33⟩) (c33 : PySem.W.codeIn K cd33 "is_name" = true) (k33 : PySem.W.keepIn K (.ref f33) = true)
    {f34 : Addr} {od34 an34 : Option Addr} {sl34 : Array (Option Value)} {oc34 kV34 dc34 pm34 cd34 ct34 : Value}
    (a34 : PySem.W.findIn K (.ref C_Reader) "plain_name" = some (some (.ref f34))) (i34 : PySem.W.isFn K (.ref f34) = true)
    (l34 : K.lookup f34 = some ⟨oc34, od34, .func (PySem.W.fnOf "plain_name" "Reader.plain_name" (defArgs s_Reader_plain_name) (defBody s_Reader_plain_name) (defScope s_Reader_plain_name) .none kV34 dc34 pm34 an34 cd34 ct34), sl34⟩) (c34 : PySem.W.codeIn K cd34 "Reader.plain_name" = true) (k34 : PySem.W.keepIn K (.ref f34) = true)
    {f35 : Addr} {od35 an35 : Option Addr} {sl35 : Array (Option Value)} {oc35 kV35 dc35 pm35 cd35 ct35 : Value}
    (a35 : PySem.W.findIn K (.ref C_Reader) "end" = some (some (.ref f35))) (i35 : PySem.W.isFn K (.ref f35) = true)
    (l35 : K.lookup f35 = some ⟨oc35, od35, .func (PySem.W.fnOf "end" "Reader.end" (defArgs s_Reader_end) (defBody s_Reader_end) (defScope s_Reader_end) .none kV35 dc35 pm35 an35 cd35 ct35), sl35⟩) (c35 : PySem.W.codeIn K cd35 "Reader.end" = true) (k35 : PySem.W.keepIn K (.ref f35) = true)
    {f36 : Addr} {od36 an36 : Option Addr} {sl36 : Array (Option Value)} {oc36 kV36 dc36 pm36 cd36 ct36 : Value}
    (a36 : PySem.W.findIn K (.ref C_Reader) "bracket" = some (some (.ref f36))) (i36 : PySem.W.isFn K (.ref f36) = true)
    (l36 : K.lookup f36 = some ⟨oc36, od36, .func (PySem.W.fnOf "bracket" "Reader.bracket" (defArgs s_Reader_bracket) (defBody s_Reader_bracket) (defScope s_Reader_bracket) .none kV36 dc36 pm36 an36 cd36 ct36), sl36⟩) (c36 : PySem.W.codeIn K cd36 "Reader.bracket" = true) (k36 : PySem.W.keepIn K (.ref f36) = true)
    {f37 : Addr} {od37 an37 : Option Addr} {sl37 : Array (Option Value)} {oc37 kV37 dc37 pm37 cd37 ct37 : Value}
    (a37 : PySem.W.findIn K (.ref C_Reader) "going" = some (some (.ref f37))) (i37 : PySem.W.isFn K (.ref f37) = true)
    (l37 : K.lookup f37 = some ⟨oc37, od37, .func (PySem.W.fnOf "going" "Reader.going" (defArgs s_Reader_going) (defBody s_Reader_going) (defScope s_Reader_going) .none kV37 dc37 pm37 an37 cd37 ct37), sl37⟩) (c37 : PySem.W.codeIn K cd37 "Reader.going" = true) (k37 : PySem.W.keepIn K (.ref f37) = true)
    {f38 : Addr} {od38 an38 : Option Addr} {sl38 : Array (Option Value)} {oc38 kV38 dc38 pm38 cd38 ct38 : Value}
    (a38 : PySem.W.findIn K (.ref C_Reader) "choice" = some (some (.ref f38))) (i38 : PySem.W.isFn K (.ref f38) = true)
    (l38 : K.lookup f38 = some ⟨oc38, od38, .func (PySem.W.fnOf "choice" "Reader.choice" (defArgs s_Reader_choice) (defBody s_Reader_choice) (defScope s_Reader_choice) .none kV38 dc38 pm38 an38 cd38 ct38), sl38⟩) (c38 : PySem.W.codeIn K cd38 "Reader.choice" = true) (k38 : PySem.W.keepIn K (.ref f38) = true)
    {f39 : Addr} {od39 an39 : Option Addr} {sl39 : Array (Option Value)} {oc39 kV39 dc39 pm39 cd39 ct39 : Value}
    (a39 : PySem.W.findIn K (.ref C_Reader) "thing" = some (some (.ref f39))) (i39 : PySem.W.isFn K (.ref f39) = true)
    (l39 : K.lookup f39 = some ⟨oc39, od39, .func (PySem.W.fnOf "thing" "Reader.thing" (defArgs s_Reader_thing) (defBody s_Reader_thing) (defScope s_Reader_thing) .none kV39 dc39 pm39 an39 cd39 ct39), sl39⟩) (c39 : PySem.W.codeIn K cd39 "Reader.thing" = true) (k39 : PySem.W.keepIn K (.ref f39) = true)
    {f40 : Addr} {od40 an40 : Option Addr} {sl40 : Array (Option Value)} {oc40 kV40 dc40 pm40 cd40 ct40 : Value}
    (a40 : PySem.W.findIn K (.ref C_Reader) "body" = some (some (.ref f40))) (i40 : PySem.W.isFn K (.ref f40) = true)
    (l40 : K.lookup f40 = some ⟨oc40, od40, .func (PySem.W.fnOf "body" "Reader.body" (defArgs s_Reader_body) (defBody s_Reader_body) (defScope s_Reader_body) .none kV40 dc40 pm40 an40 cd40 ct40), sl40⟩) (c40 : PySem.W.codeIn K cd40 "Reader.body" = true) (k40 : PySem.W.keepIn K (.ref f40) = true)
    {f41 : Addr} {od41 an41 : Option Addr} {sl41 : Array (Option Value)} {oc41 kV41 dc41 pm41 cd41 ct41 : Value}
    (a41 : PySem.W.nsIn K mainGlobals "run_of" = some (some (.ref f41)))
    (l41 : K.lookup f41 = some ⟨oc41, od41, .func (PySem.W.fnOf "run_of" "run_of" (defArgs s_run_of) (defBody s_run_of) (defScope s_run_of) .none kV41 dc41 pm41 an41 cd41 ct41), sl41⟩) (c41 : PySem.W.codeIn K cd41 "run_of" = true) (k41 : PySem.W.keepIn K (.ref f41) = true)
    {f42 : Addr} {od42 an42 : Option Addr} {sl42 : Array (Option Value)} {oc42 kV42 dc42 pm42 cd42 ct42 : Value}
    (a42 : PySem.W.nsIn K mainGlobals "sign_at" = some (some (.ref f42)))
    (l42 : K.lookup f42 = some ⟨oc42, od42, .func (PySem.W.fnOf "sign_at" "sign_at" (defArgs s_sign_at) (defBody s_sign_at) (defScope s_sign_at) .none kV42 dc42 pm42 an42 cd42 ct42), sl42⟩) (c42 : PySem.W.codeIn K cd42 "sign_at" = true) (k42 : PySem.W.keepIn K (.ref f42) = true)
    {f43 : Addr} {od43 an43 : Option Addr} {sl43 : Array (Option Value)} {oc43 kV43 dc43 pm43 cd43 ct43 : Value}
    (a43 : PySem.W.nsIn K mainGlobals "signs_of" = some (some (.ref f43)))
    (l43 : K.lookup f43 = some ⟨oc43, od43, .func (PySem.W.fnOf "signs_of" "signs_of" (defArgs s_signs_of) (defBody s_signs_of) (defScope s_signs_of) .none kV43 dc43 pm43 an43 cd43 ct43), sl43⟩) (c43 : PySem.W.codeIn K cd43 "signs_of" = true) (k43 : PySem.W.keepIn K (.ref f43) = true)
    {f44 : Addr} {od44 an44 : Option Addr} {sl44 : Array (Option Value)} {oc44 kV44 dc44 pm44 cd44 ct44 : Value}
    (a44 : PySem.W.findIn K (.ref C_Reader) "__init__" = some (some (.ref f44))) (i44 : PySem.W.isFn K (.ref f44) = true)
    (l44 : K.lookup f44 = some ⟨oc44, od44, .func (PySem.W.fnOf "__init__" "Reader.__init__" (defArgs s_Reader_init) (defBody s_Reader_init) (defScope s_Reader_init) .none kV44 dc44 pm44 an44 cd44 ct44), sl44⟩) (c44 : PySem.W.codeIn K cd44 "Reader.__init__" = true) (k44 : PySem.W.keepIn K (.ref f44) = true)
    {f45 : Addr} {od45 an45 : Option Addr} {sl45 : Array (Option Value)} {oc45 kV45 dc45 pm45 cd45 ct45 : Value}
    (a45 : PySem.W.nsIn K mainGlobals "read_plan" = some (some (.ref f45)))
    (l45 : K.lookup f45 = some ⟨oc45, od45, .func (PySem.W.fnOf "read_plan" "read_plan" (defArgs s_read_plan) (defBody s_read_plan) (defScope s_read_plan) .none kV45 dc45 pm45 an45 cd45 ct45), sl45⟩) (c45 : PySem.W.codeIn K cd45 "read_plan" = true) (k45 : PySem.W.keepIn K (.ref f45) = true)
    {f46 : Addr} {od46 an46 : Option Addr} {sl46 : Array (Option Value)} {oc46 kV46 dc46 pm46 cd46 ct46 : Value}
    (a46 : PySem.W.nsIn K mainGlobals "law" = some (some (.ref f46)))
    (l46 : K.lookup f46 = some ⟨oc46, od46, .func (PySem.W.fnOf "law" "law" (defArgs s_law) (defBody s_law) (defScope s_law) .none kV46 dc46 pm46 an46 cd46 ct46), sl46⟩) (c46 : PySem.W.codeIn K cd46 "law" = true) (k46 : PySem.W.keepIn K (.ref f46) = true)
    {nm_BadText qq_BadText : Str} {N_BadText : Addr} {bs_BadText bm_BadText : List Value} {sn_BadText : List Str} {sub_BadText : List Value} {ab_BadText : Bool} {col_BadText : Option Bool} {dd_BadText : Option Addr} {m0_BadText m1_BadText m2_BadText m3_BadText m5_BadText : Option Value}
    (xl_BadText : K.lookup x_BadText = some (PySem.excClassObj nm_BadText qq_BadText x_BadText N_BadText bs_BadText bm_BadText true sn_BadText sub_BadText ab_BadText col_BadText dd_BadText m0_BadText m1_BadText m2_BadText m3_BadText m5_BadText "ValueError.__new__"))
    (rv_BadText : PySem.HandSPX.refsVE bm_BadText = true)
    (sa_BadText : PySem.W.findIn K (.ref x_BadText) "__setattr__" = some (some (.builtin "object.__setattr__")))
    (sb_BadText : PySem.W.subIn K (.ref x_BadText) (.type "BaseException") = some true)
    (tc_BadText : PySem.W.typeIn K (.ref x_BadText) = some (.type "type"))
    (kc_BadText : PySem.W.keepIn K (.ref x_BadText) = true)
    (ti_BadText : PySem.W.typeIn K (.ref f29) = some (.type "function"))
    (cl_BadText : PySem.W.isClsIn K x_BadText = true)
    (ga_BadText : PySem.W.findIn K (.ref x_BadText) "__getattribute__" = some (some (.builtin "BaseException.__getattribute__")))
    (gg_BadText : PySem.W.findIn K (.ref x_BadText) "__getattr__" = some none)
    (hd_BadText : PySem.W.hasDictIn K x_BadText = true)
    (ca_BadText : PySem.W.findIn K (.ref x_BadText) "__class__" = some (some (.builtin "object.__class__")))
    (mr_BadText : PySem.W.mroIn K x_BadText (.type "object") = some true)
    (nf_BadText_word : PySem.W.findIn K (.ref x_BadText) "word" = some none)
    (nf_BadText_at : PySem.W.findIn K (.ref x_BadText) "at" = some none)
    (em_BadText_BadText : PySem.W.exmOne K (.ref x_BadText) (.ref x_BadText) = some true)
    (em_BadText_BadPage : PySem.W.exmOne K (.ref x_BadText) (.ref x_BadPage) = some false)
    (em_BadText_Stopped : PySem.W.exmOne K (.ref x_BadText) (.ref x_Stopped) = some false)
    (em_BadText_Refused : PySem.W.exmOne K (.ref x_BadText) (.ref x_Refused) = some true)
    (et_BadText : PySem.W.exmAny K (.ref x_BadText) [.ref x_NoName, .ref x_Twice, .ref x_NoPlan, .ref x_NoLabel, .ref x_Taken, .ref x_Ring, .ref x_NotPlain, .ref x_Tangled, .ref x_Breaks, .ref x_InUse, .ref x_Uneven] = some false)
    (ki_BadText_Misread : PySem.W.kitOne K (.ref x_BadText) (.ref x_Misread) = some true)
    (ki_BadText_Unfit : PySem.W.kitOne K (.ref x_BadText) (.ref x_Unfit) = some false)
    (kv_BadText : PySem.W.kitOne K (.ref x_BadText) (.type "ValueError") = some true)
    (gt_cls : PySem.W.specialIn K (.builtin "object.__class__") "__get__" = some (some (.builtin "getset_descriptor.__get__")))
    (tk_cls : PySem.W.takesIn K (.builtin "object.__class__") = some true)
    (sg_Misread : PySem.W.specialIn K (.ref x_Misread) "__getattribute__" = some (some (.builtin "type.__getattribute__")))
    (rd_Misread : PySem.W.readsIn K x_Misread (.type "type") = true)
    (fc_Misread : PySem.W.findCls K (.ref x_Misread) (.type "type") "__init__" = some (.val (.ref f28)))
    (z_ValueError : PySem.W.nsIn K mainGlobals "ValueError" = some none)
    (z_abs : PySem.W.nsIn K mainGlobals "abs" = some none)
    (z_all : PySem.W.nsIn K mainGlobals "all" = some none)
    (z_bool : PySem.W.nsIn K mainGlobals "bool" = some none)
    (z_int : PySem.W.nsIn K mainGlobals "int" = some none)
    (z_isinstance : PySem.W.nsIn K mainGlobals "isinstance" = some none)
    (z_len : PySem.W.nsIn K mainGlobals "len" = some none)
    (z_list : PySem.W.nsIn K mainGlobals "list" = some none)
    (z_min : PySem.W.nsIn K mainGlobals "min" = some none)
    (z_range : PySem.W.nsIn K mainGlobals "range" = some none)
    (z_sorted : PySem.W.nsIn K mainGlobals "sorted" = some none)
    (z_str : PySem.W.nsIn K mainGlobals "str" = some none)
    (z_tuple : PySem.W.nsIn K mainGlobals "tuple" = some none)
    (z_zip : PySem.W.nsIn K mainGlobals "zip" = some none)
    {t_DIGITS : PySem.Tok} (m_DIGITS : PySem.W.nsIn K mainGlobals "DIGITS" = some (some (Value.str "0123456789" t_DIGITS)))
    {t_LETTERS : PySem.Tok} (m_LETTERS : PySem.W.nsIn K mainGlobals "LETTERS" = some (some (Value.str "abcdefghijklmnopqrstuvwxyz" t_LETTERS)))
    {t_LONGEST : PySem.Tok} (m_LONGEST : PySem.W.nsIn K mainGlobals "LONGEST" = some (some (Value.int 8 t_LONGEST)))
    {t_MOST_AGAIN : PySem.Tok} (m_MOST_AGAIN : PySem.W.nsIn K mainGlobals "MOST_AGAIN" = some (some (Value.int 9 t_MOST_AGAIN)))
    {t_MOST_DEEP : PySem.Tok} (m_MOST_DEEP : PySem.W.nsIn K mainGlobals "MOST_DEEP" = some (some (Value.int 4 t_MOST_DEEP)))
    {t_MOST_PLUS : PySem.Tok} (m_MOST_PLUS : PySem.W.nsIn K mainGlobals "MOST_PLUS" = some (some (Value.int 99 t_MOST_PLUS)))
    {t_MOST_STEP : PySem.Tok} (m_MOST_STEP : PySem.W.nsIn K mainGlobals "MOST_STEP" = some (some (Value.int 99 t_MOST_STEP)))
    {t_MOST_THINGS : PySem.Tok} (m_MOST_THINGS : PySem.W.nsIn K mainGlobals "MOST_THINGS" = some (some (Value.int 12 t_MOST_THINGS)))
    {t_SIZE : PySem.Tok} (m_SIZE : PySem.W.nsIn K mainGlobals "SIZE" = some (some (Value.str "n" t_SIZE)))
    {p_WAYS : Addr} {oa_WAYS : Option Addr} {n_WAYS : Nat} {sx_WAYS : Array (Option Value)} {t_WAYS_0 : PySem.Tok} {t_WAYS_1 : PySem.Tok} {t_WAYS_2 : PySem.Tok}
    (m_WAYS : PySem.W.nsIn K mainGlobals "WAYS" = some (some (.ref p_WAYS))) (q_WAYS : K.lookup p_WAYS = some ⟨.type "tuple", oa_WAYS, .seq #[Value.str "halves" t_WAYS_0, Value.str "thirds" t_WAYS_1, Value.str "less" t_WAYS_2] n_WAYS, sx_WAYS⟩)
    {p_WORDS : Addr} {oa_WORDS : Option Addr} {n_WORDS : Nat} {sx_WORDS : Array (Option Value)} {t_WORDS_0 : PySem.Tok} {t_WORDS_1 : PySem.Tok} {t_WORDS_2 : PySem.Tok} {t_WORDS_3 : PySem.Tok} {t_WORDS_4 : PySem.Tok} {t_WORDS_5 : PySem.Tok} {t_WORDS_6 : PySem.Tok} {t_WORDS_7 : PySem.Tok} {t_WORDS_8 : PySem.Tok} {t_WORDS_9 : PySem.Tok} {t_WORDS_10 : PySem.Tok} {t_WORDS_11 : PySem.Tok} {t_WORDS_12 : PySem.Tok} {t_WORDS_13 : PySem.Tok} {t_WORDS_14 : PySem.Tok}
    (m_WORDS : PySem.W.nsIn K mainGlobals "WORDS" = some (some (.ref p_WORDS))) (q_WORDS : K.lookup p_WORDS = some ⟨.type "tuple", oa_WORDS, .seq #[Value.str "step" t_WORDS_0, Value.str "for" t_WORDS_1, Value.str "from" t_WORDS_2, Value.str "to" t_WORDS_3, Value.str "if" t_WORDS_4, Value.str "else" t_WORDS_5, Value.str "double" t_WORDS_6, Value.str "call" t_WORDS_7, Value.str "with" t_WORDS_8, Value.str "again" t_WORDS_9, Value.str "on" t_WORDS_10, Value.str "halves" t_WORDS_11, Value.str "thirds" t_WORDS_12, Value.str "less" t_WORDS_13, Value.str "n" t_WORDS_14] n_WORDS, sx_WORDS⟩)
    {cL Pt : Addr} (hPt : h.get? Pt = some (PySem.W.tabObj #[])) (ec : cd46 = .ref cL) (hcL : PySem.W.codeHdIn K cL Pt = true) (nPt : K.lookup Pt = none)
    : LamX.LawAtS l w K CX0 LV 63 "_law_script" mg fa h := by
  have e := hfa.symm.trans (PySem.W.mg_of X G a46)
  cases e
  have F0 := fun_mk (st := s_law_begin) l0 c0 k0
  have b0 := F0.binds (ps := ["_law_script"]) fun _ _ _ _ _ _ us hl => match us, hl with | [_], _ => rfl
  have F1 := fun_mk (st := s_law_end_text) l1 c1 k1
  have b1 := F1.binds (ps := ["_law_end"]) fun _ _ _ _ _ _ us hl => match us, hl with | [_], _ => rfl
  have F2 := fun_mk (st := s_law_thing_text) l2 c2 k2
  have b2 := F2.binds (ps := ["_law_thing"]) fun _ _ _ _ _ _ us hl => match us, hl with | [_], _ => rfl
  have F3 := fun_mk (st := s_law_written) l3 c3 k3
  have b3 := F3.binds (ps := ["_law_plan"]) fun _ _ _ _ _ _ us hl => match us, hl with | [_], _ => rfl
  have F4 := fun_mk (st := s_law_take) l4 c4 k4
  have b4 := F4.binds (ps := ["_law_draw", "_law_sides"]) fun _ _ _ _ _ _ us hl => match us, hl with | [_, _], _ => rfl
  have F5 := fun_mk (st := s_law_pick) l5 c5 k5
  have b5 := F5.binds (ps := ["_law_draw", "_law_row"]) fun _ _ _ _ _ _ us hl => match us, hl with | [_, _], _ => rfl
  have F6 := fun_mk (st := s_law_some_end) l6 c6 k6
  have b6 := F6.binds (ps := ["_law_draw", "_law_scope", "_law_wide"]) fun _ _ _ _ _ _ us hl => match us, hl with | [_, _, _], _ => rfl
  have F7 := fun_mk (st := s_law_leaf) l7 c7 k7
  have b7 := F7.binds (ps := ["_law_draw", "_law_kit", "_law_scope", "_law_deep"]) fun _ _ _ _ _ _ us hl => match us, hl with | [_, _, _, _], _ => rfl
  have F8 := fun_mk (st := s_law_kept_words) l8 c8 k8
  have b8 := F8.binds (ps := []) fun _ _ _ _ _ _ us hl => match us, hl with | [], _ => rfl
  have F9 := fun_mk (st := s_law_fresh) l9 c9 k9
  have b9 := F9.binds (ps := ["_law_draw", "_law_taken"]) fun _ _ _ _ _ _ us hl => match us, hl with | [_, _], _ => rfl
  have F10 := fun_mk (st := s_law_drawn_thing) l10 c10 k10
  have b10 := F10.binds (ps := ["_law_draw", "_law_kit", "_law_scope", "_law_deep"]) fun _ _ _ _ _ _ us hl => match us, hl with | [_, _, _, _], _ => rfl
  have F11 := fun_mk (st := s_law_drawn_body) l11 c11 k11
  have b11 := F11.binds (ps := ["_law_draw", "_law_kit", "_law_scope", "_law_deep"]) fun _ _ _ _ _ _ us hl => match us, hl with | [_, _, _, _], _ => rfl
  have F12 := fun_mk (st := s_law_drawn) l12 c12 k12
  have b12 := F12.binds (ps := ["_law_draw", "_law_room", "_law_figures", "_law_wide"]) fun _ _ _ _ _ _ us hl => match us, hl with | [_, _, _, _], _ => rfl
  have F13 := fun_mk (st := s_law_spoilt_text) l13 c13 k13
  have b13 := F13.binds (ps := ["_law_draw", "_law_text"]) fun _ _ _ _ _ _ us hl => match us, hl with | [_, _], _ => rfl
  have F14 := fun_mk (st := s_law_same) l14 c14 k14
  have b14 := F14.binds (ps := ["_law_found", "_law_due"]) fun _ _ _ _ _ _ us hl => match us, hl with | [_, _], _ => rfl
  have F15 := fun_mk (st := s_law_class) l15 c15 k15
  have b15 := F15.binds (ps := ["_law_e"]) fun _ _ _ _ _ _ us hl => match us, hl with | [_], _ => rfl
  have F16 := fun_mk (st := s_law_tried) l16 c16 k16
  have b16 := F16.binds (ps := ["_law_ask"]) fun _ _ _ _ _ _ us hl => match us, hl with | [_], _ => rfl
  have F17 := fun_mk (st := s_law_cut_up) l17 c17 k17
  have b17 := F17.binds (ps := ["_law_text"]) fun _ _ _ _ _ _ us hl => match us, hl with | [_], _ => rfl
  have F18 := fun_mk (st := s_law_read_bracket) l18 c18 k18
  have b18 := F18.binds (ps := ["_law_signs", "_law_at", "_law_deep", "_law_room"]) fun _ _ _ _ _ _ us hl => match us, hl with | [_, _, _, _], _ => rfl
  have F19 := fun_mk (st := s_law_figure) l19 c19 k19
  have b19 := F19.binds (ps := ["_law_word", "_law_low", "_law_high"]) fun _ _ _ _ _ _ us hl => match us, hl with | [_, _, _], _ => rfl
  have F20 := fun_mk (st := s_law_is_name) l20 c20 k20
  have b20 := F20.binds (ps := ["_law_word"]) fun _ _ _ _ _ _ us hl => match us, hl with | [_], _ => rfl
  have F21 := fun_mk (st := s_law_read_end) l21 c21 k21
  have b21 := F21.binds (ps := ["_law_signs", "_law_at"]) fun _ _ _ _ _ _ us hl => match us, hl with | [_, _], _ => rfl
  have F22 := fun_mk (st := s_law_read_leaf) l22 c22 k22
  have b22 := F22.binds (ps := ["_law_signs", "_law_at"]) fun _ _ _ _ _ _ us hl => match us, hl with | [_, _], _ => rfl
  have F23 := fun_mk (st := s_law_read_ends) l23 c23 k23
  have b23 := F23.binds (ps := ["_law_signs", "_law_at", "_law_middle"]) fun _ _ _ _ _ _ us hl => match us, hl with | [_, _, _], _ => rfl
  have F24 := fun_mk (st := s_law_read_thing) l24 c24 k24
  have b24 := F24.binds (ps := ["_law_signs", "_law_at", "_law_deep", "_law_room"]) fun _ _ _ _ _ _ us hl => match us, hl with | [_, _, _, _], _ => rfl
  have F25 := fun_mk (st := s_law_read_body) l25 c25 k25
  have b25 := F25.binds (ps := ["_law_signs", "_law_at", "_law_deep", "_law_room"]) fun _ _ _ _ _ _ us hl => match us, hl with | [_, _, _, _], _ => rfl
  have F26 := fun_mk (st := s_law_reading) l26 c26 k26
  have b26 := F26.binds (ps := ["_law_text"]) fun _ _ _ _ _ _ us hl => match us, hl with | [_], _ => rfl
  have F27 := fun_mk (st := s_Reader_passed) l27 c27 k27
  have b27 := F27.binds (ps := ["self", "kind", "thing"]) fun _ _ _ _ _ _ us hl => match us, hl with | [_, _, _], _ => rfl
  have F28 : FunD K "__init__" "Refused.__init__" (defArgs s_Refused_init) (defBody s_Refused_init) (defScope s_Refused_init) [V.str "Refused"] [] f28 _ := ⟨⟨_, _, _, _, _, _, _, _, _, _, rfl, l28, c28, .inr ⟨by simp, Td28, _, [Value.str "Refused" td28], _, rfl, q28, rfl, .cons ⟨_, rfl⟩ .nil⟩, .inl rfl⟩, k28⟩
  obtain ⟨ds28, dv28, b28⟩ := F28.binds1 (ps := ["self", "word"]) 2 1 (by simp) rfl fun _ _ _ _ _ _ _ us its h1 h2 => match us, its, h1, h2 with | [_, _], [_], _, _ => ⟨_, rfl, rfl⟩
  cases dv28
  have F29 : FunD K "__init__" "BadText.__init__" (defArgs s_BadText_init) (defBody s_BadText_init) (defScope s_BadText_init) [V.int 0] [] f29 _ := ⟨⟨_, _, _, _, _, _, _, _, _, _, rfl, l29, c29, .inr ⟨by simp, Td29, _, [Value.int 0 td29], _, rfl, q29, rfl, .cons ⟨_, rfl⟩ .nil⟩, .inl rfl⟩, k29⟩
  obtain ⟨ds29, dv29, b29⟩ := F29.binds1 (ps := ["self", "at"]) 2 1 (by simp) rfl fun _ _ _ _ _ _ _ us its h1 h2 => match us, its, h1, h2 with | [_, _], [_], _, _ => ⟨_, rfl, rfl⟩
  cases dv29
  have F30 := fun_mk (st := s_Reader_bad) l30 c30 k30
  have b30 := F30.binds (ps := ["self"]) fun _ _ _ _ _ _ us hl => match us, hl with | [_], _ => rfl
  have F31 := fun_mk (st := s_Reader_want) l31 c31 k31
  have b31 := F31.binds (ps := ["self", "kind", "thing"]) fun _ _ _ _ _ _ us hl => match us, hl with | [_, _, _], _ => rfl
  have F32 := fun_mk (st := s_Reader_number) l32 c32 k32
  have b32 := F32.binds (ps := ["self", "least", "most"]) fun _ _ _ _ _ _ us hl => match us, hl with | [_, _, _], _ => rfl
  have F33 := fun_mk (st := s_is_name) l33 c33 k33
  have b33 := F33.binds (ps := ["text"]) fun _ _ _ _ _ _ us hl => match us, hl with | [_], _ => rfl
  have F34 := fun_mk (st := s_Reader_plain_name) l34 c34 k34
  have b34 := F34.binds (ps := ["self"]) fun _ _ _ _ _ _ us hl => match us, hl with | [_], _ => rfl
  have F35 := fun_mk (st := s_Reader_end) l35 c35 k35
  have b35 := F35.binds (ps := ["self"]) fun _ _ _ _ _ _ us hl => match us, hl with | [_], _ => rfl
  have F36 := fun_mk (st := s_Reader_bracket) l36 c36 k36
  have b36 := F36.binds (ps := ["self", "deep"]) fun _ _ _ _ _ _ us hl => match us, hl with | [_, _], _ => rfl
  have F37 := fun_mk (st := s_Reader_going) l37 c37 k37
  have b37 := F37.binds (ps := ["self", "deep"]) fun _ _ _ _ _ _ us hl => match us, hl with | [_, _], _ => rfl
  have F38 := fun_mk (st := s_Reader_choice) l38 c38 k38
  have b38 := F38.binds (ps := ["self", "deep"]) fun _ _ _ _ _ _ us hl => match us, hl with | [_, _], _ => rfl
  have F39 := fun_mk (st := s_Reader_thing) l39 c39 k39
  have b39 := F39.binds (ps := ["self", "deep"]) fun _ _ _ _ _ _ us hl => match us, hl with | [_, _], _ => rfl
  have F40 := fun_mk (st := s_Reader_body) l40 c40 k40
  have b40 := F40.binds (ps := ["self", "deep"]) fun _ _ _ _ _ _ us hl => match us, hl with | [_, _], _ => rfl
  have F41 := fun_mk (st := s_run_of) l41 c41 k41
  have b41 := F41.binds (ps := ["text", "at", "some"]) fun _ _ _ _ _ _ us hl => match us, hl with | [_, _, _], _ => rfl
  have F42 := fun_mk (st := s_sign_at) l42 c42 k42
  have b42 := F42.binds (ps := ["text", "at"]) fun _ _ _ _ _ _ us hl => match us, hl with | [_, _], _ => rfl
  have F43 := fun_mk (st := s_signs_of) l43 c43 k43
  have b43 := F43.binds (ps := ["text"]) fun _ _ _ _ _ _ us hl => match us, hl with | [_], _ => rfl
  have F44 := fun_mk (st := s_Reader_init) l44 c44 k44
  have b44 := F44.binds (ps := ["self", "text"]) fun _ _ _ _ _ _ us hl => match us, hl with | [_, _], _ => rfl
  have F45 := fun_mk (st := s_read_plan) l45 c45 k45
  have b45 := F45.binds (ps := ["text"]) fun _ _ _ _ _ _ us hl => match us, hl with | [_], _ => rfl
  have F46 := fun_mk (st := s_law) l46 c46 k46
  have b46 := F46.binds (ps := ["_law_script"]) fun _ _ _ _ _ _ us hl => match us, hl with | [_], _ => rfl
  let T : Txt K mg := ⟨f0, _, F0, b0, PySem.W.mg_of X G a0,
    f1, _, F1, b1, PySem.W.mg_of X G a1,
    f2, _, F2, b2, PySem.W.mg_of X G a2,
    f3, _, F3, b3, PySem.W.mg_of X G a3,
    f4, _, F4, b4, PySem.W.mg_of X G a4,
    f5, _, F5, b5, PySem.W.mg_of X G a5,
    f6, _, F6, b6, PySem.W.mg_of X G a6,
    f7, _, F7, b7, PySem.W.mg_of X G a7,
    f8, _, F8, b8, PySem.W.mg_of X G a8,
    f9, _, F9, b9, PySem.W.mg_of X G a9,
    f10, _, F10, b10, PySem.W.mg_of X G a10,
    f11, _, F11, b11, PySem.W.mg_of X G a11,
    f12, _, F12, b12, PySem.W.mg_of X G a12,
    f13, _, F13, b13, PySem.W.mg_of X G a13,
    f14, _, F14, b14, PySem.W.mg_of X G a14,
    f15, _, F15, b15, PySem.W.mg_of X G a15,
    f16, _, F16, b16, PySem.W.mg_of X G a16,
    f17, _, F17, b17, PySem.W.mg_of X G a17,
    f18, _, F18, b18, PySem.W.mg_of X G a18,
    f19, _, F19, b19, PySem.W.mg_of X G a19,
    f20, _, F20, b20, PySem.W.mg_of X G a20,
    f21, _, F21, b21, PySem.W.mg_of X G a21,
    f22, _, F22, b22, PySem.W.mg_of X G a22,
    f23, _, F23, b23, PySem.W.mg_of X G a23,
    f24, _, F24, b24, PySem.W.mg_of X G a24,
    f25, _, F25, b25, PySem.W.mg_of X G a25,
    f26, _, F26, b26, PySem.W.mg_of X G a26,
    f27, _, F27, b27,
    f28, _, F28, b28,
    f29, _, F29, b29,
    f30, _, F30, b30,
    f31, _, F31, b31,
    f32, _, F32, b32,
    f33, _, F33, b33, PySem.W.mg_of X G a33,
    f34, _, F34, b34,
    f35, _, F35, b35,
    f36, _, F36, b36,
    f37, _, F37, b37,
    f38, _, F38, b38,
    f39, _, F39, b39,
    f40, _, F40, b40,
    f41, _, F41, b41, PySem.W.mg_of X G a41,
    f42, _, F42, b42, PySem.W.mg_of X G a42,
    f43, _, F43, b43, PySem.W.mg_of X G a43,
    f44, _, F44, b44,
    f45, _, F45, b45, PySem.W.mg_of X G a45,
    fa, _, F46, b46, PySem.W.mg_of X G a46,
    C_Reader, ⟨pg_Reader, hd_Reader, po_Reader, sa_Reader⟩, PySem.W.mg_of X G gc_Reader,
    ⟨a27, i27, k27⟩,
    ⟨a30, i30, k30⟩,
    ⟨a31, i31, k31⟩,
    ⟨a32, i32, k32⟩,
    ⟨a34, i34, k34⟩,
    ⟨a35, i35, k35⟩,
    ⟨a36, i36, k36⟩,
    ⟨a37, i37, k37⟩,
    ⟨a38, i38, k38⟩,
    ⟨a39, i39, k39⟩,
    ⟨a40, i40, k40⟩,
    ⟨mk_Reader, a44, i44, kc_Reader⟩,
    na_Reader_signs,
    na_Reader_spot,
    na_Reader_many,
    x_Refused, PySem.W.mg_of X G gx_Refused,
    x_Misread, PySem.W.mg_of X G gx_Misread,
    x_Unfit, PySem.W.mg_of X G gx_Unfit,
    x_BadText, PySem.W.mg_of X G gx_BadText,
    x_BadPage, PySem.W.mg_of X G gx_BadPage,
    x_Stopped, PySem.W.mg_of X G gx_Stopped,
    x_NoName, PySem.W.mg_of X G gx_NoName,
    x_Twice, PySem.W.mg_of X G gx_Twice,
    x_NoPlan, PySem.W.mg_of X G gx_NoPlan,
    x_NoLabel, PySem.W.mg_of X G gx_NoLabel,
    x_Taken, PySem.W.mg_of X G gx_Taken,
    x_Ring, PySem.W.mg_of X G gx_Ring,
    x_NotPlain, PySem.W.mg_of X G gx_NotPlain,
    x_Tangled, PySem.W.mg_of X G gx_Tangled,
    x_Breaks, PySem.W.mg_of X G gx_Breaks,
    x_InUse, PySem.W.mg_of X G gx_InUse,
    x_Uneven, PySem.W.mg_of X G gx_Uneven,
    ⟨⟨_, _, _, _, _, _, _, _, _, _, _, _, _, _, _, xl_BadText, rv_BadText⟩, sa_BadText, sb_BadText, tc_BadText, kc_BadText⟩, a29, ti_BadText, ⟨cl_BadText, ga_BadText, gg_BadText, sb_BadText, hd_BadText, ca_BadText, gt_cls, tk_cls, mr_BadText⟩,
    nf_BadText_word,
    nf_BadText_at,
    em_BadText_BadText,
    em_BadText_BadPage,
    em_BadText_Stopped,
    em_BadText_Refused,
    et_BadText,
    ki_BadText_Misread,
    ki_BadText_Unfit,
    kv_BadText,
    sg_Misread, rd_Misread, fc_Misread,
    PySem.W.mg_none_of X G z_ValueError,
    PySem.W.mg_none_of X G z_abs,
    PySem.W.mg_none_of X G z_all,
    PySem.W.mg_none_of X G z_bool,
    PySem.W.mg_none_of X G z_int,
    PySem.W.mg_none_of X G z_isinstance,
    PySem.W.mg_none_of X G z_len,
    PySem.W.mg_none_of X G z_list,
    PySem.W.mg_none_of X G z_min,
    PySem.W.mg_none_of X G z_range,
    PySem.W.mg_none_of X G z_sorted,
    PySem.W.mg_none_of X G z_str,
    PySem.W.mg_none_of X G z_tuple,
    PySem.W.mg_none_of X G z_zip,
    _, PySem.W.mg_of X G m_DIGITS, ⟨_, rfl⟩,
    _, PySem.W.mg_of X G m_LETTERS, ⟨_, rfl⟩,
    _, PySem.W.mg_of X G m_LONGEST, ⟨_, rfl⟩,
    _, PySem.W.mg_of X G m_MOST_AGAIN, ⟨_, rfl⟩,
    _, PySem.W.mg_of X G m_MOST_DEEP, ⟨_, rfl⟩,
    _, PySem.W.mg_of X G m_MOST_PLUS, ⟨_, rfl⟩,
    _, PySem.W.mg_of X G m_MOST_STEP, ⟨_, rfl⟩,
    _, PySem.W.mg_of X G m_MOST_THINGS, ⟨_, rfl⟩,
    _, PySem.W.mg_of X G m_SIZE, ⟨_, rfl⟩,
    _, PySem.W.mg_of X G m_WAYS, p_WAYS, rfl, fun H => Or.inr ⟨_, _, _, q_WAYS, rfl, rfl, (by show 3 ≤ sizeLine; decide), (.cons ⟨_, rfl⟩ (.cons ⟨_, rfl⟩ (.cons ⟨_, rfl⟩ .nil)))⟩,
    _, PySem.W.mg_of X G m_WORDS, p_WORDS, rfl, fun H => Or.inr ⟨_, _, _, q_WORDS, rfl, rfl, (by show 15 ≤ sizeLine; decide), (.cons ⟨_, rfl⟩ (.cons ⟨_, rfl⟩ (.cons ⟨_, rfl⟩ (.cons ⟨_, rfl⟩ (.cons ⟨_, rfl⟩ (.cons ⟨_, rfl⟩ (.cons ⟨_, rfl⟩ (.cons ⟨_, rfl⟩ (.cons ⟨_, rfl⟩ (.cons ⟨_, rfl⟩ (.cons ⟨_, rfl⟩ (.cons ⟨_, rfl⟩ (.cons ⟨_, rfl⟩ (.cons ⟨_, rfl⟩ (.cons ⟨_, rfl⟩ .nil)))))))))))))))⟩⟩
  subst ec
  exact ⟨T.d_law, [(cL, Pt)], spLaw K Pt, fun p hp => by rw [List.mem_singleton.mp hp]; exact hPt, fun p hp => by rw [List.mem_singleton.mp hp]; exact nPt, fun p hp => by rw [List.mem_singleton.mp hp]; exact PySem.W.codeHd_of_K X hcL, fun s v => .of_eq rfl,
    fun H a ns hl _ hH hS => ⟨a, ns, rfl, hH _ List.mem_cons_self, hS, hl, fun _ => rfl⟩, fun base _ _ hT => ok_law T cL Pt rfl (hT _ List.mem_cons_self)⟩
end My
open PySem PySem.W PyProof.Rows
set_option maxHeartbeats 0 in
theorem PySem.Challenge.cw_outgrow_k05_texts_that_are_no_plans_holds : PySem.Challenge.rw_outgrow_k05_texts_that_are_no_plans.Holds := by
  w_on; o_law; k_head; (case hw => w_witness2)
  k_fill
  refine LamX.walk_ofTs (l := PySem.Challenge.rw_outgrow_k05_texts_that_are_no_plans) (n := 63) (k := My.LV) (x := "_law_script") (CX := fun _ => L2.CX0) rfl (by decide) rfl ⟨rfl, by decide, by decide⟩ (fun w h Y => PySem.W.km_in_of Y) ?F (fun _ _ _ _ _ h => h)
  case F =>
    intro w mg fa h Y KX G hmg
    refine' My.all_mk KX G hmg ?gc_Reader ?pg_Reader ?hd_Reader ?po_Reader ?sa_Reader ?mk_Reader ?kc_Reader ?na_Reader_signs ?na_Reader_spot ?na_Reader_many ?gx_Refused ?gx_Misread ?gx_Unfit ?gx_BadText ?gx_BadPage ?gx_Stopped ?gx_NoName ?gx_Twice ?gx_NoPlan ?gx_NoLabel ?gx_Taken ?gx_Ring ?gx_NotPlain ?gx_Tangled ?gx_Breaks ?gx_InUse ?gx_Uneven ?a0 ?l0 ?c0 ?k0 ?a1 ?l1 ?c1 ?k1 ?a2 ?l2 ?c2 ?k2 ?a3 ?l3 ?c3 ?k3 ?a4 ?l4 ?c4 ?k4 ?a5 ?l5 ?c5 ?k5 ?a6 ?l6 ?c6 ?k6 ?a7 ?l7 ?c7 ?k7 ?a8 ?l8 ?c8 ?k8 ?a9 ?l9 ?c9 ?k9 ?a10 ?l10 ?c10 ?k10 ?a11 ?l11 ?c11 ?k11 ?a12 ?l12 ?c12 ?k12 ?a13 ?l13 ?c13 ?k13 ?a14 ?l14 ?c14 ?k14 ?a15 ?l15 ?c15 ?k15 ?a16 ?l16 ?c16 ?k16 ?a17 ?l17 ?c17 ?k17 ?a18 ?l18 ?c18 ?k18 ?a19 ?l19 ?c19 ?k19 ?a20 ?l20 ?c20 ?k20 ?a21 ?l21 ?c21 ?k21 ?a22 ?l22 ?c22 ?k22 ?a23 ?l23 ?c23 ?k23 ?a24 ?l24 ?c24 ?k24 ?a25 ?l25 ?c25 ?k25 ?a26 ?l26 ?c26 ?k26 ?i27 ?a27 ?l27 ?c27 ?k27 ?a28 ?l28 ?c28 ?k28 ?q28 ?a29 ?l29 ?c29 ?k29 ?q29 ?i30 ?a30 ?l30 ?c30 ?k30 ?i31 ?a31 ?l31 ?c31 ?k31 ?i32 ?a32 ?l32 ?c32 ?k32 ?a33 ?l33 ?c33 ?k33 ?i34 ?a34 ?l34 ?c34 ?k34 ?i35 ?a35 ?l35 ?c35 ?k35 ?i36 ?a36 ?l36 ?c36 ?k36 ?i37 ?a37 ?l37 ?c37 ?k37 ?i38 ?a38 ?l38 ?c38 ?k38 ?i39 ?a39 ?l39 ?c39 ?k39 ?i40 ?a40 ?l40 ?c40 ?k40 ?a41 ?l41 ?c41 ?k41 ?a42 ?l42 ?c42 ?k42 ?a43 ?l43 ?c43 ?k43 ?i44 ?a44 ?l44 ?c44 ?k44 ?a45 ?l45 ?c45 ?k45 ?a46 ?l46 ?c46 ?k46 ?xl_BadText ?rv_BadText ?sa_BadText ?sb_BadText ?tc_BadText ?kc_BadText ?ti_BadText ?cl_BadText ?ga_BadText ?gg_BadText ?hd_BadText ?ca_BadText ?mr_BadText ?nf_BadText_word ?nf_BadText_at ?em_BadText_BadText ?em_BadText_BadPage ?em_BadText_Stopped ?em_BadText_Refused ?et_BadText ?ki_BadText_Misread ?ki_BadText_Unfit ?kv_BadText ?gt_cls ?tk_cls ?sg_Misread ?rd_Misread ?fc_Misread ?z_ValueError ?z_abs ?z_all ?z_bool ?z_int ?z_isinstance ?z_len ?z_list ?z_min ?z_range ?z_sorted ?z_str ?z_tuple ?z_zip ?m_DIGITS ?m_LETTERS ?m_LONGEST ?m_MOST_AGAIN ?m_MOST_DEEP ?m_MOST_PLUS ?m_MOST_STEP ?m_MOST_THINGS ?m_SIZE ?m_WAYS ?q_WAYS ?m_WORDS ?q_WORDS ?hPt ?ec ?hcL ?nPt
    (case gc_Reader => k_is)
    (case pg_Reader => k_is)
    (case hd_Reader => k_is)
    (case po_Reader => k_is)
    (case sa_Reader => k_is)
    (case mk_Reader => k_is)
    (case kc_Reader => k_is)
    (case na_Reader_signs => k_is)
    (case na_Reader_spot => k_is)
    (case na_Reader_many => k_is)
    (case gx_Refused => k_is)
    (case gx_Misread => k_is)
    (case gx_Unfit => k_is)
    (case gx_BadText => k_is)
    (case gx_BadPage => k_is)
    (case gx_Stopped => k_is)
    (case gx_NoName => k_is)
    (case gx_Twice => k_is)
    (case gx_NoPlan => k_is)
    (case gx_NoLabel => k_is)
    (case gx_Taken => k_is)
    (case gx_Ring => k_is)
    (case gx_NotPlain => k_is)
    (case gx_Tangled => k_is)
    (case gx_Breaks => k_is)
    (case gx_InUse => k_is)
    (case gx_Uneven => k_is)
    (case a0 => k_is)
    (case l0 => k_is)
    (case c0 => k_is)
    (case k0 => k_is)
    (case a1 => k_is)
    (case l1 => k_is)
    (case c1 => k_is)
    (case k1 => k_is)
    (case a2 => k_is)
    (case l2 => k_is)
    (case c2 => k_is)
    (case k2 => k_is)
    (case a3 => k_is)
    (case l3 => k_is)
    (case c3 => k_is)
    (case k3 => k_is)
    (case a4 => k_is)
    (case l4 => k_is)
    (case c4 => k_is)
    (case k4 => k_is)
    (case a5 => k_is)
    (case l5 => k_is)
    (case c5 => k_is)
    (case k5 => k_is)
    (case a6 => k_is)
    (case l6 => k_is)
    (case c6 => k_is)
    (case k6 => k_is)
    (case a7 => k_is)
    (case l7 => k_is)
    (case c7 => k_is)
    (case k7 => k_is)
    (case a8 => k_is)
    (case l8 => k_is)
    (case c8 => k_is)
    (case k8 => k_is)
    (case a9 => k_is)
    (case l9 => k_is)
    (case c9 => k_is)
    (case k9 => k_is)
    (case a10 => k_is)
    (case l10 => k_is)
    (case c10 => k_is)
    (case k10 => k_is)
    (case a11 => k_is)
    (case l11 => k_is)
    (case c11 => k_is)
    (case k11 => k_is)
    (case a12 => k_is)
    (case l12 => k_is)
    (case c12 => k_is)
    (case k12 => k_is)
    (case a13 => k_is)
    (case l13 => k_is)
    (case c13 => k_is)
    (case k13 => k_is)
    (case a14 => k_is)
    (case l14 => k_is)
    (case c14 => k_is)
    (case k14 => k_is)
    (case a15 => k_is)
    (case l15 => k_is)
    (case c15 => k_is)
    (case k15 => k_is)
    (case a16 => k_is)
    (case l16 => k_is)
    (case c16 => k_is)
    (case k16 => k_is)
    (case a17 => k_is)
    (case l17 => k_is)
    (case c17 => k_is)
    (case k17 => k_is)
    (case a18 => k_is)
    (case l18 => k_is)
    (case c18 => k_is)
    (case k18 => k_is)
    (case a19 => k_is)
    (case l19 => k_is)
    (case c19 => k_is)
    (case k19 => k_is)
    (case a20 => k_is)
    (case l20 => k_is)
    (case c20 => k_is)
    (case k20 => k_is)
    (case a21 => k_is)
    (case l21 => k_is)
    (case c21 => k_is)
    (case k21 => k_is)
    (case a22 => k_is)
    (case l22 => k_is)
    (case c22 => k_is)
    (case k22 => k_is)
    (case a23 => k_is)
    (case l23 => k_is)
    (case c23 => k_is)
    (case k23 => k_is)
    (case a24 => k_is)
    (case l24 => k_is)
    (case c24 => k_is)
    (case k24 => k_is)
    (case a25 => k_is)
    (case l25 => k_is)
    (case c25 => k_is)
    (case k25 => k_is)
    (case a26 => k_is)
    (case l26 => k_is)
    (case c26 => k_is)
    (case k26 => k_is)
    (case i27 => k_is)
    (case a27 => k_is)
    (case l27 => k_is)
    (case c27 => k_is)
    (case k27 => k_is)
    (case a28 => k_is)
    (case l28 => k_is)
    (case c28 => k_is)
    (case k28 => k_is)
    (case q28 => k_is)
    (case a29 => k_is)
    (case l29 => k_is)
    (case c29 => k_is)
    (case k29 => k_is)
    (case q29 => k_is)
    (case i30 => k_is)
    (case a30 => k_is)
    (case l30 => k_is)
    (case c30 => k_is)
    (case k30 => k_is)
    (case i31 => k_is)
    (case a31 => k_is)
    (case l31 => k_is)
    (case c31 => k_is)
    (case k31 => k_is)
    (case i32 => k_is)
    (case a32 => k_is)
    (case l32 => k_is)
    (case c32 => k_is)
    (case k32 => k_is)
    (case a33 => k_is)
    (case l33 => k_is)
    (case c33 => k_is)
    (case k33 => k_is)
    (case i34 => k_is)
    (case a34 => k_is)
    (case l34 => k_is)
    (case c34 => k_is)
    (case k34 => k_is)
    (case i35 => k_is)
    (case a35 => k_is)
    (case l35 => k_is)
    (case c35 => k_is)
    (case k35 => k_is)
    (case i36 => k_is)
    (case a36 => k_is)
    (case l36 => k_is)
    (case c36 => k_is)
    (case k36 => k_is)
    (case i37 => k_is)
    (case a37 => k_is)
    (case l37 => k_is)
    (case c37 => k_is)
    (case k37 => k_is)
    (case i38 => k_is)
    (case a38 => k_is)
    (case l38 => k_is)
    (case c38 => k_is)
    (case k38 => k_is)
    (case i39 => k_is)
    (case a39 => k_is)
    (case l39 => k_is)
    (case c39 => k_is)
    (case k39 => k_is)
    (case i40 => k_is)
    (case a40 => k_is)
    (case l40 => k_is)
    (case c40 => k_is)
    (case k40 => k_is)
    (case a41 => k_is)
    (case l41 => k_is)
    (case c41 => k_is)
    (case k41 => k_is)
    (case a42 => k_is)
    (case l42 => k_is)
    (case c42 => k_is)
    (case k42 => k_is)
    (case a43 => k_is)
    (case l43 => k_is)
    (case c43 => k_is)
    (case k43 => k_is)
    (case i44 => k_is)
    (case a44 => k_is)
    (case l44 => k_is)
    (case c44 => k_is)
    (case k44 => k_is)
    (case a45 => k_is)
    (case l45 => k_is)
    (case c45 => k_is)
    (case k45 => k_is)
    (case a46 => k_is)
    (case l46 => k_is)
    (case c46 => k_is)
    (case k46 => k_is)
    (case xl_BadText => k_is)
    (case rv_BadText => rfl)
    (case sa_BadText => k_is)
    (case sb_BadText => k_is)
    (case tc_BadText => k_is)
    (case kc_BadText => k_is)
    (case ti_BadText => k_is)
    (case cl_BadText => k_is)
    (case ga_BadText => k_is)
    (case gg_BadText => k_is)
    (case hd_BadText => k_is)
    (case ca_BadText => k_is)
    (case mr_BadText => k_is)
    (case nf_BadText_word => k_is)
    (case nf_BadText_at => k_is)
    (case em_BadText_BadText => kts_exm)
    (case em_BadText_BadPage => kts_exm)
    (case em_BadText_Stopped => kts_exm)
    (case em_BadText_Refused => kts_exm)
    (case et_BadText => kts_exm)
    (case ki_BadText_Misread => kit_is)
    (case ki_BadText_Unfit => kit_is)
    (case kv_BadText => kit_is)
    (case gt_cls => k_is)
    (case tk_cls => k_is)
    (case sg_Misread => k_is)
    (case rd_Misread => k_is)
    (case fc_Misread => k_is)
    (case z_ValueError => k_is)
    (case z_abs => k_is)
    (case z_all => k_is)
    (case z_bool => k_is)
    (case z_int => k_is)
    (case z_isinstance => k_is)
    (case z_len => k_is)
    (case z_list => k_is)
    (case z_min => k_is)
    (case z_range => k_is)
    (case z_sorted => k_is)
    (case z_str => k_is)
    (case z_tuple => k_is)
    (case z_zip => k_is)
    (case m_DIGITS => k_is)
    (case m_LETTERS => k_is)
    (case m_LONGEST => k_is)
    (case m_MOST_AGAIN => k_is)
    (case m_MOST_DEEP => k_is)
    (case m_MOST_PLUS => k_is)
    (case m_MOST_STEP => k_is)
    (case m_MOST_THINGS => k_is)
    (case m_SIZE => k_is)
    (case m_WAYS => k_is)
    (case q_WAYS => k_is)
    (case m_WORDS => k_is)
    (case q_WORDS => k_is)
    (case hPt => exact PySem.W.km_tabs_of Y _ List.mem_cons_self)
    (case ec => rfl)
    (case hcL => kernel_rfl)
    (case nPt => kernel_rfl)
#print axioms PySem.Challenge.cw_outgrow_k05_texts_that_are_no_plans_holds
