import PyProof.Rows.All
import Wide.All
import OpenK.AllK
import Wide.FinOn
import HandS.ForMost
import HandS.Wide
import HandS.WideMore
import HandS.IsInst
import HandS.Style
import HandS.Codes
import HandS.Walk
import HandS.Zip
import HandS.SortRule
import HandS.Conv
import HandS.FStr
import HandS.More
import HandS.TupAny
import HandS.WideBits
import KE.KDictKeyed
import KE.KDictWalk
import KE.KeyNested
import PySem.Challenge.RW_outgrow_k12_worths_of_sums
set_option linter.unusedVariables false
set_option Elab.async false
set_option maxRecDepth 100000
set_option maxHeartbeats 4000000
namespace My
open PySem L2
/-! ### heaps: a frozen part G, a working part H; M: what may change of what stood -/
def NoM : Addr → Prop := fun _ => False
def Only1 (d : Addr) : Addr → Prop := fun b => b = d
def But (M : Addr → Prop) (H H' : Hp) : Prop := ∀ b o, H b = some o → ¬ M b → H' b = some o
/-- something that stands there and is no tuple -/
structure Cell (o : Option HO) : Prop where
  some : o ≠ none
  tup : ∀ xs, o ≠ Option.some (.tup xs)
structure Grow (M : Addr → Prop) (G H G' H' : Hp) : Prop where
  g : Same G G'
  gh : Same G' H'
  h : But M H H'
  old : ∀ b, Cell (H b) → G' b = G b
theorem cell_lst {H : Hp} {a : Addr} {xs : List V} (h : H a = some (.lst xs)) : Cell (H a) := ⟨fun e => (by rw [h] at e; cases e), fun ys e => (by rw [h] at e; cases e)⟩
theorem cell_dK {H : Hp} {a : Addr} {xs : List (L2.Key × V)} (h : H a = some (.dK xs)) : Cell (H a) := ⟨fun e => (by rw [h] at e; cases e), fun ys e => (by rw [h] at e; cases e)⟩
theorem cell_dT {H : Hp} {a : Addr} {xs : List (List L2.Key × V)} (h : H a = some (.dT xs)) : Cell (H a) := ⟨fun e => (by rw [h] at e; cases e), fun ys e => (by rw [h] at e; cases e)⟩
theorem cell_ins {H : Hp} {a C dx : Addr} {fs : List (Str × V)} (h : H a = some (.ins C dx fs)) : Cell (H a) := ⟨fun e => (by rw [h] at e; cases e), fun ys e => (by rw [h] at e; cases e)⟩
theorem But.refl (M : Addr → Prop) (H : Hp) : But M H H := fun _ _ e _ => e
theorem But.trans {M : Addr → Prop} {H H1 H2 : Hp} (a : But M H H1) (b : But M H1 H2) : But M H H2 := fun c o e n => b c o (a c o e n) n
theorem But.mono {M M' : Addr → Prop} {H H1 : Hp} (h : ∀ b, M b → M' b) (a : But M H H1) : But M' H H1 := fun c o e n => a c o e fun z => n (h c z)
theorem But.same {H H1 : Hp} (a : But NoM H H1) : Same H H1 := fun c o e => a c o e fun z => z
theorem same_but {M : Addr → Prop} {H H1 : Hp} (a : Same H H1) : But M H H1 := fun c o e _ => a c o e
theorem same_upd {H : Hp} {p : Addr} {o : HO} (h : H p = none) : Same H (upd H p o) := fun b x e => by
  rw [upd_ne (ne_of_none e h)]
  exact e
theorem But.new {M : Addr → Prop} {H : Hp} {p : Addr} {o : HO} (h : H p = none) : But M H (upd H p o) := same_but (same_upd h)
theorem But.put {M : Addr → Prop} {H H1 : Hp} {p : Addr} {o : HO} (a : But M H H1) (h : M p) : But M H (upd H1 p o) := fun b x e n => by
  rw [upd_ne (fun z => n (by rw [z]; exact h))]
  exact a b x e n
theorem But.put0 {M : Addr → Prop} {H H1 : Hp} {p : Addr} {o : HO} (a : But M H H1) (h : H p = none) : But M H (upd H1 p o) := fun b x e n => by
  rw [upd_ne (ne_of_none e h)]
  exact a b x e n
theorem But.cell {M : Addr → Prop} {H H1 : Hp} (a : But M H H1) (hm : ∀ b, M b → Cell (H1 b)) {b : Addr} (h : Cell (H b)) : Cell (H1 b) := by
  by_cases n : M b
  · exact hm b n
  · cases e : H b with
    | none => exact absurd e h.some
    | some o =>
      rw [a b o e n]
      rw [e] at h
      exact h
theorem But.none {M : Addr → Prop} {H H1 : Hp} (a : But M H H1) (hm : ∀ b, M b → Cell (H1 b)) {b : Addr} (h : H1 b = none) : H b = none := by
  cases e : H b with
  | none => rfl
  | some o =>
    by_cases n : M b
    · exact absurd h (hm b n).some
    · rw [a b o e n] at h
      cases h
theorem Grow.refl {M : Addr → Prop} {G H : Hp} (h : Same G H) : Grow M G H G H := ⟨Same.refl _, h, But.refl _ _, fun _ _ => rfl⟩
theorem Grow.trans {M : Addr → Prop} {G H G1 H1 G2 H2 : Hp} (a : Grow M G H G1 H1) (b : Grow M G1 H1 G2 H2) (hm : ∀ c, M c → Cell (H1 c)) : Grow M G H G2 H2 :=
  ⟨a.g.trans b.g, b.gh, a.h.trans b.h, fun c hc => (b.old c (a.h.cell hm hc)).trans (a.old c hc)⟩
theorem Grow.mono {M M' : Addr → Prop} {G H G1 H1 : Hp} (h : ∀ b, M b → M' b) (a : Grow M G H G1 H1) : Grow M' G H G1 H1 := ⟨a.g, a.gh, a.h.mono h, a.old⟩
/-- a new cell -/
theorem Grow.cell {M : Addr → Prop} {G H G1 H1 : Hp} {p : Addr} {o : HO} (a : Grow M G H G1 H1) (h : H1 p = none) : Grow M G H G1 (upd H1 p o) :=
  ⟨a.g, a.gh.trans (same_upd h), a.h.trans (But.new h), a.old⟩
/-- a cell of one's own, or one of M, is written -/
theorem Grow.put {M : Addr → Prop} {G H G1 H1 : Hp} {p : Addr} {o : HO} (a : Grow M G H G1 H1) (hg : G1 p = none) (h : H p = none ∨ M p) : Grow M G H G1 (upd H1 p o) :=
  ⟨a.g, fun b x e => by rw [upd_ne (ne_of_none e hg)]; exact a.gh b x e, by rcases h with h | h; exact a.h.put0 h; exact a.h.put h, a.old⟩
/-- a cell of one's own is frozen -/
theorem Grow.pub {M : Addr → Prop} {G H G1 H1 : Hp} {p : Addr} {o : HO} (a : Grow M G H G1 H1) (h1 : H1 p = some o) (hg : G1 p = none) (h : H p = none) : Grow M G H (upd G1 p o) H1 :=
  ⟨a.g.trans (same_upd hg), fun b x e => by
    by_cases q : b = p
    · subst q
      rw [upd_same] at e
      rw [← e]
      exact h1
    · rw [upd_ne q] at e
      exact a.gh b x e, a.h, fun b hb => by
    have q : b ≠ p := fun z => hb.some (by rw [z]; exact h)
    rw [upd_ne q]
    exact a.old b hb⟩
/-- a tuple is frozen at any time -/
theorem Grow.pubT {M : Addr → Prop} {G H G1 H1 : Hp} {p : Addr} {xs : List V} (a : Grow M G H G1 H1) (h1 : H1 p = some (.tup xs)) (hm : ∀ c, M c → Cell (H1 c)) : Grow M G H (upd G1 p (.tup xs)) H1 :=
  ⟨a.g.trans (fun b x e => by
    by_cases q : b = p
    · subst q
      rw [a.gh b x e] at h1
      rw [upd_same, h1]
    · rw [upd_ne q]
      exact e), fun b x e => by
    by_cases q : b = p
    · subst q
      rw [upd_same] at e
      rw [← e]
      exact h1
    · rw [upd_ne q] at e
      exact a.gh b x e, a.h, fun b hb => by
    have q : b ≠ p := fun z => (a.h.cell hm hb).tup xs (by rw [z]; exact h1)
    rw [upd_ne q]
    exact a.old b hb⟩
theorem pub_same {G H : Hp} {p : Addr} {o : HO} (g : Same G H) (h : H p = some o) : Same G (upd G p o) := fun b x e => by
  by_cases q : b = p
  · subst q
    rw [g b x e] at h
    rw [upd_same, h]
  · rw [upd_ne q]
    exact e
/-- a new thing, frozen at once -/
theorem Grow.new {M : Addr → Prop} {G H G1 H1 : Hp} {p : Addr} {o : HO} (a : Grow M G H G1 H1) (h : H1 p = none) (hm : ∀ c, M c → Cell (H1 c)) : Grow M G H (upd G1 p o) (upd H1 p o) :=
  (a.cell h).pub upd_same (a.gh.free h) (a.h.none hm h)
theorem Grow.none {M : Addr → Prop} {G H G1 H1 : Hp} {p : Addr} (a : Grow M G H G1 H1) (hg : G p = .none) (h : Cell (H p)) : G1 p = .none := by
  rw [a.old p h]
  exact hg
/-- a cell of one's own at the heap behind -/
theorem Grow.at_ {M : Addr → Prop} {G H G1 H1 : Hp} {p : Addr} {o : HO} (a : Grow M G H G1 H1) (h : H p = some o) (n : ¬ M p) : H1 p = some o := a.h p o h n
theorem noM {P : Addr → Prop} : ∀ c, NoM c → P c := fun _ h => h.elim
theorem noMC {H : Hp} : ∀ c, NoM c → Cell (H c) := fun _ h => h.elim
theorem only1 {d : Addr} : Only1 d d := rfl

end My
namespace L2
open PySem
/-! ### data -/
theorem same_rd {H H' : Hp} {a : Addr} {u : HO} (e : Same H H') (h : Rd H a u) : Rd H' a u := by
  rcases h with h | ⟨o, h⟩
  · exact Or.inl (e a _ h)
  · exact Or.inr ⟨o, e a _ h⟩
theorem same_l {K : PySem.W.Frag} {H H' : Hp} {a : Addr} {xs : List V} (e : Same H H') (h : SqL K H a xs) : SqL K H' a xs := by
  rcases h with h | h
  · exact Or.inl (same_rd e h)
  · exact Or.inr h
theorem same_t {K : PySem.W.Frag} {H H' : Hp} {a : Addr} {xs : List V} (e : Same H H') (h : SqT K H a xs) : SqT K H' a xs := by
  rcases h with h | h
  · exact Or.inl (same_rd e h)
  · exact Or.inr h
mutual
theorem Dp.mono {K : PySem.W.Frag} {H H' : Hp} (e : Same H H') : ∀ {d : PyData} {v : V}, Dp K H v d → Dp K H' v d
  | _, _, .non => .non
  | _, _, .bl b => .bl b
  | _, _, .int i => .int i
  | _, _, .str x => .str x
  | _, _, .lst h a => .lst (same_l e h) (DpAll.mono e a)
  | _, _, .tup h a => .tup (same_t e h) (DpAll.mono e a)
theorem DpAll.mono {K : PySem.W.Frag} {H H' : Hp} (e : Same H H') : ∀ {ds : List PyData} {vs : List V}, DpAll K H vs ds → DpAll K H' vs ds
  | _, _, .nil => .nil
  | _, _, .cons a b => .cons (Dp.mono e a) (DpAll.mono e b)
end
theorem DpAll.length {K : PySem.W.Frag} {H : Hp} : ∀ {ds : List PyData} {vs : List V}, DpAll K H vs ds → vs.length = ds.length
  | _, _, .nil => rfl
  | _, _, .cons _ b => by
    rw [List.length_cons, List.length_cons, DpAll.length b]
theorem DpAll.snoc {K : PySem.W.Frag} {H : Hp} {d : PyData} {v : V} : ∀ {ds : List PyData} {vs : List V}, DpAll K H vs ds → Dp K H v d → DpAll K H (vs ++ [v]) (ds ++ [d])
  | _, _, .nil, h => .cons h .nil
  | _, _, .cons a b, h => .cons a (DpAll.snoc b h)
theorem DpAll.get {K : PySem.W.Frag} {H : Hp} : ∀ {ds : List PyData} {vs : List V} {i : Nat} {v : V}, DpAll K H vs ds → vs[i]? = some v → ∃ d, ds[i]? = some d ∧ Dp K H v d
  | _, _, _, _, .nil, h => by simp at h
  | _, _, 0, _, .cons a _, h => by
    simp at h
    subst h
    exact ⟨_, rfl, a⟩
  | _, _, i + 1, _, .cons _ b, h => by
    obtain ⟨d, e, q⟩ := DpAll.get (i := i) b (by simpa using h)
    exact ⟨d, by simpa using e, q⟩
theorem DpAll.get' {K : PySem.W.Frag} {H : Hp} : ∀ {ds : List PyData} {vs : List V} {i : Nat} {d : PyData}, DpAll K H vs ds → ds[i]? = some d → ∃ v, vs[i]? = some v ∧ Dp K H v d
  | _, _, _, _, .nil, h => by simp at h
  | _, _, 0, _, .cons a _, h => by
    simp at h
    subst h
    exact ⟨_, rfl, a⟩
  | _, _, i + 1, _, .cons _ b, h => by
    obtain ⟨d, e, q⟩ := DpAll.get' (i := i) b (by simpa using h)
    exact ⟨d, by simpa using e, q⟩

end L2
namespace My
open PySem L2
/-! ### the draw -/
structure DrawAt (H : Hp) (d l : Addr) : Prop where
  ex : ∃ (ns : List Int) (p g s : Int), H d = some (.lst [.ref l, .int p, .int g, .int s]) ∧ H l = some (.lst (ns.map V.int)) ∧ 0 ≤ p ∧ 0 ≤ g ∧ 0 ≤ s ∧ s < 2147483647 ∧ ns.length ≤ 63
theorem DrawAt.some {H : Hp} {d l : Addr} (h : DrawAt H d l) : H d ≠ none := by
  obtain ⟨ns, p, g, s, e, _⟩ := h.ex
  rw [e]
  simp
theorem DrawAt.cell {H : Hp} {d l : Addr} (h : DrawAt H d l) : Cell (H d) := by
  obtain ⟨ns, p, g, s, e, _⟩ := h.ex
  exact cell_lst e
theorem DrawAt.some' {H : Hp} {d l : Addr} (h : DrawAt H d l) : ∀ c, Only1 d c → Cell (H c) := fun c e => by
  rw [show c = d from e]
  exact h.cell
theorem DrawAt.ned {H : Hp} {d l p : Addr} (h : DrawAt H d l) (e : H p = none) : p ≠ d := fun q => h.some (by rw [← q]; exact e)
theorem DrawAt.nel {H : Hp} {d l p : Addr} (h : DrawAt H d l) (e : H p = none) : p ≠ l := fun q => by
  obtain ⟨ns, p, g, s, _, e2, _⟩ := h.ex
  rw [← q, e] at e2
  cases e2
theorem DrawAt.mono {H H' : Hp} {d l : Addr} (h : DrawAt H d l) (e : Same H H') : DrawAt H' d l := by
  obtain ⟨ns, p, g, s, e1, e2, r⟩ := h.ex
  exact ⟨⟨ns, p, g, s, e _ _ e1, e _ _ e2, r⟩⟩
theorem DrawAt.upd {H : Hp} {d l p : Addr} {o : HO} (h : DrawAt H d l) (e : H p = none) : DrawAt (upd H p o) d l := h.mono (same_upd e)
theorem DrawAt.put {H : Hp} {d l p : Addr} {o : HO} (h : DrawAt H d l) (hd : p ≠ d) (hl : p ≠ l) : DrawAt (L2.upd H p o) d l := by
  obtain ⟨ns, p', g, s, e1, e2, r⟩ := h.ex
  exact ⟨⟨ns, p', g, s, by rw [upd_ne hd.symm]; exact e1, by rw [upd_ne hl.symm]; exact e2, r⟩⟩
theorem log_small {n : Int} {k : Nat} (h0 : 0 < n) (h : n < 2 ^ k) (hk : k ≤ 9000) (k0 : 0 < k) : CDivW 0 n := by
  refine wide_div (i := 0) h0 (b := k) ?_ k0 hk
  have : ((n.natAbs : Nat) : Int) < ((2 ^ k : Nat) : Int) := by
    rw [Int.natAbs_of_nonneg (by omega)]
    simpa using h
  exact_mod_cast this
end My
namespace My
open PySem L2
/-! ### types and depth of data -/
def tyN : PyData → String
  | .none => "NoneType"
  | .bool _ => "bool"
  | .int _ => "int"
  | .str _ => "str"
  | .list _ => "list"
  | .tuple _ => "tuple"
  | .dict _ => "dict"
abbrev tyD (d : PyData) : Value := .type (tyN d)
theorem sql_ty {K : PySem.W.Frag} {H : Hp} {a : Addr} {xs : List V} (h : SqL K H a xs) : TyX K H (.ref a) (.type "list") := by
  rcases h with (h | ⟨o, h⟩) | ⟨o, its, n, h, c, _⟩
  · exact .base (.lst h)
  · exact .base (.frz h)
  · exact .kList h c
theorem sqt_ty {K : PySem.W.Frag} {H : Hp} {a : Addr} {xs : List V} (h : SqT K H a xs) : TyX K H (.ref a) (.type "tuple") := by
  rcases h with (h | ⟨o, h⟩) | ⟨o, its, n, h, c, _⟩
  · exact .base (.tup h)
  · exact .fTuple h
  · exact .kTuple h c
theorem dp_ty {K : PySem.W.Frag} {H : Hp} {v : V} {d : PyData} (h : Dp K H v d) : TyX K H v (tyD d) := by
  cases h with
  | non => exact .base .non
  | bl b => exact .base (.bl b)
  | int i => exact .base (.int i)
  | str x => exact .base (.str x)
  | lst h _ => exact sql_ty h
  | tup h _ => exact sqt_ty h
mutual
def dep : PyData → Nat
  | .list ds => depAll ds + 1
  | .tuple ds => depAll ds + 1
  | _ => 0
def depAll : List PyData → Nat
  | [] => 0
  | d :: ds => max (dep d) (depAll ds)
end
theorem dep_get : ∀ {ds : List PyData} {i : Nat} {d : PyData}, ds[i]? = some d → dep d ≤ depAll ds
  | [], _, _, h => by simp at h
  | x :: r, 0, d, h => by
    have e : x = d := by simpa using h
    rw [e, depAll]
    omega
  | x :: r, i + 1, d, h => by
    have q := dep_get (ds := r) (i := i) (d := d) (by simpa using h)
    rw [depAll]
    omega
mutual
def wid : PyData → Nat
  | .list ds => max ds.length (widAll ds)
  | .tuple ds => max ds.length (widAll ds)
  | _ => 0
def widAll : List PyData → Nat
  | [] => 0
  | d :: ds => max (wid d) (widAll ds)
end
theorem wid_get : ∀ {ds : List PyData} {i : Nat} {d : PyData}, ds[i]? = some d → wid d ≤ widAll ds
  | [], _, _, h => by simp at h
  | x :: r, 0, d, h => by
    have e : x = d := by simpa using h
    rw [e, widAll]
    omega
  | x :: r, i + 1, d, h => by
    have q := wid_get (ds := r) (i := i) (d := d) (by simpa using h)
    rw [widAll]
    omega
theorem kit2 {K : PySem.W.Frag} {t : Value} {a b : String} {r s : Bool} (h1 : PySem.W.kitOne K t (.type a) = some r) (h2 : PySem.W.kitOne K t (.type b) = some s) : PySem.W.kitAny K t [.type a, .type b] = some (r || s) := by
  refine kitAny_cons h1 (fun e => ?_) (fun e => by rw [e]; rfl)
  rw [e]
  refine kitAny_cons h2 (fun e => ?_) (fun e => by rw [e]; rfl)
  rw [e]
  exact kitAny_nil
/-- is a list, is a tuple, .. -/
def isTn (s t : String) : Bool := t == s || (t == "bool" && s == "int")
abbrev isTy (s : String) (d : PyData) : Bool := isTn s (tyN d)
theorem kit_n {K : PySem.W.Frag} (a b : String) (h : kitB a b = some (isTn b a)) : PySem.W.kitOne K (.type a) (.type b) = some (isTn b a) := kit_ty h
theorem kit_d {K : PySem.W.Frag} (d : PyData) : PySem.W.kitOne K (tyD d) (.type "list") = some (isTy "list" d) ∧ PySem.W.kitOne K (tyD d) (.type "tuple") = some (isTy "tuple" d) ∧
    PySem.W.kitOne K (tyD d) (.type "bool") = some (isTy "bool" d) ∧ PySem.W.kitOne K (tyD d) (.type "int") = some (isTy "int" d) ∧ PySem.W.kitOne K (tyD d) (.type "str") = some (isTy "str" d) := by
  cases d with
  | none => exact ⟨kit_n "NoneType" "list" (by decide +kernel), kit_n "NoneType" "tuple" (by decide +kernel), kit_n "NoneType" "bool" (by decide +kernel), kit_n "NoneType" "int" (by decide +kernel), kit_n "NoneType" "str" (by decide +kernel)⟩
  | bool _ => exact ⟨kit_n "bool" "list" (by decide +kernel), kit_n "bool" "tuple" (by decide +kernel), kit_n "bool" "bool" (by decide +kernel), kit_n "bool" "int" (by decide +kernel), kit_n "bool" "str" (by decide +kernel)⟩
  | int _ => exact ⟨kit_n "int" "list" (by decide +kernel), kit_n "int" "tuple" (by decide +kernel), kit_n "int" "bool" (by decide +kernel), kit_n "int" "int" (by decide +kernel), kit_n "int" "str" (by decide +kernel)⟩
  | str _ => exact ⟨kit_n "str" "list" (by decide +kernel), kit_n "str" "tuple" (by decide +kernel), kit_n "str" "bool" (by decide +kernel), kit_n "str" "int" (by decide +kernel), kit_n "str" "str" (by decide +kernel)⟩
  | list _ => exact ⟨kit_n "list" "list" (by decide +kernel), kit_n "list" "tuple" (by decide +kernel), kit_n "list" "bool" (by decide +kernel), kit_n "list" "int" (by decide +kernel), kit_n "list" "str" (by decide +kernel)⟩
  | tuple _ => exact ⟨kit_n "tuple" "list" (by decide +kernel), kit_n "tuple" "tuple" (by decide +kernel), kit_n "tuple" "bool" (by decide +kernel), kit_n "tuple" "int" (by decide +kernel), kit_n "tuple" "str" (by decide +kernel)⟩
  | dict _ => exact ⟨kit_n "dict" "list" (by decide +kernel), kit_n "dict" "tuple" (by decide +kernel), kit_n "dict" "bool" (by decide +kernel), kit_n "dict" "int" (by decide +kernel), kit_n "dict" "str" (by decide +kernel)⟩
abbrev clsLT : List V := [.ty "list", .ty "tuple"]
theorem pairLT : Paired ClsV clsLT [.type "list", .type "tuple"] := .cons (.ty _) (.cons (.ty _) .nil)
theorem walk_zipT {K : PySem.W.Frag} {a b : Addr} {xs ys : List V} {n : Nat} (hn : n = min xs.length ys.length) : Walk (RZ.ItzT K a b) n (fun H => SqT K H a xs ∧ SqT K H b ys) (YPair (fun i => xs[i]?) (fun i => ys[i]?)) := by
  subst hn
  refine ⟨fun i _ hi q => ?_, fun _ q => ⟨xs, ys, q.1, q.2, by omega⟩, fun i H v H' _ q y => ?_⟩
  · have h1 : i < xs.length := by omega
    have h2 : i < ys.length := by omega
    exact ⟨xs, ys, xs[i], ys[i], q.1, q.2, by simp [h1], by simp [h2]⟩
  · obtain ⟨T, x, z, h1, h2, h3, h4, h5⟩ := y
    exact ⟨T, x, z, h1, h2, h3, h4 xs q.1, h5 ys q.2⟩
theorem but_l {K : PySem.W.Frag} {M : Addr → Prop} {H H' : Hp} {a : Addr} {xs : List V} (e : But M H H') (n : ¬ M a) (h : SqL K H a xs) : SqL K H' a xs := by
  rcases h with (h | ⟨o, h⟩) | h
  · exact Or.inl (Or.inl (e a _ h n))
  · exact Or.inl (Or.inr ⟨o, e a _ h n⟩)
  · exact Or.inr h
theorem but_t {K : PySem.W.Frag} {M : Addr → Prop} {H H' : Hp} {a : Addr} {xs : List V} (e : But M H H') (n : ¬ M a) (h : SqT K H a xs) : SqT K H' a xs := by
  rcases h with (h | ⟨o, h⟩) | h
  · exact Or.inl (Or.inl (e a _ h n))
  · exact Or.inl (Or.inr ⟨o, e a _ h n⟩)
  · exact Or.inr h
end My
namespace My
open PySem L2
/-- [f sign for sign in text] -/
theorem lc_sign {te tz : TE} {σ : L2.St} {H : Hp} {Q : VK} {j : Nat} (z : Str) (f : Nat → Bool) (hz : z.length ≤ 100000) (hv : ∀ Q' : VK, Q' (.str z) H → tz σ H Q')
    (hw : ∀ x : V, wipe ((wipe σ [j]).set j (some x)) [j] = wipe σ [j]) (hs : ∀ (c : Nat) (H' : Hp) (Q' : VK), Q' (.bl (f c)) H' → te ((wipe σ [j]).set j (some (.str ⟨#[c]⟩))) H' Q')
    (k : ∀ (D : Addr) (H' : Hp), Same H H' → H D = none → H' D = some (.lst ((z.cps.toList.map f).map V.bl)) → Q (.ref D) H') : tLc (iStr tz) (gName j) tYes te [j] σ H Q := by
  refine hv _ ⟨z, rfl, fun D hD => ?_⟩
  refine lc_it walk_str (fun i H' => Same H H' ∧ H' D = some (.lst (((z.cps.toList.take i).map f).map V.bl))) ⟨same_upd hD, upd_same⟩ (fun _ _ _ _ => trivial) ?_ ?_
  · rintro i x H1 H2 hi ⟨sm, eD⟩ ⟨rfl, c, hc, rfl⟩
    refine ⟨hw _, ?_⟩
    refine hs c H2 _ ⟨_, eD, ?_, ?_, ?_⟩
    · rw [List.length_map, List.length_map, List.length_take]
      have : i < 100000 := Nat.lt_of_lt_of_le hi hz
      exact Nat.lt_of_le_of_lt (Nat.min_le_left _ _) (Nat.lt_of_lt_of_le this (by decide))
    · intro b o e
      rw [upd_ne (ne_of_none e hD)]
      exact sm b o e
    · rw [upd_same, List.take_add_one]
      have e : z.cps.toList[i]? = some c := by
        rw [Array.getElem?_toList]
        exact hc
      rw [e]
      simp
  · rintro H' ⟨sm, eD⟩
    refine k D H' sm hD ?_
    rw [eD, List.take_of_length_le (by rw [Array.length_toList]; exact Nat.le_refl _)]
theorem list_all_map {α : Type} (f : α → Bool) (l : List α) : (l.map f).all id = l.all f := by
  rw [List.all_map]
  rfl
end My
namespace My
open PySem L2
section
variable {X : Cx}
theorem iop_mulW : OpR X (inplaceOp .Mult) (rI CMulW fun i j => .int (i * j)) := opI fun _ _ _ _ _ _ _ hc q => PyProof.Rows.imul_int q hc.ok
theorem ip_mulW : PIp X .Mult (rI CMulW fun i j => .int (i * j)) := fun pins s σ H x y v u Q I rx ry h => iop_mulW pins s σ H x y v u Q I rx ry h
theorem ip_fdivW : PIp X .FloorDiv (rI CDivW fun i j => .int (i / j)) := fun pins s σ H x y v u Q I rx ry h => iop_fdivW pins s σ H x y v u Q I rx ry h
end
theorem pow_lt {b : Int} {m : Nat} (h : b.natAbs < 2 ^ m) : ∀ i : Nat, (b ^ i).natAbs < 2 ^ (m * i + 1)
  | 0 => by
    rw [Int.pow_zero, Nat.mul_zero]
    decide
  | i + 1 => by
    have q := pow_lt h i
    rw [Int.pow_succ]
    have e : m * (i + 1) + 1 = (m * i + 1) + m := by rw [Nat.mul_succ]; omega
    rw [e]
    exact wide_lt q h
/-- base, power: the power, by a product for each turn -/
def spRaised : Sp := fun vs H Q _ => ∃ (b : Int) (p m : Nat), vs = [.int b, .int p] ∧ b.natAbs < 2 ^ m ∧ 0 < m ∧ m * (p + 1) ≤ 900000 ∧ Q (.int (b ^ p)) H
theorem raised_ok {b : Int} {m p i : Nat} (h : b.natAbs < 2 ^ m) (h0 : 0 < m) (h1 : m * (p + 1) ≤ 900000) (hi : i < p) : CMulW (b ^ i) b := by
  have e1 : m * i + m ≤ m * (p + 1) := by
    rw [← Nat.mul_succ]
    exact Nat.mul_le_mul_left _ (by omega)
  exact wide_mul (pow_lt h i) h (by omega) h0 (by omega)
theorem raised_small {m p : Nat} (h0 : 0 < m) (h1 : m * (p + 1) ≤ 900000) : p < 900000 := by
  have : 1 * (p + 1) ≤ m * (p + 1) := Nat.mul_le_mul_right _ h0
  omega
end My
namespace My
open PySem L2
/-- a comprehension whose turns leave all that stood as it was: the values f i -/
theorem lc_pure {J : It} {n : Nat} {G : Hp → Prop} {Y : Nat → Hp → V → Hp → Prop} (w : Walk J n G Y) {g : TG} {te : TE} {vs : List Nat} {σ : L2.St} {H : Hp} {D : Addr} {Qd : Hp → Prop} (f : Nat → V) (hn : n ≤ 100000) (hD : H D = none) (hG : ∀ H', Same H H' → G H')
    (hs : ∀ (i : Nat) (x : V) (H1 H2 : Hp) (Q' : VK), i < n → Same H H1 → Y i H1 x H2 → (∀ H4, Same H1 H4 → Q' (f i) H4) → g x (wipe σ vs) H2 fun σ2 H3 => wipe σ2 vs = wipe σ vs ∧ te σ2 H3 Q')
    (k : ∀ H', Same H H' → H' D = some (.lst ((List.range n).map f)) → Qd H') :
    ∃ W : Nat → Nat → Hp → Prop, (∃ m, W 0 m (upd H D (.lst []))) ∧ ∀ i m H, W i m H →
      (J.stop i H ∧ Qd H) ∨ (J.go i H ∧ ∃ Nx : Hp → Prop, (∀ H', Nx H' → ∃ m', m' < m ∧ W (i + 1) m' H') ∧ ∀ x H', J.yld i H x H' → g x (wipe σ vs) H' fun σ2 H2 => wipe σ2 vs = wipe σ vs ∧ tYes σ2 H2 fun b H3 =>
        if b = true then te σ2 H3 fun y H4 => ∃ acc, H4 D = some (.lst acc) ∧ acc.length < sizeLine ∧ Nx (upd H4 D (.lst (acc ++ [y]))) else Nx H3) := by
  refine lc_it w (fun i H' => Same H H' ∧ H' D = some (.lst ((List.range i).map f))) ⟨same_upd hD, upd_same⟩ (fun i H' _ p => hG H' p.1) ?_ (fun H' p => k H' p.1 p.2)
  rintro i x H1 H2 hi ⟨sm, eD⟩ y
  refine hs i x H1 H2 _ hi sm y fun H4 s4 => ?_
  refine ⟨_, s4 _ _ eD, ?_, ?_, ?_⟩
  · rw [List.length_map, List.length_range]
    exact Nat.lt_of_lt_of_le hi (Nat.le_trans hn (by decide))
  · intro b o e
    rw [upd_ne (ne_of_none e hD)]
    exact s4 _ _ (sm b o e)
  · rw [upd_same, List.range_succ, List.map_append]
    rfl
/-- the draw's list and what was frozen -/
theorem Grow.draw {G H H' : Hp} {d : Addr} (sg : Same G H) (gd : G d = .none) (b : But (Only1 d) H H') : Grow (Only1 d) G H G H' :=
  ⟨Same.refl _, fun c o e => b c o (sg c o e) (fun q => by
    rw [show c = d from q, gd] at e
    cases e), b, fun _ _ => rfl⟩
end My
namespace My
open PySem PySem.Spec PyProof.Rows L2
/-! ### sorted(d), d a dict whose keys are pairs of ints -/
def adr : Value → Addr
  | .ref a => a
  | _ => 0
def prOf (H : Hp) : Value → Int × Int
  | .ref a => match H a with
    | some (.tup [.int i, .int j]) => (i, j)
    | _ => (0, 0)
  | _ => (0, 0)
theorem prOf_eq {H : Hp} {a : Addr} {i j : Int} (h : H a = some (.tup [.int i, .int j])) : prOf H (.ref a) = (i, j) := by
  simp only [prOf, h]
abbrev key2 (p : Int × Int) : List L2.Key := [Sum.inl p.1, Sum.inl p.2]
abbrev pairsD (ps : List ((Int × Int) × V)) : List (List L2.Key × V) := ps.map fun p => (key2 p.1, p.2)
def rSortedDT : List V → Hp → VK → Prop := fun xs H Q => ∃ (d : Addr) (ps : List ((Int × Int) × V)), xs = [.ref d] ∧ Rd H d (.dT (pairsD ps)) ∧
  ∀ (qs : List ((Int × Int) × Addr)) (p : Addr), (qs.map (·.1)).Perm (ps.map (·.1)) → qs.Pairwise (fun x y => SrtO.lexB y.1 x.1 = false) → (∀ q ∈ qs, H q.2 = some (.tup [.int q.1.1, .int q.1.2])) → H p = none → Q (.ref p) (upd H p (.lst (qs.map fun q => .ref q.2)))
theorem keys_of_pairs {H : Hp} : ∀ {ps : List ((Int × Int) × V)} {bs : List Addr}, IsKeys H (pairsD ps) bs → (bs.map fun b => prOf H (.ref b)) = ps.map (·.1) ∧ ∀ b ∈ bs, H b = some (.tup [.int (prOf H (.ref b)).1, .int (prOf H (.ref b)).2])
  | [], _, h => by
    cases h
    exact ⟨rfl, fun b hb => absurd hb (by simp)⟩
  | p :: ps, _, h => by
    cases h with
    | @cons _ b _ bs h1 h2 =>
      obtain ⟨e1, e2⟩ := keys_of_pairs (ps := ps) h2
      have h1' : H b = some (.tup [.int p.1.1, .int p.1.2]) := h1
      have ep := prOf_eq h1'
      refine ⟨?_, fun c hc => ?_⟩
      · rw [List.map_cons, List.map_cons, e1, ep]
      · rcases List.mem_cons.mp hc with e | hc
        · subst e
          rw [ep]
          exact h1'
        · exact e2 c hc
section
variable {X : Cx}
theorem cr_sortedDT (hc : X.calm = true) : CallR X (.builtin "sorted") rSortedDT := by
  intro pins s σ H xs us Q I r h
  obtain ⟨d, ps, rfl, hd, q⟩ := h
  obtain ⟨u, rfl, rx⟩ := r.one
  cases rx
  obtain ⟨z, hs, ks, pr, o, es, ep, ho, hx, hdt, he, hn⟩ := (show ObjOk X.prog X.w H s.heap d (.dT (pairsD ps)) from hd.ok I.hok)
  have l1 : es.size = ks.length := size_of_entries he
  have l2 : (pairsD ps).length = ks.length := Paired.length pr
  have hik := isKeys_of pr
  obtain ⟨hkeys, htup⟩ := keys_of_pairs hik
  refine Calls.call_function_entry kind_sorted plain_sorted entry_sorted (args_sorted1 _) ?_
  unfold Builtin.«sorted»
  refine wpAny_bind (m := checkCount "sorted" 1 1 _) (wpAny_pure ?_)
  refine wpAny_bind (PySem.W.kdu_collect (A := X.A.in1) (kdl_raw hs hx hdt) (I.ok.hd hc) ho (by omega) fun h' tk acc hk it => ?_)
  have ea : acc.toList = (ks.map fun x => x.2.1).map Value.ref := by
    have hl : acc.toList.length = ks.length := by rw [Array.length_toList, it.1]; exact l1
    rw [List.map_map]
    apply List.ext_getElem?
    intro j
    rw [List.getElem?_map]
    cases hj : acc.toList[j]? with
    | none =>
      have h1 := List.getElem?_eq_none_iff.mp hj
      rw [List.getElem?_eq_none (by omega)]
      all_goals rfl
    | some v =>
      obtain ⟨en, hen, hv⟩ := it.2 j v (by rw [← Array.getElem?_toList]; exact hj)
      have qe := entry_at he j
      rw [hen] at qe
      cases hb : ks[j]? with
      | none =>
        rw [hb] at qe
        exact nomatch (show some en = none from qe)
      | some b =>
        rw [hb] at qe
        have e2 : en = entryOfKey (tupleKind (mixKind X.prog X.w)) b := Option.some.inj qe
        rw [hv, e2]
        all_goals rfl
  generalize hbs : (ks.map fun x => x.2.1) = bs at *
  generalize hvs : acc.toList = vs at *
  have hlb : vs.length ≤ sizeLine := by
    rw [ea, List.length_map, ← hbs, List.length_map]
    omega
  have I1 : Inv X pins σ H { s with heap := h', toks := tk } := I.kept hk
  have mem : ∀ v ∈ vs, ∃ b ∈ bs, v = Value.ref b := fun v hv => by
    rw [ea] at hv
    obtain ⟨b, hb, e⟩ := List.mem_map.mp hv
    exact ⟨b, hb, e.symm⟩
  have pairs : ∀ v ∈ vs, Srt.IsPair h' v (prOf H v).1 (prOf H v).2 := fun v hv => by
    obtain ⟨b, hb, rfl⟩ := mem v hv
    obtain ⟨_, its2, r2, o, ho, hc, n, hd⟩ := (show ObjOk X.prog X.w H h' b _ from I1.hok _ _ (htup b hb))
    obtain ⟨u1, u2, rfl, ri, rj⟩ := vals2 r2
    obtain ⟨t1, rfl⟩ := ri
    obtain ⟨t2, rfl⟩ := rj
    exact ⟨b, o, t1, t2, n, rfl, ho, hc, hd⟩
  refine wpAny_bind (wpAny_newList ?_ hlb)
  have hoL : (h'.push (seqObj "list" vs.toArray 0)).get? h'.objs.size = some (seqObj "list" vs.toArray 0) := Heap.get?_push_size _ rfl
  show wpAny _ _ _ _ _ { s with heap := h'.push (seqObj "list" vs.toArray 0), toks := tk }
  refine wpAny_bind (wpAny_holding (wpAny_call_entry slot_list_sort ⟨_, hoL, rfl⟩ entry_list_sort
    (SrtO.list_sort_ord (s := { s with heap := h'.push (seqObj "list" vs.toArray 0), toks := tk }) (SrtO.swo_lex (prOf H)) hoL hlb (fun h2 => SrtO.pairs_sortableO (by omega) (fun v hv => (pairs v hv).keeps fun b o e _ => Heap.get?_push_of_some _ e) fun o e => ?_) fun out g1 g2 => ⟨_, rfl, ?_⟩) (args_list_sort _)))
  · have e' : some o = some (seqObj "list" vs.toArray 0) := e.symm.trans hoL
    cases e'
    intro c
    exact absurd (Value.type.inj c) (by decide)
  obtain ⟨e', he'⟩ := sortedHeap_at (vs := vs) (out := out.toArray) hoL
  have memo : ∀ v ∈ out, ∃ b ∈ bs, v = Value.ref b := fun v hv => mem v (g2.perm.mem_iff.mp hv)
  have hq : (out.map fun v => (prOf H v, adr v)).map (fun q => V.ref q.2) = out.map backV := by
    rw [List.map_map]
    apply List.map_congr_left
    intro v hv
    obtain ⟨b, _, rfl⟩ := memo v hv
    rfl
  have hlen : (out.map backV).length ≤ sizeLine := by
    rw [List.length_map, g2.perm.length_eq]
    exact hlb
  have fresh : H h'.objs.size = none := I1.hok.fresh (Nat.le_refl _)
  have kq := q (out.map fun v => (prOf H v, adr v)) h'.objs.size (by
      rw [List.map_map, ← hkeys]
      have e1 : (bs.map fun b => prOf H (.ref b)) = vs.map (prOf H) := by
        rw [ea, List.map_map]
        rfl
      rw [e1]
      exact g2.perm.map (prOf H)) (List.pairwise_map.mpr g1) (fun w hw => by
      obtain ⟨v, hv, rfl⟩ := List.mem_map.mp hw
      obtain ⟨b, hb, rfl⟩ := memo v hv
      exact htup b hb) fresh
  rw [hq] at kq
  refine wpAny_pure ⟨_, rfl, .ref h'.objs.size, upd H h'.objs.size (.lst (out.map backV)), I1.laid (t' := tk) (fun b u e => ?_) (Nat.le_refl _)
    (show ObjOk X.prog X.w _ _ _ (.lst (out.map backV)) from ⟨hlen, out, e', vals_back fun v hv => (let ⟨b, _, e⟩ := memo v hv; ⟨b, e⟩), he'⟩), rfl, kq⟩
  have hb : b < h'.objs.size := Heap.lt_size e
  rw [sortedHeap_old (Nat.ne_of_lt hb) (by rw [size_push']; exact Nat.lt_succ_of_lt hb)]
  exact Heap.get?_push_of_some _ e
end
end My
namespace My
open PySem L2
/-! ### sums: parts, terms, rows -/
abbrev Prt := Int × Int
abbrev Trm := (Int × Int) × Prt
abbrev Rw := Int × List Trm
def partD (p : Prt) : PyData := .tuple [.int p.1, .int p.2]
def termD (t : Trm) : PyData := .tuple [.tuple [.int t.1.1, .int t.1.2], partD t.2]
def rowD (r : Rw) : PyData := .tuple [.int r.1, .list (r.2.map termD)]
def sumsD (S : List Rw) : PyData := .list (S.map rowD)
/-- lowest terms -/
def lowL (o u : Int) : Prt := (o / (Int.gcd o u : Int), u / (Int.gcd o u : Int))
structure TrmOk (top deep wide : Int) (t : Trm) : Prop where
  p0 : 0 ≤ t.1.1
  p1 : t.1.1 ≤ top
  f0 : 0 ≤ t.1.2
  f1 : t.1.2 ≤ deep
  o0 : t.2.1 ≠ 0
  o1 : (t.2.1.natAbs : Int) ≤ wide
  u0 : 0 < t.2.2
  u1 : t.2.2 ≤ 2
  low : Int.gcd t.2.1 t.2.2 = 1
structure TrmsOk (top deep wide : Int) (ts : List Trm) : Prop where
  each : ∀ t ∈ ts, TrmOk top deep wide t
  nd : (ts.map (·.1)).Nodup
  desc : ts.Pairwise fun a b => SrtO.lexB b.1 a.1 = true
  len : ts.length ≤ 3
structure SumsOk (top deep wide : Int) (S : List Rw) : Prop where
  each : ∀ r ∈ S, TrmsOk top deep wide r.2 ∧ 0 ≤ r.1 ∧ r.1 ≤ 36
  first : ∃ ts r, S = (0, ts) :: r
  rise : S.Pairwise fun a b => a.1 < b.1
  len : S.length ≤ 4
theorem gcd_step {a b : Int} (ha : 0 ≤ a) (hb : 0 < b) : Int.gcd b (a % b) = Int.gcd a b := by
  have h := Int.gcd_add_mul_left_right b (a % b) (a / b)
  rw [Int.emod_add_mul_ediv] at h
  rw [← h, Int.gcd_comm]
theorem gcd_abs (a b : Int) : Int.gcd (if a < 0 then -a else a) (if b < 0 then -b else b) = Int.gcd a b := by
  split <;> split <;> simp [Int.gcd_neg, Int.neg_gcd]
theorem lowL_ok {o u : Int} (ho : o ≠ 0) (h0 : 0 < u) : (lowL o u).1 ≠ 0 ∧ (lowL o u).1.natAbs ≤ o.natAbs ∧ 0 < (lowL o u).2 ∧ (lowL o u).2 ≤ u ∧ Int.gcd (lowL o u).1 (lowL o u).2 = 1 := by
  have hg : 0 < Int.gcd o u := Int.gcd_pos_of_ne_zero_right _ (by omega)
  have hd : (Int.gcd o u : Int) ∣ u := Int.gcd_dvd_right ..
  have hd1 : (Int.gcd o u : Int) ∣ o := Int.gcd_dvd_left ..
  refine ⟨Int.ediv_gcd_ne_zero_of_ne_zero_left u ho, ?_, ?_, ?_, Int.gcd_ediv_gcd_ediv_gcd hg⟩
  · show (o / (Int.gcd o u : Int)).natAbs ≤ o.natAbs
    rw [Int.natAbs_ediv_of_dvd hd1, Int.natAbs_natCast]
    exact Nat.div_le_self _ _
  · exact Int.ediv_pos_of_pos_of_dvd h0 (by omega) hd
  · exact Int.ediv_le_self _ (by omega)
theorem desc_of {l : List ((Int × Int) × Addr)} (h : l.Pairwise fun x y => SrtO.lexB y.1 x.1 = false) (nd : (l.map (·.1)).Nodup) : l.reverse.Pairwise fun a b => SrtO.lexB b.1 a.1 = true := by
  rw [List.pairwise_reverse]
  have nd' : l.Pairwise fun a b => a.1 ≠ b.1 := by
    rw [List.nodup_iff_pairwise_ne, List.pairwise_map] at nd
    exact nd
  refine (h.and nd').imp ?_
  rintro a b ⟨h1, h2⟩
  rw [SrtO.lexB_no] at h1
  rw [SrtO.lexB_iff]
  have : ¬ (a.1.1 = b.1.1 ∧ a.1.2 = b.1.2) := fun e => h2 (Prod.ext e.1 e.2)
  omega
/-! ### a dict whose keys are pairs of ints -/
theorem key2_inj {p q : Int × Int} (h : key2 p = key2 q) : p = q := by
  have h1 := List.cons.inj h
  have h2 := List.cons.inj h1.2
  exact Prod.ext (Sum.inl.inj h1.1) (Sum.inl.inj h2.1)
theorem pairsD_val (k : Int × Int) : ∀ ps : List ((Int × Int) × V), valV (pairsD ps) (key2 k) = valV ps k
  | [] => rfl
  | p :: r => by
    show valV ((key2 p.1, p.2) :: pairsD r) (key2 k) = valV (p :: r) k
    by_cases h : p.1 = k
    · rw [valV_pos (p := (key2 p.1, p.2)) (by rw [h]), valV_pos h]
    · rw [valV_neg (p := (key2 p.1, p.2)) (fun e => h (key2_inj e)), valV_neg h, pairsD_val k r]
theorem pairsD_put (k : Int × Int) (v : V) (ps : List ((Int × Int) × V)) : putK (pairsD ps) (key2 k) v = pairsD (putK ps k v) := by
  unfold putK
  have e : ((pairsD ps).any fun kv => decide (kv.1 = key2 k)) = (ps.any fun kv => decide (kv.1 = k)) := by
    rw [valV_any, valV_any, pairsD_val]
  rw [e]
  split
  · unfold pairsD
    rw [List.map_map, List.map_map]
    apply List.map_congr_left
    intro p _
    show (if key2 p.1 = key2 k then (key2 p.1, v) else (key2 p.1, p.2)) = (key2 (if p.1 = k then (p.1, v) else p).1, (if p.1 = k then (p.1, v) else p).2)
    by_cases h : p.1 = k
    · rw [if_pos h, if_pos (by rw [h])]
    · rw [if_neg h, if_neg (fun e => h (key2_inj e))]
  · unfold pairsD
    rw [List.map_append]
    rfl
theorem keys_put {κ : Type} [DecidableEq κ] (k : κ) (v : V) (ps : List (κ × V)) (h : (ps.map (·.1)).Nodup) : ((putK ps k v).map (·.1)).Nodup := by
  unfold putK
  split
  · rw [List.map_map]
    have e : ((fun x : κ × V => x.1) ∘ fun kv => if kv.1 = k then (kv.1, v) else kv) = fun x => x.1 := by
      funext x
      show (if x.1 = k then (x.1, v) else x).1 = x.1
      split <;> rfl
    rw [e]
    exact h
  · rename_i hn
    rw [List.map_append, List.nodup_append]
    refine ⟨h, by simp, ?_⟩
    intro a ha b hb e
    have hb' : b = k := by simpa using hb
    subst e
    subst hb'
    obtain ⟨p, hp, e⟩ := List.mem_map.mp ha
    exact hn (List.any_eq_true.mpr ⟨p, hp, decide_eq_true e⟩)
theorem mem_put {κ : Type} [DecidableEq κ] {k : κ} {v : V} {ps : List (κ × V)} {q : κ × V} (h : q ∈ putK ps k v) : q = (k, v) ∨ q ∈ ps := by
  unfold putK at h
  split at h
  · obtain ⟨p, hp, e⟩ := List.mem_map.mp h
    by_cases c : p.1 = k
    · rw [if_pos c] at e
      left
      rw [← e, c]
    · rw [if_neg c] at e
      right
      rw [← e]
      exact hp
  · rcases List.mem_append.mp h with h | h
    · exact .inr h
    · exact .inl (List.mem_singleton.mp h)
theorem val_mem {κ : Type} [DecidableEq κ] {k : κ} : ∀ {ps : List (κ × V)}, k ∈ ps.map (·.1) → ∃ v, valV ps k = some v ∧ (k, v) ∈ ps
  | [], h => by simp at h
  | p :: r, h => by
    by_cases c : p.1 = k
    · exact ⟨p.2, valV_pos c, by rw [← c]; exact List.mem_cons_self⟩
    · rw [List.map_cons] at h
      rcases List.mem_cons.mp h with e | h
      · exact absurd e.symm c
      · obtain ⟨v, h1, h2⟩ := val_mem h
        exact ⟨v, by rw [valV_neg c]; exact h1, List.mem_cons_of_mem _ h2⟩
/-- the greatest common divisor -/
def spGcd : Sp := fun vs H Q _ => ∃ a b : Int, vs = [.int a, .int b] ∧ Q (.int (Int.gcd a b : Nat)) H
/-- a part in lowest terms, a new pair -/
def spLowest : Sp := fun vs H Q _ => ∃ o u : Int, vs = [.int o, .int u] ∧ 0 < u ∧ u < 2 ^ 8000 ∧ ∀ p, H p = none → Q (.ref p) (upd H p (.tup [.int (lowL o u).1, .int (lowL o u).2]))
theorem gcd_le {o u : Int} (h : 0 < u) : 0 < (Int.gcd o u : Int) ∧ (Int.gcd o u : Int) ≤ u := by
  have h1 : 0 < Int.gcd o u := Int.gcd_pos_of_ne_zero_right _ (by omega)
  have h2 : (Int.gcd o u : Int) ∣ u := Int.gcd_dvd_right ..
  exact ⟨by omega, Int.le_of_dvd h h2⟩
end My
namespace My
open PySem L2
/-! ### texts -/
def num (i : Int) : Str := Str.ofString (toString i)
theorem str_assoc (a b c : Str) : a ++ b ++ c = a ++ (b ++ c) := congrArg Str.mk (Array.append_assoc (xs := a.cps) (ys := b.cps) (zs := c.cps))
theorem str_nil (a : Str) : Str.empty ++ a = a := congrArg Str.mk (Array.empty_append (xs := a.cps))
theorem str_nil_r (a : Str) : a ++ Str.empty = a := congrArg Str.mk (Array.append_empty (xs := a.cps))
theorem str_len (a b : Str) : (a ++ b).length = a.length + b.length := Array.size_append
theorem join_one (s x : Str) : Txt.join s [x] = x := by rw [TL.join_eq]; rfl
theorem join_nil (s : Str) : Txt.join s [] = Str.empty := by rw [TL.join_eq]; rfl
theorem join_cons {s x : Str} {l : List Str} (h : l ≠ []) : Txt.join s (x :: l) = x ++ s ++ Txt.join s l := by
  cases l with
  | nil => exact absurd rfl h
  | cons y r => rw [TL.join_eq, TL.join_eq]; rfl
theorem join_snoc {s x : Str} : ∀ {l : List Str}, l ≠ [] → Txt.join s (l ++ [x]) = Txt.join s l ++ s ++ x
  | [], h => absurd rfl h
  | [y], _ => by rw [List.singleton_append, join_cons (by simp), join_one, join_one]
  | y :: z :: r, _ => by
    have ih := join_snoc (s := s) (x := x) (l := z :: r) (by simp)
    rw [List.cons_append, join_cons (by simp), ih, join_cons (l := z :: r) (by simp)]
    simp only [str_assoc]
theorem join_len (s : Str) : ∀ l : List Str, (Txt.join s l).length ≤ (l.map (·.length)).sum + l.length * s.length
  | [] => by rw [join_nil]; exact Nat.zero_le _
  | [x] => by rw [join_one]; simp
  | x :: y :: r => by
    have ih := join_len s (y :: r)
    rw [join_cons (by simp), str_len, str_len]
    simp only [List.map_cons, List.sum_cons, List.length_cons, Nat.add_mul, Nat.one_mul] at ih ⊢
    omega
theorem sum_le {B : Nat} : ∀ {l : List Str}, (∀ x ∈ l, x.length ≤ B) → (l.map (·.length)).sum ≤ l.length * B
  | [], _ => by simp
  | x :: r, h => by
    have ih := sum_le (l := r) fun y hy => h y (List.mem_cons_of_mem _ hy)
    have h1 := h x (List.mem_cons_self ..)
    simp only [List.map_cons, List.sum_cons, List.length_cons, Nat.add_mul, Nat.one_mul]
    omega
theorem num_len {i : Int} {k : Nat} (hk : 0 < k) (h : i.natAbs.log2 < k) : (num i).length ≤ k + 1 := by
  have e := int_text_length_le hk h
  have e2 : (num i).length = (toString i).length := by
    unfold num
    rw [Str.ofString_eq_toList]
    show ((toString i).toList.map Char.toNat).toArray.size = _
    rw [List.size_toArray, List.length_map]
    rfl
  omega
theorem log_lt {i : Int} {k : Nat} (h0 : i.natAbs < 2 ^ k) (hk : 0 < k) : i.natAbs.log2 < k := by
  by_cases h : i.natAbs = 0
  · rw [h]; exact hk
  · exact (Nat.log2_lt h).mpr h0
end My
namespace L2
open PySem
theorem Dp.tup2 {K : PySem.W.Frag} {H : Hp} {v : V} {d e : PyData} (h : Dp K H v (.tuple [d, e])) : ∃ a x y, v = .ref a ∧ SqT K H a [x, y] ∧ Dp K H x d ∧ Dp K H y e := by
  cases h with
  | tup hs hr =>
    cases hr with
    | cons h1 hr =>
      cases hr with
      | cons h2 hr =>
        cases hr
        exact ⟨_, _, _, rfl, hs, h1, h2⟩
theorem Dp.lst' {K : PySem.W.Frag} {H : Hp} {v : V} {ds : List PyData} (h : Dp K H v (.list ds)) : ∃ a xs, v = .ref a ∧ SqL K H a xs ∧ DpAll K H xs ds := by
  cases h with
  | lst hs hr => exact ⟨_, _, rfl, hs, hr⟩
theorem Dp.int' {K : PySem.W.Frag} {H : Hp} {v : V} {i : Int} (h : Dp K H v (.int i)) : v = .int i := by
  cases h
  rfl
theorem Dp.str' {K : PySem.W.Frag} {H : Hp} {v : V} {x : Str} (h : Dp K H v (.str x)) : v = .str x := by
  cases h
  rfl
end L2
namespace My
open PySem L2
theorem canLay_map {α : Type} {f : α → PyData} : ∀ {l : List α}, (∀ x ∈ l, (f x).canLay0 = true) → PyData.canLayAll0 (l.map f) = true
  | [], _ => rfl
  | x :: r, h => by
    have h1 := h x (List.mem_cons_self ..)
    have h2 := canLay_map (f := f) (l := r) fun y hy => h y (List.mem_cons_of_mem _ hy)
    simp only [List.map_cons, PyData.canLayAll0, h1, h2, Bool.and_self]
theorem depth_map {α : Type} {f : α → PyData} {n : Nat} : ∀ {l : List α}, (∀ x ∈ l, (f x).depth ≤ n) → PyData.depthAll (l.map f) ≤ n
  | [], _ => Nat.zero_le _
  | x :: r, h => by
    have h1 := h x (List.mem_cons_self ..)
    have h2 := depth_map (f := f) (l := r) fun y hy => h y (List.mem_cons_of_mem _ hy)
    simp only [List.map_cons, PyData.depthAll]
    omega
theorem shaped_list {α : Type} {f : α → PyData} {l : List α} (h : ∀ x ∈ l, (f x).canLay0 = true ∧ (f x).depth ≤ 63) : SeqAt.shaped (.list (l.map f)) = true := by
  unfold SeqAt.shaped
  rw [Bool.and_eq_true, decide_eq_true_eq]
  refine ⟨?_, ?_⟩
  · unfold PyData.canLay0
    exact canLay_map fun x hx => (h x hx).1
  · unfold PyData.depth
    have := depth_map (f := f) (n := 63) (l := l) fun x hx => (h x hx).2
    omega
theorem shaped_nil : SeqAt.shaped (.list []) = true := shaped_list (α := Int) (f := PyData.int) (l := []) (by simp)
theorem eqv_nil {α : Type} (f : α → PyData) (l : List α) : PyData.eqv (.list (l.map f)) (.list []) = l.isEmpty := by
  cases l with
  | nil => rfl
  | cons x r => rfl
theorem strOk_of (s : String) : PyData.strOk (Str.ofString s) = true := by
  unfold PyData.strOk
  rw [Str.ofString_eq_toList]
  show ((s.toList.map Char.toNat).toArray).all (fun x => decide (x < 1114112)) = true
  rw [List.all_toArray]
  rw [List.all_eq_true]
  intro c hc
  obtain ⟨ch, _, rfl⟩ := List.mem_map.mp hc
  have h := ch.valid
  have : ch.toNat < 1114112 := by
    rcases h with h | h
    · exact Nat.lt_trans h (by decide)
    · exact h.2
  exact decide_eq_true this
theorem strOk_app {a b : Str} (h1 : PyData.strOk a = true) (h2 : PyData.strOk b = true) : PyData.strOk (a ++ b) = true := by
  unfold PyData.strOk at *
  show (a.cps ++ b.cps).all _ = true
  rw [Array.all_append, h1, h2]
  rfl
theorem same_put {H H1 : Hp} {p : Addr} {o : HO} (a : Same H H1) (h : H p = none) : Same H (upd H1 p o) := fun b x e => by
  rw [upd_ne (ne_of_none e h)]
  exact a b x e
theorem DpAll.at_ {K : PySem.W.Frag} {H : Hp} {α : Type} {f : α → PyData} {us : List V} {l : List α} {i : Nat} {x : V} (h : DpAll K H us (l.map f)) (hx : us[i]? = some x) : ∃ r, l[i]? = some r ∧ Dp K H x (f r) := by
  obtain ⟨d, e, q⟩ := DpAll.get h hx
  rw [List.getElem?_map] at e
  cases hr : l[i]? with
  | none => rw [hr] at e; cases e
  | some r =>
    rw [hr] at e
    exact ⟨r, rfl, by rw [Option.some.inj e]; exact q⟩
theorem take_snoc {α : Type} {l : List α} {i : Nat} {r : α} (h : l[i]? = some r) : l.take (i + 1) = l.take i ++ [r] := by
  rw [List.take_add_one, h]
  rfl
theorem range_getD {α : Type} (l : List α) (d : α) : (List.range l.length).map (fun i => l.getD i d) = l := by
  apply List.ext_getElem?
  intro i
  rw [List.getElem?_map]
  by_cases h : i < l.length
  · rw [List.getElem?_range h, List.getElem?_eq_getElem h]
    show some (l.getD i d) = some l[i]
    rw [List.getD_eq_getElem?_getD, List.getElem?_eq_getElem h]
    rfl
  · rw [List.getElem?_eq_none (by simpa using h), List.getElem?_eq_none (by omega)]
    rfl
theorem getD_of' {α : Type} {l : List α} {d r : α} {i : Nat} (h : l[i]? = some r) : l.getD i d = r := by
  rw [List.getD_eq_getElem?_getD, h]
  rfl
end My
namespace L2
open PySem
theorem Dp.tup' {K : PySem.W.Frag} {H : Hp} {v : V} {ds : List PyData} (h : Dp K H v (.tuple ds)) : ∃ a xs, v = .ref a ∧ SqT K H a xs ∧ DpAll K H xs ds := by
  cases h with
  | tup hs hr => exact ⟨_, _, rfl, hs, hr⟩
theorem DpAll.c {K : PySem.W.Frag} {H : Hp} {vs : List V} {d : PyData} {ds : List PyData} (h : DpAll K H vs (d :: ds)) : ∃ x r, vs = x :: r ∧ Dp K H x d ∧ DpAll K H r ds := by
  cases h with
  | cons a b => exact ⟨_, _, rfl, a, b⟩
theorem DpAll.n {K : PySem.W.Frag} {H : Hp} {vs : List V} (h : DpAll K H vs []) : vs = [] := by
  cases h
  rfl
end L2
namespace My
open PySem L2
theorem inV_strs (x : Str) (l : List Str) : inV (.str x) (l.map V.str) = decide (x ∈ l) := by
  induction l with
  | nil => rfl
  | cons y r ih =>
    rw [List.map_cons]
    show (eqV (.str y) (.str x) || inV (.str x) (r.map V.str)) = _
    rw [ih]
    have e : eqV (.str y) (.str x) = decide (y = x) := by
      unfold eqV
      by_cases h : y = x
      · simp [h]
      · simp [h]
    rw [e]
    by_cases h : x = y
    · subst h
      simp
    · have h2 : ¬ y = x := fun q => h q.symm
      simp [h, h2]
theorem flat_strs (l : List Str) : (l.map V.str).all flatV = true := by
  rw [List.all_map, List.all_eq_true]
  intro x _
  rfl
end My
namespace My
open PySem PySem.Spec PySem.W PyProof.Rows L2
/-! ### dicts whose keys are tuples of tuples: the object itself is pinned, the keys stand as tuples -/
mutual
inductive NK (H : Hp) : NestedKey → V → Prop
  | int (i : Int) : NK H (.num i) (.int i)
  | str (x : Str) : NK H (.text x) (.str x)
  | tup {a : Addr} {ks : List NestedKey} {vs : List V} : H a = some (.tup vs) → NKs H ks vs → NK H (.tup ks) (.ref a)
inductive NKs (H : Hp) : List NestedKey → List V → Prop
  | nil : NKs H [] []
  | cons {k : NestedKey} {v : V} {ks : List NestedKey} {vs : List V} : NK H k v → NKs H ks vs → NKs H (k :: ks) (v :: vs)
end
section
variable {P : Program} {w : World} {H H' : Hp} {h : Heap}
mutual
theorem NK.mono (t : ∀ b xs, H b = some (.tup xs) → H' b = some (.tup xs)) : ∀ (k : NestedKey) (v : V), NK H k v → NK H' k v
  | .num _, _, .int i => .int i
  | .text _, _, .str x => .str x
  | .tup ks, _, .tup ha hs => .tup (t _ _ ha) (NKs.mono t ks _ hs)
theorem NKs.mono (t : ∀ b xs, H b = some (.tup xs) → H' b = some (.tup xs)) : ∀ (ks : List NestedKey) (vs : List V), NKs H ks vs → NKs H' ks vs
  | [], _, .nil => .nil
  | k :: ks, _, .cons a b => .cons (NK.mono t k _ a) (NKs.mono t ks _ b)
end
mutual
theorem NK.nested (ok : HOk P w H h) : ∀ (k : NestedKey) (v : V) (u : Value), NK H k v → RelV v u → NestedIs h k u
  | .num _, _, u, .int i, r => by
    obtain ⟨t, rfl⟩ := r
    exact .int i t
  | .text _, _, u, .str x, r => by
    obtain ⟨t, rfl⟩ := r
    exact .text x t
  | .tup ks, _, u, .tup (a := a) (vs := vs) ha hs, r => by
    cases (show u = Value.ref a from r)
    obtain ⟨_, its, rv, o, h1, h2, n, h3⟩ := (show ObjOk P w H h a (.tup vs) from ok a _ ha)
    exact .tup h1 h2 h3 (by simpa using NKs.nested ok ks vs its hs rv)
theorem NKs.nested (ok : HOk P w H h) : ∀ (ks : List NestedKey) (vs : List V) (us : List Value), NKs H ks vs → Vals vs us → NestedAll h ks us
  | [], _, us, .nil, r => by
    cases r
    exact .nil
  | k :: ks, _, us, .cons a b, r => by
    cases r with
    | cons r1 r2 => exact .cons (NK.nested ok k _ _ a r1) (NKs.nested ok ks _ _ b r2)
end
end
/-- the heap's word on such a dict -/
structure ND (P : Program) (w : World) (H : Hp) (d : Addr) (kvs : List (NestedKey × Addr × V)) : Prop where
  ex : ∃ (o : Obj) (es : Array DictEntry) (ep : Nat) (xs : List (NestedKey × Addr × Value)), H d = some (.ext fun h => h.get? d = some o) ∧ (d == sysModules) = false ∧ o.ExactDict ∧ o.data = .dict es ep ∧ es.toList = xs.map (entryOfKey (nestedKind P w)) ∧ (xs.map (·.1)).Nodup ∧
    Paired (fun (p : NestedKey × Addr × V) (q : NestedKey × Addr × Value) => p.1 = q.1 ∧ p.2.1 = q.2.1 ∧ RelV p.2.2 q.2.2) kvs xs
  keys : ∀ p ∈ kvs, NK H p.1 (.ref p.2.1) ∧ p.1.depth ≤ 8
  len : kvs.length ≤ 1000
section
variable {P : Program} {w : World} {H H' : Hp} {h : Heap} {d : Addr} {kvs : List (NestedKey × Addr × V)}
/-- all but lists stays -/
def KeepL (H H' : Hp) : Prop := ∀ b o, H b = some o → (∀ xs, o ≠ .lst xs) → H' b = some o
theorem Same.keepL (s : Same H H') : KeepL H H' := fun b o e _ => s b o e
theorem KeepL.trans {H'' : Hp} (a : KeepL H H') (b : KeepL H' H'') : KeepL H H'' := fun c o e n => b c o (a c o e n) n
theorem KeepL.put {L : Addr} {xs ys : List V} (e : H L = some (.lst xs)) : KeepL H (upd H L (.lst ys)) := fun b o eb n => by
  rw [upd_ne (fun z => by rw [z, e] at eb; exact n _ (Option.some.inj eb).symm)]
  exact eb
theorem ND.keep (x : ND P w H d kvs) (s : KeepL H H') : ND P w H' d kvs := by
  obtain ⟨o, es, ep, xs, e1, r⟩ := x.ex
  exact ⟨⟨o, es, ep, xs, s _ _ e1 (fun _ => nofun), r⟩, fun p hp => ⟨NK.mono (fun b xs e => s _ _ e (fun _ => nofun)) _ _ (x.keys p hp).1, (x.keys p hp).2⟩, x.len⟩
theorem ND.mono (x : ND P w H d kvs) (s : Same H H') : ND P w H' d kvs := x.keep (Same.keepL s)
theorem ND.ofH {xs : List (NestedKey × Addr × Value)} (ok : HOk P w H h) (keys : ∀ p ∈ kvs, NK H p.1 (.ref p.2.1) ∧ p.1.depth ≤ 8)
    (pr : Paired (fun (p : NestedKey × Addr × V) (q : NestedKey × Addr × Value) => p.1 = q.1 ∧ p.2.1 = q.2.1 ∧ RelV p.2.2 q.2.2) kvs xs) : ∀ x ∈ xs, (nestedKind P w).is h x.1 x.2.1 := by
  induction pr with
  | nil => intro x hx; cases hx
  | @cons p q ps qs r t ih =>
    intro x hx
    rcases List.mem_cons.mp hx with rfl | hx
    · have := keys p (List.mem_cons_self ..)
      rw [r.1, r.2.1] at this
      exact ⟨NK.nested ok _ _ _ this.1 rfl, this.2⟩
    · exact ih (fun p hp => keys p (List.mem_cons_of_mem _ hp)) x hx
theorem ND.dict (x : ND P w H d kvs) (ok : HOk P w H h) : ∃ xs : List (NestedKey × Addr × Value), h.DictOfH (nestedKind P w) d xs ∧ (d == sysModules) = false ∧
    Paired (fun (p : NestedKey × Addr × V) (q : NestedKey × Addr × Value) => p.1 = q.1 ∧ p.2.1 = q.2.1 ∧ RelV p.2.2 q.2.2) kvs xs := by
  obtain ⟨o, es, ep, xs, e1, e2, e3, e4, e5, e6, e7⟩ := x.ex
  obtain ⟨φ, _, _⟩ := (show ObjOk P w H h d (.ext fun h => h.get? d = some o) from ok d _ e1)
  exact ⟨xs, ⟨o, es, ep, φ, e3, e4, e5, ND.ofH ok x.keys e7, e6⟩, e2, e7⟩
end
/-- the value at a key -/
def atN (kvs : List (NestedKey × Addr × V)) (k : NestedKey) : Option V := (kvs.find? fun x => decide (x.1 = k)).map (·.2.2)
/-- in its place, or at the end -/
def putN (kvs : List (NestedKey × Addr × V)) (k : NestedKey) (a : Addr) (v : V) : List (NestedKey × Addr × V) :=
  if (atN kvs k).isSome then kvs.map (fun x => if x.1 = k then (x.1, x.2.1, v) else x) else kvs ++ [(k, a, v)]
section
abbrev NRel (p : NestedKey × Addr × V) (q : NestedKey × Addr × Value) : Prop := p.1 = q.1 ∧ p.2.1 = q.2.1 ∧ RelV p.2.2 q.2.2
theorem nrel_at {k : NestedKey} : ∀ {kvs : List (NestedKey × Addr × V)} {xs : List (NestedKey × Addr × Value)}, Paired NRel kvs xs →
    (atN kvs k = none ∧ atKey xs k = none) ∨ ∃ v p, atN kvs k = some v ∧ atKey xs k = some p ∧ RelV v p.2
  | _, _, .nil => .inl ⟨rfl, rfl⟩
  | _, _, .cons (a := p) (b := q) (l₁ := ps) (l₂ := qs) r t => by
    have ih := nrel_at (k := k) t
    by_cases h : p.1 = k
    · refine .inr ⟨p.2.2, q.2, ?_, ?_, r.2.2⟩
      · unfold atN
        rw [List.find?_cons_of_pos (by simp [h])]
        rfl
      · unfold atKey
        rw [List.find?_cons_of_pos (by simp [← r.1, h])]
        rfl
    · have e1 : atN (p :: ps) k = atN ps k := by
        unfold atN
        rw [List.find?_cons_of_neg (by simp [h])]
      have e2 : atKey (q :: qs) k = atKey qs k := by
        unfold atKey
        rw [List.find?_cons_of_neg (by simp [← r.1, h])]
      rw [e1, e2]
      exact ih
theorem nrel_map {k : NestedKey} {v : V} {u : Value} (r : RelV v u) : ∀ {kvs : List (NestedKey × Addr × V)} {xs : List (NestedKey × Addr × Value)}, Paired NRel kvs xs →
    Paired NRel (kvs.map fun x => if x.1 = k then (x.1, x.2.1, v) else x) (xs.map (putAt k u))
  | _, _, .nil => .nil
  | _, _, .cons (a := p) (b := q) (l₁ := ps) (l₂ := qs) r1 t => by
    refine .cons ?_ (nrel_map r t)
    show NRel (if p.1 = k then (p.1, p.2.1, v) else p) (putAt k u q)
    unfold putAt
    by_cases h : p.1 = k
    · rw [if_pos h, if_pos (by rw [← r1.1]; exact h)]
      exact ⟨r1.1, r1.2.1, r⟩
    · rw [if_neg h, if_neg (by rw [← r1.1]; exact h)]
      exact r1
theorem nrel_app : ∀ {kvs ls : List (NestedKey × Addr × V)} {xs ys : List (NestedKey × Addr × Value)}, Paired NRel kvs xs → Paired NRel ls ys → Paired NRel (kvs ++ ls) (xs ++ ys)
  | _, _, _, _, .nil, h => h
  | _, _, _, _, .cons r t, h => .cons r (nrel_app t h)
theorem nrel_put {k : NestedKey} {a : Addr} {v : V} {u : Value} {kvs : List (NestedKey × Addr × V)} {xs : List (NestedKey × Addr × Value)} (h : Paired NRel kvs xs) (r : RelV v u) : Paired NRel (putN kvs k a v) (storedH xs k a u) := by
  unfold putN storedH
  rcases nrel_at (k := k) h with ⟨e1, e2⟩ | ⟨v', p, e1, e2, _⟩
  · rw [e1, e2]
    exact nrel_app h (.cons ⟨rfl, rfl, r⟩ .nil)
  · rw [e1, e2]
    exact nrel_map r h
theorem putN_mem {k : NestedKey} {a : Addr} {v : V} {kvs : List (NestedKey × Addr × V)} {p : NestedKey × Addr × V} (h : p ∈ putN kvs k a v) : (∃ q ∈ kvs, q.1 = p.1 ∧ q.2.1 = p.2.1) ∨ (p.1 = k ∧ p.2.1 = a) := by
  unfold putN at h
  split at h
  · obtain ⟨q, hq, e⟩ := List.mem_map.mp h
    refine .inl ⟨q, hq, ?_⟩
    by_cases c : q.1 = k
    · rw [if_pos c] at e
      rw [← e]
      exact ⟨rfl, rfl⟩
    · rw [if_neg c] at e
      rw [← e]
      exact ⟨rfl, rfl⟩
  · rcases List.mem_append.mp h with h | h
    · exact .inl ⟨p, h, rfl, rfl⟩
    · rw [List.mem_singleton.mp h]
      exact .inr ⟨rfl, rfl⟩
theorem putN_len {k : NestedKey} {a : Addr} {v : V} {kvs : List (NestedKey × Addr × V)} : (putN kvs k a v).length ≤ kvs.length + 1 := by
  unfold putN
  split
  · rw [List.length_map]
    omega
  · simp
end
section
variable {X : Cx} {pos pos' : Pos} {o i value e tg : Expr} {td ty tv : TE}
theorem room8 {A : Around} (hu : A.units + 64 < cLine) : (nestedKind X.prog X.w).room A.in1 := by
  show A.units + 1 + 8 < cLine
  omega
theorem room8' {A : Around} (hu : A.units + 64 < cLine) : (nestedKind X.prog X.w).room A := by
  show A.units + 8 < cLine
  omega
/-- {} -/
def tDNewN (P : Program) (w : World) : TE := fun _ H Q => ∀ (p : Addr) (φ : Heap → Prop), H p = none → ND P w (upd H p (.ext φ)) p [] → Q (.ref p) (upd H p (.ext φ))
theorem pe_dnewN : PE X (.Dict [] [] pos) (tDNewN X.prog X.w) := ⟨fun pins s σ H Q I h => by
  have big := I.big
  have hf := I.hok.fresh (Nat.le_refl s.heap.objs.size)
  refine wpAny_Dict_empty ⟨.ref s.heap.objs.size, _, I.laid (a := s.heap.objs.size) (o := .ext fun h => h.get? s.heap.objs.size = some { cls := .type "dict", data := .dict #[] }) (t' := s.toks) (fun _ _ q => Heap.get?_push_of_some _ q) (Nat.le_refl _) ?_, rfl, h _ _ hf ?_⟩
  · exact ⟨Heap.get?_push_size _ rfl, ⟨_, Heap.get?_push_size _ rfl⟩, fun h1 h2 e k => k _ e⟩
  · obtain ⟨o, es, ep, e1, e2, e3, e4, e5, e6⟩ := Heap.DictOfH.new (knd := nestedKind X.prog X.w) s.heap
    have eo : o = { cls := .type "dict", data := .dict #[] } := Option.some.inj (e1.symm.trans (Heap.get?_push_size _ rfl))
    refine ⟨⟨_, es, ep, [], upd_same, ?_, ?_, ?_, e4, e6, .nil⟩, (fun _ h => nomatch h), Nat.zero_le _⟩
    · exact beq_false_of_ne (fun e => by
      rw [← e] at big
      exact Nat.lt_irrefl _ big)
    · rw [← eo]
      exact e2
    · rw [← eo]
      exact e3⟩
/-- d[k] -/
def tNGet (P : Program) (w : World) (td ty : TE) : TE := fun σ H Q => td σ H fun x H1 => ty σ H1 fun y H2 => ∃ (d a : Addr) (kvs : List (NestedKey × Addr × V)) (k : NestedKey) (v : V), x = .ref d ∧ y = .ref a ∧ ND P w H2 d kvs ∧ NK H2 k (.ref a) ∧ k.depth ≤ 8 ∧ atN kvs k = some v ∧ Q v H2
theorem pe_nget (hu : X.A.units + 64 < cLine) (ho : PE X o td) (hi : PE X i ty) (hs : NoSl i) : PE X (.Subscript o i pos) (tNGet X.prog X.w td ty) := by
  refine ⟨fun pins s σ H Q I h => ?_⟩
  refine subD_of PySem.F.slot_dict_getitem.lookup hs (thn (ho.run pins s σ H _ I h) fun u s1 ⟨x, H1, I1, rx, q1⟩ => thn (hi.run pins s1 σ H1 _ I1 q1) fun iv s2 ⟨y, H2, I2, ry, d, a, kvs, k, v, ex, ey, nd, nk, hk, hv, q2⟩ => ?_)
  subst ex ey
  obtain rfl : u = Value.ref d := rx
  obtain rfl : iv = Value.ref a := ry
  obtain ⟨xs, dd, hd, pr⟩ := nd.dict I2.hok
  refine ⟨dd.typeIs, ?_⟩
  rcases nrel_at (k := k) pr with ⟨e1, _⟩ | ⟨v', p, e1, e2, rv⟩
  · rw [hv] at e1
    cases e1
  · rw [hv] at e1
    cases e1
    exact wpAny_getItem_heap (room8 (X := X) hu) ⟨NK.nested I2.hok _ _ _ nk rfl, hk⟩ dd e2 ⟨v, H2, I2.tok _, rv, q2⟩
/-- d[k] = v -/
def sNPut (P : Program) (w : World) (td ty tv : TE) : L2.TS := fun D σ H => tv σ H fun v H1 => td σ H1 fun x H2 => ty σ H2 fun y H3 => ∃ (d a : Addr) (kvs : List (NestedKey × Addr × V)) (k : NestedKey), x = .ref d ∧ y = .ref a ∧ ND P w H3 d kvs ∧ NK H3 k (.ref a) ∧ k.depth ≤ 8 ∧ kvs.length < 1000 ∧
  ∀ φ : Heap → Prop, ND P w (upd H3 d (.ext φ)) d (putN kvs k a v) → D.nx σ (upd H3 d (.ext φ))
theorem ps_nput (hu : X.A.units + 64 < cLine) (ho : PE X o td) (hi : PE X i ty) (hv : PE X value tv) (hs : swapsWith value (some (.Subscript o i pos')) pos.line X.env = pure false) :
    L2.PS X (.Assign [.Subscript o i pos'] value pos) (sNPut X.prog X.w td ty tv) := by
  refine ⟨fun pins s σ H D I h => ?_⟩
  refine wpAny_Assign_Subscript (thn (hv.run pins s σ H _ I h) fun r s1 ⟨v, H1, I1, rv, q1⟩ => thn (ho.run pins s1 σ H1 _ I1 q1) fun u s2 ⟨x, H2, I2, rx, q2⟩ => thn (hi.run pins s2 σ H2 _ I2 q2) fun iv s3 ⟨y, H3, I3, ry, d, a, kvs, k, ex, ey, nd, nk, hk, hl, q3⟩ => ?_) hs
  subst ex ey
  obtain rfl : u = Value.ref d := rx
  obtain rfl : iv = Value.ref a := ry
  obtain ⟨xs, dd, hd, pr⟩ := nd.dict I3.hok
  have lx : xs.length = kvs.length := (Paired.length pr).symm
  refine wpAny_setItem_heap (hsz := by rw [lx]; exact Nat.le_trans nd.len (by decide)) (room8 (X := X) hu) ⟨NK.nested I3.hok _ _ _ nk rfl, hk⟩ dd fun h' dd' hs' => ?_
  obtain ⟨ob, es, ep, xs0, ed, _⟩ := nd.ex
  obtain ⟨o2, es2, ep2, f1, f2, f3, f4, f5, f6⟩ := id dd'
  have tup : ∀ b ys, H3 b = some (.tup ys) → (upd H3 d (.ext fun h => h.get? d = some o2)) b = some (.tup ys) := fun b ys e => by
    rw [upd_ne (fun z => by rw [z, ed] at e; cases e)]
    exact e
  refine ⟨σ, upd H3 d (.ext fun h => h.get? d = some o2), d_write I3 (by rw [ed]; exact True.intro) hs' ⟨o2, f1⟩ ⟨f1, ⟨o2, f1⟩, fun h1 h2 e k => k _ e⟩, q3 _ ?_⟩
  refine ⟨⟨o2, es2, ep2, _, upd_same, hd, f2, f3, f4, f6, nrel_put pr rv⟩, fun p hp => ?_, ?_⟩
  · rcases putN_mem hp with ⟨q, hq, e1, e2⟩ | ⟨e1, e2⟩
    · have := nd.keys q hq
      rw [e1, e2] at this
      exact ⟨NK.mono tup _ _ this.1, this.2⟩
    · rw [e1, e2]
      exact ⟨NK.mono tup _ _ nk, hk⟩
  · have := putN_len (k := k) (a := a) (v := v) (kvs := kvs)
    omega
end
end My
namespace My
open PySem PySem.Spec PySem.W PyProof.Rows L2
/-! ### for k in d -/
def Itn (d : Addr) (φ : Heap → Prop) (kvs : List (NestedKey × Addr × V)) : It :=
  ⟨fun i H => H d = some (.ext φ) ∧ i < kvs.length, fun i H v H' => H' = H ∧ ∃ (k : NestedKey) (a : Addr) (x : V), kvs[i]? = some (k, a, x) ∧ v = .ref a, fun i H => H d = some (.ext φ) ∧ kvs.length ≤ i⟩
theorem walk_nd {d : Addr} {φ : Heap → Prop} {kvs : List (NestedKey × Addr × V)} : Walk (Itn d φ kvs) kvs.length (fun H => H d = some (.ext φ)) (fun i H x H' => H' = H ∧ ∃ (k : NestedKey) (a : Addr) (v : V), kvs[i]? = some (k, a, v) ∧ x = .ref a) :=
  ⟨fun _ _ hi q => ⟨q, hi⟩, fun _ q => ⟨q, Nat.le_refl _⟩, fun _ _ _ _ _ _ y => y⟩
theorem turn_nd {P : Program} {w : World} {K : PySem.W.Frag} {tg : Expr} {d : Addr} {o : Obj} {es : Array DictEntry} {ep : Nat} {kvs : List (NestedKey × Addr × V)} (it : Addr) (hod : o.data = .dict es ep) (hx : o.ExactDict) (hsz : es.size = kvs.length)
    (hk : ∀ (j : Nat) (h : j < es.size), ∃ (k : NestedKey) (a : Addr) (x : V), kvs[j]? = some (k, a, x) ∧ es[j].key = .ref a) :
    Turn P w K tg (Itn d (fun h => h.get? d = some o) kvs) [it] it (fun i h => h.IsKeyIter it d i es.size ep) where
  mem := by simp
  obj := fun i h st b hb => by
    have e : b = it := by simpa using hb
    subst e
    obtain ⟨oi, e, c, dd⟩ := st
    exact ⟨oi, e, fun v z => by rw [dd] at z; cases z⟩
  keep := fun i h h' st k => st.at fun oi e => k it (by simp) oi e
  item := by
    intro X hP hw hK hc i pins s σ H E I hf st hg
    subst hP hw hK
    obtain ⟨hd, hi⟩ := hg
    obtain ⟨f0, f1, f2, f3, f4, f5⟩ := hf it (by simp)
    obtain ⟨φ, _, _⟩ := (show ObjOk X.prog X.w H s.heap d (.ext fun h => h.get? d = some o) from I.hok d _ hd)
    have hlt : i < es.size := by omega
    obtain ⟨k, a, x, hkv, hkey⟩ := hk i hlt
    refine wpAny_pyNext_keys_item_raw st ⟨o, φ, hx, hod⟩ hlt fun h' st' sb => ?_
    have I1 : Inv X pins σ H { s with heap := h' } := I.turned (t' := s.toks) (fun b ob hb e => (sb.2 b hb).trans e) f0 f1 f3 f4 f5
    obtain ⟨oi, e, c, dd⟩ := id st'
    exact ⟨es[i].key, rfl, go_of (s := { s with heap := h' }) e c dd (by decide) ⟨.ref a, H, I1, hkey, ⟨rfl, k, a, x, hkv, rfl⟩, st', fun b hb => (hf b hb).1⟩⟩
  done := by
    intro X hP hw hK hc i pins s σ H E I hf st hg
    subst hP hw hK
    obtain ⟨hd, hi⟩ := hg
    obtain ⟨f0, f1, f2, f3, f4, f5⟩ := hf it (by simp)
    obtain ⟨φ, _, _⟩ := (show ObjOk X.prog X.w H s.heap d (.ext fun h => h.get? d = some o) from I.hok d _ hd)
    exact wpAny_pyNext_keys_end_raw (I.ok.hd hc) st ⟨o, φ, hx, hod⟩ (by omega) fun h' eb => ⟨rfl, I.turned (t' := s.toks) (fun b ob hb e => eb b ob hb e) f0 f1 f3 f4 f5⟩
  self := fun A i s Q E st h => wpAny_pyIter_keyiter st h
def iN (P : Program) (w : World) (td : TE) : TI := fun σ H R => td σ H fun v H1 => ∃ (d : Addr) (kvs : List (NestedKey × Addr × V)), v = .ref d ∧ ND P w H1 d kvs ∧ ∀ φ : Heap → Prop, H1 d = some (.ext φ) → R (Itn d φ kvs) H1
theorem nrel_get : ∀ {kvs : List (NestedKey × Addr × V)} {xs : List (NestedKey × Addr × Value)} {j : Nat} {q : NestedKey × Addr × Value}, Paired NRel kvs xs → xs[j]? = some q → ∃ k x, kvs[j]? = some (k, q.2.1, x)
  | _, _, _, _, .nil, h => by simp at h
  | _, _, 0, q, .cons (a := p) (b := q') r t, h => by
    have e : q' = q := by simpa using h
    subst e
    exact ⟨p.1, p.2.2, by rw [← r.2.1]; rfl⟩
  | _, _, j + 1, q, .cons r t, h => by
    obtain ⟨k, x, e⟩ := nrel_get (j := j) t (by simpa using h)
    exact ⟨k, x, by simpa using e⟩
theorem pi_nd {X : Cx} {tg l : Expr} {td : TE} (hl : PE X l td) : PI X tg l (iN X.prog X.w td) := by
  refine ⟨fun pins s σ H R I h => ?_⟩
  refine thn (hl.run pins s σ H _ I h) fun v s1 ⟨x, H1, I1, r1, d, kvs, e, nd, q⟩ => ?_
  subst e
  obtain rfl : v = Value.ref d := r1
  obtain ⟨o, es, ep, xs, e1, e2, e3, e4, e5, e6, e7⟩ := nd.ex
  obtain ⟨φ, _, _⟩ := (show ObjOk X.prog X.w H1 s1.heap d (.ext fun h => h.get? d = some o) from I1.hok d _ e1)
  have sz : es.size = kvs.length := by
    have h1 : es.toList.length = xs.length := by rw [e5, List.length_map]
    have h2 : kvs.length = xs.length := Paired.length e7
    rw [Array.length_toList] at h1
    omega
  refine wpAny_pyIter_dict_raw e2 ⟨o, φ, e3, e4⟩ ?_
  refine ⟨s1.heap.objs.size, [s1.heap.objs.size], _, _, H1, rfl, I1.kept (t' := s1.toks) fun b o e => Heap.get?_push_of_some _ e, turn_nd _ e4 e3 sz ?_, ⟨_, Heap.get?_push_size _ rfl, rfl, rfl⟩, fun b hb => ?_, q _ e1⟩
  · intro j hj
    have h1 : es.toList[j]? = some es[j] := by rw [Array.getElem?_toList, Array.getElem?_eq_getElem hj]
    rw [e5, List.getElem?_map] at h1
    cases hx : xs[j]? with
    | none => rw [hx] at h1; cases h1
    | some q =>
      rw [hx] at h1
      obtain ⟨k, x, e⟩ := nrel_get e7 hx
      refine ⟨k, q.2.1, x, e, ?_⟩
      rw [← Option.some.inj h1]
      rfl
  · have e : b = s1.heap.objs.size := by simpa using hb
    subst e
    exact I1.fpOk (Nat.le_refl _) (I1.hok.fresh (Nat.le_refl _))
end My
namespace My
open PySem PySem.Spec PySem.W L2
/-! ### polys in memory -/
def keyL (k : Int × Int) : List NestedKey := (if 0 < k.2 then [.tup [.text "#", .num k.2]] else []) ++ (if 0 < k.1 then [.tup [.text "n", .num k.1]] else [])
def keyN (k : Int × Int) : NestedKey := .tup (keyL k)
theorem keyN_depth (k : Int × Int) : (keyN k).depth ≤ 8 := by
  unfold keyN keyL
  split <;> split <;> simp [NestedKey.depth, NestedKey.depthAll]
theorem hash_n : (Str.ofString "#") ≠ Str.ofString "n" := by decide
theorem keyN_inj {a b : Int × Int} (h1 : 0 ≤ a.1) (h2 : 0 ≤ a.2) (h3 : 0 ≤ b.1) (h4 : 0 ≤ b.2) (e : keyN a = keyN b) : a = b := by
  have e := NestedKey.tup.inj e
  unfold keyL at e
  have ne := hash_n
  have ne' : (Str.ofString "n") ≠ Str.ofString "#" := fun z => ne z.symm
  obtain ⟨p, f⟩ := a
  obtain ⟨p', f'⟩ := b
  simp only at h1 h2 h3 h4 e
  by_cases c1 : 0 < f <;> by_cases c2 : 0 < p <;> by_cases c3 : 0 < f' <;> by_cases c4 : 0 < p' <;> simp [c1, c2, c3, c4, ne, ne'] at e
  all_goals first
    | (obtain ⟨e1, e2⟩ := e; rw [e1, e2])
    | (have : f = f' := by omega
       have : p = p' := by omega
       subst_vars
       rfl)
abbrev PRel (H : Hp) (kv : NestedKey × Addr × V) (t : Trm) : Prop := kv.1 = keyN t.1 ∧ ∃ pt, kv.2.2 = V.ref pt ∧ H pt = some (.tup [.int t.2.1, .int t.2.2])
def PolyAt (P : Program) (w : World) (H : Hp) (d : Addr) (ts : List Trm) : Prop := ∃ kvs : List (NestedKey × Addr × V), ND P w H d kvs ∧ Paired (PRel H) kvs ts
theorem PolyAt.keep {P : Program} {w : World} {H H' : Hp} {d : Addr} {ts : List Trm} (h : PolyAt P w H d ts) (s : KeepL H H') : PolyAt P w H' d ts := by
  obtain ⟨kvs, nd, pr⟩ := h
  exact ⟨kvs, nd.keep s, L2.Paired.mapP pr fun a b ⟨e, pt, e1, e2⟩ => ⟨e, pt, e1, s _ _ e2 (fun _ => nofun)⟩⟩
theorem PolyAt.mono {P : Program} {w : World} {H H' : Hp} {d : Addr} {ts : List Trm} (h : PolyAt P w H d ts) (s : Same H H') : PolyAt P w H' d ts := h.keep (Same.keepL s)
def RowAt (P : Program) (w : World) (H : Hp) (v : V) (r : Rw) : Prop := ∃ a d, v = .ref a ∧ H a = some (.tup [.int r.1, .ref d]) ∧ PolyAt P w H d r.2
theorem RowAt.keep {P : Program} {w : World} {H H' : Hp} {v : V} {r : Rw} (h : RowAt P w H v r) (s : KeepL H H') : RowAt P w H' v r := by
  obtain ⟨a, d, e, e1, e2⟩ := h
  exact ⟨a, d, e, s _ _ e1 (fun _ => nofun), e2.keep s⟩
def RowsAt (P : Program) (w : World) (H : Hp) (us : List V) (S : List Rw) : Prop := Paired (RowAt P w H) us S
theorem RowsAt.keep {P : Program} {w : World} {H H' : Hp} {us : List V} {S : List Rw} (h : RowsAt P w H us S) (s : KeepL H H') : RowsAt P w H' us S := L2.Paired.mapP h fun _ _ q => q.keep s
theorem RowsAt.mono {P : Program} {w : World} {H H' : Hp} {us : List V} {S : List Rw} (h : RowsAt P w H us S) (s : Same H H') : RowsAt P w H' us S := h.keep (Same.keepL s)
theorem paired_snoc {α β : Type} {F : α → β → Prop} {a : α} {b : β} : ∀ {l : List α} {m : List β}, Paired F l m → F a b → Paired F (l ++ [a]) (m ++ [b])
  | _, _, .nil, h => .cons h .nil
  | _, _, .cons r t, h => .cons r (paired_snoc t h)
theorem atN_none {H : Hp} {k : Int × Int} (hk : 0 ≤ k.1 ∧ 0 ≤ k.2) : ∀ {kvs : List (NestedKey × Addr × V)} {ts : List Trm}, Paired (PRel H) kvs ts → (∀ t ∈ ts, 0 ≤ t.1.1 ∧ 0 ≤ t.1.2) → k ∉ ts.map (·.1) → atN kvs (keyN k) = none
  | _, _, .nil, _, _ => rfl
  | _, _, .cons (a := kv) (b := t) (l₁ := kvs) (l₂ := ts) r q, hp, hn => by
    have h1 := hp t (List.mem_cons_self ..)
    have ne : ¬ kv.1 = keyN k := fun e => by
      rw [r.1] at e
      have := keyN_inj h1.1 h1.2 hk.1 hk.2 e
      exact hn (by rw [← this]; exact List.mem_cons_self ..)
    have ih := atN_none hk q (fun t ht => hp t (List.mem_cons_of_mem _ ht)) (fun h => hn (List.mem_cons_of_mem _ h))
    unfold atN at ih ⊢
    rw [List.find?_cons_of_neg (by simp [ne])]
    exact ih
end My
namespace My
open PySem L2
/-! ### parts: products, sums, worths -/
theorem lowL_le {o u : Int} (h0 : 0 < u) : (lowL o u).1.natAbs ≤ o.natAbs ∧ 0 < (lowL o u).2 ∧ (lowL o u).2 ≤ u := by
  by_cases ho : o = 0
  · subst ho
    have hg : (Int.gcd 0 u : Int) = u := by
      rw [Int.gcd_zero_left]
      omega
    unfold lowL
    rw [hg, Int.zero_ediv, Int.ediv_self (by omega)]
    exact ⟨Nat.le_refl _, by omega, by show (1 : Int) ≤ u; omega⟩
  · obtain ⟨_, h1, h2, h3, _⟩ := lowL_ok ho h0
    exact ⟨h1, h2, h3⟩
theorem lowL_mul {o u : Int} (h0 : 0 < u) : (lowL o u).1 * u = o * (lowL o u).2 := by
  have hd : (Int.gcd o u : Int) ∣ u := Int.gcd_dvd_right ..
  have hd1 : (Int.gcd o u : Int) ∣ o := Int.gcd_dvd_left ..
  unfold lowL
  show o / (Int.gcd o u : Int) * u = o * (u / (Int.gcd o u : Int))
  rw [Int.mul_comm, ← Int.mul_ediv_assoc _ hd1, ← Int.mul_ediv_assoc _ hd, Int.mul_comm u o]
theorem lowL_low {o u : Int} (h0 : 0 < u) : Int.gcd (lowL o u).1 (lowL o u).2 = 1 :=
  Int.gcd_ediv_gcd_ediv_gcd (Int.gcd_pos_of_ne_zero_right _ (by omega))
theorem dvd_cop {a b d : Int} (h : b ∣ a * d) (g : Int.gcd a b = 1) : b ∣ d := by
  have h' : b.natAbs ∣ a.natAbs * d.natAbs := by
    rw [← Int.natAbs_mul]
    exact Int.natAbs_dvd_natAbs.mpr h
  have c : Nat.Coprime b.natAbs a.natAbs := by
    rw [Nat.coprime_comm]
    exact g
  exact Int.natAbs_dvd_natAbs.mp (c.dvd_of_dvd_mul_left h')
/-- parts in lowest terms of the same worth are the same -/
theorem low_uniq {a b c d : Int} (hb : 0 < b) (hd : 0 < d) (h1 : Int.gcd a b = 1) (h2 : Int.gcd c d = 1) (e : a * d = c * b) : a = c ∧ b = d := by
  have hbd : b ∣ d := by
    have : b ∣ a * d := ⟨c, by rw [e, Int.mul_comm]⟩
    exact dvd_cop this h1
  have hdb : d ∣ b := by
    have : d ∣ c * b := ⟨a, by rw [← e, Int.mul_comm]⟩
    exact dvd_cop this h2
  have ebd : b = d := Int.le_antisymm (Int.le_of_dvd hd hbd) (Int.le_of_dvd hb hdb)
  subst ebd
  exact ⟨Int.eq_of_mul_eq_mul_right (by omega) e, rfl⟩
theorem lowL_eq {a b c d : Int} (hb : 0 < b) (hd : 0 < d) (e : a * d = c * b) : lowL a b = lowL c d := by
  have h1 := lowL_le (o := a) hb
  have h2 := lowL_le (o := c) hd
  have m1 := lowL_mul (o := a) hb
  have m2 := lowL_mul (o := c) hd
  have key : (lowL a b).1 * (lowL c d).2 = (lowL c d).1 * (lowL a b).2 := by
    have hbd : b * d ≠ 0 := Int.mul_ne_zero (by omega) (by omega)
    apply Int.eq_of_mul_eq_mul_right hbd
    calc (lowL a b).1 * (lowL c d).2 * (b * d) = ((lowL a b).1 * b) * ((lowL c d).2 * d) := by ac_rfl
      _ = (a * (lowL a b).2) * ((lowL c d).2 * d) := by rw [m1]
      _ = (a * d) * ((lowL a b).2 * (lowL c d).2) := by ac_rfl
      _ = (c * b) * ((lowL a b).2 * (lowL c d).2) := by rw [e]
      _ = (c * (lowL c d).2) * ((lowL a b).2 * b) := by ac_rfl
      _ = ((lowL c d).1 * d) * ((lowL a b).2 * b) := by rw [m2]
      _ = (lowL c d).1 * (lowL a b).2 * (b * d) := by ac_rfl
  have u := low_uniq h1.2.1 h2.2.1 (lowL_low hb) (lowL_low hd) key
  exact Prod.ext u.1 u.2
def prodL (p q : Prt) : Prt := lowL (p.1 * q.1) (p.2 * q.2)
def sumL (p q : Prt) : Prt := lowL (p.1 * q.2 + q.1 * p.2) (p.2 * q.2)
/-- the product and the sum go by worth -/
theorem prodL_low {a b c d : Int} (hb : 0 < b) (hd : 0 < d) : prodL (lowL a b) (c, d) = lowL (a * c) (b * d) := by
  have h1 := lowL_le (o := a) hb
  have m1 := lowL_mul (o := a) hb
  refine lowL_eq (Int.mul_pos h1.2.1 hd) (Int.mul_pos hb hd) ?_
  calc (lowL a b).1 * c * (b * d) = ((lowL a b).1 * b) * (c * d) := by ac_rfl
    _ = (a * (lowL a b).2) * (c * d) := by rw [m1]
    _ = a * c * ((lowL a b).2 * d) := by ac_rfl
theorem sumL_low {a b c d : Int} (hb : 0 < b) (hd : 0 < d) : sumL (lowL a b) (lowL c d) = lowL (a * d + c * b) (b * d) := by
  have h1 := lowL_le (o := a) hb
  have m1 := lowL_mul (o := a) hb
  have h2 := lowL_le (o := c) hd
  have m2 := lowL_mul (o := c) hd
  refine lowL_eq (Int.mul_pos h1.2.1 h2.2.1) (Int.mul_pos hb hd) ?_
  calc ((lowL a b).1 * (lowL c d).2 + (lowL c d).1 * (lowL a b).2) * (b * d)
      = ((lowL a b).1 * b) * ((lowL c d).2 * d) + ((lowL c d).1 * d) * ((lowL a b).2 * b) := by rw [Int.add_mul]; congr 1 <;> ac_rfl
    _ = (a * (lowL a b).2) * ((lowL c d).2 * d) + (c * (lowL c d).2) * ((lowL a b).2 * b) := by rw [m1, m2]
    _ = (a * d + c * b) * ((lowL a b).2 * (lowL c d).2) := by rw [Int.add_mul]; congr 1 <;> ac_rfl
theorem lowL_self {a b : Int} (hb : 0 < b) (h : Int.gcd a b = 1) : lowL a b = (a, b) := by
  unfold lowL
  rw [h]
  simp
end My
namespace My
open PySem PySem.Spec PySem.W L2
/-! ### a poly's worth -/
def keyP (k : Int × Int) : List (Str × Int) := (if 0 < k.2 then [(Str.ofString "#", k.2)] else []) ++ (if 0 < k.1 then [(Str.ofString "n", k.1)] else [])
theorem keyL_eq (k : Int × Int) : keyL k = (keyP k).map fun x => .tup [.text x.1, .num x.2] := by
  unfold keyL keyP
  split <;> split <;> simp
def valOf (sz bl : Int) (nm : Str) : Int := if nm = "#" then bl else sz
def stepP (sz bl : Int) (acc : Prt) (x : Str × Int) : Prt := prodL acc (valOf sz bl x.1 ^ x.2.toNat, 1)
def stepI (sz bl : Int) (acc : Int) (x : Str × Int) : Int := acc * valOf sz bl x.1 ^ x.2.toNat
def partK (sz bl : Int) (t : Trm) : Prt := (keyP t.1).foldl (stepP sz bl) t.2
theorem foldP_low {sz bl : Int} {u : Int} (hu : 0 < u) : ∀ (l : List (Str × Int)) (o : Int), l.foldl (stepP sz bl) (lowL o u) = lowL (l.foldl (stepI sz bl) o) u
  | [], _ => rfl
  | x :: r, o => by
    rw [List.foldl_cons, List.foldl_cons]
    have e : stepP sz bl (lowL o u) x = lowL (stepI sz bl o x) u := by
      unfold stepP stepI
      rw [prodL_low hu (by decide), Int.mul_one]
    rw [e]
    exact foldP_low hu r _
/-- what a term comes to, unreduced -/
def numI (sz bl : Int) (t : Trm) : Int := t.2.1 * sz ^ t.1.1.toNat * bl ^ t.1.2.toNat
theorem partK_low {sz bl : Int} {t : Trm} (h1 : 0 ≤ t.1.1) (h2 : 0 ≤ t.1.2) (hu : 0 < t.2.2) (hl : Int.gcd t.2.1 t.2.2 = 1) : partK sz bl t = lowL (numI sz bl t) t.2.2 := by
  unfold partK
  have e := lowL_self hu hl
  rw [show t.2 = lowL t.2.1 t.2.2 by rw [e], foldP_low hu, e]
  congr 1
  unfold numI keyP
  have ne : ¬ (Str.ofString "n") = Str.ofString "#" := by decide
  by_cases c1 : 0 < t.1.2 <;> by_cases c2 : 0 < t.1.1
  · simp [c1, c2, stepI, valOf, ne]
    ac_rfl
  · have e0 : t.1.1 = 0 := by omega
    simp [c1, c2, stepI, valOf, ne, e0]
  · have e0 : t.1.2 = 0 := by omega
    simp [c1, c2, stepI, valOf, ne, e0]
  · have e0 : t.1.2 = 0 := by omega
    have e1 : t.1.1 = 0 := by omega
    simp [c1, c2, e0, e1]
def worthL (sz bl : Int) (ts : List Trm) : Prt := ts.foldl (fun acc t => sumL acc (partK sz bl t)) (0, 1)
/-- the law's way: unreduced -/
def rawStep (sz bl : Int) (a : Prt) (t : Trm) : Prt := (a.1 * t.2.2 + numI sz bl t * a.2, a.2 * t.2.2)
def rawL (sz bl : Int) (ts : List Trm) : Prt := ts.foldl (rawStep sz bl) (0, 1)
theorem raw_pos {sz bl : Int} : ∀ (ts : List Trm) (a : Prt), 0 < a.2 → (∀ t ∈ ts, 0 < t.2.2) → 0 < (ts.foldl (rawStep sz bl) a).2
  | [], _, h, _ => h
  | t :: r, a, h, ht => raw_pos r _ (Int.mul_pos h (ht t (List.mem_cons_self ..))) fun u hu => ht u (List.mem_cons_of_mem _ hu)
theorem worth_raw {sz bl : Int} : ∀ (ts : List Trm) (a : Prt), 0 < a.2 → (∀ t ∈ ts, 0 ≤ t.1.1 ∧ 0 ≤ t.1.2 ∧ 0 < t.2.2 ∧ Int.gcd t.2.1 t.2.2 = 1) →
    ts.foldl (fun acc t => sumL acc (partK sz bl t)) (lowL a.1 a.2) = lowL (ts.foldl (rawStep sz bl) a).1 (ts.foldl (rawStep sz bl) a).2
  | [], _, _, _ => rfl
  | t :: r, a, h, ht => by
    obtain ⟨h1, h2, h3, h4⟩ := ht t (List.mem_cons_self ..)
    rw [List.foldl_cons, List.foldl_cons, partK_low h1 h2 h3 h4, sumL_low h h3]
    exact worth_raw r (rawStep sz bl a t) (Int.mul_pos h h3) fun u hu => ht u (List.mem_cons_of_mem _ hu)
theorem worthL_eq {sz bl : Int} {ts : List Trm} (ht : ∀ t ∈ ts, 0 ≤ t.1.1 ∧ 0 ≤ t.1.2 ∧ 0 < t.2.2 ∧ Int.gcd t.2.1 t.2.2 = 1) : worthL sz bl ts = lowL (rawL sz bl ts).1 (rawL sz bl ts).2 := by
  have := worth_raw (sz := sz) (bl := bl) ts (0, 1) (by decide) ht
  rw [show lowL (0 : Int) 1 = (0, 1) by decide] at this
  exact this
/-- the value at a key of its own -/
theorem atN_get : ∀ {kvs : List (NestedKey × Addr × V)} {i : Nat} {k : NestedKey} {a : Addr} {x : V}, (kvs.map (·.1)).Nodup → kvs[i]? = some (k, a, x) → atN kvs k = some x
  | [], _, _, _, _, _, h => by simp at h
  | kv :: r, 0, k, a, x, nd, h => by
    have e : kv = (k, a, x) := by simpa using h
    subst e
    unfold atN
    rw [List.find?_cons_of_pos (by simp)]
    rfl
  | kv :: r, i + 1, k, a, x, nd, h => by
    have h' : r[i]? = some (k, a, x) := by simpa using h
    rw [List.map_cons, List.nodup_cons] at nd
    have ne : ¬ kv.1 = k := fun e => nd.1 (by rw [e]; exact List.mem_map.mpr ⟨_, List.mem_of_getElem? h', rfl⟩)
    have ih := atN_get nd.2 h'
    unfold atN at ih ⊢
    rw [List.find?_cons_of_neg (by simp [ne])]
    exact ih
theorem nrel_keys : ∀ {kvs : List (NestedKey × Addr × V)} {xs : List (NestedKey × Addr × Value)}, Paired NRel kvs xs → kvs.map (·.1) = xs.map (·.1)
  | _, _, .nil => rfl
  | _, _, .cons r t => by rw [List.map_cons, List.map_cons, r.1, nrel_keys t]
theorem ND.nodup {P : Program} {w : World} {H : Hp} {d : Addr} {kvs : List (NestedKey × Addr × V)} (x : ND P w H d kvs) : (kvs.map (·.1)).Nodup := by
  obtain ⟨o, es, ep, xs, _, _, _, _, _, nd, pr⟩ := x.ex
  rw [nrel_keys pr]
  exact nd
theorem nks_at {H : Hp} : ∀ {l : List (Str × Int)} {items : List V} {j : Nat} {y : V}, NKs H (l.map fun x => .tup [.text x.1, .num x.2]) items → items[j]? = some y → ∃ x b, l[j]? = some x ∧ y = .ref b ∧ H b = some (.tup [.str x.1, .int x.2])
  | [], _, _, _, h, e => by
    cases h
    simp at e
  | x :: r, _, 0, y, h, e => by
    cases h with
    | cons h1 h2 =>
      cases h1 with
      | tup hb hs =>
        cases hs with
        | cons g1 g2 =>
          cases g2 with
          | cons g2 g3 =>
            cases g3
            cases g1
            cases g2
            simp at e
            exact ⟨x, _, rfl, e.symm, hb⟩
  | x :: r, _, j + 1, y, h, e => by
    cases h with
    | cons h1 h2 =>
      obtain ⟨z, b, e1, e2, e3⟩ := nks_at (j := j) h2 (by simpa using e)
      exact ⟨z, b, by simpa using e1, e2, e3⟩
theorem nks_len {H : Hp} : ∀ {ks : List NestedKey} {items : List V}, NKs H ks items → items.length = ks.length
  | _, _, .nil => rfl
  | _, _, .cons _ t => congrArg (· + 1) (nks_len t)
theorem prel_get {H : Hp} : ∀ {kvs : List (NestedKey × Addr × V)} {ts : List Trm} {i : Nat} {kv : NestedKey × Addr × V}, Paired (PRel H) kvs ts → kvs[i]? = some kv → ∃ t, ts[i]? = some t ∧ PRel H kv t
  | _, _, _, _, .nil, h => by simp at h
  | _, _, 0, kv, .cons (b := t) r q, h => ⟨t, rfl, by rw [← (show _ = kv by simpa using h)]; exact r⟩
  | _, _, i + 1, kv, .cons r q, h => by
    obtain ⟨t, e, p⟩ := prel_get (i := i) q (by simpa using h)
    exact ⟨t, by simpa using e, p⟩
end My
namespace My
open PySem PySem.Spec PySem.W L2
/-! ### how great the numbers may come -/
theorem cmul_of {a b : Int} {m n : Nat} (h1 : a.natAbs < 2 ^ m) (h2 : b.natAbs < 2 ^ n) (hm : 0 < m) (hn : 0 < n) (h : m + n ≤ 1000000) : CMulW a b := by
  have q1 := log_lt h1 hm
  have q2 := log_lt h2 hn
  show a.natAbs.log2 + b.natAbs.log2 < 1000000
  omega
theorem pow_b {v : Int} {k : Nat} (hv : v.natAbs < 2 ^ 110) (hk : k ≤ 9) : (v ^ k).natAbs < 2 ^ 1000 := by
  rw [Int.natAbs_pow]
  have h1 : v.natAbs ^ k ≤ (2 ^ 110) ^ k := Nat.pow_le_pow_left (Nat.le_of_lt hv) k
  have h2 : (2 ^ 110) ^ k ≤ (2 ^ 110 : Nat) ^ 9 := Nat.pow_le_pow_right (by decide) hk
  have h3 : ((2 : Nat) ^ 110) ^ 9 < 2 ^ 1000 := by
    rw [← Nat.pow_mul]
    exact Nat.pow_lt_pow_right (by decide) (by decide)
  omega
theorem mul_b {a b : Int} {m n : Nat} (h1 : a.natAbs < 2 ^ m) (h2 : b.natAbs < 2 ^ n) : (a * b).natAbs < 2 ^ (m + n) := by
  rw [Int.natAbs_mul, Nat.pow_add]
  exact Nat.mul_lt_mul'' h1 h2
theorem val_b {sz bl : Int} (h1 : sz.natAbs < 2 ^ 110) (h2 : bl.natAbs < 2 ^ 110) (nm : Str) : (valOf sz bl nm).natAbs < 2 ^ 110 := by
  unfold valOf
  split
  · exact h2
  · exact h1
theorem foldI_b {sz bl : Int} (h1 : sz.natAbs < 2 ^ 110) (h2 : bl.natAbs < 2 ^ 110) : ∀ (l : List (Str × Int)) (o : Int) (m : Nat), o.natAbs < 2 ^ m → (∀ x ∈ l, x.2 ≤ 9) → (l.foldl (stepI sz bl) o).natAbs < 2 ^ (m + 1000 * l.length)
  | [], o, m, h, _ => h
  | x :: r, o, m, h, hx => by
    have e := foldI_b h1 h2 r (stepI sz bl o x) (m + 1000) (mul_b h (pow_b (val_b h1 h2 _) (by have := hx x (List.mem_cons_self ..); omega))) fun y hy => hx y (List.mem_cons_of_mem _ hy)
    rw [List.foldl_cons, List.length_cons, show m + 1000 * (r.length + 1) = m + 1000 + 1000 * r.length by omega]
    exact e
theorem numI_b {sz bl : Int} {t : Trm} (h1 : sz.natAbs < 2 ^ 110) (h2 : bl.natAbs < 2 ^ 110) (ho : t.2.1.natAbs < 2 ^ 200) (hp : t.1.1 ≤ 9) (hf : t.1.2 ≤ 9) : (numI sz bl t).natAbs < 2 ^ 2200 :=
  mul_b (m := 1200) (n := 1000) (mul_b (m := 200) (n := 1000) ho (pow_b h1 (by omega))) (pow_b h2 (by omega))
theorem keyP_le {k : Int × Int} (h1 : k.1 ≤ 9) (h2 : k.2 ≤ 9) : ∀ x ∈ keyP k, 0 < x.2 ∧ x.2 ≤ 9 ∧ (x.1 = "#" ∨ x.1 = "n") := by
  unfold keyP
  intro x hx
  rcases List.mem_append.mp hx with h | h
  · split at h
    · rw [List.mem_singleton.mp h]
      exact ⟨by assumption, h2, .inl rfl⟩
    · cases h
  · split at h
    · rw [List.mem_singleton.mp h]
      exact ⟨by assumption, h1, .inr rfl⟩
    · cases h
theorem keyP_len (k : Int × Int) : (keyP k).length ≤ 2 := by
  unfold keyP
  split <;> split <;> simp
structure TSz (t : Trm) : Prop where
  p0 : 0 ≤ t.1.1
  p1 : t.1.1 ≤ 9
  f0 : 0 ≤ t.1.2
  f1 : t.1.2 ≤ 9
  o1 : t.2.1.natAbs < 2 ^ 200
  u0 : 0 < t.2.2
  u1 : t.2.2 ≤ 2
  low : Int.gcd t.2.1 t.2.2 = 1
theorem raw_b {sz bl : Int} {ts : List Trm} (h1 : sz.natAbs < 2 ^ 110) (h2 : bl.natAbs < 2 ^ 110) (ht : ∀ t ∈ ts, TSz t) : ∀ i : Nat, i ≤ 10 → 0 < (rawL sz bl (ts.take i)).2 ∧ (rawL sz bl (ts.take i)).2.natAbs < 2 ^ (2 * i + 1) ∧ (rawL sz bl (ts.take i)).1.natAbs < 2 ^ (2300 + 10 * i)
  | 0, _ => ⟨by show (0 : Int) < 1; decide, by show (1 : Int).natAbs < 2 ^ 1; decide, by show (0 : Int).natAbs < 2 ^ (2300 + 10 * 0); exact Nat.two_pow_pos _⟩
  | i + 1, hi => by
    obtain ⟨q1, q2, q3⟩ := raw_b h1 h2 ht i (by omega)
    cases hts : ts[i]? with
    | none =>
      have e : ts.take (i + 1) = ts.take i := by rw [List.take_add_one, hts]; simp
      rw [e]
      exact ⟨q1, Nat.lt_of_lt_of_le q2 (Nat.pow_le_pow_right (by decide) (by omega)), Nat.lt_of_lt_of_le q3 (Nat.pow_le_pow_right (by decide) (by omega))⟩
    | some t =>
      have tz := ht t (List.mem_of_getElem? hts)
      have e : rawL sz bl (ts.take (i + 1)) = rawStep sz bl (rawL sz bl (ts.take i)) t := by
        unfold rawL
        rw [take_snoc hts, List.foldl_append]
        rfl
      rw [e]
      have u2 : t.2.2.natAbs < 2 ^ 2 := by have := tz.u0; have := tz.u1; omega
      refine ⟨Int.mul_pos q1 tz.u0, ?_, ?_⟩
      · have := mul_b q2 u2
        exact Nat.lt_of_lt_of_le this (Nat.pow_le_pow_right (by decide) (by omega))
      · have a1 := mul_b q3 u2
        have a2 := mul_b (numI_b h1 h2 tz.o1 tz.p1 tz.f1) q2
        have b1 : ((rawL sz bl (ts.take i)).1 * t.2.2).natAbs < 2 ^ (2300 + 10 * i + 2) := a1
        have b2 : (numI sz bl t * (rawL sz bl (ts.take i)).2).natAbs < 2 ^ (2300 + 10 * i + 2) := Nat.lt_of_lt_of_le a2 (Nat.pow_le_pow_right (by decide) (by omega))
        have s := Int.natAbs_add_le ((rawL sz bl (ts.take i)).1 * t.2.2) (numI sz bl t * (rawL sz bl (ts.take i)).2)
        have e3 : 2 ^ (2300 + 10 * i + 2) + 2 ^ (2300 + 10 * i + 2) ≤ 2 ^ (2300 + 10 * (i + 1)) := by
          rw [← Nat.two_mul, ← Nat.pow_succ']
          exact Nat.pow_le_pow_right (by decide) (by omega)
        show (_ + _ : Int).natAbs < _
        omega
end My
namespace My
open PySem PySem.Spec PySem.W L2
def termsAt (S : List Rw) (sz : Int) : List Trm := S.foldl (fun acc r => if r.1 ≤ sz then r.2 else acc) []
theorem termsAt_snoc {S : List Rw} {i : Nat} {r : Rw} {sz : Int} (h : S[i]? = some r) : termsAt (S.take (i + 1)) sz = if r.1 ≤ sz then r.2 else termsAt (S.take i) sz := by
  unfold termsAt
  rw [take_snoc h, List.foldl_append]
  rfl
theorem termsAt_mem {sz : Int} : ∀ (S : List Rw) (acc : List Trm), (S.foldl (fun acc r => if r.1 ≤ sz then r.2 else acc) acc) = acc ∨ ∃ r ∈ S, (S.foldl (fun acc r => if r.1 ≤ sz then r.2 else acc) acc) = r.2
  | [], acc => .inl rfl
  | r :: S, acc => by
    rw [List.foldl_cons]
    rcases termsAt_mem (sz := sz) S (if r.1 ≤ sz then r.2 else acc) with e | ⟨q, hq, e⟩
    · rw [e]
      split
      · exact .inr ⟨r, List.mem_cons_self .., rfl⟩
      · exact .inl rfl
    · exact .inr ⟨q, List.mem_cons_of_mem _ hq, e⟩
theorem termsAt_ok {S : List Rw} {sz : Int} {F : List Trm → Prop} (h0 : F []) (h : ∀ r ∈ S, F r.2) : F (termsAt S sz) := by
  rcases termsAt_mem (sz := sz) S [] with e | ⟨r, hr, e⟩
  · show F (S.foldl _ [])
    rw [e]
    exact h0
  · show F (S.foldl _ [])
    rw [e]
    exact h r hr
theorem bits_le (x : Int) : Builtin.Int.intBits x ≤ x.natAbs.log2 + 1 := by
  unfold Builtin.Int.intBits
  split <;> omega
theorem bits_b {x : Int} (h : x.natAbs < 2 ^ 110) : ((Builtin.Int.intBits x : Nat) : Int).natAbs < 2 ^ 110 := by
  have h1 := bits_le x
  have h2 := log_lt h (by decide)
  show Builtin.Int.intBits x < 2 ^ 110
  exact Nat.lt_of_le_of_lt (m := 200) (by omega) (by decide)
theorem rows_get {P : Program} {w : World} {H : Hp} : ∀ {us : List V} {S : List Rw} {i : Nat} {x : V}, RowsAt P w H us S → us[i]? = some x → ∃ r, S[i]? = some r ∧ RowAt P w H x r
  | _, _, _, _, .nil, h => by simp at h
  | _, _, 0, x, .cons (b := r) q t, h => ⟨r, rfl, by rw [← (show _ = x by simpa using h)]; exact q⟩
  | _, _, i + 1, x, .cons q t, h => by
    obtain ⟨r, e, p⟩ := rows_get (i := i) t (by simpa using h)
    exact ⟨r, by simpa using e, p⟩
def SumSz (S : List Rw) : Prop := ∀ r ∈ S, (∀ t ∈ r.2, TSz t) ∧ r.2.length ≤ 10
theorem sumSz_of {top deep wide : Int} {S : List Rw} (h1 : top ≤ 9) (h2 : deep ≤ 9) (h3 : wide < 2 ^ 200) (h : SumsOk top deep wide S) : SumSz S := fun r hr => by
  obtain ⟨tok, _, _⟩ := h.each r hr
  refine ⟨fun t ht => ?_, by have := tok.len; omega⟩
  have q := tok.each t ht
  have q1 := q.p1
  have q2 := q.f1
  have q3 := q.o1
  exact ⟨q.p0, by omega, q.f0, by omega, by omega, q.u0, q.u1, q.low⟩
def spWorth (P : Program) (w : World) (K : PySem.W.Frag) : Sp := fun vs H Q _ => ∃ (x : V) (S : List Rw) (sz top deep wide : Int), vs = [x, .int sz] ∧ Dp K H x (sumsD S) ∧ SumsOk top deep wide S ∧ top ≤ 9 ∧ deep ≤ 9 ∧ wide < 2 ^ 200 ∧ sz.natAbs < 2 ^ 110 ∧
  ∀ (v : V) (H' : Hp), Same H H' → Dp K H' v (partD (worthL sz (Builtin.Int.intBits sz : Nat) (termsAt S sz))) → Q v H'
end My
namespace My
open PySem PySem.Spec PyProof.Rows L2
/-! ### a promise where no repr is under way -/
structure FnG (P : Program) (w : World) (K : PySem.W.Frag) (mg : Str → Option Value) (base : Heap) (CX : CXT) (k : Nat) (f : Addr) (fd : FuncData) (ps : List Str) (sp : Sp) : Prop where
  many : ∀ vs H Q E, sp vs H Q E → vs.length = ps.length
  goes : ∀ (A : Around) (out : List Env) (st : Shared) (H : Hp) (ar : Args) (us : List Value) (vs : List V) (Q : VK) (E : XK), A.guards = some [] → Room k A → Env0 P w K mg base A out st H →
    BindsTo st fd ar (ps.zip us) → Vals vs us → sp vs H Q E → codeAny (model P w) A (.call (.ref f) ar) (CR CX out P w H st Q E) st
theorem fnG_of {CX : CXT} {P : Program} {w : World} {K : PySem.W.Frag} {mg : Str → Option Value} {base : Heap} {k : Nat} {f : Addr} {x qual : Str} {st : Stmt} {fd : FuncData} {N ps : List Str} {sp : Sp}
    (F : Fun K x qual st f fd) (S : FnScope N ps (defScope st)) (len : ∀ vs H Q E, sp vs H Q E → vs.length = ps.length)
    (hbody : ∀ (cdv : Value) (A : Around) (out : List Env) (s : Shared) (H : Hp) (vs : List V) (Q : VK) (E : XK), (A.deeper (envOfC qual (defScope st) s.heap.objs.size f cdv)).guards = some [] →
      Room k (A.deeper (envOfC qual (defScope st) s.heap.objs.size f cdv)) → sp vs H Q E →
      ∃ t, PSs (cxOf CX P w K mg base N qual (defScope st) f cdv A out s H E) (defBody st) t ∧ t { nx := fun _ H' => Q .non H', rt := Q } (start N vs) H) : FnG P w K mg base CX (k + 1) f fd ps sp := by
  obtain ⟨oc, od, kV, doc, pm, an, cdv, ct, osl, rfl, lk, hcd⟩ := F.ex
  constructor
  · exact len
  · intro A out s0 H ar us vs Q E gd room env bnd rel prom
    have here : K.In s0.heap := env.mod.kin.keeps fun b o e => (env.bs b o e).1
    have free : s0.heap.NoLimit := env.mod.nolimit.keeps fun b o e => (env.bs b o e).1
    have kinds : ∀ y ∈ ps.zip us, (defScope st).names.lookup y.1 = some .local ∨ ((defScope st).names.lookup y.1 = some .cell ∧ ((cellsFrom (s0.heap.objs.size + 1) (defScope st).names []).lookup y.1).isSome = true) := by
      rintro ⟨n, v⟩ hy
      cases S.par n (List.of_mem_zip hy).1 with
      | inl q => exact .inl q
      | inr q => exact .inr ⟨q, PySem.W.cellsFrom_some _ _ _ (.inl q)⟩
    apply codeAny_call_function room.depth (here _ _ lk) rfl S.co S.gen rfl (PySem.W.codeRec_of here hcd)
    apply bnd
    apply wpAny_newFunctionEnv_cells S.kind kinds
    rintro en rfl s1 ic
    refine ⟨free.keeps ic.toInCall.keep, codeAny_func ?_⟩
    obtain ⟨t, run, ends⟩ := hbody cdv A out s0 H vs Q E gd (room.deeper _) prom
    have inv := inv_start (CX := CX) (E := E) S room.hd env (len _ _ _ _ prom) rel ic
    have wp := run.run [] s1 (start N vs) H _ inv ends
    refine wpAny_mono wp (fun fl s2 at2 => ?_) (fun _ _ at2 => at2)
    cases fl with
    | next =>
      obtain ⟨σ2, H2, J, q⟩ := at2
      exact ⟨V.non, H2, J.os, J.bare, J.base, J.hok, rfl, q⟩
    | ret u =>
      obtain ⟨v, σ2, H2, J, rv, q⟩ := at2
      exact ⟨v, H2, J.os, J.bare, J.base, J.hok, rv, q⟩
    | brk => exact at2.elim fun _ z => z.elim fun _ z => z.2.elim
    | cont => exact at2.elim fun _ z => z.elim fun _ z => z.2.elim
/-- the same where nothing is raised -/
theorem fnG_ok {P : Program} {w : World} {K : PySem.W.Frag} {mg : Str → Option Value} {base : Heap} {k : Nat} {f : Addr} {x qual : Str} {st : Stmt} {fd : FuncData} {N ps : List Str} {sp : Sp}
    (F : Fun K x qual st f fd) (S : FnScope N ps (defScope st)) (len : ∀ vs H Q E, sp vs H Q E → vs.length = ps.length)
    (hbody : ∀ (cdv : Value) (A : Around) (out : List Env) (s : Shared) (H : Hp) (vs : List V) (Q : VK) (E : XK), (A.deeper (envOfC qual (defScope st) s.heap.objs.size f cdv)).guards = some [] →
      Room k (A.deeper (envOfC qual (defScope st) s.heap.objs.size f cdv)) → sp vs H Q E →
      ∃ t, PSs (cxOf CX0 P w K mg base N qual (defScope st) f cdv A out s H E).nox (defBody st) t ∧ t { nx := fun _ H' => Q .non H', rt := Q } (start N vs) H) : FnG P w K mg base CX0 (k + 1) f fd ps sp :=
  fnG_of F S len fun cdv A out s H vs Q E gd hr h => by
    obtain ⟨t, ht, q⟩ := hbody cdv A out s H vs Q E gd hr h
    exact ⟨t, ht.nox, q⟩
end My
namespace My
open PySem PySem.Spec PyProof.Rows L2
/-- the call of the law's def, H being what is tracked of the script -/
theorem goes_at {P : Program} {w : World} {K : PySem.W.Frag} {mg mb : Str → Option Value} {CX : CXT} {k : Nat} {fa a : Addr} {fd : FuncData} {x : Str} {sp : Sp} {s : Shared} {H : Hp} {o : Obj} {items : Array Value} {ep : Nat}
    (KX : K.In s.heap) (nsm : s.heap.Ns mainGlobals mg) (nsb : s.heap.Ns builtinsNs mb) (boot : ∀ y : Str, y ≠ "__name__" → mb y = bootBuiltins y) (lim : s.heap.NoLimit) (gens : s.gens = #[])
    (at_ : s.heap.get? a = some o) (od : o.data = .seq items ep) (room : Room k callerA)
    (F : ∀ base : Heap, K.In base → base.Ns mainGlobals mg → FnG P w K mg base CX k fa fd [x] sp) (bnd : ∀ (t : Shared) (u : Value), BindsTo t fd ⟨[u], []⟩ [(x, u)])
    (prom : sp [.ref a] H (fun v _ => v = .bl true) fun _ _ _ => False) (noX : ∀ e t, CX [] H s (fun _ _ _ => False) e t → False)
    (hO : Only H) (hok : HOk P w H s.heap) (one : ∀ b, H b ≠ none → b = a) (off : H a ≠ none → K.lookup a = none) :
    codeAny (model P w) callerA (.call (.ref fa) ⟨[.ref a], []⟩) (fun r t => r = .ok (.ret (.bool true)) ∧ OldK s.heap t.heap ∧ t.os = s.os ∧ AllBare t.gens) s := by
  have stays : ∀ {b : Addr} {u : Obj}, s.heap.get? b = some u → H b = none → (hidT s.heap H).get? b = some u := fun e n => hidT_get e n
  have dictFree : ∀ {b : Addr} {u : Obj} {es : Array DictEntry} {n : Nat}, s.heap.get? b = some u → u.data = .dict es n → H b = none := by
    intro b u es n e d
    refine Classical.byContradiction fun q => ?_
    rw [one b q, at_] at e
    cases e
    rw [od] at d
    cases d
  have spaces : ∀ {b : Addr} {m : Str → Option Value}, s.heap.Ns b m → (hidT s.heap H).Ns b m := by
    rintro b m ⟨u, es, n, e, d, r⟩
    exact ⟨u, es, n, stays e (dictFree e d), d, r⟩
  have KB : K.In (hidT s.heap H) := by
    intro b u e
    refine stays (KX b u e) (Classical.byContradiction fun q => ?_)
    have ba := one b q
    rw [ba] at q e
    rw [off q] at e
    cases e
  obtain ⟨mc, c1, c2⟩ := lim
  have env : Env0 P w K mg (hidT s.heap H) callerA [] s H :=
    ⟨rfl, ⟨KB, spaces nsm, ⟨mb, spaces nsb, boot⟩, mc, spaces c1, c2⟩, fun b u e => of_hidT e, Nat.le_of_eq (hidT_size _ _), trivial, fun b z => absurd (show b ∈ ([] : List Addr) from z) List.not_mem_nil, hok, .of_eq gens⟩
  have run := (F _ KB (spaces nsm)).goes callerA [] s H ⟨[.ref a], []⟩ [.ref a] [.ref a] _ _ rfl room env (bnd s (.ref a)) (.cons rfl .nil) prom
  refine codeAny_mono run fun r t fin => ?_
  match r, fin with
  | .error e, fin => exact (noX e t fin).elim
  | .ok .next, fin => exact fin.elim
  | .ok .brk, fin => exact fin.elim
  | .ok .cont, fin => exact fin.elim
  | .ok (.ret u), ⟨v, H', os, bare, un, hok', rel, q⟩ =>
    have q : v = V.bl true := q
    subst q
    have hu : u = Value.bool true := rel
    subst hu
    refine ⟨rfl, OldK.of_keep fun b z e => ?_, os, bare⟩
    cases hb : H b with
    | none => exact un.keep b z e hb (fun y => absurd (show b ∈ ([] : List Addr) from y) List.not_mem_nil) (by simp)
    | some y =>
      rcases hO b with n | ⟨ob, xs, n⟩
      · rw [n] at hb
        cases hb
      · obtain ⟨p1, _⟩ := hok b _ n
        obtain ⟨p2, _⟩ := hok' b _ (un.frzs b ob _ n)
        rw [e] at p1
        cases p1
        exact p2
/-- as walk_of, for a law's promise where no repr is under way -/
theorem walkG_of {l : PySem.W.OpenLaw} {n k : Nat} {q : Program} {loose : List Str} {XP : (Str → Option Value) → Heap → Prop} {YP : World → Heap → Prop} {d : DefRec} {K : Params → PySem.W.Frag} {CX : World → CXT} {sp : World → Sp} {x : Str}
    (hn : l.most = some n) (hn2 : n ≤ sizeLine) (hdf : d.params.defaults = []) (hr : Room k callerA)
    (hY : ∀ (w : World) (h : Heap), YP w h → (K w.params).In h)
    (F : ∀ (w : World) (mg : Str → Option Value) (fa : Addr) (h : Heap), (K w.params).In h → h.Ns mainGlobals mg → mg d.name = some (.ref fa) →
      ∃ fd : FuncData, (∀ (s : Shared) (u : Value), BindsTo s fd ⟨[u], []⟩ [(x, u)]) ∧
        ∀ base : Heap, (K w.params).In base → base.Ns mainGlobals mg → FnG l.prog w (K w.params) mg base (CX w) k fa fd [x] (sp w))
    (hsp : ∀ (w : World) (H : Hp) (a : Addr) (ns : List Int), ns.length ≤ n → Only H → SqL (K w.params) H a (ns.map V.int) → sp w [.ref a] H (fun v _ => v = .bl true) fun _ _ _ => False)
    (hCX : ∀ (w : World) (H : Hp) (s : Shared) (e : Value) (s' : Shared), CX w [] H s (fun _ _ _ => False) e s' → False) :
    PySem.W.WalkO q loose XP YP l.row.toRowW d [] (fun f vs => PySem.call f vs) := by
  apply Att.attach_call hn hdf
  intro w s₀ s mg mb fa o pm cd doc a vs ns G Y ho hd hcd hmg at_ ival many gens
  have KX := hY w _ Y
  obtain ⟨fd, bnd, hF⟩ := F w mg fa _ KX G.T.g hmg
  have rel := vals_ints ival
  have len := ival.length
  have small : ns.length ≤ sizeLine := Nat.le_trans many hn2
  have go := fun (H : Hp) => goes_at (H := H) KX G.T.g G.T.b G.T.builtins G.T.nolimit gens at_ rfl hr hF bnd
  cases hk : (K w.params).lookup a with
  | none =>
    let H : Hp := fun b => if b = a then some (.frz { cls := .type "list", data := .seq vs.toArray } (.lst (ns.map V.int))) else none
    have hH : H a = some (.frz { cls := .type "list", data := .seq vs.toArray } (.lst (ns.map V.int))) := if_pos rfl
    have off : ∀ b, b ≠ a → H b = none := fun b hb => if_neg hb
    have only : Only H := fun b => by
      by_cases hb : b = a
      · exact .inr ⟨_, _, by rw [hb]; exact hH⟩
      · exact .inl (off b hb)
    refine go H (hsp w H a ns many only (.inl (.inr ⟨_, hH⟩))) (fun e t => hCX w H s e t) only (fun b u z => ?_) (fun b z => Classical.byContradiction fun q => z (off b q)) fun _ => hk
    by_cases hb : b = a
    · rw [hb] at z ⊢
      rw [hH] at z
      cases z
      exact ⟨at_, by rw [List.length_map]; exact small, vs, _, rel, at_⟩
    · rw [off b hb] at z
      cases z
  | some u =>
    have e := KX a u hk
    rw [at_] at e
    cases e
    have only : Only fun _ => none := fun _ => .inl rfl
    refine go (fun _ => none) (hsp w _ a ns many only (.inr ⟨_, vs.toArray, _, hk, rfl, rfl, rfl, by rw [List.size_toArray, len]; exact small, by simpa using rel⟩)) (fun e t => hCX w _ s e t) only (fun b y z => nomatch z) (fun b z => absurd rfl z) fun z => absurd rfl z
end My
namespace My
open PySem PySem.Spec PyProof.Rows L2
/-! ### repr of data -/
def rRepr (K : PySem.W.Frag) : List V → Hp → VK → Prop := fun xs H Q => ∃ (a : Addr) (d : PyData), xs = [.ref a] ∧ Dp K H (.ref a) d ∧ d.showable = true ∧ d.hasDict = false ∧ d.depth ≤ 100 ∧ d.shown.length ≤ sizeLine ∧ Q (.str d.shown) H
theorem call_reprD {X : Cx} (hg : X.A.guards = some []) (hu : X.A.units + 120 < cLine) : CallR X (.builtin "repr") (rRepr X.K) := by
  rintro pins s σ H xs us Q I r ⟨a, d, rfl, hd, h1, h2, h3, h4, q⟩
  cases r with
  | cons r t =>
    cases t
    obtain ⟨as, rd⟩ := Dp.reads I d _ _ hd r
    cases r
    refine repr_of_reads' rd h1 (fun z => by rw [h2] at z; cases z) hg (by omega) (fun _ _ e => e) (fun h' u tk hk => ?_) h4
    exact ⟨.str d.shown, H, I.kept hk, ⟨_, rfl⟩, q⟩
theorem repr_room {A : Around} {k : Nat} (hr : Room k A) : A.units + 120 < cLine := by
  have := hr.un
  omega
end My
namespace My
open PySem PySem.Spec L2
/-! ### data whose repr is short -/
mutual
def tame : PyData → Bool
  | .none | .bool _ => true
  | .int i => decide (i.natAbs.log2 < 400)
  | .str x => x.cps.toList.all fun c => decide (c < 16 ^ 8)
  | .list xs | .tuple xs => tameAll xs
  | .dict _ => false
def tameAll : List PyData → Bool
  | [] => true
  | x :: xs => tame x && tameAll xs
end
mutual
theorem tame_all : ∀ d : PyData, tame d = true → d.showable = true ∧ d.hasDict = false ∧ d.leavesShort 401 = true
  | .none, _ => ⟨rfl, rfl, rfl⟩
  | .bool _, _ => ⟨rfl, rfl, rfl⟩
  | .int i, h => by
    have h : i.natAbs.log2 < 400 := by simpa only [tame, decide_eq_true_eq] using h
    refine ⟨by simp only [PyData.showable, decide_eq_true_eq]; omega, rfl, ?_⟩
    have e := int_text_length_le (k := 400) (by decide) h
    simp only [PyData.leavesShort, decide_eq_true_eq]
    show (Str.ofString (toString i)).length ≤ 401
    rw [ofString_length]
    exact e
  | .str x, h => ⟨rfl, rfl, by simpa only [tame, PyData.leavesShort] using h⟩
  | .list xs, h => by
    obtain ⟨a, b, c⟩ := tame_alls xs (by simpa only [tame] using h)
    exact ⟨by simpa only [PyData.showable] using a, by simpa only [PyData.hasDict] using b, by simpa only [PyData.leavesShort] using c⟩
  | .tuple xs, h => by
    obtain ⟨a, b, c⟩ := tame_alls xs (by simpa only [tame] using h)
    exact ⟨by simpa only [PyData.showable] using a, by simpa only [PyData.hasDict] using b, by simpa only [PyData.leavesShort] using c⟩
  | .dict _, h => by simp only [tame] at h; cases h
theorem tame_alls : ∀ xs : List PyData, tameAll xs = true → PyData.showableAll xs = true ∧ PyData.hasDictAll xs = false ∧ PyData.leavesShortAll 401 xs = true
  | [], _ => ⟨rfl, rfl, rfl⟩
  | x :: xs, h => by
    have h : tame x = true ∧ tameAll xs = true := by simpa only [tameAll, Bool.and_eq_true] using h
    obtain ⟨a, b, c⟩ := tame_all x h.1
    obtain ⟨a', b', c'⟩ := tame_alls xs h.2
    simp only [PyData.showableAll, PyData.hasDictAll, PyData.leavesShortAll, Bool.and_eq_true, Bool.or_eq_false_iff]
    exact ⟨⟨a, a'⟩, ⟨b, b'⟩, c, c'⟩
end
/-- what rRepr wants -/
structure Shows (d : PyData) : Prop where
  showable : d.showable = true
  hasDict : d.hasDict = false
  depth : d.depth ≤ 100
  len : d.shown.length ≤ sizeLine
theorem shows_of {d : PyData} (h : tame d = true) (hd : d.depth ≤ 100) (hw : d.weight ≤ 40000) : Shows d := by
  obtain ⟨a, b, c⟩ := tame_all d h
  refine ⟨a, b, hd, ?_⟩
  have e := PyData.shown_le 401 (by decide) d c
  have e2 : (401 + 2) * d.weight ≤ 403 * 40000 := Nat.mul_le_mul_left _ hw
  show _ ≤ 16777216
  omega
theorem tameAll_of {xs : List PyData} (h : ∀ x ∈ xs, tame x = true) : tameAll xs = true := by
  induction xs with
  | nil => rfl
  | cons x r ih =>
    simp only [tameAll, Bool.and_eq_true]
    exact ⟨h x (List.mem_cons_self ..), ih fun y hy => h y (List.mem_cons_of_mem _ hy)⟩
theorem depthAll_of {xs : List PyData} {n : Nat} (h : ∀ x ∈ xs, x.depth ≤ n) : PyData.depthAll xs ≤ n := by
  induction xs with
  | nil => exact Nat.zero_le _
  | cons x r ih =>
    simp only [PyData.depthAll]
    have := h x (List.mem_cons_self ..)
    have := ih fun y hy => h y (List.mem_cons_of_mem _ hy)
    omega
theorem weightAll_of {xs : List PyData} {n : Nat} (h : ∀ x ∈ xs, x.weight ≤ n) : PyData.weightAll xs ≤ xs.length * (n + 1) := by
  induction xs with
  | nil => exact Nat.zero_le _
  | cons x r ih =>
    simp only [PyData.weightAll, List.length_cons, Nat.add_mul, Nat.one_mul]
    have := h x (List.mem_cons_self ..)
    have := ih fun y hy => h y (List.mem_cons_of_mem _ hy)
    omega
theorem tame_int {i : Int} {k : Nat} (h : i.natAbs < 2 ^ k) (hk : 0 < k) (hk2 : k ≤ 400) : tame (.int i) = true := by
  have := log_lt h hk
  simp only [tame, decide_eq_true_eq]
  omega
theorem weight_int {i : Int} {k : Nat} (h : i.natAbs < 2 ^ k) (hk : 0 < k) : (PyData.int i).weight ≤ k := by
  have := log_lt h hk
  simp only [PyData.weight]
  split <;> omega
end My
namespace My
open PySem PySem.Spec L2
theorem term_tame {top deep wide : Int} {t : Trm} (h1 : top < 2 ^ 300) (h2 : deep < 2 ^ 300) (h3 : wide < 2 ^ 300) (q : TrmOk top deep wide t) : tame (termD t) = true ∧ (termD t).depth ≤ 2 ∧ (termD t).weight ≤ 1300 := by
  have q0 := q.p0
  have q1 := q.p1
  have q2 := q.f0
  have q3 := q.f1
  have q4 := q.o1
  have q5 := q.u0
  have q6 := q.u1
  have e1 : tame (.int t.1.1) = true := tame_int (k := 300) (by omega) (by decide) (by decide)
  have e2 : tame (.int t.1.2) = true := tame_int (k := 300) (by omega) (by decide) (by decide)
  have e3 : tame (.int t.2.1) = true := tame_int (k := 300) (by omega) (by decide) (by decide)
  have e4 : tame (.int t.2.2) = true := tame_int (k := 300) (by omega) (by decide) (by decide)
  refine ⟨?_, ?_, ?_⟩
  · simp only [termD, partD, tame, tameAll, Bool.and_true, Bool.and_eq_true] at e1 e2 e3 e4 ⊢
    exact ⟨⟨e1, e2⟩, e3, e4⟩
  · simp [termD, partD, PyData.depth, PyData.depthAll]
  · have w1 := weight_int (i := t.1.1) (k := 300) (by omega) (by decide)
    have w2 := weight_int (i := t.1.2) (k := 300) (by omega) (by decide)
    have w3 := weight_int (i := t.2.1) (k := 300) (by omega) (by decide)
    have w4 := weight_int (i := t.2.2) (k := 300) (by omega) (by decide)
    simp only [termD, partD, PyData.weight, PyData.weightAll] at w1 w2 w3 w4 ⊢
    omega
theorem sums_shows {top deep wide : Int} {S : List Rw} (h1 : top < 2 ^ 300) (h2 : deep < 2 ^ 300) (h3 : wide < 2 ^ 300) (h : SumsOk top deep wide S) : Shows (sumsD S) := by
  have row : ∀ d ∈ S.map rowD, tame d = true ∧ d.depth ≤ 4 ∧ d.weight ≤ 4500 := by
    intro d hd
    obtain ⟨r, hr, rfl⟩ := List.mem_map.mp hd
    obtain ⟨ok, r0, r1⟩ := h.each r hr
    have tm : ∀ x ∈ r.2.map termD, tame x = true ∧ x.depth ≤ 2 ∧ x.weight ≤ 1300 := by
      intro x hx
      obtain ⟨t, ht, rfl⟩ := List.mem_map.mp hx
      exact term_tame h1 h2 h3 (ok.each t ht)
    have a1 := tameAll_of fun x hx => (tm x hx).1
    have a2 := depthAll_of fun x hx => (tm x hx).2.1
    have a3 := weightAll_of fun x hx => (tm x hx).2.2
    rw [List.length_map] at a3
    have ln := ok.len
    have e : tame (.int r.1) = true := tame_int (k := 100) (by omega) (by decide) (by decide)
    refine ⟨?_, ?_, ?_⟩
    · simp only [rowD, tame, tameAll, Bool.and_true, Bool.and_eq_true] at e ⊢
      exact ⟨e, a1⟩
    · simp only [rowD, PyData.depth, PyData.depthAll]
      omega
    · have w1 := weight_int (i := r.1) (k := 100) (by omega) (by decide)
      simp only [rowD, PyData.weight, PyData.weightAll] at w1 ⊢
      have : r.2.length * (1300 + 1) ≤ 3 * 1301 := Nat.mul_le_mul_right _ ln
      omega
  have a1 := tameAll_of fun x hx => (row x hx).1
  have a2 := depthAll_of fun x hx => (row x hx).2.1
  have a3 := weightAll_of fun x hx => (row x hx).2.2
  rw [List.length_map] at a3
  have : S.length * (4500 + 1) ≤ 4 * 4501 := Nat.mul_le_mul_right _ h.len
  refine shows_of (by simpa only [sumsD, tame] using a1) ?_ ?_
  · simp only [sumsD, PyData.depth]
    omega
  · simp only [sumsD, PyData.weight]
    omega
end My
namespace My
open PySem L2
def topS (i : Nat) : Stmt := PySem.Challenge.pw_outgrow_k12_worths_of_sums.main.body.getD i (.Pass ⟨0, 0, 0, 0⟩)
abbrev s_law_begin : Stmt := topS 18
abbrev N_law_begin : List Str := ["_law_script"]
theorem sc_law_begin : FnScope N_law_begin ["_law_script"] (defScope s_law_begin) := ⟨rfl, rfl, rfl, by decide +kernel, rfl, by decide +kernel, by decide +kernel⟩
abbrev s_law_take : Stmt := topS 19
abbrev N_law_take : List Str := ["_law_draw", "_law_sides", "_law_cell", "_law_got"]
theorem sc_law_take : FnScope N_law_take ["_law_draw", "_law_sides"] (defScope s_law_take) := ⟨rfl, rfl, rfl, by decide +kernel, rfl, by decide +kernel, by decide +kernel⟩
abbrev s_law_gcd : Stmt := topS 20
abbrev N_law_gcd : List Str := ["_law_a", "_law_b"]
theorem sc_law_gcd : FnScope N_law_gcd ["_law_a", "_law_b"] (defScope s_law_gcd) := ⟨rfl, rfl, rfl, by decide +kernel, rfl, by decide +kernel, by decide +kernel⟩
abbrev s_law_lowest : Stmt := topS 21
abbrev N_law_lowest : List Str := ["_law_over", "_law_under", "_law_by"]
theorem sc_law_lowest : FnScope N_law_lowest ["_law_over", "_law_under"] (defScope s_law_lowest) := ⟨rfl, rfl, rfl, by decide +kernel, rfl, by decide +kernel, by decide +kernel⟩
abbrev s_law_terms : Stmt := topS 22
abbrev N_law_terms : List Str := ["_law_draw", "_law_top", "_law_deep", "_law_wide", "_law_found", "_law_k", "_law_over", "_law_key"]
theorem sc_law_terms : FnScope N_law_terms ["_law_draw", "_law_top", "_law_deep", "_law_wide"] (defScope s_law_terms) := ⟨rfl, rfl, rfl, by decide +kernel, rfl, by decide +kernel, by decide +kernel⟩
abbrev s_law_drawn_sums : Stmt := topS 23
abbrev N_law_drawn_sums : List Str := ["_law_draw", "_law_top", "_law_deep", "_law_wide", "_law_found", "_law_k"]
theorem sc_law_drawn_sums : FnScope N_law_drawn_sums ["_law_draw", "_law_top", "_law_deep", "_law_wide"] (defScope s_law_drawn_sums) := ⟨rfl, rfl, rfl, by decide +kernel, rfl, by decide +kernel, by decide +kernel⟩
abbrev s_law_raised : Stmt := topS 24
abbrev N_law_raised : List Str := ["_law_part", "_law_upto", "_law_found", "_law_k"]
theorem sc_law_raised : FnScope N_law_raised ["_law_part", "_law_upto"] (defScope s_law_raised) := ⟨rfl, rfl, rfl, by decide +kernel, rfl, by decide +kernel, by decide +kernel⟩
abbrev s_law_sums_at : Stmt := topS 25
abbrev N_law_sums_at : List Str := ["_law_sums", "_law_size", "_law_terms_here", "_law_since", "_law_some", "_law_over", "_law_under", "_law_power", "_law_figures", "_law_part", "_law_more"]
theorem sc_law_sums_at : FnScope N_law_sums_at ["_law_sums", "_law_size"] (defScope s_law_sums_at) := ⟨rfl, rfl, rfl, by decide +kernel, rfl, by decide +kernel, by decide +kernel⟩
abbrev s_law_same : Stmt := topS 26
abbrev N_law_same : List Str := ["_law_found", "_law_due", "_law_one", "_law_other"]
theorem sc_law_same : FnScope N_law_same ["_law_found", "_law_due"] (defScope s_law_same) := ⟨rfl, rfl, rfl, by decide +kernel, rfl, by decide +kernel, by decide +kernel⟩
abbrev s_common_part : Stmt := topS 6
abbrev N_common_part : List Str := ["one", "other"]
theorem sc_common_part : FnScope N_common_part ["one", "other"] (defScope s_common_part) := ⟨rfl, rfl, rfl, by decide +kernel, rfl, by decide +kernel, by decide +kernel⟩
abbrev s_lowest : Stmt := topS 7
abbrev N_lowest : List Str := ["over", "under", "by"]
theorem sc_lowest : FnScope N_lowest ["over", "under"] (defScope s_lowest) := ⟨rfl, rfl, rfl, by decide +kernel, rfl, by decide +kernel, by decide +kernel⟩
abbrev s_sum_of_two : Stmt := topS 8
abbrev N_sum_of_two : List Str := ["one", "other"]
theorem sc_sum_of_two : FnScope N_sum_of_two ["one", "other"] (defScope s_sum_of_two) := ⟨rfl, rfl, rfl, by decide +kernel, rfl, by decide +kernel, by decide +kernel⟩
abbrev s_product : Stmt := topS 9
abbrev N_product : List Str := ["one", "other"]
theorem sc_product : FnScope N_product ["one", "other"] (defScope s_product) := ⟨rfl, rfl, rfl, by decide +kernel, rfl, by decide +kernel, by decide +kernel⟩
abbrev s_raised : Stmt := topS 3
abbrev N_raised : List Str := ["base", "power", "found", "turn"]
theorem sc_raised : FnScope N_raised ["base", "power"] (defScope s_raised) := ⟨rfl, rfl, rfl, by decide +kernel, rfl, by decide +kernel, by decide +kernel⟩
abbrev s_worth_of : Stmt := topS 11
abbrev N_worth_of : List Str := ["poly", "values", "found", "powers", "part", "name", "power"]
theorem sc_worth_of : FnScope N_worth_of ["poly", "values"] (defScope s_worth_of) := ⟨rfl, rfl, rfl, by decide +kernel, rfl, by decide +kernel, by decide +kernel⟩
abbrev s_rows_worth : Stmt := topS 13
abbrev N_rows_worth : List Str := ["rows", "size", "poly", "since", "more"]
theorem sc_rows_worth : FnScope N_rows_worth ["rows", "size"] (defScope s_rows_worth) := ⟨rfl, rfl, rfl, by decide +kernel, rfl, by decide +kernel, by decide +kernel⟩
abbrev s_read_rows : Stmt := topS 14
abbrev N_read_rows : List Str := ["told", "found", "since", "terms", "poly", "power", "figures", "part", "key"]
theorem sc_read_rows : FnScope N_read_rows ["told"] (defScope s_read_rows) := ⟨rfl, rfl, rfl, by decide +kernel, rfl, by decide +kernel, by decide +kernel⟩
abbrev s_worth : Stmt := topS 16
abbrev N_worth : List Str := ["sums", "size"]
theorem sc_worth : FnScope N_worth ["sums", "size"] (defScope s_worth) := ⟨rfl, rfl, rfl, by decide +kernel, rfl, by decide +kernel, by decide +kernel⟩
abbrev s_law : Stmt := topS 27
abbrev N_law : List Str := ["_law_script", "_law_draw", "_law_turn", "_law_sums", "_law_text", "_law_sizes", "_law_size", "_law_due", "_law_row"]
theorem sc_law : FnScope N_law ["_law_script"] (defScope s_law) := ⟨rfl, rfl, rfl, by decide +kernel, rfl, by decide +kernel, by decide +kernel⟩
structure Txt (K : PySem.W.Frag) (mg : Str → Option Value) : Type where
  a_law_begin : Addr
  d_law_begin : FuncData
  F_law_begin : Fun K "_law_begin" "_law_begin" s_law_begin a_law_begin d_law_begin
  b_law_begin : Binds K d_law_begin ["_law_script"] []
  g_law_begin : mg "_law_begin" = some (.ref a_law_begin)
  a_law_take : Addr
  d_law_take : FuncData
  F_law_take : Fun K "_law_take" "_law_take" s_law_take a_law_take d_law_take
  b_law_take : Binds K d_law_take ["_law_draw", "_law_sides"] []
  g_law_take : mg "_law_take" = some (.ref a_law_take)
  a_law_gcd : Addr
  d_law_gcd : FuncData
  F_law_gcd : Fun K "_law_gcd" "_law_gcd" s_law_gcd a_law_gcd d_law_gcd
  b_law_gcd : Binds K d_law_gcd ["_law_a", "_law_b"] []
  g_law_gcd : mg "_law_gcd" = some (.ref a_law_gcd)
  a_law_lowest : Addr
  d_law_lowest : FuncData
  F_law_lowest : Fun K "_law_lowest" "_law_lowest" s_law_lowest a_law_lowest d_law_lowest
  b_law_lowest : Binds K d_law_lowest ["_law_over", "_law_under"] []
  g_law_lowest : mg "_law_lowest" = some (.ref a_law_lowest)
  a_law_terms : Addr
  d_law_terms : FuncData
  F_law_terms : Fun K "_law_terms" "_law_terms" s_law_terms a_law_terms d_law_terms
  b_law_terms : Binds K d_law_terms ["_law_draw", "_law_top", "_law_deep", "_law_wide"] []
  g_law_terms : mg "_law_terms" = some (.ref a_law_terms)
  a_law_drawn_sums : Addr
  d_law_drawn_sums : FuncData
  F_law_drawn_sums : Fun K "_law_drawn_sums" "_law_drawn_sums" s_law_drawn_sums a_law_drawn_sums d_law_drawn_sums
  b_law_drawn_sums : Binds K d_law_drawn_sums ["_law_draw", "_law_top", "_law_deep", "_law_wide"] []
  g_law_drawn_sums : mg "_law_drawn_sums" = some (.ref a_law_drawn_sums)
  a_law_raised : Addr
  d_law_raised : FuncData
  F_law_raised : Fun K "_law_raised" "_law_raised" s_law_raised a_law_raised d_law_raised
  b_law_raised : Binds K d_law_raised ["_law_part", "_law_upto"] []
  g_law_raised : mg "_law_raised" = some (.ref a_law_raised)
  a_law_sums_at : Addr
  d_law_sums_at : FuncData
  F_law_sums_at : Fun K "_law_sums_at" "_law_sums_at" s_law_sums_at a_law_sums_at d_law_sums_at
  b_law_sums_at : Binds K d_law_sums_at ["_law_sums", "_law_size"] []
  g_law_sums_at : mg "_law_sums_at" = some (.ref a_law_sums_at)
  a_law_same : Addr
  d_law_same : FuncData
  F_law_same : Fun K "_law_same" "_law_same" s_law_same a_law_same d_law_same
  b_law_same : Binds K d_law_same ["_law_found", "_law_due"] []
  g_law_same : mg "_law_same" = some (.ref a_law_same)
  a_common_part : Addr
  d_common_part : FuncData
  F_common_part : Fun K "common_part" "common_part" s_common_part a_common_part d_common_part
  b_common_part : Binds K d_common_part ["one", "other"] []
  g_common_part : mg "common_part" = some (.ref a_common_part)
  a_lowest : Addr
  d_lowest : FuncData
  F_lowest : Fun K "lowest" "lowest" s_lowest a_lowest d_lowest
  b_lowest : Binds K d_lowest ["over", "under"] []
  g_lowest : mg "lowest" = some (.ref a_lowest)
  a_sum_of_two : Addr
  d_sum_of_two : FuncData
  F_sum_of_two : Fun K "sum_of_two" "sum_of_two" s_sum_of_two a_sum_of_two d_sum_of_two
  b_sum_of_two : Binds K d_sum_of_two ["one", "other"] []
  g_sum_of_two : mg "sum_of_two" = some (.ref a_sum_of_two)
  a_product : Addr
  d_product : FuncData
  F_product : Fun K "product" "product" s_product a_product d_product
  b_product : Binds K d_product ["one", "other"] []
  g_product : mg "product" = some (.ref a_product)
  a_raised : Addr
  d_raised : FuncData
  F_raised : Fun K "raised" "raised" s_raised a_raised d_raised
  b_raised : Binds K d_raised ["base", "power"] []
  g_raised : mg "raised" = some (.ref a_raised)
  a_worth_of : Addr
  d_worth_of : FuncData
  F_worth_of : Fun K "worth_of" "worth_of" s_worth_of a_worth_of d_worth_of
  b_worth_of : Binds K d_worth_of ["poly", "values"] []
  g_worth_of : mg "worth_of" = some (.ref a_worth_of)
  a_rows_worth : Addr
  d_rows_worth : FuncData
  F_rows_worth : Fun K "rows_worth" "rows_worth" s_rows_worth a_rows_worth d_rows_worth
  b_rows_worth : Binds K d_rows_worth ["rows", "size"] []
  g_rows_worth : mg "rows_worth" = some (.ref a_rows_worth)
  a_read_rows : Addr
  d_read_rows : FuncData
  F_read_rows : Fun K "read_rows" "read_rows" s_read_rows a_read_rows d_read_rows
  b_read_rows : Binds K d_read_rows ["told"] []
  g_read_rows : mg "read_rows" = some (.ref a_read_rows)
  a_worth : Addr
  d_worth : FuncData
  F_worth : Fun K "worth" "worth" s_worth a_worth d_worth
  b_worth : Binds K d_worth ["sums", "size"] []
  g_worth : mg "worth" = some (.ref a_worth)
  a_law : Addr
  d_law : FuncData
  F_law : Fun K "law" "law" s_law a_law d_law
  b_law : Binds K d_law ["_law_script"] []
  g_law : mg "law" = some (.ref a_law)
  z_abs : mg "abs" = none
  z_all : mg "all" = none
  z_bool : mg "bool" = none
  z_int : mg "int" = none
  z_isinstance : mg "isinstance" = none
  z_len : mg "len" = none
  z_list : mg "list" = none
  z_range : mg "range" = none
  z_repr : mg "repr" = none
  z_sorted : mg "sorted" = none
  z_str : mg "str" = none
  z_tuple : mg "tuple" = none
  z_zip : mg "zip" = none
  u_FIGURES : Value
  m_FIGURES : mg "FIGURES" = some u_FIGURES
  r_FIGURES : RelV (.str "#") u_FIGURES
  u_NOUGHT : Value
  m_NOUGHT : mg "NOUGHT" = some u_NOUGHT
  p_NOUGHT : Addr
  r_NOUGHT : RelV (.ref p_NOUGHT) u_NOUGHT
  q_NOUGHT : ∀ H : Hp, SqT K H p_NOUGHT [V.int 0, V.int 1]
  u_SIZE : Value
  m_SIZE : mg "SIZE" = some u_SIZE
  r_SIZE : RelV (.str "n") u_SIZE
section
variable {P : Program} {w : World} {K : PySem.W.Frag} {mg : Str → Option Value} {base : Heap}
/-- a fresh draw -/
def spBegin (K : PySem.W.Frag) : Sp := fun vs H Q _ => ∃ (a : Addr) (ns : List Int), vs = [.ref a] ∧ SqL K H a (ns.map V.int) ∧ ns.length ≤ 63 ∧
  ∀ d l H', H d = none → H l = none → Same H H' → DrawAt H' d l → Q (.ref d) H'
theorem ok_law_begin (T : Txt K mg) : FnOk P w K mg base CX0 1 T.a_law_begin T.d_law_begin ["_law_script"] (spBegin K) := by
  refine T.F_law_begin.ok sc_law_begin (fun vs H Q E h => ?_) (fun cdv A outer s H vs Q E hr h => ?_)
  · obtain ⟨a, ns, rfl, _⟩ := h
    rfl
  obtain ⟨a, ns, rfl, hS, hl, k⟩ := h
  refine ⟨_, (pss_one (ps_ret (pe_lst (pa_cons (pe_callTy call_list_of (by rfl) T.z_list (by decide +kernel) (pa_cons (pe_slice sl_list (pv 0) po_none (po_some pe_int)) pa_nil)) (pa_cons pe_int (pa_cons pe_int (pa_cons pe_int pa_nil))))))), ?_⟩
  refine ⟨.ref a, rfl, 63, rfl, a, _, rfl, hS, fun p hp => ?_⟩
  refine ⟨p, _, rfl, .inl (SqL.of upd_same), fun l hl2 => ?_⟩
  refine ⟨by show 4 ≤ sizeLine; decide, fun d hd => ?_⟩
  have s1 : Same H _ := (same_upd (o := .lst (cutV (ns.map V.int) none (some 63))) hp)
  have s2 := s1.trans (same_upd (o := .lst (cutV (ns.map V.int) none (some 63))) hl2)
  have s3 := s2.trans (same_upd (o := .lst [.ref l, .int 0, .int 0, .int 37]) hd)
  have nld : l ≠ d := fun e => by
    rw [← e, upd_same] at hd
    cases hd
  refine k d l _ (s2.free hd) (s1.free hl2) s3 ⟨⟨ns.take 63, 0, 0, 37, upd_same, ?_, by decide, by decide, by decide, by decide, ?_⟩⟩
  · rw [upd_ne nld, upd_same]
    have e : cutV (ns.map V.int) none (some 63) = (ns.take 63).map V.int := by
      unfold cutV
      rw [HT.sIx_none, show HT.sIx (ns.map V.int).length (ns.map V.int).length (some 63) = min 63 (ns.map V.int).length from HT.sIx_nat _ _ 63, List.drop_zero, Nat.sub_zero]
      rw [List.map_take, List.length_map, List.take_eq_take_iff]
      simp
    rw [e]
  · rw [List.length_take]
    omega
/-- a draw below n -/
def spTake : Sp := fun vs H Q _ => ∃ (d l : Addr) (n : Int), vs = [.ref d, .int n] ∧ DrawAt H d l ∧ 0 < n ∧ n < 2 ^ 200 ∧
  ∀ (r : Int) H', 0 ≤ r → r < n → DrawAt H' d l → But (Only1 d) H H' → Q (.int r) H'
theorem ok_law_take (T : Txt K mg) : FnOk P w K mg base CX0 1 T.a_law_take T.d_law_take ["_law_draw", "_law_sides"] spTake := by
  refine T.F_law_take.ok sc_law_take (fun vs H Q E h => ?_) (fun cdv A outer s H vs Q E hr h => ?_)
  · obtain ⟨d, l, n, rfl, _⟩ := h
    rfl
  obtain ⟨d, l, n, rfl, D, hn0, hn, k⟩ := h
  refine ⟨_, (C8.pss_cut (ps_if (PW.pt (pw_and (pt_cmpR op_lt (pe_ix ix_list (pv 0) pe_int (fun _ _ => rfl)) (pv 1) (nomark _)) (pw_and1 (pt_cmpR op_lt (pe_ix ix_list (pv 0) pe_int (fun _ _ => rfl)) (pe_callB call_len_seq (by rfl) T.z_len (by decide +kernel) (pa_cons (pe_ix ix_list (pv 0) pe_int (fun _ _ => rfl)) pa_nil)) (nomark _))))) (pss_cons (ps_set (i := 2) sc_law_take.nd rfl (Or.inl rfl) (pe_ix ix_list (pe_ix ix_list (pv 0) pe_int (fun _ _ => rfl)) (pe_ix ix_list (pv 0) pe_int (fun _ _ => rfl)) (fun _ _ => rfl)))
      (pss_cons (ps_asg (pe_op op_add (pe_ix ix_list (pv 0) pe_int (fun _ _ => rfl)) pe_int) (pg_sub (pv 0) pe_int set_list))
      (pss_cons (ps_asg pe_int (pg_sub (pv 0) pe_int set_list))
      (pss_one (ps_if (pt_cmpR op_ge (pe_callB call_abs (by rfl) T.z_abs (by decide +kernel) (pa_cons (pv 2) pa_nil)) (pe_op op_pow pe_int pe_int) (nomark _)) (pss_one (ps_asg (pe_callB call_abs (by rfl) T.z_abs (by decide +kernel) (pa_cons (pv 2) pa_nil)) (pg_sub (pv 0) pe_int set_list))) (pss_one (ps_asg (pe_op op_mod (pe_op op_add (pe_op op_add (pe_op op_mul (pe_ix ix_list (pv 0) pe_int (fun _ _ => rfl)) pe_int) (pe_op op_mul (pe_op op_mod (pv 2) pe_int) pe_int)) pe_int) pe_int) (pg_sub (pv 0) pe_int set_list)))))))) pss_nil)
      (pss_cons (ps_if (pt_cmpR op_ge (pe_ix ix_list (pv 0) pe_int (fun _ _ => rfl)) (pv 1) (nomark _)) (pss_cons (ps_set (i := 3) sc_law_take.nd rfl (Or.inl rfl) (pe_op op_mod (pe_ix ix_list (pv 0) pe_int (fun _ _ => rfl)) (pv 1)))
      (pss_cons (ps_asg (pe_op op_fdivW (pe_ix ix_list (pv 0) pe_int (fun _ _ => rfl)) (pv 1)) (pg_sub (pv 0) pe_int set_list))
      (pss_one (ps_ret (pv 3))))) pss_nil)
      (pss_cons (ps_asg (pe_op op_mod (pe_op op_add (pe_op op_add (pe_op op_mul (pe_op op_mod (pe_op op_mul (pe_ix ix_list (pv 0) pe_int (fun _ _ => rfl)) (pe_ix ix_list (pv 0) pe_int (fun _ _ => rfl))) pe_int) pe_int) (pe_op op_mul (pe_ix ix_list (pv 0) pe_int (fun _ _ => rfl)) pe_int)) pe_int) pe_int) (pg_sub (pv 0) pe_int set_list))
      (pss_one (ps_ret (pe_op op_mod (pe_op op_add (pe_op op_fdivW (pe_ix ix_list (pv 0) pe_int (fun _ _ => rfl)) pe_int) (pe_op op_mul (pe_op op_mod (pe_ix ix_list (pv 0) pe_int (fun _ _ => rfl)) pe_int) pe_int)) (pv 1))))))), ?_⟩
  obtain ⟨ns, p, g, s, e1, e2, p0, g0, s0, s1, hl⟩ := D.ex
  have nld : l ≠ d := fun e => by
    rw [e, e1] at e2
    cases ns with
    | nil => cases e2
    | cons x r => cases e2
  have cw : CDivW 0 n := log_small hn0 hn (by decide) (by decide)
  refine ⟨fun σ' H' => ∃ c p g s, σ' = [some (.ref d), some (.int n), c, none] ∧ H' d = some (.lst [.ref l, .int p, .int g, .int s]) ∧ H' l = some (.lst (ns.map V.int)) ∧ 0 ≤ p ∧ 0 ≤ g ∧ 0 ≤ s ∧ s < 2147483647 ∧ But (Only1 d) H H', ?_, ?_⟩
  · refine ⟨_, rfl, d, _, 2, .int g, rfl, rfl, SqL.of e1, rfl, _, rfl, g, n, rfl, rfl, _, rfl, ?_⟩
    refine ite2 (fun c1 => ?_) (fun _ => ⟨_, p, g, s, rfl, e1, e2, p0, g0, s0, s1, But.refl _ _⟩)
    refine ⟨_, rfl, d, _, 1, .int p, rfl, rfl, SqL.of e1, rfl, _, rfl, d, _, 0, .ref l, rfl, rfl, SqL.of e1, rfl, l, _, rfl, .inl (SqL.of e2), p, _, rfl, rfl, _, rfl, ?_⟩
    refine ite2 (fun c2 => ?_) (fun _ => ⟨_, p, g, s, rfl, e1, e2, p0, g0, s0, s1, But.refl _ _⟩)
    have c2' : p < (((ns.map V.int).length : Nat) : Int) := of_decide_eq_true c2
    rw [List.length_map] at c2'
    obtain ⟨j, ej⟩ : ∃ j : Nat, p = (j : Int) := ⟨p.toNat, by omega⟩
    have hj : j < ns.length := by omega
    have ha : atI (ns.map V.int) p = some (.int ns[j]) := by
      rw [ej]
      exact atI_nat (by rw [List.getElem?_map, List.getElem?_eq_getElem hj]; rfl)
    -- cell = draw[0][draw[1]]
    refine ⟨_, rfl, d, _, 0, .ref l, rfl, rfl, SqL.of e1, rfl, _, rfl, d, _, 1, .int p, rfl, rfl, SqL.of e1, rfl, l, _, p, _, rfl, rfl, SqL.of e2, ha, ?_⟩
    generalize ns[j] = x
    -- draw[1] = draw[1] + 1; draw[2] = 0
    refine ⟨_, rfl, d, _, 1, .int p, rfl, rfl, SqL.of e1, rfl, p, 1, rfl, rfl, _, rfl, d, _, 1, 1, rfl, rfl, e1, rfl, ?_⟩
    refine ⟨_, rfl, d, _, 2, 2, rfl, rfl, upd_same, rfl, ?_⟩
    have b2 : ∀ o, But (Only1 d) H (upd (upd H d (.lst [.ref l, .int (p + 1), .int g, .int s])) d o) := fun o => ((But.refl _ _).put only1).put only1
    have e2' : ∀ o o', upd (upd H d o) d o' l = some (.lst (ns.map V.int)) := fun o o' => by
      rw [upd_ne nld, upd_ne nld]
      exact e2
    -- abs(cell) >= 10 ** 18
    refine ⟨_, rfl, x, rfl, 10, 18, rfl, rfl, ⟨by decide, by decide, by decide⟩, _, _, rfl, rfl, _, rfl, ?_⟩
    refine ite2 (fun _ => ?_) (fun _ => ?_)
    · refine ⟨_, rfl, x, rfl, _, rfl, d, _, 2, 2, rfl, rfl, upd_same, rfl, ?_⟩
      refine ⟨_, p + 1, _, s, rfl, upd_same, ?_, by omega, ?_, s0, s1, ((b2 _).put only1)⟩
      · rw [upd_ne nld]
        exact e2' _ _
      · split <;> omega
    · refine ⟨_, rfl, d, _, 3, .int s, rfl, rfl, SqL.of upd_same, rfl, s, 48271, rfl, rfl, .inr ⟨by decide, by decide⟩, _, rfl, x, 2147483629, rfl, rfl, (by show (0 : Int) < 2147483629; decide), _, 69621, rfl, rfl, .inr ⟨by decide, by decide⟩, _, _, rfl, rfl, _, 12345, rfl, rfl, _, 2147483647, rfl, rfl, (by show (0 : Int) < 2147483647; decide), _, rfl, d, _, 3, 3, rfl, rfl, upd_same, rfl, ?_⟩
      refine ⟨_, p + 1, 0, _, rfl, upd_same, ?_, by omega, by omega, Int.emod_nonneg _ (by decide), Int.emod_lt_of_pos _ (by decide), ((b2 _).put only1)⟩
      rw [upd_ne nld]
      exact e2' _ _
  · rintro σ' H1 ⟨c, p, g, s, rfl, e1, e2, p0, g0, s0, s1, b⟩
    refine ⟨_, rfl, d, _, 2, .int g, rfl, rfl, SqL.of e1, rfl, _, rfl, g, n, rfl, rfl, _, rfl, ?_⟩
    refine ite2 (fun c1 => ?_) (fun _ => ?_)
    · refine ⟨_, rfl, d, _, 2, .int g, rfl, rfl, SqL.of e1, rfl, _, rfl, g, n, rfl, rfl, hn0, ?_⟩
      refine ⟨_, rfl, d, _, 2, .int g, rfl, rfl, SqL.of e1, rfl, _, rfl, g, n, rfl, rfl, cw, _, rfl, d, _, 2, 2, rfl, rfl, e1, rfl, ?_⟩
      refine ⟨_, rfl, k _ _ (Int.emod_nonneg _ (by omega)) (Int.emod_lt_of_pos _ hn0) ⟨⟨ns, p, _, s, upd_same, by rw [upd_ne nld]; exact e2, p0, Int.ediv_nonneg g0 (by omega), s0, s1, hl⟩⟩ (b.put only1)⟩
    · refine ⟨_, rfl, d, _, 3, .int s, rfl, rfl, SqL.of e1, rfl, _, rfl, d, _, 3, .int s, rfl, rfl, SqL.of e1, rfl, s, s, rfl, rfl, .inl ⟨by omega, by omega⟩, _, 2147483629, rfl, rfl, (by show (0 : Int) < 2147483629; decide), _, 5, rfl, rfl, .inr ⟨by decide, by decide⟩, _, rfl, d, _, 3, .int s, rfl, rfl, SqL.of e1, rfl, s, 16811, rfl, rfl, .inr ⟨by decide, by decide⟩, _, _, rfl, rfl, _, 2531011, rfl, rfl, _, 2147483647, rfl, rfl, (by show (0 : Int) < 2147483647; decide), _, rfl, d, _, 3, 3, rfl, rfl, e1, rfl, ?_⟩
      have z0 : ∀ x : Int, 0 ≤ x % 2147483647 := fun x => Int.emod_nonneg _ (by decide)
      have z1 : ∀ x : Int, x % 2147483647 < 2147483647 := fun x => Int.emod_lt_of_pos _ (by decide)
      refine ⟨_, rfl, d, _, 3, _, rfl, rfl, SqL.of upd_same, rfl, _, 61, rfl, rfl, log_small (k := 10) (by decide) (by decide) (by decide) (by decide), _, rfl, d, _, 3, _, rfl, rfl, SqL.of upd_same, rfl, _, 8191, rfl, rfl, (by show (0 : Int) < 8191; decide), _, 31, rfl, rfl, .inr ⟨by decide, by decide⟩, _, _, rfl, rfl, _, rfl, _, n, rfl, rfl, hn0, ?_⟩
      exact k _ _ (Int.emod_nonneg _ (by omega)) (Int.emod_lt_of_pos _ hn0) ⟨⟨ns, p, g, _, upd_same, by rw [upd_ne nld]; exact e2, p0, g0, z0 _, z1 _, hl⟩⟩ (b.put only1)
theorem ok_law_gcd (T : Txt K mg) : FnOk P w K mg base CX0 1 T.a_law_gcd T.d_law_gcd ["_law_a", "_law_b"] spGcd := by
  refine T.F_law_gcd.ok sc_law_gcd (fun vs H Q E h => ?_) (fun cdv A outer s H vs Q E hr h => ?_)
  · obtain ⟨n, b, rfl, _⟩ := h
    rfl
  obtain ⟨a, b, rfl, k⟩ := h
  refine ⟨_, (pss_cons (ps_par (i := 0) (j := 1) (by rfl) sc_law_gcd.nd rfl rfl (by decide) rfl rfl (pa_cons (pe_callB call_abs (by rfl) T.z_abs (by decide +kernel) (pa_cons (pv 0) pa_nil)) (pa_cons (pe_callB call_abs (by rfl) T.z_abs (by decide +kernel) (pa_cons (pv 1) pa_nil)) pa_nil)) (by rfl))
      (pss_cons (ps_while PassesOwn.never (pt_cmpR op_gt (pv 1) pe_int (nomark _)) (pss_one (ps_par (i := 0) (j := 1) (by rfl) sc_law_gcd.nd rfl rfl (by decide) rfl rfl (pa_cons (pv 1) (pa_cons (pe_op op_mod (pv 0) (pv 1)) pa_nil)) (by rfl))))
      (pss_one (ps_ret (pv 0))))), ?_⟩
  refine ⟨_, rfl, _, rfl, _, rfl, _, rfl, _, _, rfl, ?_⟩
  refine while_by (fun σ H' => H' = H ∧ ∃ (m n : Int), σ = [some (.int m), some (.int n)] ∧ 0 ≤ m ∧ 0 ≤ n ∧ Int.gcd m n = Int.gcd a b) (fun σ _ => match σ with | _ :: some (.int m) :: _ => m.toNat | _ => 0) ⟨rfl, _, _, rfl, by split <;> omega, by split <;> omega, gcd_abs a b⟩ ?_ ?_
  · rintro σ H1 ⟨rfl, m, n, rfl, hm, hn, e⟩
    refine ⟨_, rfl, _, _, rfl, rfl, _, rfl, ?_⟩
    refine ite2 (fun t => ?_) (fun t => ?_)
    · have t' : (0 : Int) < n := of_decide_eq_true t
      refine ⟨_, rfl, _, rfl, _, rfl, _, _, rfl, rfl, t', _, _, rfl, ?_⟩
      refine ⟨⟨rfl, n, m % n, rfl, hn, Int.emod_nonneg _ (by omega), by rw [gcd_step hm t', e]⟩, ?_⟩
      have := Int.emod_lt_of_pos m t'
      have := Int.emod_nonneg m (show n ≠ 0 by omega)
      show (m % n).toNat < n.toNat
      omega
    · have t' : ¬ (0 : Int) < n := fun z => t (decide_eq_true z)
      have e0 : n = 0 := by omega
      subst e0
      refine ⟨_, rfl, ?_⟩
      rw [← e, Int.gcd_zero_right, show ((m.natAbs : Nat) : Int) = m by omega] at k
      exact k
  · rintro σ H Q Q' hQ ⟨v, e1, i, j, e3, e4, kk, e5, q⟩
    exact ⟨v, e1, i, j, e3, e4, kk, e5, hQ _ _ q⟩
theorem ok_law_lowest (T : Txt K mg) : FnOk P w K mg base CX0 2 T.a_law_lowest T.d_law_lowest ["_law_over", "_law_under"] spLowest := by
  refine T.F_law_lowest.ok sc_law_lowest (fun vs H Q E h => ?_) (fun cdv A outer s H vs Q E hr h => ?_)
  · obtain ⟨n, b, rfl, _⟩ := h
    rfl
  obtain ⟨o, u, rfl, h0, h1, k⟩ := h
  refine ⟨_, (pss_cons (ps_set (i := 2) sc_law_lowest.nd rfl (Or.inl rfl) (pe_call (ok_law_gcd T) (hr.mono (by decide)) (by rfl) T.g_law_gcd T.F_law_gcd.kp T.b_law_gcd .nil pass0 (pa_cons (pv 0) (pa_cons (pv 1) pa_nil))))
      (pss_one (ps_ret (pe_tup (pa_cons (pe_op op_fdivW (pv 0) (pv 2)) (pa_cons (pe_op op_fdivW (pv 1) (pv 2)) pa_nil)))))), ?_⟩
  obtain ⟨g0, g1⟩ := gcd_le (o := o) h0
  have cw : CDivW 0 (Int.gcd o u : Nat) := log_small (k := 8000) g0 (Int.lt_of_le_of_lt g1 h1) (by decide) (by decide)
  refine ⟨_, rfl, _, rfl, o, u, rfl, ?_⟩
  refine ⟨_, rfl, _, rfl, _, _, rfl, rfl, cw, _, rfl, _, rfl, _, _, rfl, rfl, cw, by show 2 ≤ sizeLine; decide, fun p hp => ?_⟩
  exact k p hp
/-- drawn terms -/
def spTerms (K : PySem.W.Frag) : Sp := fun vs H Q _ => ∃ (d l : Addr) (G : Hp) (top deep wide : Int), vs = [.ref d, .int top, .int deep, .int wide] ∧ Same G H ∧ G d = none ∧ DrawAt H d l ∧ 0 ≤ top ∧ top ≤ 1000 ∧ 0 ≤ deep ∧ deep ≤ 1000 ∧ 0 < wide ∧ wide < 2 ^ 200 ∧
  ∀ (p : Addr) (us : List V) (ts : List Trm) (G' H' : Hp), Grow (Only1 d) G H G' H' → DrawAt H' d l → H p = none → G' p = none → H' p = some (.lst us) → DpAll K G' us (ts.map termD) → TrmsOk top deep wide ts → Q (.ref p) H'
/-- what the dict holds -/
def HeldP (K : PySem.W.Frag) (G : Hp) (top deep wide : Int) (ps : List ((Int × Int) × V)) : Prop := ∀ q ∈ ps, ∃ pt : Prt, Dp K G q.2 (partD pt) ∧ TrmOk top deep wide (q.1, pt)
theorem HeldP.mono {G G' : Hp} {top deep wide : Int} {ps : List ((Int × Int) × V)} (e : Same G G') (h : HeldP K G top deep wide ps) : HeldP K G' top deep wide ps := fun q hq => by
  obtain ⟨pt, h1, h2⟩ := h q hq
  exact ⟨pt, h1.mono e, h2⟩
theorem terms_of {G : Hp} {top deep wide : Int} {ps : List ((Int × Int) × V)} (h : HeldP K G top deep wide ps) : ∀ ks : List (Int × Int), (∀ k ∈ ks, k ∈ ps.map (·.1)) →
    ∃ ts : List Trm, ts.map (·.1) = ks ∧ (∀ t ∈ ts, TrmOk top deep wide t) ∧ ∀ (i : Nat) (k : Int × Int), ks[i]? = some k → ∃ v pt, valV ps k = some v ∧ ts[i]? = some (k, pt) ∧ Dp K G v (partD pt)
  | [], _ => ⟨[], rfl, fun t ht => absurd ht (by simp), fun i k hk => by simp at hk⟩
  | k :: r, hk => by
    obtain ⟨ts, e1, e2, e3⟩ := terms_of h r fun x hx => hk x (List.mem_cons_of_mem _ hx)
    obtain ⟨v, hv, hm⟩ := val_mem (hk k List.mem_cons_self)
    obtain ⟨pt, p1, p2⟩ := h _ hm
    refine ⟨(k, pt) :: ts, by rw [List.map_cons, e1], fun t ht => ?_, fun i k' hk' => ?_⟩
    · rcases List.mem_cons.mp ht with e | ht
      · rw [e]
        exact p2
      · exact e2 t ht
    · cases i with
      | zero =>
        have e : k = k' := by simpa using hk'
        subst e
        exact ⟨v, pt, hv, rfl, p1⟩
      | succ i =>
        obtain ⟨v', pt', q1, q2, q3⟩ := e3 i k' (by simpa using hk')
        exact ⟨v', pt', q1, by simpa using q2, q3⟩
theorem ok_law_terms (T : Txt K mg) : FnOk P w K mg base CX0 4 T.a_law_terms T.d_law_terms ["_law_draw", "_law_top", "_law_deep", "_law_wide"] (spTerms K) := by
  refine T.F_law_terms.ok sc_law_terms (fun vs H Q E h => ?_) (fun cdv A outer s H vs Q E hr h => ?_)
  · obtain ⟨d, l, G, top, deep, wide, rfl, _⟩ := h
    rfl
  obtain ⟨d, l, G, top, deep, wide, rfl, sg, gd, D, ht0, ht1, hd0, hd1, hw0, hw1, k⟩ := h
  refine ⟨_, (pss_cons (ps_set (i := 4) sc_law_terms.nd rfl (Or.inr rfl) pe_dnewT)
      (pss_cons (ps_for PassesOwn.never rfl (pi_range1 (by rfl) T.z_range (pa_cons (pe_call (ok_law_take T) (hr.mono (by decide)) (by rfl) T.g_law_take T.F_law_take.kp T.b_law_take .nil pass0 (pa_cons (pv 0) (pa_cons pe_int pa_nil))) pa_nil)) (pg_name (i := 5) sc_law_terms.nd rfl (Or.inl rfl)) (pss_cons (ps_set (i := 6) sc_law_terms.nd rfl (Or.inl rfl) (pe_op op_mul (pe_ix ix_list (pe_lst (pa_cons pe_int (pa_cons (pe_un un_neg pe_int) pa_nil))) (pe_call (ok_law_take T) (hr.mono (by decide)) (by rfl) T.g_law_take T.F_law_take.kp T.b_law_take .nil pass0 (pa_cons (pv 0) (pa_cons pe_int pa_nil))) (fun _ _ => rfl)) (pe_op op_add pe_int (pe_call (ok_law_take T) (hr.mono (by decide)) (by rfl) T.g_law_take T.F_law_take.kp T.b_law_take .nil pass0 (pa_cons (pv 0) (pa_cons (pv 3) pa_nil))))))
      (pss_cons (ps_set (i := 7) sc_law_terms.nd rfl (Or.inl rfl) (pe_tup (pa_cons (pe_call (ok_law_take T) (hr.mono (by decide)) (by rfl) T.g_law_take T.F_law_take.kp T.b_law_take .nil pass0 (pa_cons (pv 0) (pa_cons (pe_op op_add (pv 1) pe_int) pa_nil))) (pa_cons (pe_call (ok_law_take T) (hr.mono (by decide)) (by rfl) T.g_law_take T.F_law_take.kp T.b_law_take .nil pass0 (pa_cons (pv 0) (pa_cons (pe_op op_add (pv 2) pe_int) pa_nil))) pa_nil))))
      (pss_one (ps_dput (hu_of hr) (pv 4) (pv 7) (pe_call (ok_law_lowest T) (hr.mono (by decide)) (by rfl) T.g_law_lowest T.F_law_lowest.kp T.b_law_lowest .nil pass0 (pa_cons (pv 6) (pa_cons (pe_op op_add pe_int (pe_call (ok_law_take T) (hr.mono (by decide)) (by rfl) T.g_law_take T.F_law_take.kp T.b_law_take .nil pass0 (pa_cons (pv 0) (pa_cons (pe_ix ix_list (pe_lst (pa_cons pe_int (pa_cons pe_int (pa_cons pe_int pa_nil)))) (pe_call (ok_law_take T) (hr.mono (by decide)) (by rfl) T.g_law_take T.F_law_take.kp T.b_law_take .nil pass0 (pa_cons (pv 0) (pa_cons pe_int pa_nil))) (fun _ _ => rfl)) pa_nil)))) pa_nil))) rfl)))))
      (pss_one (ps_ret (pe_lc (own := [("_law_key", 7)]) (g := gName 7) (tt := tYes) rfl sc_law_terms.nd (pi_list (pe_revL (pe_callB (cr_sortedDT rfl) (by rfl) T.z_sorted (by decide +kernel) (pa_cons (pv 4) pa_nil)))) (blkOk_by (N := N_law_terms) (sc := defScope s_law_terms) (by decide +kernel)) (fun _ _ _ _ _ => (pg_name (i := 7) sc_law_terms.nd rfl (Or.inl rfl))) (fun _ _ _ _ _ => pts_nil) (fun _ _ _ _ _ => (pe_tup (pa_cons (pv 7) (pa_cons (pe_dget (hu_of hr) (pv 4) (pv 7) (fun _ _ => rfl)) pa_nil))))))))), ?_⟩
  intro C hC
  have D0 := D.upd (o := .dT []) hC
  have g0 : Grow (Only1 d) G H G _ := (Grow.refl sg).cell (o := .dT []) hC
  have nCd := D.ned hC
  have nCl := D.nel hC
  refine ⟨_, rfl, d, l, 4, rfl, D0, by decide, by decide, fun r H1 a0 a1 D1 b1 => ?_⟩
  have g1 := g0.trans (Grow.draw g0.gh gd b1) D0.some'
  refine ⟨r, rfl, by omega, by omega, for_it walk_range (fun i σ H' => ∃ (ps : List ((Int × Int) × V)) (G' : Hp), Grow (Only1 d) G H G' H' ∧ DrawAt H' d l ∧ H' C = some (.dT (pairsD ps)) ∧ G' C = none ∧ (ps.map (·.1)).Nodup ∧ ps.length ≤ i ∧ HeldP K G' top deep wide ps ∧
    ∃ v5 v6 v7, σ = [some (.ref d), some (.int top), some (.int deep), some (.int wide), some (.ref C), v5, v6, v7]) ?_ (fun _ _ _ _ _ => trivial) ?_ ?_⟩
  · exact ⟨[], G, g1, D1, b1 _ _ upd_same nCd, sg.free hC, List.nodup_nil, Nat.le_refl _, fun q hq => absurd hq (by simp), _, _, _, rfl⟩
  · rintro i x σ H2 H3 hi ⟨ps, G2, g2, D2, eC, gC, nd, hl, hp, v5, v6, v7, rfl⟩ ⟨rfl, rfl⟩
    have gd2 := g2.none gd D.cell
    -- the part's over
    refine ⟨_, rfl, by show 2 ≤ sizeLine; decide, fun p hp1 => ?_⟩
    have D3 := D2.upd (o := .lst [V.int 1, V.int (-1)]) hp1
    have g3 := g2.cell (o := .lst [V.int 1, V.int (-1)]) hp1
    refine ⟨_, rfl, d, l, 2, rfl, D3, by decide, by decide, fun r3 H4 c0 c1 D4 b4 => ?_⟩
    have g4 := g3.trans (Grow.draw g3.gh gd2 b4) D3.some'
    obtain ⟨y, hy, hy'⟩ : ∃ y : Int, atI [V.int 1, V.int (-1)] r3 = some (.int y) ∧ (y = 1 ∨ y = -1) := by
      have : r3 = 0 ∨ r3 = 1 := by omega
      rcases this with e | e <;> subst e
      · exact ⟨1, rfl, .inl rfl⟩
      · exact ⟨-1, rfl, .inr rfl⟩
    refine ⟨p, _, r3, _, rfl, rfl, SqL.of (b4 _ _ upd_same (D2.ned hp1)), hy, ?_⟩
    refine ⟨_, rfl, _, rfl, d, l, wide, rfl, D4, hw0, hw1, fun r4 H5 e0 e1 D5 b5 => ?_⟩
    have g5 := g4.trans (Grow.draw g4.gh gd2 b5) D4.some'
    refine ⟨_, _, rfl, rfl, y, 1 + r4, rfl, rfl, .inl (by rcases hy' with e | e <;> subst e <;> exact ⟨by decide, by decide⟩), ?_⟩
    have ho : y * (1 + r4) ≠ 0 ∧ ((y * (1 + r4)).natAbs : Int) ≤ wide := by
      rcases hy' with e | e <;> subst e <;> omega
    -- the key
    refine ⟨_, rfl, _, rfl, _, _, rfl, rfl, d, l, top + 1, rfl, D5, by omega, by omega, fun kp H6 f0 f1 D6 b6 => ?_⟩
    have g6 := g5.trans (Grow.draw g5.gh gd2 b6) D5.some'
    refine ⟨_, rfl, _, rfl, _, _, rfl, rfl, d, l, deep + 1, rfl, D6, by omega, by omega, fun kf H7 h0 h1 D7 b7 => ?_⟩
    have g7 := g6.trans (Grow.draw g6.gh gd2 b7) D6.some'
    refine ⟨by show 2 ≤ sizeLine; decide, fun q hq => ?_⟩
    have D8 := D7.upd (o := .tup [V.int kp, V.int kf]) hq
    have g8 := g7.cell (o := .tup [V.int kp, V.int kf]) hq
    -- the part
    refine ⟨_, rfl, ?_⟩
    refine ⟨_, rfl, by show 3 ≤ sizeLine; decide, fun p2 hp2 => ?_⟩
    have D9 := D8.upd (o := .lst [V.int 1, V.int 1, V.int 2]) hp2
    have g9 := g8.cell (o := .lst [V.int 1, V.int 1, V.int 2]) hp2
    refine ⟨_, rfl, d, l, 3, rfl, D9, by decide, by decide, fun r5 H8 i0 i1 D10 b10 => ?_⟩
    have g10 := g9.trans (Grow.draw g9.gh gd2 b10) D9.some'
    obtain ⟨z, hz, hz0, hz1⟩ : ∃ z : Int, atI [V.int 1, V.int 1, V.int 2] r5 = some (.int z) ∧ 0 < z ∧ z ≤ 2 := by
      have : r5 = 0 ∨ r5 = 1 ∨ r5 = 2 := by omega
      rcases this with e | e | e <;> subst e
      · exact ⟨1, rfl, by decide, by decide⟩
      · exact ⟨1, rfl, by decide, by decide⟩
      · exact ⟨2, rfl, by decide, by decide⟩
    refine ⟨p2, _, r5, _, rfl, rfl, SqL.of (b10 _ _ upd_same (D8.ned hp2)), hz, d, l, z, rfl, D10, hz0, by omega, fun r6 H9 j0 j1 D11 b11 => ?_⟩
    have g11 := g10.trans (Grow.draw g10.gh gd2 b11) D10.some'
    refine ⟨_, _, rfl, rfl, y * (1 + r4), 1 + r6, rfl, by omega, Int.lt_of_le_of_lt (by omega : 1 + r6 ≤ 2) (by decide), fun p3 hp3 => ?_⟩
    have D12 := D11.upd (o := .tup [.int (lowL (y * (1 + r4)) (1 + r6)).1, .int (lowL (y * (1 + r4)) (1 + r6)).2]) hp3
    have g12 := g11.new (o := .tup [.int (lowL (y * (1 + r4)) (1 + r6)).1, .int (lowL (y * (1 + r4)) (1 + r6)).2]) hp3 D11.some'
    obtain ⟨l1, l2, l3, l4, l5⟩ := lowL_ok (u := 1 + r6) ho.1 (by omega)
    generalize hL : lowL (y * (1 + r4)) (1 + r6) = L at *
    -- what stood
    have kq : ∀ (b : Addr) (o : HO), upd H7 q (.tup [V.int kp, V.int kf]) b = some o → b ≠ d → upd H9 p3 (.tup [.int L.1, .int L.2]) b = some o := fun b o e n => by
      have e1 := b10 b o (same_upd hp2 b o e) n
      have e2 := b11 b o e1 n
      rw [upd_ne (ne_of_none e2 hp3)]
      exact e2
    have kC : ∀ (b : Addr) (o : HO), H3 b = some o → b ≠ d → upd H9 p3 (.tup [.int L.1, .int L.2]) b = some o := fun b o e n =>
      kq b o (same_upd hq b o (b7 b o (b6 b o (b5 b o (b4 b o (same_upd hp1 b o e) n) n) n) n)) n
    have eC' := kC C _ eC nCd
    have eq' := kq q _ upd_same (D7.ned hq)
    refine ⟨_, rfl, _, rfl, C, _, rfl, DPut.t (k := key2 (kp, kf)) eC' eq' (by show (pairsD ps).length < sizeLine; rw [List.length_map]; exact small1000 (by omega)), ?_⟩
    rw [pairsD_put]
    have nCp : C ≠ p3 := fun e => by
      rw [e, upd_same] at eC'
      cases eC'
    have gC' : (upd G2 p3 (.tup [.int L.1, .int L.2])) C = none := by
      rw [upd_ne nCp]
      exact gC
    refine ⟨putK ps (kp, kf) (.ref p3), _, g12.put gC' (.inl hC), D12.put nCd nCl, upd_same, gC', keys_put _ _ _ nd, Nat.le_trans (length_putK _ _ _) (by omega), ?_, _, _, _, rfl⟩
    intro w hw
    rcases mem_put hw with e | hw
    · subst e
      refine ⟨L, .tup (xs := [.int L.1, .int L.2]) (SqT.of upd_same) (.cons (.int _) (.cons (.int _) .nil)), ⟨f0, by show kp ≤ top; omega, h0, by show kf ≤ deep; omega, l1, by show ((L.1).natAbs : Int) ≤ wide; omega, l3, by show L.2 ≤ 2; omega, l5⟩⟩
    · obtain ⟨pt, q1, q2⟩ := hp w hw
      exact ⟨pt, q1.mono (same_upd (g11.gh.free hp3)), q2⟩
  · rintro σ H2 ⟨ps, G2, g2, D2, eC, gC, nd, hl, hp, v5, v6, v7, rfl⟩
    have gd2 := g2.none gd D.cell
    have hl4 : ps.length ≤ 4 := by omega
    refine ⟨_, rfl, C, ps, rfl, .inl eC, fun qs p1 perm srt tups hp1 => ?_⟩
    refine ⟨p1, _, rfl, SqL.of upd_same, fun p2 hp2 => ?_⟩
    refine ⟨p2, rfl, ⟨_, SqL.of upd_same⟩, fun L hL => ?_⟩
    have hks : ∀ k ∈ (qs.reverse.map (·.1)), k ∈ ps.map (·.1) := fun k hk => by
      rw [List.map_reverse, List.mem_reverse] at hk
      exact perm.mem_iff.mp hk
    obtain ⟨ts, t1, t2, t3⟩ := terms_of hp _ hks
    have lq : qs.length = ps.length := by
      have := perm.length_eq
      rw [List.length_map, List.length_map] at this
      exact this
    have lt : ts.length = qs.length := by
      have := congrArg List.length t1
      rw [List.length_map, List.length_map, List.length_reverse] at this
      exact this
    have ndq : (qs.map (·.1)).Nodup := perm.nodup_iff.mpr nd
    have tok : TrmsOk top deep wide ts := by
      refine ⟨t2, ?_, ?_, by omega⟩
      · rw [t1, List.map_reverse]
        exact (List.reverse_perm _).nodup_iff.mpr ndq
      · have q := desc_of srt ndq
        have q2 : (qs.reverse.map (·.1)).Pairwise fun a b => SrtO.lexB b a = true := List.pairwise_map.mpr q
        rw [← t1] at q2
        exact List.pairwise_map.mp q2
    have k1 : ∀ (b : Addr) (o : HO), H2 b = some o → upd (upd (upd H2 p1 (.lst (qs.map fun q => V.ref q.2))) p2 (.lst (qs.map fun q => V.ref q.2).reverse)) L (.lst []) b = some o := fun b o e => same_upd hL b o (same_upd hp2 b o (same_upd hp1 b o e))
    have g3 := ((g2.cell (o := .lst (qs.map fun q => V.ref q.2)) hp1).cell (o := .lst (qs.map fun q => V.ref q.2).reverse) hp2).cell (o := .lst []) hL
    have D3 := ((D2.upd (o := .lst (qs.map fun q => V.ref q.2)) hp1).upd (o := .lst (qs.map fun q => V.ref q.2).reverse) hp2).upd (o := .lst []) hL
    have hLH : H L = none := (((g2.cell (o := .lst (qs.map fun q => V.ref q.2)) hp1).cell (o := .lst (qs.map fun q => V.ref q.2).reverse) hp2).h).none (((D2.upd hp1).upd hp2).some') hL
    have nLp : p2 ≠ L := fun e => by
      rw [← e, upd_same] at hL
      cases hL
    refine lc_it (walk_list (xs := (qs.map fun q => V.ref q.2).reverse)) (fun i H' => ∃ (G' : Hp) (us : List V), Grow (Only1 d) G H G' H' ∧ DrawAt H' d l ∧ But (fun b => b = d ∨ b = L) (upd (upd (upd H2 p1 (.lst (qs.map fun q => V.ref q.2))) p2 (.lst (qs.map fun q => V.ref q.2).reverse)) L (.lst [])) H' ∧ Same G2 G' ∧ G' L = none ∧ H' L = some (.lst us) ∧ us.length = i ∧ DpAll K G' us ((ts.take i).map termD))
      ⟨G2, [], g3, D3, But.refl _ _, Same.refl _, g2.gh.free (by
        have e := (same_upd hp1).free ((same_upd hp2).free hL)
        exact e), upd_same, rfl, .nil⟩ (fun i H' _ ⟨G', us, _, _, b, _⟩ => SqL.of (b p2 _ (by rw [upd_ne nLp]; exact upd_same) (fun e => e.elim (fun e => D2.ned ((same_upd hp1).free hp2) e) nLp))) ?_ ?_
    · rintro i x H3 H4 hi ⟨G', us, g4, D4, b4, s4, gL, eL, hu, dp⟩ ⟨rfl, hx⟩
      refine ⟨rfl, ?_⟩
      rw [← List.map_reverse, List.getElem?_map] at hx
      obtain ⟨q, hq, rfl⟩ : ∃ q, qs.reverse[i]? = some q ∧ x = V.ref q.2 := by
        cases e : qs.reverse[i]? with
        | none =>
          rw [e] at hx
          cases hx
        | some q =>
          rw [e] at hx
          exact ⟨q, rfl, (Option.some.inj hx).symm⟩
      obtain ⟨v, pt, hv, ht, dv⟩ := t3 i q.1 (by rw [List.getElem?_map, hq]; rfl)
      have hqm : q ∈ qs := List.mem_reverse.mp (List.mem_of_getElem? hq)
      have eq2 := tups q hqm
      have ntup : ∀ {b : Addr} {ys : List V}, H2 b = some (.tup ys) → ¬ (b = d ∨ b = L) := fun {b ys} e z => by
        rcases z with z | z
        · rw [z] at e
          exact D2.cell.tup _ e
        · rw [z] at e
          have := (same_upd hp1).free ((same_upd hp2).free hL)
          rw [this] at e
          cases e
      have eq4 := b4 _ _ (k1 _ _ eq2) (ntup eq2)
      have eC4 := b4 _ _ (k1 _ _ eC) (fun z => by
        rcases z with z | z
        · exact nCd z
        · rw [z] at eC
          have := (same_upd hp1).free ((same_upd hp2).free hL)
          rw [this] at eC
          cases eC)
      refine ⟨_, rfl, _, rfl, _, rfl, C, v, rfl, ?_, by show 2 ≤ sizeLine; decide, fun t ht2 => ?_⟩
      · have := DGet.t (k := key2 q.1) eC4 eq4
        rw [pairsD_val, hv] at this
        exact this
      have nLt : L ≠ t := ne_of_none eL ht2
      have g5 := (g4.pubT eq4 D4.some')
      have g6 := g5.new (o := .tup [V.ref q.2, v]) ht2 D4.some'
      have nLq : L ≠ q.2 := ne_of eL eq4 (by intro z; cases z)
      have gL5 : (upd (upd G' q.2 (.tup [.int q.1.1, .int q.1.2])) t (.tup [V.ref q.2, v])) L = none := by
        rw [upd_ne nLt, upd_ne nLq]
        exact gL
      have s5 : Same G' (upd (upd G' q.2 (.tup [.int q.1.1, .int q.1.2])) t (.tup [V.ref q.2, v])) := (pub_same g4.gh eq4).trans (same_upd (g5.gh.free ht2))
      have nq : q.2 ≠ t := ne_of_none eq4 ht2
      refine ⟨us, by rw [upd_ne nLt]; exact eL, by rw [hu]; exact small1000 (by rw [List.length_reverse, List.length_map] at hi; omega), _, us ++ [.ref t], g6.put gL5 (.inl hLH), (D4.upd ht2).put (fun e => D2.ned ((same_upd hp1).free ((same_upd hp2).free hL)) e) (fun e => D2.nel ((same_upd hp1).free ((same_upd hp2).free hL)) e), (b4.trans (But.new ht2)).put (.inr rfl), s4.trans s5, gL5, upd_same, by rw [List.length_append, hu]; rfl, ?_⟩
      rw [List.take_add_one, ht, List.map_append]
      refine DpAll.snoc (dp.mono s5) (.tup (xs := [.ref q.2, v]) (SqT.of upd_same) (.cons (.tup (xs := [.int q.1.1, .int q.1.2]) (SqT.of ?_) (.cons (.int _) (.cons (.int _) .nil))) (.cons (dv.mono (s4.trans s5)) .nil)))
      rw [upd_ne nq]
      exact upd_same
    · rintro H3 ⟨G', us, g4, D4, b4, s4, gL, eL, hu, dp⟩
      rw [List.take_of_length_le (by rw [List.length_reverse, List.length_map]; omega)] at dp
      exact k L us ts G' H3 g4 D4 hLH gL eL dp tok
/-- drawn sums: the list itself is a new cell, its rows are frozen -/
def spDrawnS (K : PySem.W.Frag) : Sp := fun vs H Q _ => ∃ (d l : Addr) (G : Hp) (top deep wide : Int), vs = [.ref d, .int top, .int deep, .int wide] ∧ Same G H ∧ G d = none ∧ DrawAt H d l ∧ 0 ≤ top ∧ top ≤ 1000 ∧ 0 ≤ deep ∧ deep ≤ 1000 ∧ 0 < wide ∧ wide < 2 ^ 200 ∧
  ∀ (p : Addr) (us : List V) (S : List Rw) (G' H' : Hp), Grow (Only1 d) G H G' H' → DrawAt H' d l → H p = none → G' p = none → H' p = some (.lst us) → DpAll K G' us (S.map rowD) → SumsOk top deep wide S → Q (.ref p) H'
structure SumsPart (top deep wide : Int) (i : Nat) (S : List Rw) : Prop where
  each : ∀ r ∈ S, TrmsOk top deep wide r.2 ∧ 0 ≤ r.1 ∧ r.1 ≤ 12 * i
  first : ∃ ts r, S = (0, ts) :: r
  rise : S.Pairwise fun a b => a.1 < b.1
  len : S.length = i + 1
theorem SumsPart.snoc {top deep wide : Int} {i : Nat} {S : List Rw} {r : Rw} {x : Int} {ts : List Trm} (h : SumsPart top deep wide i (S ++ [r])) (hx : r.1 < x) (hx2 : x ≤ r.1 + 12) (ht : TrmsOk top deep wide ts) : SumsPart top deep wide (i + 1) ((S ++ [r]) ++ [(x, ts)]) := by
  obtain ⟨h1, ⟨t0, r0, h2⟩, h3, h4⟩ := h
  have hr := h1 r (by simp)
  refine ⟨fun q hq => ?_, ⟨t0, r0 ++ [(x, ts)], by rw [h2]; rfl⟩, ?_, by rw [List.length_append, h4]; rfl⟩
  · rcases List.mem_append.mp hq with hq | hq
    · obtain ⟨a, b, c⟩ := h1 q hq
      exact ⟨a, b, by omega⟩
    · rw [List.mem_singleton.mp hq]
      exact ⟨ht, by show 0 ≤ x; omega, by show x ≤ 12 * ((i + 1 : Nat) : Int); omega⟩
  · rw [List.pairwise_append]
    refine ⟨h3, List.pairwise_singleton _ _, fun a ha b hb => ?_⟩
    rw [List.mem_singleton.mp hb]
    show a.1 < x
    rcases List.mem_append.mp ha with ha | ha
    · have := (List.pairwise_append.mp h3).2.2 a ha r (by simp)
      omega
    · rw [List.mem_singleton.mp ha]
      exact hx
theorem snoc_of {α : Type} : ∀ {l : List α} {n : Nat}, l.length = n + 1 → ∃ l' x, l = l' ++ [x]
  | [], _, h => by simp at h
  | x :: r, _, _ => ⟨(x :: r).dropLast, (x :: r).getLast (by simp), (List.dropLast_concat_getLast (by simp)).symm⟩
theorem DpAll.unsnoc {G : Hp} {v : V} {d : PyData} {vs : List V} {ds : List PyData} (h : DpAll K G (vs ++ [v]) (ds ++ [d])) : Dp K G v d := by
  have hl := h.length
  rw [List.length_append, List.length_append] at hl
  obtain ⟨e, q1, q2⟩ := h.get (i := vs.length) (v := v) (by simp)
  rw [List.getElem?_append_right (by simp at hl; omega)] at q1
  have : vs.length - ds.length = 0 := by simp at hl; omega
  rw [this] at q1
  have : d = e := by simpa using q1
  rw [this]
  exact q2
theorem ok_law_drawn_sums (T : Txt K mg) : FnOk P w K mg base CX0 5 T.a_law_drawn_sums T.d_law_drawn_sums ["_law_draw", "_law_top", "_law_deep", "_law_wide"] (spDrawnS K) := by
  refine T.F_law_drawn_sums.ok sc_law_drawn_sums (fun vs H Q E h => ?_) (fun cdv A outer s H vs Q E hr h => ?_)
  · obtain ⟨d, l, G, top, deep, wide, rfl, _⟩ := h
    rfl
  obtain ⟨d, l, G, top, deep, wide, rfl, sg, gd, D, ht0, ht1, hd0, hd1, hw0, hw1, k⟩ := h
  refine ⟨_, (pss_cons (ps_set (i := 4) sc_law_drawn_sums.nd rfl (Or.inl rfl) (pe_lst (pa_cons (pe_tup (pa_cons pe_int (pa_cons (pe_call (ok_law_terms T) (hr.mono (by decide)) (by rfl) T.g_law_terms T.F_law_terms.kp T.b_law_terms .nil pass0 (pa_cons (pv 0) (pa_cons (pv 1) (pa_cons (pv 2) (pa_cons (pv 3) pa_nil))))) pa_nil))) pa_nil)))
      (pss_cons (ps_for PassesOwn.never rfl (pi_range1 (by rfl) T.z_range (pa_cons (pe_call (ok_law_take T) (hr.mono (by decide)) (by rfl) T.g_law_take T.F_law_take.kp T.b_law_take .nil pass0 (pa_cons (pv 0) (pa_cons pe_int pa_nil))) pa_nil)) (pg_name (i := 5) sc_law_drawn_sums.nd rfl (Or.inl rfl)) (pss_one (ps_expr (pe_bm PySem.F.plainAttrs_list PySem.F.slot_list_append PySem.F.type_list_append mt_append (pv 4) (pa_cons (pe_tup (pa_cons (pe_op op_add (pe_op op_add (pe_ix ix_tup (pe_ix ix_list (pv 4) (pe_un un_neg pe_int) (fun _ _ => rfl)) pe_int (fun _ _ => rfl)) pe_int) (pe_call (ok_law_take T) (hr.mono (by decide)) (by rfl) T.g_law_take T.F_law_take.kp T.b_law_take .nil pass0 (pa_cons (pv 0) (pa_cons pe_int pa_nil)))) (pa_cons (pe_call (ok_law_terms T) (hr.mono (by decide)) (by rfl) T.g_law_terms T.F_law_terms.kp T.b_law_terms .nil pass0 (pa_cons (pv 0) (pa_cons (pv 1) (pa_cons (pv 2) (pa_cons (pv 3) pa_nil))))) pa_nil))) pa_nil)))))
      (pss_one (ps_ret (pv 4))))), ?_⟩
  refine ⟨_, rfl, _, rfl, _, rfl, _, rfl, d, l, G, top, deep, wide, rfl, sg, gd, D, ht0, ht1, hd0, hd1, hw0, hw1, fun p us ts G1 H1 g1 D1 np gp ep dp tok => ?_⟩
  refine ⟨by show 2 ≤ sizeLine; decide, fun t ht => ⟨by show 1 ≤ sizeLine; decide, fun L hL => ?_⟩⟩
  have g2 := g1.pub ep gp np
  have s12 : Same G1 _ := same_upd (o := .lst us) gp
  have g3 := g2.new (o := .tup [.int 0, .ref p]) ht D1.some'
  have g4 := g3.cell (o := .lst [.ref t]) hL
  have s23 : Same (upd G1 p (.lst us)) _ := same_upd (o := .tup [.int 0, .ref p]) (g2.gh.free ht)
  have D3 := (D1.upd (o := .tup [.int 0, .ref p]) ht).upd (o := .lst [.ref t]) hL
  have hLH : H L = none := g3.h.none ((D1.upd ht).some') hL
  have gL : (upd (upd G1 p (.lst us)) t (.tup [.int 0, .ref p])) L = none := g3.gh.free hL
  have row0 : Dp K (upd (upd G1 p (.lst us)) t (.tup [.int 0, .ref p])) (.ref t) (rowD (0, ts)) :=
    .tup (xs := [.int 0, .ref p]) (SqT.of upd_same) (.cons (.int _) (.cons (.lst (SqL.of (s23 _ _ upd_same)) (dp.mono (s12.trans s23))) .nil))
  have gd4 := g4.none gd D.cell
  refine ⟨_, rfl, d, l, 4, rfl, D3, by decide, by decide, fun r H5 a0 a1 D5 b5 => ?_⟩
  have g5 := g4.trans (Grow.draw g4.gh gd4 b5) D3.some'
  have nLd := (D1.upd (o := .tup [.int 0, .ref p]) ht).ned hL
  have nLl := (D1.upd (o := .tup [.int 0, .ref p]) ht).nel hL
  refine ⟨r, rfl, by omega, by omega, for_it walk_range (fun i σ H' => ∃ (vs : List V) (S : List Rw) (G' : Hp), Grow (Only1 d) G H G' H' ∧ DrawAt H' d l ∧ H' L = some (.lst vs) ∧ G' L = none ∧ DpAll K G' vs (S.map rowD) ∧ SumsPart top deep wide i S ∧
    ∃ v5, σ = [some (.ref d), some (.int top), some (.int deep), some (.int wide), some (.ref L), v5]) ?_ (fun _ _ _ _ _ => trivial) ?_ ?_⟩
  · refine ⟨[.ref t], [(0, ts)], _, g5, D5, b5 _ _ upd_same nLd, gL, .cons row0 .nil, ⟨fun q hq => ?_, ⟨ts, [], rfl⟩, List.pairwise_singleton _ _, rfl⟩, _, rfl⟩
    rw [List.mem_singleton.mp hq]
    exact ⟨tok, Int.le_refl _, (by show (0 : Int) ≤ 12 * ((0 : Nat) : Int); decide)⟩
  · rintro i x σ H6 H7 hi ⟨vs, S, G6, g6, D6, eL, gL6, dp6, sp, v5, rfl⟩ ⟨rfl, rfl⟩
    have gd6 := g6.none gd D.cell
    obtain ⟨S', r0, rfl⟩ := snoc_of sp.len
    have lv := dp6.length
    rw [List.length_map, List.length_append] at lv
    obtain ⟨vs', v, rfl⟩ := snoc_of (n := S'.length) lv
    have dv : Dp K G6 v (rowD r0) := by
      rw [List.map_append] at dp6
      exact DpAll.unsnoc dp6
    obtain ⟨a, xs, ea, hs, rest⟩ : ∃ a xs, v = .ref a ∧ SqT K G6 a xs ∧ xs[0]? = some (.int r0.1) := by
      cases dv with
      | tup hs hr =>
        cases hr with
        | cons h1 h2 =>
          cases h1
          exact ⟨_, _, rfl, hs, rfl⟩
    subst ea
    refine ⟨_, rfl, .inl ⟨rfl, _, SqL.of eL⟩, ?_⟩
    refine ⟨_, rfl, _, rfl, L, _, _, _, rfl, rfl, SqL.of eL, atI_last _ _, a, xs, _, _, rfl, rfl, same_t g6.gh hs, atI_nat (j := 0) rest, _, _, rfl, rfl, ?_⟩
    refine ⟨_, rfl, d, l, 12, rfl, D6, by decide, by decide, fun r1 H8 c0 c1 D8 b8 => ?_⟩
    have g8 := g6.trans (Grow.draw g6.gh gd6 b8) D6.some'
    refine ⟨_, _, rfl, rfl, ?_⟩
    refine ⟨_, rfl, _, rfl, _, rfl, _, rfl, d, l, G6, top, deep, wide, rfl, g8.gh, gd6, D8, ht0, ht1, hd0, hd1, hw0, hw1, fun p2 us2 ts2 G9 H9 g9 D9 np2 gp2 ep2 dp2 tok2 => ?_⟩
    have eL8 := b8 _ _ eL nLd
    have eL9 := g9.h _ _ eL8 nLd
    have gL9 := g9.none gL6 (cell_lst eL8)
    have nLp : L ≠ p2 := ne_of_none eL8 np2
    have g10 := g8.trans g9 D8.some'
    have np0 : H p2 = none := g8.h.none D8.some' np2
    have g11 := g10.pub ep2 gp2 np0
    refine ⟨by show 2 ≤ sizeLine; decide, fun t2 ht2 => ?_⟩
    have g12 := g11.new (o := .tup [.int (r0.1 + 1 + r1), .ref p2]) ht2 D9.some'
    have nLt : L ≠ t2 := ne_of_none eL9 ht2
    have s1 : Same G9 _ := same_upd (o := .lst us2) gp2
    have s2 : Same (upd G9 p2 (.lst us2)) _ := same_upd (o := .tup [.int (r0.1 + 1 + r1), .ref p2]) (g11.gh.free ht2)
    have gL12 : (upd (upd G9 p2 (.lst us2)) t2 (.tup [.int (r0.1 + 1 + r1), .ref p2])) L = none := by
      rw [upd_ne nLt, upd_ne nLp]
      exact gL9
    have rowN : Dp K (upd (upd G9 p2 (.lst us2)) t2 (.tup [.int (r0.1 + 1 + r1), .ref p2])) (.ref t2) (rowD (r0.1 + 1 + r1, ts2)) :=
      .tup (xs := [.int (r0.1 + 1 + r1), .ref p2]) (SqT.of upd_same) (.cons (.int _) (.cons (.lst (SqL.of (s2 _ _ upd_same)) (dp2.mono (s1.trans s2))) .nil))
    refine ⟨L, _, _, rfl, rfl, by rw [upd_ne nLt]; exact eL9, ?_, ?_⟩
    · rw [List.length_append]
      have := sp.len
      rw [List.length_append] at this
      exact small1000 (by simp at lv this ⊢; omega)
    · refine ⟨_, (S' ++ [r0]) ++ [(r0.1 + 1 + r1, ts2)], _, g12.put gL12 (.inl hLH), (D9.upd ht2).put nLd nLl, upd_same, gL12, ?_, sp.snoc (by omega) (by omega) tok2, _, rfl⟩
      rw [List.map_append (l₁ := S' ++ [r0])]
      exact DpAll.snoc (dp6.mono (g9.g.trans (s1.trans s2))) rowN
  · rintro σ H6 ⟨vs, S, G6, g6, D6, eL, gL6, dp6, sp, v5, rfl⟩
    refine ⟨_, rfl, k L vs S G6 H6 g6 D6 hLH gL6 eL dp6 ⟨fun q hq => ?_, sp.first, sp.rise, by rw [sp.len]; omega⟩⟩
    obtain ⟨a, b, c⟩ := sp.each q hq
    exact ⟨a, b, by omega⟩
theorem ok_law_raised (T : Txt K mg) : FnOk P w K mg base CX0 1 T.a_law_raised T.d_law_raised ["_law_part", "_law_upto"] spRaised := by
  refine T.F_law_raised.ok sc_law_raised (fun vs H Q E h => ?_) (fun cdv A outer s H vs Q E hr h => ?_)
  · obtain ⟨b, p, m, rfl, _⟩ := h
    rfl
  obtain ⟨b, p, m, rfl, hb, h0, h1, k⟩ := h
  refine ⟨_, (pss_cons (ps_set (i := 2) sc_law_raised.nd rfl (Or.inl rfl) pe_int)
      (pss_cons (ps_for PassesOwn.never rfl (pi_range1 (by rfl) T.z_range (pa_cons (pv 1) pa_nil)) (pg_name (i := 3) sc_law_raised.nd rfl (Or.inl rfl)) (pss_one (ps_set (i := 2) sc_law_raised.nd rfl (Or.inl rfl) (pe_op op_mulW (pv 2) (pv 0)))))
      (pss_one (ps_ret (pv 2))))), ?_⟩
  have hp := raised_small h0 h1
  refine ⟨_, rfl, p, rfl, by omega, by omega, for_it walk_range (fun i σ H' => H' = H ∧ ∃ t, σ = [some (.int b), some (.int p), some (.int (b ^ i)), t]) ⟨rfl, none, by rw [Int.pow_zero]; rfl⟩ (fun _ _ _ _ _ => trivial) ?_ ?_⟩
  · rintro i x σ H1 H2 hi ⟨rfl, t, rfl⟩ ⟨rfl, rfl⟩
    refine ⟨_, rfl, _, rfl, _, _, rfl, rfl, raised_ok hb h0 h1 (by omega), rfl, some (.int ((0 : Int) + i)), ?_⟩
    rw [Int.pow_succ]
    rfl
  · rintro σ H1 ⟨rfl, t, rfl⟩
    exact ⟨_, rfl, k⟩
theorem ok_law_sums_at (T : Txt K mg) : FnOk P w K mg base CX0 3 T.a_law_sums_at T.d_law_sums_at ["_law_sums", "_law_size"] (spWorth P w K) := by
  refine T.F_law_sums_at.ok sc_law_sums_at (fun vs H Q E h => ?_) (fun cdv A outer s H vs Q E hr h => ?_)
  · obtain ⟨p, S, sz, _, _, _, rfl, _⟩ := h
    rfl
  obtain ⟨x, S, sz, top, deep, wide, rfl, dS, ok, h1, h2, h3, hz, k⟩ := h
  refine ⟨_, (pss_cons (ps_set (i := 2) sc_law_sums_at.nd rfl (Or.inl rfl) (pe_lst pa_nil))
      (pss_cons (ps_for PassesOwn.never rfl (pi_list (pv 0)) (pg_tup rfl (pgs_cons (pg_name (i := 3) sc_law_sums_at.nd rfl (Or.inl rfl)) (pgs_cons (pg_name (i := 4) sc_law_sums_at.nd rfl (Or.inl rfl)) pgs_nil))) (pss_one (ps_if (pt_cmpR op_le (pv 3) (pv 1) (nomark _)) (pss_one (ps_set (i := 2) sc_law_sums_at.nd rfl (Or.inl rfl) (pv 4))) pss_nil)))
      (pss_cons (ps_asg (pe_tup (pa_cons pe_int (pa_cons pe_int pa_nil))) (pg_tup rfl (pgs_cons (pg_name (i := 5) sc_law_sums_at.nd rfl (Or.inl rfl)) (pgs_cons (pg_name (i := 6) sc_law_sums_at.nd rfl (Or.inl rfl)) pgs_nil))))
      (pss_cons (ps_for PassesOwn.never rfl (pi_list (pv 2)) (pg_tup rfl (pgs_cons (pg_tup rfl (pgs_cons (pg_name (i := 7) sc_law_sums_at.nd rfl (Or.inl rfl)) (pgs_cons (pg_name (i := 8) sc_law_sums_at.nd rfl (Or.inl rfl)) pgs_nil))) (pgs_cons (pg_name (i := 9) sc_law_sums_at.nd rfl (Or.inl rfl)) pgs_nil))) (pss_cons (ps_set (i := 10) sc_law_sums_at.nd rfl (Or.inl rfl) (pe_op op_mulW (pe_op op_mulW (pe_ix ix_tup (pv 9) pe_int (fun _ _ => rfl)) (pe_call (ok_law_raised T) (hr.mono (by decide)) (by rfl) T.g_law_raised T.F_law_raised.kp T.b_law_raised .nil pass0 (pa_cons (pv 1) (pa_cons (pv 7) pa_nil)))) (pe_call (ok_law_raised T) (hr.mono (by decide)) (by rfl) T.g_law_raised T.F_law_raised.kp T.b_law_raised .nil pass0 (pa_cons (pe_bits (pv 1)) (pa_cons (pv 8) pa_nil)))))
      (pss_one (ps_par (i := 5) (j := 6) (by rfl) sc_law_sums_at.nd rfl rfl (by decide) rfl rfl (pa_cons (pe_op op_add (pe_op op_mulW (pv 5) (pe_ix ix_tup (pv 9) pe_int (fun _ _ => rfl))) (pe_op op_mulW (pv 10) (pv 6))) (pa_cons (pe_op op_mulW (pv 6) (pe_ix ix_tup (pv 9) pe_int (fun _ _ => rfl))) pa_nil)) (by rfl)))))
      (pss_one (ps_ret (pe_call (ok_law_lowest T) (hr.mono (by decide)) (by rfl) T.g_law_lowest T.F_law_lowest.kp T.b_law_lowest .nil pass0 (pa_cons (pv 5) (pa_cons (pv 6) pa_nil))))))))), ?_⟩
  obtain ⟨a, us, rfl, hs, dA⟩ := dS.lst'
  have lS : us.length = S.length := by
    have := dA.length
    rw [List.length_map] at this
    exact this
  have ss := sumSz_of h1 h2 h3 ok
  have hb := bits_b hz
  refine ⟨by show 0 ≤ sizeLine; decide, fun L hL => ?_⟩
  have sL := same_upd (o := .lst []) hL
  refine ⟨_, rfl, a, rfl, ⟨_, same_l sL hs⟩, for_it (walk_list (xs := us)) (fun i σ H' => Same H H' ∧ ∃ c v3 v4 v5 v6 v7 v8 v9 v10, Dp K H' (.ref c) (.list ((termsAt (S.take i) sz).map termD)) ∧ σ = [some (.ref a), some (.int sz), some (.ref c), v3, v4, v5, v6, v7, v8, v9, v10]) ⟨sL, L, _, _, _, _, _, _, _, _, .lst (SqL.of upd_same) .nil, rfl⟩ (fun i σ H' _ q => same_l q.1 hs) ?_ ?_⟩
  · rintro i x σ H1 H2 hi ⟨s2, c, v3, v4, v5, v6, v7, v8, v9, v10, dc, rfl⟩ ⟨rfl, hx⟩
    obtain ⟨r, hr', dr⟩ := DpAll.at_ dA hx
    obtain ⟨b, x1, x2, rfl, hb2, d1, d2⟩ := dr.tup2
    cases d1.int'
    obtain ⟨e, ws, rfl, he, hw⟩ := d2.lst'
    refine ⟨b, _, rfl, same_t s2 hb2, rfl, _, _, rfl, _, _, rfl, rfl, ?_⟩
    refine ⟨_, rfl, _, rfl, _, _, rfl, rfl, _, rfl, ?_⟩
    refine ite2 (fun q => ?_) (fun q => ?_)
    · have q' : r.1 ≤ sz := of_decide_eq_true q
      refine ⟨_, rfl, s2, e, _, _, _, _, _, _, _, _, ?_, rfl⟩
      rw [termsAt_snoc hr', if_pos q']
      exact .lst (same_l s2 he) (hw.mono s2)
    · have q' : ¬ r.1 ≤ sz := fun z => q (decide_eq_true z)
      refine ⟨s2, c, _, _, _, _, _, _, _, _, ?_, rfl⟩
      rw [termsAt_snoc hr', if_neg q']
      exact dc
  · rintro σ H1 ⟨s1, c, v3, v4, v5, v6, v7, v8, v9, v10, dc, rfl⟩
    have et : S.take us.length = S := by rw [lS, List.take_length]
    rw [et] at dc
    have tz : ∀ t ∈ termsAt S sz, TSz t := termsAt_ok (F := fun ts => ∀ t ∈ ts, TSz t) (fun _ h => nomatch h) fun r hr => (ss r hr).1
    have tl : (termsAt S sz).length ≤ 10 := termsAt_ok (F := fun ts => ts.length ≤ 10) (by decide) fun r hr => (ss r hr).2
    generalize htt : termsAt S sz = ts at dc tz tl
    rw [htt] at k
    obtain ⟨c', ws, ec, hc, dW⟩ := dc.lst'
    cases ec
    have lw : ws.length = ts.length := by
      have := dW.length
      rw [List.length_map] at this
      exact this
    refine ⟨by show 2 ≤ sizeLine; decide, fun q0 hq0 => ⟨q0, _, rfl, SqT.of upd_same, rfl, _, _, rfl, _, _, rfl, rfl, ?_⟩⟩
    have s0 := same_upd (o := .tup [.int 0, .int 1]) hq0
    refine ⟨_, rfl, c, rfl, ⟨_, same_l s0 hc⟩, for_it (walk_list (xs := ws)) (fun j σ H' => Same H1 H' ∧ ∃ v3 v4 v7 v8 v9 v10, σ = [some (.ref a), some (.int sz), some (.ref c), v3, v4, some (.int (rawL sz (Builtin.Int.intBits sz : Nat) (ts.take j)).1), some (.int (rawL sz (Builtin.Int.intBits sz : Nat) (ts.take j)).2), v7, v8, v9, v10]) ⟨s0, _, _, _, _, _, _, rfl⟩ (fun j σ H' _ q => same_l q.1 hc) ?_ ?_⟩
    · rintro j y σ H3 H4 hj ⟨s4, v3, v4, v7, v8, v9, v10, rfl⟩ ⟨rfl, hy⟩
      obtain ⟨t, ht, dt⟩ := DpAll.at_ dW hy
      have tk := tz t (List.mem_of_getElem? ht)
      obtain ⟨p, y1, y2, rfl, hp, e1, e2⟩ := dt.tup2
      obtain ⟨q, z1, z2, rfl, hq, e3, e4⟩ := e1.tup2
      obtain ⟨m, m1, m2, rfl, hm, e5, e6⟩ := e2.tup2
      cases e3.int'
      cases e4.int'
      cases e5.int'
      cases e6.int'
      have hm := same_t s4 hm
      have p0 := tk.p0
      have p1 := tk.p1
      have f0 := tk.f0
      have f1 := tk.f1
      have u0 := tk.u0
      have u1 := tk.u1
      have hj : j < ws.length := hj
      obtain ⟨r1, r2, r3⟩ := raw_b (ts := ts) hz hb tz j (by omega)
      have m0 : atI [V.int t.2.1, V.int t.2.2] 0 = some (.int t.2.1) := rfl
      have m1 : atI [V.int t.2.1, V.int t.2.2] 1 = some (.int t.2.2) := rfl
      have z1 := pow_b (k := t.1.1.toNat) hz (by omega)
      have z2 := pow_b (k := t.1.2.toNat) hb (by omega)
      have z3 := mul_b tk.o1 z1
      have nb := numI_b hz hb tk.o1 p1 f1
      refine ⟨p, _, rfl, same_t s4 hp, rfl, _, _, rfl, ⟨q, _, rfl, same_t s4 hq, rfl, _, _, rfl, _, _, rfl, rfl, _, _, rfl, rfl, ?_⟩⟩
      refine ⟨_, rfl, m, _, _, _, rfl, rfl, hm, m0, _, rfl, _, rfl, sz, t.1.1.toNat, 110, by rw [show ((t.1.1.toNat : Nat) : Int) = t.1.1 by omega]; rfl, hz, by decide, by omega, ?_⟩
      refine ⟨_, _, rfl, rfl, cmul_of tk.o1 z1 (by decide) (by decide) (by decide), ?_⟩
      refine ⟨_, rfl, _, rfl, _, rfl, _, t.1.2.toNat, 110, by rw [show ((t.1.2.toNat : Nat) : Int) = t.1.2 by omega]; rfl, hb, by decide, by omega, ?_⟩
      refine ⟨_, _, rfl, rfl, cmul_of z3 z2 (by decide) (by decide) (by decide), ?_⟩
      have u2 : t.2.2.natAbs < 2 ^ 2 := by omega
      have r2' : (rawL sz (Builtin.Int.intBits sz : Nat) (ts.take j)).2.natAbs < 2 ^ 21 := Nat.lt_of_lt_of_le r2 (Nat.pow_le_pow_right (by decide) (by omega))
      have r3' : (rawL sz (Builtin.Int.intBits sz : Nat) (ts.take j)).1.natAbs < 2 ^ 2400 := Nat.lt_of_lt_of_le r3 (Nat.pow_le_pow_right (by decide) (by omega))
      refine ⟨_, rfl, _, rfl, m, _, _, _, rfl, rfl, hm, m1, _, _, rfl, rfl, cmul_of r3' u2 (by decide) (by decide) (by decide), ?_⟩
      refine ⟨_, rfl, _, rfl, _, _, rfl, rfl, cmul_of nb r2' (by decide) (by decide) (by decide), _, _, rfl, rfl, ?_⟩
      refine ⟨_, rfl, _, rfl, m, _, _, _, rfl, rfl, hm, m1, _, _, rfl, rfl, cmul_of r2' u2 (by decide) (by decide) (by decide), ?_⟩
      try unfold tNil
      refine ⟨_, _, rfl, s4, v3, v4, some (.int t.1.1), some (.int t.1.2), some (.ref m), some (.int (numI sz (Builtin.Int.intBits sz : Nat) t)), ?_⟩
      have e : rawL sz (Builtin.Int.intBits sz : Nat) (ts.take (j + 1)) = rawStep sz (Builtin.Int.intBits sz : Nat) (rawL sz (Builtin.Int.intBits sz : Nat) (ts.take j)) t := by
        unfold rawL
        rw [take_snoc ht, List.foldl_append]
        rfl
      rw [e]
      rfl
    · rintro σ H3 ⟨s3, v3, v4, v7, v8, v9, v10, rfl⟩
      have et : ts.take ws.length = ts := by rw [lw, List.take_length]
      rw [et]
      have hw := worthL_eq (sz := sz) (bl := (Builtin.Int.intBits sz : Nat)) (ts := ts) fun t h => ⟨(tz t h).p0, (tz t h).f0, (tz t h).u0, (tz t h).low⟩
      obtain ⟨r1, r2, r3⟩ := raw_b (ts := ts) hz hb tz ts.length tl
      rw [List.take_length] at r1 r2 r3
      refine ⟨_, rfl, _, rfl, _, _, rfl, r1, ?_, fun p hp => ?_⟩
      · have c4 : (rawL sz (Builtin.Int.intBits sz : Nat) ts).2.natAbs < 2 ^ 21 := Nat.lt_of_lt_of_le r2 (Nat.pow_le_pow_right (by decide) (by omega))
        have c5 : ((2 : Int) ^ 21) < 2 ^ 8000 := by decide
        omega
      · refine k _ _ (s1.trans (s3.trans (same_upd hp))) ?_
        rw [hw]
        exact .tup (xs := [.int _, .int _]) (SqT.of upd_same) (.cons (.int _) (.cons (.int _) .nil))
/-- alike data are the same -/
def spSame (K : PySem.W.Frag) (n : Nat) : Sp := fun vs H Q _ => ∃ (x y : V) (d : PyData), vs = [x, y] ∧ Dp K H x d ∧ Dp K H y d ∧ dep d < n ∧ wid d ≤ 100000 ∧ ∀ H', Same H H' → Q (.bl true) H'
theorem same_step (T : Txt K mg) (n : Nat) (G_law_same : FnOk P w K mg base CX0 n T.a_law_same T.d_law_same ["_law_found", "_law_due"] (spSame K n)) :
    FnOk P w K mg base CX0 (n + 1) T.a_law_same T.d_law_same ["_law_found", "_law_due"] (spSame K (n + 1)) := by
  refine T.F_law_same.ok sc_law_same (fun vs H Q E h => ?_) (fun cdv A outer s H vs Q E hr h => ?_)
  · obtain ⟨x, y, d, rfl, _⟩ := h
    rfl
  obtain ⟨x, y, d, rfl, dx, dy, hn, hw, k⟩ := h
  refine ⟨_, (pss_cons (ps_if (pt_val (pe_callB call_isiT (by rfl) T.z_isinstance (by decide +kernel) (pa_cons (pv 1) (pa_cons (pe_tup (pa_cons (pe_bltn (v := .ty "list") (by rfl) T.z_list (by decide +kernel) rfl) (pa_cons (pe_bltn (v := .ty "tuple") (by rfl) T.z_tuple (by decide +kernel) rfl) pa_nil))) pa_nil)))) (pss_cons (ps_if (PW.pt (pw_or (pt_cmpR op_ne (pe_callB call_isi (by rfl) T.z_isinstance (by decide +kernel) (pa_cons (pv 0) (pa_cons (pe_bltn (v := .ty "list") (by rfl) T.z_list (by decide +kernel) rfl) pa_nil))) (pe_callB call_isi (by rfl) T.z_isinstance (by decide +kernel) (pa_cons (pv 1) (pa_cons (pe_bltn (v := .ty "list") (by rfl) T.z_list (by decide +kernel) rfl) pa_nil))) (nomark _)) (pw_or1 (pt_not (pt_val (pe_callB call_isiT (by rfl) T.z_isinstance (by decide +kernel) (pa_cons (pv 0) (pa_cons (pe_tup (pa_cons (pe_bltn (v := .ty "list") (by rfl) T.z_list (by decide +kernel) rfl) (pa_cons (pe_bltn (v := .ty "tuple") (by rfl) T.z_tuple (by decide +kernel) rfl) pa_nil))) pa_nil)))))))) (pss_one (ps_ret pe_bl)) pss_nil)
      (pss_one (ps_ret (pe_and (pe_cmpR op_eq (pe_callB call_len (by rfl) T.z_len (by decide +kernel) (pa_cons (pv 0) pa_nil)) (pe_callB call_len (by rfl) T.z_len (by decide +kernel) (pa_cons (pv 1) pa_nil)) (nomark _)) (pe_one (pe_callB (cr_all rfl) (by rfl) T.z_all (by decide +kernel) (pa_cons (pe_lc (own := [("_law_one", 2), ("_law_other", 3)]) (g := gTup K 2 ((gCons (gName 2) (gCons (gName 3) gNil)))) (tt := tYes) rfl sc_law_same.nd (RZ.pi_zipA (by rfl) T.z_zip (pa_cons (pv 0) (pa_cons (pv 1) pa_nil))) (blkOk_by (N := N_law_same) (sc := defScope s_law_same) (by decide +kernel)) (fun _ _ _ _ _ => (pg_tup rfl (pgs_cons (pg_name (i := 2) sc_law_same.nd rfl (Or.inl rfl)) (pgs_cons (pg_name (i := 3) sc_law_same.nd rfl (Or.inl rfl)) pgs_nil)))) (fun _ _ _ _ _ => pts_nil) (fun _ _ _ _ _ => (pe_call G_law_same hr (by rfl) T.g_law_same T.F_law_same.kp T.b_law_same .nil pass0 (pa_cons (pv 2) (pa_cons (pv 3) pa_nil))))) pa_nil))))))) pss_nil)
      (pss_cons (ps_if (pt_cmpR op_isN (pv 1) pe_non (nomark _)) (pss_one (ps_ret (pe_cmpR op_isN (pv 0) pe_non (nomark _)))) pss_nil)
      (pss_cons (ps_if (PW.pt (pw_or (pt_cmpR op_ne (pe_callB call_isi (by rfl) T.z_isinstance (by decide +kernel) (pa_cons (pv 0) (pa_cons (pe_bltn (v := .ty "bool") (by rfl) T.z_bool (by decide +kernel) rfl) pa_nil))) (pe_callB call_isi (by rfl) T.z_isinstance (by decide +kernel) (pa_cons (pv 1) (pa_cons (pe_bltn (v := .ty "bool") (by rfl) T.z_bool (by decide +kernel) rfl) pa_nil))) (nomark _)) (pw_or1 (pt_cmpR op_ne (pe_callB call_isi (by rfl) T.z_isinstance (by decide +kernel) (pa_cons (pv 0) (pa_cons (pe_bltn (v := .ty "int") (by rfl) T.z_int (by decide +kernel) rfl) pa_nil))) (pe_callB call_isi (by rfl) T.z_isinstance (by decide +kernel) (pa_cons (pv 1) (pa_cons (pe_bltn (v := .ty "int") (by rfl) T.z_int (by decide +kernel) rfl) pa_nil))) (nomark _))))) (pss_one (ps_ret pe_bl)) pss_nil)
      (pss_one (ps_ret (pe_and (pe_cmpR op_eq (pe_callB call_isi (by rfl) T.z_isinstance (by decide +kernel) (pa_cons (pv 0) (pa_cons (pe_bltn (v := .ty "str") (by rfl) T.z_str (by decide +kernel) rfl) pa_nil))) (pe_callB call_isi (by rfl) T.z_isinstance (by decide +kernel) (pa_cons (pv 1) (pa_cons (pe_bltn (v := .ty "str") (by rfl) T.z_str (by decide +kernel) rfl) pa_nil))) (nomark _)) (pe_one (pe_cmpR op_eq (pv 0) (pv 1) (nomark _))))))))), ?_⟩
  have kd := fun d => kit_d (K := K) d
  -- isinstance(due, (list, tuple))
  refine ⟨_, rfl, by show 2 ≤ sizeLine; decide, fun p hp => ?_⟩
  have s1 : Same H (upd H p (.tup clsLT)) := same_upd hp
  refine ⟨y, p, clsLT, _, _, _, rfl, upd_same, pairLT, dp_ty (Dp.mono s1 dy), kit2 (kd d).1 (kd d).2.1, _, rfl, ?_⟩
  refine ite2 (fun c1 => ?_) (fun c1 => ?_)
  · -- lists, tuples
    refine ⟨_, rfl, x, _, _, _, _, rfl, .ty _, dp_ty (Dp.mono s1 dx), (kd d).1, ?_⟩
    refine ⟨_, rfl, y, _, _, _, _, rfl, .ty _, dp_ty (Dp.mono s1 dy), (kd d).1, rfl, _, rfl, ?_⟩
    refine iteNS rfl ?_
    refine ⟨_, rfl, by show 2 ≤ sizeLine; decide, fun p2 hp2 => ?_⟩
    have s2 := s1.trans (same_upd (o := .tup clsLT) hp2)
    refine ⟨x, p2, clsLT, _, _, _, rfl, upd_same, pairLT, dp_ty (Dp.mono s2 dx), kit2 (kd d).1 (kd d).2.1, _, rfl, ?_⟩
    rw [c1]
    refine iteF ?_
    generalize hH : upd (upd H p (.tup clsLT)) p2 (.tup clsLT) = H2 at s2
    have dx2 := Dp.mono s2 dx
    have dy2 := Dp.mono s2 dy
    -- the turns of the comprehension
    have turn : ∀ (D : Addr) (xs ys : List V) (ds : List PyData), H2 D = none → DpAll K H2 xs ds → DpAll K H2 ys ds → depAll ds < n → widAll ds ≤ 100000 → ds.length ≤ 100000 → ∀ (i : Nat) (z : V) (H H' : Hp), i < min xs.length ys.length →
        (Same H2 H ∧ H D = some (.lst (List.replicate i (V.bl true)))) → YPair (fun i => xs[i]?) (fun i => ys[i]?) i H z H' → ∃ T u v du, z = .ref T ∧ H' T = some (.tup [u, v]) ∧ Dp K H' u du ∧ Dp K H' v du ∧ dep du < n ∧ wid du ≤ 100000 ∧ i < 100000 ∧ Same H2 H' ∧ H' D = some (.lst (List.replicate i (V.bl true))) := by
      rintro D xs ys ds hD ax ay hdp hwd hln i z H3 H4 hi ⟨sm, eD⟩ ⟨Tt, u, v, rfl, nT, rfl, gx, gy⟩
      have lx := ax.length
      obtain ⟨du, gd, pu⟩ := ax.get gx
      obtain ⟨dv, gd', pv⟩ := ay.get gy
      rw [gd] at gd'
      cases gd'
      have sm' := sm.trans (same_upd (o := .tup [u, v]) nT)
      have := dep_get gd
      have := wid_get gd
      refine ⟨Tt, u, v, du, rfl, upd_same, Dp.mono sm' pu, Dp.mono sm' pv, by omega, by omega, by omega, sm', ?_⟩
      rw [upd_ne (ne_of_none eD nT)]
      exact eD
    have fin : ∀ (m : Nat) (H' : Hp) (D : Addr), Same H2 H' → H' D = some (.lst (List.replicate m (V.bl true))) → ∃ (a : Addr) (bs : List Bool), ([.ref D] : List V) = [V.ref a] ∧ SqL K H' a (bs.map V.bl) ∧ Q (.bl (bs.all id)) H' := by
      intro m H' D sm eD
      refine ⟨D, List.replicate m true, rfl, SqL.of (by rw [List.map_replicate]; exact eD), ?_⟩
      rw [show (List.replicate m true).all id = true by simp]
      exact k _ (s2.trans sm)
    have body : ∀ (D : Addr) (i : Nat) (u v : V) (du : PyData) (H' : Hp), H2 D = none → Dp K H' u du → Dp K H' v du → dep du < n → wid du ≤ 100000 → i < 100000 → Same H2 H' → H' D = some (.lst (List.replicate i (V.bl true))) →
        spSame K n [u, v] H' (fun y H4 => ∃ acc, H4 D = some (.lst acc) ∧ acc.length < sizeLine ∧ (Same H2 (upd H4 D (.lst (acc ++ [y]))) ∧ (upd H4 D (.lst (acc ++ [y]))) D = some (.lst (List.replicate (i + 1) (V.bl true))))) E0 := by
      intro D i u v du H' hD pu pv hdp hwd hi sm eD
      refine ⟨u, v, du, rfl, pu, pv, hdp, hwd, fun H4 sm4 => ?_⟩
      refine ⟨List.replicate i (V.bl true), sm4 _ _ eD, ?_, ?_, ?_⟩
      · rw [List.length_replicate]
        exact Nat.lt_of_lt_of_le hi (by decide)
      · intro b o e
        rw [upd_ne (ne_of_none e hD)]
        exact sm4 _ _ (sm _ _ e)
      · rw [upd_same, List.replicate_succ']
    cases dx2 with
    | @lst a xs ds hs ha =>
      cases dy2 with
      | @lst b ys _ hs' ha' =>
        have hdp : depAll ds < n := by
          rw [dep] at hn
          omega
        have hwd : widAll ds ≤ 100000 ∧ ds.length ≤ 100000 := by
          rw [wid] at hw
          omega
        have lx := ha.length
        have ly := ha'.length
        have el : decide (V.int ((xs.length : Nat) : Int) = V.int ((ys.length : Nat) : Int)) = true := by
          rw [lx, ly]
          exact decide_eq_true rfl
        refine ⟨_, rfl, _, _, rfl, .inl ⟨xs, hs, rfl⟩, _, rfl, _, _, rfl, .inl ⟨ys, hs', rfl⟩, rfl, _, rfl, ?_⟩
        rw [el]
        refine iteT ?_
        refine ⟨_, rfl, _, rfl, a, b, xs, ys, rfl, .inl ⟨hs, hs', fun D hD => ?_⟩⟩
        refine lc_it (walk_zip rfl) (fun i H => Same H2 H ∧ H D = some (.lst (List.replicate i (V.bl true)))) ⟨same_upd hD, upd_same⟩ (fun i H _ p => ⟨same_l p.1 hs, same_l p.1 hs'⟩) ?_ (fun H' p => fin _ H' D p.1 p.2)
        intro i z H3 H4 hi p y
        obtain ⟨Tt, u, v, du, rfl, eT, pu, pv, h1, h2, h3, sm, eD⟩ := turn D xs ys ds hD ha ha' hdp hwd.1 hwd.2 i z H3 H4 hi p y
        refine ⟨Tt, [u, v], rfl, SqT.of eT, rfl, u, [v], rfl, v, [], rfl, rfl, rfl, ?_⟩
        exact ⟨_, rfl, _, rfl, body D i u v du H4 hD pu pv h1 h2 h3 sm eD⟩
    | @tup a xs ds hs ha =>
      cases dy2 with
      | @tup b ys _ hs' ha' =>
        have hdp : depAll ds < n := by
          rw [dep] at hn
          omega
        have hwd : widAll ds ≤ 100000 ∧ ds.length ≤ 100000 := by
          rw [wid] at hw
          omega
        have lx := ha.length
        have ly := ha'.length
        have el : decide (V.int ((xs.length : Nat) : Int) = V.int ((ys.length : Nat) : Int)) = true := by
          rw [lx, ly]
          exact decide_eq_true rfl
        refine ⟨_, rfl, _, _, rfl, .inr ⟨xs, hs, rfl⟩, _, rfl, _, _, rfl, .inr ⟨ys, hs', rfl⟩, rfl, _, rfl, ?_⟩
        rw [el]
        refine iteT ?_
        refine ⟨_, rfl, _, rfl, a, b, xs, ys, rfl, .inr ⟨hs, hs', fun D hD => ?_⟩⟩
        refine lc_it (walk_zipT rfl) (fun i H => Same H2 H ∧ H D = some (.lst (List.replicate i (V.bl true)))) ⟨same_upd hD, upd_same⟩ (fun i H _ p => ⟨same_t p.1 hs, same_t p.1 hs'⟩) ?_ (fun H' p => fin _ H' D p.1 p.2)
        intro i z H3 H4 hi p y
        obtain ⟨Tt, u, v, du, rfl, eT, pu, pv, h1, h2, h3, sm, eD⟩ := turn D xs ys ds hD ha ha' hdp hwd.1 hwd.2 i z H3 H4 hi p y
        refine ⟨Tt, [u, v], rfl, SqT.of eT, rfl, u, [v], rfl, v, [], rfl, rfl, rfl, ?_⟩
        exact ⟨_, rfl, _, rfl, body D i u v du H4 hD pu pv h1 h2 h3 sm eD⟩
    | non => exact absurd c1 (by decide)
    | bl b => exact absurd c1 (by decide : ¬ (isTn "list" "bool" || isTn "tuple" "bool") = true)
    | int i => exact absurd c1 (by decide : ¬ (isTn "list" "int" || isTn "tuple" "int") = true)
    | str x => exact absurd c1 (by decide : ¬ (isTn "list" "str" || isTn "tuple" "str") = true)
  · generalize upd H p (.tup clsLT) = H2 at s1
    have dx2 := Dp.mono s1 dx
    have dy2 := Dp.mono s1 dy
    cases dx2 with
    | lst hs ha => exact absurd rfl c1
    | tup hs ha => exact absurd rfl c1
    | non =>
      cases dy2
      refine ⟨_, rfl, rfl, _, rfl, ?_⟩
      refine iteT ?_
      exact ⟨_, rfl, rfl, k _ s1⟩
    | bl b =>
      cases dy2
      refine ⟨_, rfl, rfl, _, rfl, ?_⟩
      refine iteF ?_
      -- isinstance(.., bool), isinstance(.., int)
      refine ⟨_, rfl, _, _, _, _, _, rfl, .ty _, .base (.bl b), (kd (.bool b)).2.2.1, _, rfl, _, _, _, _, _, rfl, .ty _, .base (.bl b), (kd (.bool b)).2.2.1, rfl, _, rfl, ?_⟩
      refine iteNS rfl ?_
      refine ⟨_, rfl, _, _, _, _, _, rfl, .ty _, .base (.bl b), (kd (.bool b)).2.2.2.1, _, rfl, _, _, _, _, _, rfl, .ty _, .base (.bl b), (kd (.bool b)).2.2.2.1, rfl, _, rfl, ?_⟩
      refine iteNS rfl ?_
      refine ⟨_, rfl, _, _, _, _, _, rfl, .ty _, .base (.bl b), (kd (.bool b)).2.2.2.2, _, rfl, _, _, _, _, _, rfl, .ty _, .base (.bl b), (kd (.bool b)).2.2.2.2, rfl, _, rfl, ?_⟩
      rw [decide_eq_true rfl]
      refine iteT ?_
      refine ⟨_, rfl, _, rfl, rfl, ?_⟩
      rw [decide_eq_true rfl]
      exact k _ s1
    | int b =>
      cases dy2
      refine ⟨_, rfl, rfl, _, rfl, ?_⟩
      refine iteF ?_
      -- isinstance(.., bool), isinstance(.., int)
      refine ⟨_, rfl, _, _, _, _, _, rfl, .ty _, .base (.int b), (kd (.int b)).2.2.1, _, rfl, _, _, _, _, _, rfl, .ty _, .base (.int b), (kd (.int b)).2.2.1, rfl, _, rfl, ?_⟩
      refine iteNS rfl ?_
      refine ⟨_, rfl, _, _, _, _, _, rfl, .ty _, .base (.int b), (kd (.int b)).2.2.2.1, _, rfl, _, _, _, _, _, rfl, .ty _, .base (.int b), (kd (.int b)).2.2.2.1, rfl, _, rfl, ?_⟩
      refine iteNS rfl ?_
      refine ⟨_, rfl, _, _, _, _, _, rfl, .ty _, .base (.int b), (kd (.int b)).2.2.2.2, _, rfl, _, _, _, _, _, rfl, .ty _, .base (.int b), (kd (.int b)).2.2.2.2, rfl, _, rfl, ?_⟩
      rw [decide_eq_true rfl]
      refine iteT ?_
      refine ⟨_, rfl, _, rfl, rfl, ?_⟩
      rw [decide_eq_true rfl]
      exact k _ s1
    | str b =>
      cases dy2
      refine ⟨_, rfl, rfl, _, rfl, ?_⟩
      refine iteF ?_
      -- isinstance(.., bool), isinstance(.., int)
      refine ⟨_, rfl, _, _, _, _, _, rfl, .ty _, .base (.str b), (kd (.str b)).2.2.1, _, rfl, _, _, _, _, _, rfl, .ty _, .base (.str b), (kd (.str b)).2.2.1, rfl, _, rfl, ?_⟩
      refine iteNS rfl ?_
      refine ⟨_, rfl, _, _, _, _, _, rfl, .ty _, .base (.str b), (kd (.str b)).2.2.2.1, _, rfl, _, _, _, _, _, rfl, .ty _, .base (.str b), (kd (.str b)).2.2.2.1, rfl, _, rfl, ?_⟩
      refine iteNS rfl ?_
      refine ⟨_, rfl, _, _, _, _, _, rfl, .ty _, .base (.str b), (kd (.str b)).2.2.2.2, _, rfl, _, _, _, _, _, rfl, .ty _, .base (.str b), (kd (.str b)).2.2.2.2, rfl, _, rfl, ?_⟩
      rw [decide_eq_true rfl]
      refine iteT ?_
      refine ⟨_, rfl, _, rfl, rfl, ?_⟩
      rw [decide_eq_true rfl]
      exact k _ s1
theorem same_all (T : Txt K mg) : ∀ n, FnOk P w K mg base CX0 n T.a_law_same T.d_law_same ["_law_found", "_law_due"] (spSame K n)
  | 0 => by
    have no : ∀ vs H Q E, ¬ spSame K 0 vs H Q E := fun vs H Q E h => by
      obtain ⟨x, y, d, _, _, _, h, _⟩ := h
      omega
    exact ⟨fun vs H Q E h => absurd h (no vs H Q E), fun A outer s H args us vs Q E _ _ _ _ h => absurd h (no vs H Q E)⟩
  | n + 1 => same_step T n (same_all T n)
theorem ok_law_same (T : Txt K mg) : FnOk P w K mg base CX0 12 T.a_law_same T.d_law_same ["_law_found", "_law_due"] (spSame K 12) := same_all T 12
theorem ok_common_part (T : Txt K mg) : FnOk P w K mg base CX0 1 T.a_common_part T.d_common_part ["one", "other"] spGcd := by
  refine T.F_common_part.ok sc_common_part (fun vs H Q E h => ?_) (fun cdv A outer s H vs Q E hr h => ?_)
  · obtain ⟨n, b, rfl, _⟩ := h
    rfl
  obtain ⟨a, b, rfl, k⟩ := h
  refine ⟨_, (pss_cons (ps_par (i := 0) (j := 1) (by rfl) sc_common_part.nd rfl rfl (by decide) rfl rfl (pa_cons (pe_callB call_abs (by rfl) T.z_abs (by decide +kernel) (pa_cons (pv 0) pa_nil)) (pa_cons (pe_callB call_abs (by rfl) T.z_abs (by decide +kernel) (pa_cons (pv 1) pa_nil)) pa_nil)) (by rfl))
      (pss_cons (ps_while PassesOwn.never (pt_cmpR op_gt (pv 1) pe_int (nomark _)) (pss_one (ps_par (i := 0) (j := 1) (by rfl) sc_common_part.nd rfl rfl (by decide) rfl rfl (pa_cons (pv 1) (pa_cons (pe_op op_mod (pv 0) (pv 1)) pa_nil)) (by rfl))))
      (pss_one (ps_ret (pv 0))))), ?_⟩
  refine ⟨_, rfl, _, rfl, _, rfl, _, rfl, _, _, rfl, ?_⟩
  refine while_by (fun σ H' => H' = H ∧ ∃ (m n : Int), σ = [some (.int m), some (.int n)] ∧ 0 ≤ m ∧ 0 ≤ n ∧ Int.gcd m n = Int.gcd a b) (fun σ _ => match σ with | _ :: some (.int m) :: _ => m.toNat | _ => 0) ⟨rfl, _, _, rfl, by split <;> omega, by split <;> omega, gcd_abs a b⟩ ?_ ?_
  · rintro σ H1 ⟨rfl, m, n, rfl, hm, hn, e⟩
    refine ⟨_, rfl, _, _, rfl, rfl, _, rfl, ?_⟩
    refine ite2 (fun t => ?_) (fun t => ?_)
    · have t' : (0 : Int) < n := of_decide_eq_true t
      refine ⟨_, rfl, _, rfl, _, rfl, _, _, rfl, rfl, t', _, _, rfl, ?_⟩
      refine ⟨⟨rfl, n, m % n, rfl, hn, Int.emod_nonneg _ (by omega), by rw [gcd_step hm t', e]⟩, ?_⟩
      have := Int.emod_lt_of_pos m t'
      have := Int.emod_nonneg m (show n ≠ 0 by omega)
      show (m % n).toNat < n.toNat
      omega
    · have t' : ¬ (0 : Int) < n := fun z => t (decide_eq_true z)
      have e0 : n = 0 := by omega
      subst e0
      refine ⟨_, rfl, ?_⟩
      rw [← e, Int.gcd_zero_right, show ((m.natAbs : Nat) : Int) = m by omega] at k
      exact k
  · rintro σ H Q Q' hQ ⟨v, e1, i, j, e3, e4, kk, e5, q⟩
    exact ⟨v, e1, i, j, e3, e4, kk, e5, hQ _ _ q⟩
theorem ok_lowest (T : Txt K mg) : FnOk P w K mg base CX0 2 T.a_lowest T.d_lowest ["over", "under"] spLowest := by
  refine T.F_lowest.ok sc_lowest (fun vs H Q E h => ?_) (fun cdv A outer s H vs Q E hr h => ?_)
  · obtain ⟨n, b, rfl, _⟩ := h
    rfl
  obtain ⟨o, u, rfl, h0, h1, k⟩ := h
  refine ⟨_, (pss_cons (ps_set (i := 2) sc_lowest.nd rfl (Or.inl rfl) (pe_call (ok_common_part T) (hr.mono (by decide)) (by rfl) T.g_common_part T.F_common_part.kp T.b_common_part .nil pass0 (pa_cons (pv 0) (pa_cons (pv 1) pa_nil))))
      (pss_cons (ps_if (pt_cmpR op_lt (pv 1) pe_int (nomark _)) (pss_one (ps_set (i := 2) sc_lowest.nd rfl (Or.inl rfl) (pe_op op_sub pe_int (pv 2)))) pss_nil)
      (pss_one (ps_ret (pe_tup (pa_cons (pe_op op_fdivW (pv 0) (pv 2)) (pa_cons (pe_op op_fdivW (pv 1) (pv 2)) pa_nil))))))), ?_⟩
  obtain ⟨g0, g1⟩ := gcd_le (o := o) h0
  have cw : CDivW 0 (Int.gcd o u : Nat) := log_small (k := 8000) g0 (Int.lt_of_le_of_lt g1 h1) (by decide) (by decide)
  refine ⟨_, rfl, _, rfl, o, u, rfl, ?_⟩
  refine ⟨_, rfl, _, _, rfl, rfl, _, rfl, ?_⟩
  rw [decide_eq_false (show ¬ u < 0 by omega)]
  refine iteF ?_
  refine ⟨_, rfl, _, rfl, _, _, rfl, rfl, cw, _, rfl, _, rfl, _, _, rfl, rfl, cw, by show 2 ≤ sizeLine; decide, fun p hp => ?_⟩
  exact k p hp
def spSumTwo (K : PySem.W.Frag) : Sp := fun vs H Q _ => ∃ (x y : V) (p q : Prt), vs = [x, y] ∧ Dp K H x (partD p) ∧ Dp K H y (partD q) ∧ 0 < p.2 ∧ 0 < q.2 ∧ p.2 * q.2 < 2 ^ 8000 ∧ CMulW p.1 q.2 ∧ CMulW q.1 p.2 ∧ CMulW p.2 q.2 ∧
  ∀ (v : V) (H' : Hp), Same H H' → Dp K H' v (partD (sumL p q)) → Q v H'
theorem ok_sum_of_two (T : Txt K mg) : FnOk P w K mg base CX0 3 T.a_sum_of_two T.d_sum_of_two ["one", "other"] (spSumTwo K) := by
  refine T.F_sum_of_two.ok sc_sum_of_two (fun vs H Q E h => ?_) (fun cdv A outer s H vs Q E hr h => ?_)
  · obtain ⟨x, y, p, q, rfl, _⟩ := h
    rfl
  obtain ⟨x, y, p, q, rfl, dx, dy, p0, q0, hb, c1, c3, c2, k⟩ := h
  obtain ⟨a, x1, x2, rfl, ha, e1, e2⟩ := dx.tup2
  obtain ⟨b, y1, y2, rfl, hb', e3, e4⟩ := dy.tup2
  cases e1.int'
  cases e2.int'
  cases e3.int'
  cases e4.int'
  refine ⟨_, (pss_one (ps_ret (pe_call (ok_lowest T) (hr.mono (by decide)) (by rfl) T.g_lowest T.F_lowest.kp T.b_lowest .nil pass0 (pa_cons (pe_op op_add (pe_op op_mulW (pe_ix ix_tup (pv 0) pe_int (fun _ _ => rfl)) (pe_ix ix_tup (pv 1) pe_int (fun _ _ => rfl))) (pe_op op_mulW (pe_ix ix_tup (pv 1) pe_int (fun _ _ => rfl)) (pe_ix ix_tup (pv 0) pe_int (fun _ _ => rfl)))) (pa_cons (pe_op op_mulW (pe_ix ix_tup (pv 0) pe_int (fun _ _ => rfl)) (pe_ix ix_tup (pv 1) pe_int (fun _ _ => rfl))) pa_nil))))), ?_⟩
  have a0 : atI [V.int p.1, V.int p.2] 0 = some (.int p.1) := rfl
  have a1 : atI [V.int p.1, V.int p.2] 1 = some (.int p.2) := rfl
  have b0 : atI [V.int q.1, V.int q.2] 0 = some (.int q.1) := rfl
  have b1 : atI [V.int q.1, V.int q.2] 1 = some (.int q.2) := rfl
  refine ⟨_, rfl, a, _, _, _, rfl, rfl, ha, a0, _, rfl, b, _, _, _, rfl, rfl, hb', b1, _, _, rfl, rfl, c1, ?_⟩
  refine ⟨_, rfl, b, _, _, _, rfl, rfl, hb', b0, _, rfl, a, _, _, _, rfl, rfl, ha, a1, _, _, rfl, rfl, c3, _, _, rfl, rfl, ?_⟩
  refine ⟨_, rfl, a, _, _, _, rfl, rfl, ha, a1, _, rfl, b, _, _, _, rfl, rfl, hb', b1, _, _, rfl, rfl, c2, ?_⟩
  refine ⟨_, _, rfl, Int.mul_pos p0 q0, hb, fun r hr' => ?_⟩
  exact k _ _ (same_upd hr') (.tup (xs := [.int (sumL p q).1, .int (sumL p q).2]) (SqT.of upd_same) (.cons (.int _) (.cons (.int _) .nil)))
def spProduct (K : PySem.W.Frag) : Sp := fun vs H Q _ => ∃ (x y : V) (p q : Prt), vs = [x, y] ∧ Dp K H x (partD p) ∧ Dp K H y (partD q) ∧ 0 < p.2 ∧ 0 < q.2 ∧ p.2 * q.2 < 2 ^ 8000 ∧ CMulW p.1 q.1 ∧ CMulW p.2 q.2 ∧
  ∀ (v : V) (H' : Hp), Same H H' → Dp K H' v (partD (prodL p q)) → Q v H'
theorem ok_product (T : Txt K mg) : FnOk P w K mg base CX0 3 T.a_product T.d_product ["one", "other"] (spProduct K) := by
  refine T.F_product.ok sc_product (fun vs H Q E h => ?_) (fun cdv A outer s H vs Q E hr h => ?_)
  · obtain ⟨x, y, p, q, rfl, _⟩ := h
    rfl
  obtain ⟨x, y, p, q, rfl, dx, dy, p0, q0, hb, c1, c2, k⟩ := h
  obtain ⟨a, x1, x2, rfl, ha, e1, e2⟩ := dx.tup2
  obtain ⟨b, y1, y2, rfl, hb', e3, e4⟩ := dy.tup2
  cases e1.int'
  cases e2.int'
  cases e3.int'
  cases e4.int'
  refine ⟨_, (pss_one (ps_ret (pe_call (ok_lowest T) (hr.mono (by decide)) (by rfl) T.g_lowest T.F_lowest.kp T.b_lowest .nil pass0 (pa_cons (pe_op op_mulW (pe_ix ix_tup (pv 0) pe_int (fun _ _ => rfl)) (pe_ix ix_tup (pv 1) pe_int (fun _ _ => rfl))) (pa_cons (pe_op op_mulW (pe_ix ix_tup (pv 0) pe_int (fun _ _ => rfl)) (pe_ix ix_tup (pv 1) pe_int (fun _ _ => rfl))) pa_nil))))), ?_⟩
  refine ⟨_, rfl, a, _, _, _, rfl, rfl, ha, (rfl : atI [V.int p.1, V.int p.2] 0 = some (.int p.1)), _, rfl, b, _, _, _, rfl, rfl, hb', (rfl : atI [V.int q.1, V.int q.2] 0 = some (.int q.1)), _, _, rfl, rfl, c1, ?_⟩
  refine ⟨_, rfl, a, _, _, _, rfl, rfl, ha, (rfl : atI [V.int p.1, V.int p.2] 1 = some (.int p.2)), _, rfl, b, _, _, _, rfl, rfl, hb', (rfl : atI [V.int q.1, V.int q.2] 1 = some (.int q.2)), _, _, rfl, rfl, c2, ?_⟩
  refine ⟨_, _, rfl, Int.mul_pos p0 q0, hb, fun r hr' => ?_⟩
  exact k _ _ (same_upd hr') (.tup (xs := [.int (prodL p q).1, .int (prodL p q).2]) (SqT.of upd_same) (.cons (.int _) (.cons (.int _) .nil)))
theorem ok_raised (T : Txt K mg) : FnOk P w K mg base CX0 1 T.a_raised T.d_raised ["base", "power"] spRaised := by
  refine T.F_raised.ok sc_raised (fun vs H Q E h => ?_) (fun cdv A outer s H vs Q E hr h => ?_)
  · obtain ⟨b, p, m, rfl, _⟩ := h
    rfl
  obtain ⟨b, p, m, rfl, hb, h0, h1, k⟩ := h
  refine ⟨_, (pss_cons (ps_set (i := 2) sc_raised.nd rfl (Or.inl rfl) pe_int)
      (pss_cons (ps_for PassesOwn.never rfl (pi_range1 (by rfl) T.z_range (pa_cons (pv 1) pa_nil)) (pg_name (i := 3) sc_raised.nd rfl (Or.inl rfl)) (pss_one (ps_aug (i := 2) sc_raised.nd rfl (Or.inl rfl) (pv 0) ip_mulW)))
      (pss_one (ps_ret (pv 2))))), ?_⟩
  have hp := raised_small h0 h1
  refine ⟨_, rfl, p, rfl, by omega, by omega, for_it walk_range (fun i σ H' => H' = H ∧ ∃ t, σ = [some (.int b), some (.int p), some (.int (b ^ i)), t]) ⟨rfl, none, by rw [Int.pow_zero]; rfl⟩ (fun _ _ _ _ _ => trivial) ?_ ?_⟩
  · rintro i x σ H1 H2 hi ⟨rfl, t, rfl⟩ ⟨rfl, rfl⟩
    refine ⟨_, rfl, _, rfl, _, _, rfl, rfl, raised_ok hb h0 h1 (by omega), rfl, some (.int ((0 : Int) + i)), ?_⟩
    rw [Int.pow_succ]
    rfl
  · rintro σ H1 ⟨rfl, t, rfl⟩
    exact ⟨_, rfl, k⟩
/-- the dict of worths {n: size, #: figures} -/
def valsK (sz bl : Int) : List (L2.Key × V) := [(Sum.inr (Str.ofString "n"), .int sz), (Sum.inr (Str.ofString "#"), .int bl)]
def spWorthOf (P : Program) (w : World) (K : PySem.W.Frag) : Sp := fun vs H Q _ => ∃ (d vd : Addr) (ts : List Trm) (sz bl : Int), vs = [.ref d, .ref vd] ∧ PolyAt P w H d ts ∧ H vd = some (.dK (valsK sz bl)) ∧ sz.natAbs < 2 ^ 110 ∧ bl.natAbs < 2 ^ 110 ∧ (∀ t ∈ ts, TSz t) ∧ ts.length ≤ 10 ∧
  ∀ (v : V) (H' : Hp), Same H H' → Dp K H' v (partD (worthL sz bl ts)) → Q v H'
theorem vals_at (sz bl : Int) {nm : Str} (h : nm = "#" ∨ nm = "n") : valV (valsK sz bl) (Sum.inr nm) = some (.int (valOf sz bl nm)) := by
  rcases h with rfl | rfl
  · rfl
  · rfl
theorem ok_worth_of (T : Txt K mg) : FnOk P w K mg base CX0 4 T.a_worth_of T.d_worth_of ["poly", "values"] (spWorthOf P w K) := by
  refine T.F_worth_of.ok sc_worth_of (fun vs H Q E h => ?_) (fun cdv A outer s H vs Q E hr h => ?_)
  · obtain ⟨d, vd, ts, sz, bl, rfl, _⟩ := h
    rfl
  obtain ⟨d, vd, ts, sz, bl, rfl, ⟨kvs, nd, pr⟩, ev, b1, b2, ht, hl, k⟩ := h
  refine ⟨_, (pss_cons (ps_set (i := 2) sc_worth_of.nd rfl (Or.inl rfl) (pe_glob rfl T.m_NOUGHT T.r_NOUGHT))
      (pss_cons (ps_for PassesOwn.never rfl (pi_nd (pv 0)) (pg_name (i := 3) sc_worth_of.nd rfl (Or.inl rfl)) (pss_cons (ps_set (i := 4) sc_worth_of.nd rfl (Or.inl rfl) (pe_nget hr.units (pv 0) (pv 3) (fun _ _ => rfl)))
      (pss_cons (ps_for PassesOwn.never rfl (pi_tup (pv 3)) (pg_tup rfl (pgs_cons (pg_name (i := 5) sc_worth_of.nd rfl (Or.inl rfl)) (pgs_cons (pg_name (i := 6) sc_worth_of.nd rfl (Or.inl rfl)) pgs_nil))) (pss_one (ps_set (i := 4) sc_worth_of.nd rfl (Or.inl rfl) (pe_call (ok_product T) (hr.mono (by decide)) (by rfl) T.g_product T.F_product.kp T.b_product .nil pass0 (pa_cons (pv 4) (pa_cons (pe_tup (pa_cons (pe_call (ok_raised T) (hr.mono (by decide)) (by rfl) T.g_raised T.F_raised.kp T.b_raised .nil pass0 (pa_cons (pe_dget (hu_of hr) (pv 1) (pv 5) (fun _ _ => rfl)) (pa_cons (pv 6) pa_nil))) (pa_cons pe_int pa_nil))) pa_nil))))))
      (pss_one (ps_set (i := 2) sc_worth_of.nd rfl (Or.inl rfl) (pe_call (ok_sum_of_two T) (hr.mono (by decide)) (by rfl) T.g_sum_of_two T.F_sum_of_two.kp T.b_sum_of_two .nil pass0 (pa_cons (pv 2) (pa_cons (pv 4) pa_nil))))))))
      (pss_one (ps_ret (pv 2))))), ?_⟩
  have lk : kvs.length = ts.length := Paired.length pr
  have ht4 : ∀ t ∈ ts, 0 ≤ t.1.1 ∧ 0 ≤ t.1.2 ∧ 0 < t.2.2 ∧ Int.gcd t.2.1 t.2.2 = 1 := fun t h => ⟨(ht t h).p0, (ht t h).f0, (ht t h).u0, (ht t h).low⟩
  have accEq : ∀ i, worthL sz bl (ts.take i) = lowL (rawL sz bl (ts.take i)).1 (rawL sz bl (ts.take i)).2 := fun i => worthL_eq fun t h => ht4 t (List.mem_of_mem_take h)
  refine ⟨_, rfl, d, kvs, rfl, nd, fun φ eφ => for_it walk_nd (fun i σ H' => Same H H' ∧ ∃ x v3 v4 v5 v6, Dp K H' x (partD (worthL sz bl (ts.take i))) ∧ σ = [some (.ref d), some (.ref vd), some x, v3, v4, v5, v6]) ?_ (fun i σ H' _ p => p.1 _ _ eφ) ?_ ?_⟩
  · exact ⟨Same.refl _, _, _, _, _, _, .tup (T.q_NOUGHT H) (.cons (.int _) (.cons (.int _) .nil)), rfl⟩
  · rintro i x σ H1 H2 hi ⟨s2, acc, v3, v4, v5, v6, da, rfl⟩ ⟨rfl, key, ka, xv, hkv, rfl⟩
    obtain ⟨t, hti, e1, pt, e2, e3⟩ := prel_get pr hkv
    have e1 : key = keyN t.1 := e1
    have e2 : xv = .ref pt := e2
    subst e1 e2
    have tz := ht t (List.mem_of_getElem? hti)
    have nk := (nd.keys _ (List.mem_of_getElem? hkv)).1
    have hav := atN_get nd.nodup hkv
    have nd2 := nd.mono s2
    have nk2 := NK.mono (fun b xs e => s2 _ _ e) _ _ nk
    refine ⟨_, rfl, _, rfl, d, ka, kvs, keyN t.1, _, rfl, rfl, nd2, nk2, keyN_depth _, hav, ?_⟩
    obtain ⟨items, hitems, hnks⟩ : ∃ items, H2 ka = some (.tup items) ∧ NKs H2 (keyL t.1) items := by
      cases nk2 with
      | tup a b => exact ⟨_, a, b⟩
    rw [keyL_eq] at hnks
    have li : items.length = (keyP t.1).length := by
      have := nks_len hnks
      rw [List.length_map] at this
      exact this
    have part0 : Dp K H2 (.ref pt) (partD t.2) := .tup (SqT.of (s2 _ _ e3)) (.cons (.int _) (.cons (.int _) .nil))
    have pEq : ∀ j, ((keyP t.1).take j).foldl (stepP sz bl) t.2 = lowL (((keyP t.1).take j).foldl (stepI sz bl) t.2.1) t.2.2 := fun j => by
      have := foldP_low (sz := sz) (bl := bl) tz.u0 ((keyP t.1).take j) t.2.1
      rw [lowL_self tz.u0 tz.low] at this
      exact this
    have kl := keyP_len t.1
    have kb := keyP_le (k := t.1) tz.p1 tz.f1
    refine ⟨_, rfl, ka, rfl, ⟨_, SqT.of hitems⟩, for_it (walk_tup (xs := items)) (fun j σ H' => Same H2 H' ∧ ∃ y v5 v6, Dp K H' y (partD (((keyP t.1).take j).foldl (stepP sz bl) t.2)) ∧ σ = [some (.ref d), some (.ref vd), some acc, some (.ref ka), some y, v5, v6]) ?_ (fun j σ H' _ p => SqT.of (p.1 _ _ hitems)) ?_ ?_⟩
    · exact ⟨Same.refl _, _, _, _, part0, rfl⟩
    · rintro j y σ H3 H4 hj ⟨s4, z, v5, v6, dz, rfl⟩ ⟨rfl, hy⟩
      obtain ⟨kx, bq, hkx, rfl, hbq⟩ := nks_at hnks hy
      obtain ⟨x0, x9, xn⟩ := kb kx (List.mem_of_getElem? hkx)
      refine ⟨bq, _, rfl, SqT.of (s4 _ _ hbq), rfl, _, _, rfl, _, _, rfl, rfl, ?_⟩
      have dg : DGet H4 vd (.str kx.1) (some (.int (valOf sz bl kx.1))) := by
        have := DGet.k (k := Sum.inr kx.1) (s4 _ _ (s2 _ _ ev))
        rw [vals_at sz bl xn] at this
        exact this
      have vb := val_b b1 b2 kx.1
      refine ⟨_, rfl, _, rfl, _, rfl, vd, _, rfl, dg, _, rfl, valOf sz bl kx.1, kx.2.toNat, 110, by rw [show ((kx.2.toNat : Nat) : Int) = kx.2 by omega]; rfl, vb, by decide, by omega, ?_⟩
      refine ⟨by show 2 ≤ sizeLine; decide, fun q hq => ?_⟩
      have sq := same_upd (o := .tup [.int (valOf sz bl kx.1 ^ kx.2.toNat), .int 1]) hq
      have fb := foldI_b b1 b2 ((keyP t.1).take j) t.2.1 200 tz.o1 (fun x hx => (kb x (List.mem_of_mem_take hx)).2.1)
      have lj : ((keyP t.1).take j).length ≤ 2 := by
        rw [List.length_take]
        omega
      have ll := lowL_le (o := ((keyP t.1).take j).foldl (stepI sz bl) t.2.1) tz.u0
      rw [pEq j] at dz
      have u1 := tz.u1
      refine ⟨z, .ref q, _, (valOf sz bl kx.1 ^ kx.2.toNat, 1), rfl, dz.mono sq, .tup (xs := [.int (valOf sz bl kx.1 ^ kx.2.toNat), .int 1]) (SqT.of upd_same) (.cons (.int _) (.cons (.int _) .nil)), ll.2.1, (by show (0 : Int) < 1; decide), ?_, ?_, ?_, fun v H5 s5 dv => ?_⟩
      · show (lowL _ _).2 * 1 < 2 ^ 8000
        rw [Int.mul_one]
        exact Int.lt_of_le_of_lt (b := 2) (by omega) (by decide)
      · refine cmul_of (m := 200 + 1000 * 2) (n := 1000) (Nat.lt_of_le_of_lt ll.1 (Nat.lt_of_lt_of_le fb (Nat.pow_le_pow_right (by decide) (by omega)))) (pow_b vb (by omega)) (by decide) (by decide) (by decide)
      · refine cmul_of (m := 2) (n := 1) (by omega) (by show (1 : Int).natAbs < 2 ^ 1; decide) (by decide) (by decide) (by decide)
      · refine ⟨s4.trans (sq.trans s5), v, _, _, ?_, rfl⟩
        rw [take_snoc hkx, List.foldl_append, pEq j]
        exact dv
    · rintro σ H3 ⟨s3, z, v5, v6, dz, rfl⟩
      have et : (keyP t.1).take items.length = keyP t.1 := by rw [li, List.take_length]
      rw [et] at dz
      have dz : Dp K H3 z (partD (partK sz bl t)) := dz
      have pk := partK_low (sz := sz) (bl := bl) tz.p0 tz.f0 tz.u0 tz.low
      have ll := lowL_le (o := numI sz bl t) tz.u0
      have nb := numI_b b1 b2 tz.o1 tz.p1 tz.f1
      have hi : i < kvs.length := hi
      obtain ⟨r1, r2, r3⟩ := raw_b (ts := ts) b1 b2 ht i (by omega)
      have la := lowL_le (o := (rawL sz bl (ts.take i)).1) r1
      rw [accEq i] at da
      rw [pk] at dz
      have u1 := tz.u1
      refine ⟨_, rfl, _, rfl, acc, z, _, _, rfl, da.mono s3, dz, la.2.1, ll.2.1, ?_, ?_, ?_, ?_, fun v H5 s5 dv => ?_⟩
      · have c1 : (lowL (rawL sz bl (ts.take i)).1 (rawL sz bl (ts.take i)).2).2.natAbs < 2 ^ 21 := Nat.lt_of_le_of_lt (m := (rawL sz bl (ts.take i)).2.natAbs) (by omega) (Nat.lt_of_lt_of_le r2 (Nat.pow_le_pow_right (by decide) (by omega)))
        have c2 : (lowL (numI sz bl t) t.2.2).2.natAbs < 2 ^ 2 := by omega
        have c3 := mul_b c1 c2
        have c4 : (2 : Nat) ^ (21 + 2) < 2 ^ 30 := by decide
        have c5 : ((2 : Int) ^ 30) < 2 ^ 8000 := by decide
        omega
      · exact cmul_of (m := 2300 + 10 * 10) (n := 2) (Nat.lt_of_le_of_lt la.1 (Nat.lt_of_lt_of_le r3 (Nat.pow_le_pow_right (by decide) (by omega)))) (by omega) (by decide) (by decide) (by decide)
      · exact cmul_of (m := 2200) (n := 21) (Nat.lt_of_le_of_lt ll.1 nb) (Nat.lt_of_le_of_lt (m := (rawL sz bl (ts.take i)).2.natAbs) (by omega) (Nat.lt_of_lt_of_le r2 (Nat.pow_le_pow_right (by decide) (by omega)))) (by decide) (by decide) (by decide)
      · exact cmul_of (m := 21) (n := 2) (Nat.lt_of_le_of_lt (m := (rawL sz bl (ts.take i)).2.natAbs) (by omega) (Nat.lt_of_lt_of_le r2 (Nat.pow_le_pow_right (by decide) (by omega)))) (by omega) (by decide) (by decide) (by decide)
      · refine ⟨s2.trans (s3.trans s5), v, _, _, _, _, ?_, rfl⟩
        rw [take_snoc hti]
        unfold worthL
        rw [List.foldl_append]
        show Dp K H5 v (partD (sumL (worthL sz bl (ts.take i)) (partK sz bl t)))
        rw [accEq i, pk]
        exact dv
  · rintro σ H1 ⟨s1, x, v3, v4, v5, v6, da, rfl⟩
    have et : ts.take kvs.length = ts := by rw [lk, List.take_length]
    rw [et] at da
    exact ⟨_, rfl, k x _ s1 da⟩
def spRowsWorth (P : Program) (w : World) (K : PySem.W.Frag) : Sp := fun vs H Q _ => ∃ (p : Addr) (us : List V) (S : List Rw) (sz : Int), vs = [.ref p, .int sz] ∧ H p = some (.lst us) ∧ RowsAt P w H us S ∧ sz.natAbs < 2 ^ 110 ∧ SumSz S ∧
  ∀ (v : V) (H' : Hp), Same H H' → Dp K H' v (partD (worthL sz (Builtin.Int.intBits sz : Nat) (termsAt S sz))) → Q v H'
theorem ok_rows_worth (T : Txt K mg) : FnOk P w K mg base CX0 5 T.a_rows_worth T.d_rows_worth ["rows", "size"] (spRowsWorth P w K) := by
  refine T.F_rows_worth.ok sc_rows_worth (fun vs H Q E h => ?_) (fun cdv A outer s H vs Q E hr h => ?_)
  · obtain ⟨p, us, S, sz, rfl, _⟩ := h
    rfl
  obtain ⟨p, us, S, sz, rfl, ep, ra, hz, ss, k⟩ := h
  refine ⟨_, (pss_cons (ps_set (i := 2) sc_rows_worth.nd rfl (Or.inl rfl) pe_dnewN)
      (pss_cons (ps_for PassesOwn.never rfl (pi_list (pv 0)) (pg_tup rfl (pgs_cons (pg_name (i := 3) sc_rows_worth.nd rfl (Or.inl rfl)) (pgs_cons (pg_name (i := 4) sc_rows_worth.nd rfl (Or.inl rfl)) pgs_nil))) (pss_one (ps_if (pt_cmpR op_le (pv 3) (pv 1) (nomark _)) (pss_one (ps_set (i := 2) sc_rows_worth.nd rfl (Or.inl rfl) (pv 4))) pss_nil)))
      (pss_one (ps_ret (pe_call (ok_worth_of T) (hr.mono (by decide)) (by rfl) T.g_worth_of T.F_worth_of.kp T.b_worth_of .nil pass0 (pa_cons (pv 2) (pa_cons (pe_disp (pps_cons (pe_glob rfl T.m_SIZE T.r_SIZE) (pv 1) (pps_cons (pe_glob rfl T.m_FIGURES T.r_FIGURES) (pe_bits (pv 1)) pps_nil)) (by rfl) (by rfl) (by simp) (by decide)) pa_nil))))))), ?_⟩
  have lS : us.length = S.length := Paired.length ra
  intro d0 φ hd0 nd0
  have s0 := same_upd (o := .ext φ) hd0
  refine ⟨_, rfl, p, rfl, ⟨_, SqL.of (s0 _ _ ep)⟩, for_it (walk_list (xs := us)) (fun i σ H' => Same H H' ∧ ∃ d v3 v4, PolyAt P w H' d (termsAt (S.take i) sz) ∧ σ = [some (.ref p), some (.int sz), some (.ref d), v3, v4]) ⟨s0, d0, _, _, ⟨[], nd0, .nil⟩, rfl⟩ (fun i σ H' _ q => SqL.of (q.1 _ _ ep)) ?_ ?_⟩
  · rintro i x σ H1 H2 hi ⟨s2, d, v3, v4, pa, rfl⟩ ⟨rfl, hx⟩
    obtain ⟨r, hr', a, dd, rfl, ea, pd⟩ := rows_get ra hx
    refine ⟨a, _, rfl, SqT.of (s2 _ _ ea), rfl, _, _, rfl, _, _, rfl, rfl, ?_⟩
    refine ⟨_, rfl, _, rfl, _, _, rfl, rfl, _, rfl, ?_⟩
    refine ite2 (fun c => ?_) (fun c => ?_)
    · have c' : r.1 ≤ sz := of_decide_eq_true c
      refine ⟨_, rfl, s2, dd, _, _, ?_, rfl⟩
      rw [termsAt_snoc hr', if_pos c']
      exact pd.mono s2
    · have c' : ¬ r.1 ≤ sz := fun z => c (decide_eq_true z)
      refine ⟨s2, d, _, _, ?_, rfl⟩
      rw [termsAt_snoc hr', if_neg c']
      exact pa
  · rintro σ H1 ⟨s1, d, v3, v4, pa, rfl⟩
    have et : S.take us.length = S := by rw [lS, List.take_length]
    rw [et] at pa
    refine ⟨_, rfl, fun vd hvd => ?_⟩
    have sv := same_upd (o := .dK []) hvd
    refine ⟨_, rfl, _, rfl, _, rfl, ?_⟩
    refine ⟨upd_same, valsK sz (Builtin.Int.intBits sz : Nat), rfl, (by show 2 ≤ 15; decide), ?_⟩
    have em : mergeK [] (valsK sz (Builtin.Int.intBits sz : Nat)) = valsK sz (Builtin.Int.intBits sz : Nat) := rfl
    rw [em]
    have sp := same_put (o := .dK (valsK sz (Builtin.Int.intBits sz : Nat))) sv hvd
    try unfold tNil
    refine ⟨d, vd, termsAt S sz, sz, _, rfl, pa.mono sp, upd_same, hz, bits_b hz, termsAt_ok (F := fun ts => ∀ t ∈ ts, TSz t) (fun _ h => nomatch h) fun r hr => (ss r hr).1, termsAt_ok (F := fun ts => ts.length ≤ 10) (by decide) fun r hr => (ss r hr).2, fun v H' s' dv => k v H' (s1.trans (sp.trans s')) dv⟩
def spReadRows (P : Program) (w : World) (K : PySem.W.Frag) : Sp := fun vs H Q _ => ∃ (v : V) (S : List Rw) (top deep wide : Int), vs = [v] ∧ Dp K H v (sumsD S) ∧ SumsOk top deep wide S ∧
  ∀ (p : Addr) (us : List V) (H' : Hp), Same H H' → H p = none → H' p = some (.lst us) → RowsAt P w H' us S → Q (.ref p) H'
theorem rep_int (x : V) (c : Prop) [Decidable c] : (List.replicate (if decide c = true then (1 : Int) else 0).toNat [x]).flatten = if c then [x] else [] := by
  by_cases h : c
  · simp [h]
  · simp [h]
theorem ok_read_rows (T : Txt K mg) : FnOk P w K mg base CX0 3 T.a_read_rows T.d_read_rows ["told"] (spReadRows P w K) := by
  refine T.F_read_rows.ok sc_read_rows (fun vs H Q E h => ?_) (fun cdv A outer s H vs Q E hr h => ?_)
  · obtain ⟨v, S, _, _, _, rfl, _⟩ := h
    rfl
  obtain ⟨v, S, top, deep, wide, rfl, dS, ok, k⟩ := h
  obtain ⟨a, us, rfl, hs, dA⟩ := dS.lst'
  have lS : us.length = S.length := by
    have := dA.length
    rw [List.length_map] at this
    exact this
  have l4 := ok.len
  refine ⟨_, (pss_cons (ps_set (i := 1) sc_read_rows.nd rfl (Or.inl rfl) (pe_lst pa_nil))
      (pss_cons (ps_for PassesOwn.never rfl (pi_list (pv 0)) (pg_tup rfl (pgs_cons (pg_name (i := 2) sc_read_rows.nd rfl (Or.inl rfl)) (pgs_cons (pg_name (i := 3) sc_read_rows.nd rfl (Or.inl rfl)) pgs_nil))) (pss_cons (ps_set (i := 4) sc_read_rows.nd rfl (Or.inl rfl) pe_dnewN)
      (pss_cons (ps_for PassesOwn.never rfl (pi_list (pv 3)) (pg_tup rfl (pgs_cons (pg_tup rfl (pgs_cons (pg_name (i := 5) sc_read_rows.nd rfl (Or.inl rfl)) (pgs_cons (pg_name (i := 6) sc_read_rows.nd rfl (Or.inl rfl)) pgs_nil))) (pgs_cons (pg_name (i := 7) sc_read_rows.nd rfl (Or.inl rfl)) pgs_nil))) (pss_cons (ps_set (i := 8) sc_read_rows.nd rfl (Or.inl rfl) (pe_op op_cat (pe_op op_rep (pe_lst (pa_cons (pe_tup (pa_cons (pe_glob rfl T.m_FIGURES T.r_FIGURES) (pa_cons (pv 6) pa_nil))) pa_nil)) (pe_callTy call_int1 (by rfl) T.z_int (by decide +kernel) (pa_cons (pe_cmpR op_gt (pv 6) pe_int (nomark _)) pa_nil))) (pe_op op_rep (pe_lst (pa_cons (pe_tup (pa_cons (pe_glob rfl T.m_SIZE T.r_SIZE) (pa_cons (pv 5) pa_nil))) pa_nil)) (pe_callTy call_int1 (by rfl) T.z_int (by decide +kernel) (pa_cons (pe_cmpR op_gt (pv 5) pe_int (nomark _)) pa_nil)))))
      (pss_one (ps_nput hr.units (pv 4) (pe_callTy call_tuple_of (by rfl) T.z_tuple (by decide +kernel) (pa_cons (pv 8) pa_nil)) (pe_call (ok_lowest T) (hr.mono (by decide)) (by rfl) T.g_lowest T.F_lowest.kp T.b_lowest .nil pass0 (pa_cons (pe_ix ix_tup (pv 7) pe_int (fun _ _ => rfl)) (pa_cons (pe_ix ix_tup (pv 7) pe_int (fun _ _ => rfl)) pa_nil))) rfl))))
      (pss_one (ps_expr (pe_bm PySem.F.plainAttrs_list PySem.F.slot_list_append PySem.F.type_list_append mt_append (pv 1) (pa_cons (pe_tup (pa_cons (pv 2) (pa_cons (pv 4) pa_nil))) pa_nil)))))))
      (pss_one (ps_ret (pv 1))))), ?_⟩
  refine ⟨by show 0 ≤ sizeLine; decide, fun L hL => ?_⟩
  refine ⟨_, rfl, a, rfl, ⟨_, same_l (same_upd hL) hs⟩, for_it (walk_list (xs := us)) (fun i σ H' => Same H H' ∧ (∃ rs, H' L = some (.lst rs) ∧ rs.length = i ∧ RowsAt P w H' rs (S.take i)) ∧ ∃ v2 v3 v4 v5 v6 v7 v8, σ = [some (.ref a), some (.ref L), v2, v3, v4, v5, v6, v7, v8]) ?_ ?_ ?_ ?_⟩
  · exact ⟨same_upd hL, ⟨[], upd_same, rfl, .nil⟩, _, _, _, _, _, _, _, rfl⟩
  · rintro i σ H5 _ ⟨s5, _⟩
    exact same_l s5 hs
  · rintro i z σ H5 H6 hi ⟨s6, ⟨rs, eL, lr, ra⟩, v2, v3, v4, v5, v6, v7, v8, rfl⟩ ⟨rfl, hx⟩
    obtain ⟨r, hr', dr⟩ := DpAll.at_ dA hx
    obtain ⟨tok, r0, r1⟩ := ok.each r (List.mem_of_getElem? hr')
    obtain ⟨b, x1, x2, rfl, hb, d1, d2⟩ := dr.tup2
    cases d1.int'
    obtain ⟨c, ws, rfl, hc, dB⟩ := d2.lst'
    have lw : ws.length = r.2.length := by
      have := dB.length
      rw [List.length_map] at this
      exact this
    have l3 := tok.len
    refine ⟨b, _, rfl, same_t s6 hb, rfl, _, _, rfl, _, _, rfl, rfl, ?_⟩
    intro d φ hd nd0
    have sd := same_upd (o := .ext φ) hd
    refine ⟨_, rfl, c, rfl, ⟨ws, same_l (s6.trans sd) hc⟩, for_it (walk_list (xs := ws)) (fun j σ H' => Same H6 H' ∧ PolyAt P w H' d (r.2.take j) ∧ ∃ v5 v6 v7 v8, σ = [some (.ref a), some (.ref L), some (.int r.1), some (.ref c), some (.ref d), v5, v6, v7, v8]) ?_ ?_ ?_ ?_⟩
    · exact ⟨sd, ⟨[], nd0, .nil⟩, _, _, _, _, rfl⟩
    · rintro j σ H7 _ ⟨s7, _⟩
      exact same_l (s6.trans s7) hc
    · rintro j z σ H7 H8 hj ⟨s8, pa, v5, v6, v7, v8, rfl⟩ ⟨rfl, hy⟩
      obtain ⟨t, ht, dt⟩ := DpAll.at_ dB hy
      have tk := tok.each t (List.mem_of_getElem? ht)
      obtain ⟨p, y1, y2, rfl, hp, e1, e2⟩ := dt.tup2
      obtain ⟨q, z1, z2, rfl, hq, e3, e4⟩ := e1.tup2
      obtain ⟨m, m1, m2, rfl, hm, e5, e6⟩ := e2.tup2
      cases e3.int'
      cases e4.int'
      cases e5.int'
      cases e6.int'
      have s68 := s6.trans s8
      refine ⟨p, _, rfl, same_t s68 hp, rfl, _, _, rfl, ⟨q, _, rfl, same_t s68 hq, rfl, _, _, rfl, _, _, rfl, rfl, _, _, rfl, rfl, ?_⟩⟩
      refine ⟨_, rfl, by show 2 ≤ sizeLine; decide, fun p1 hp1 => ⟨by show 1 ≤ sizeLine; decide, fun q1 hq1 => ?_⟩⟩
      have sA := (same_upd (o := .tup [.str "#", .int t.1.2]) hp1).trans (same_upd (o := .lst [.ref p1]) hq1)
      have bd : ∀ b : Bool, -(2 ^ 63) ≤ (if b = true then (1 : Int) else 0) ∧ (if b = true then (1 : Int) else 0) < 2 ^ 63 ∧ 1 * (if b = true then (1 : Int) else 0).toNat ≤ 16777216 := fun b => by cases b <;> decide
      refine ⟨_, rfl, _, _, rfl, rfl, .inr ⟨_, rfl, q1, _, _, rfl, rfl, upd_same, (bd _).1, (bd _).2.1, (bd _).2.2, fun l1 hl1 => ?_⟩⟩
      rw [rep_int (.ref p1) (0 < t.1.2)]
      have sB := sA.trans (same_upd (o := .lst (if 0 < t.1.2 then [.ref p1] else [])) hl1)
      refine ⟨_, rfl, by show 2 ≤ sizeLine; decide, fun p2 hp2 => ⟨by show 1 ≤ sizeLine; decide, fun q2 hq2 => ?_⟩⟩
      have sC := (same_upd (o := .tup [.str "n", .int t.1.1]) hp2).trans (same_upd (o := .lst [.ref p2]) hq2)
      refine ⟨_, rfl, _, _, rfl, rfl, .inr ⟨_, rfl, q2, _, _, rfl, rfl, upd_same, (bd _).1, (bd _).2.1, (bd _).2.2, fun l2 hl2 => ?_⟩⟩
      rw [rep_int (.ref p2) (0 < t.1.1)]
      have sD := sC.trans (same_upd (o := .lst (if 0 < t.1.1 then [.ref p2] else [])) hl2)
      refine ⟨l1, l2, _, _, rfl, rfl, sD _ _ upd_same, upd_same, ?_, fun l3 hl3 => ?_⟩
      · split <;> split <;> (show _ ≤ 16777216; simp)
      have sE := sD.trans (same_upd (o := .lst ((if 0 < t.1.2 then [V.ref p1] else []) ++ (if 0 < t.1.1 then [.ref p2] else []))) hl3)
      -- where the pairs stand
      have at1 : _ = some (HO.tup [.str "#", .int t.1.2]) := (same_upd (o := .lst (if 0 < t.1.2 then [.ref p1] else [])) hl1) _ _ ((same_upd (o := .lst [.ref p1]) hq1) _ _ (upd_same (H := H8) (a := p1) (o := .tup [.str "#", .int t.1.2])))
      have at1 := sE _ _ at1
      have at2 : _ = some (HO.tup [.str "n", .int t.1.1]) := (same_upd (o := .lst ((if 0 < t.1.2 then [V.ref p1] else []) ++ (if 0 < t.1.1 then [.ref p2] else []))) hl3) _ _ ((same_upd (o := .lst (if 0 < t.1.1 then [.ref p2] else [])) hl2) _ _ ((same_upd (o := .lst [.ref p2]) hq2) _ _ (upd_same (a := p2) (o := .tup [.str "n", .int t.1.1]))))
      have s8E := sB.trans sE
      have s9 := s68.trans s8E
      have hm9 := same_t s9 hm
      have lo : lowL t.2.1 t.2.2 = (t.2.1, t.2.2) := by
        unfold lowL
        rw [tk.low]
        simp
      have u2 := tk.u1
      refine ⟨_, rfl, m, _, _, _, rfl, rfl, hm9, (rfl : atI [V.int t.2.1, V.int t.2.2] 0 = some (.int t.2.1)), _, rfl, m, _, _, _, rfl, rfl, hm9, (rfl : atI [V.int t.2.1, V.int t.2.2] 1 = some (.int t.2.2)), ?_⟩
      refine ⟨t.2.1, t.2.2, rfl, tk.u0, Int.lt_of_le_of_lt u2 (by decide), fun pt hpt => ?_⟩
      rw [lo]
      have sF := same_upd (o := .tup [.int t.2.1, .int t.2.2]) hpt
      refine ⟨_, rfl, _, rfl, l3, (if 0 < t.1.2 then [V.ref p1] else []) ++ (if 0 < t.1.1 then [.ref p2] else []), rfl, .inl ⟨SqL.of (sF _ _ upd_same), fun kt hkt => ?_⟩⟩
      have sG := same_upd (o := .tup ((if 0 < t.1.2 then [V.ref p1] else []) ++ (if 0 < t.1.1 then [.ref p2] else []))) hkt
      have s8G := s8E.trans (sF.trans sG)
      obtain ⟨kvs, nd, pr⟩ := pa.mono s8G
      have nk : ∀ H10 : Hp, H10 kt = some (.tup ((if 0 < t.1.2 then [V.ref p1] else []) ++ (if 0 < t.1.1 then [.ref p2] else []))) → H10 p1 = some (.tup [.str "#", .int t.1.2]) → H10 p2 = some (.tup [.str "n", .int t.1.1]) → NK H10 (keyN t.1) (.ref kt) := fun H10 k0 k1 k2 => by
        refine .tup k0 ?_
        have n1 : NK H10 (.tup [.text "#", .num t.1.2]) (.ref p1) := .tup k1 (.cons (.str _) (.cons (.int _) .nil))
        have n2 : NK H10 (.tup [.text "n", .num t.1.1]) (.ref p2) := .tup k2 (.cons (.str _) (.cons (.int _) .nil))
        unfold keyL
        by_cases c1 : 0 < t.1.2 <;> by_cases c2 : 0 < t.1.1
        · simp only [c1, c2, if_true]
          exact .cons n1 (.cons n2 .nil)
        · simp only [c1, c2, if_true, if_false]
          exact .cons n1 .nil
        · simp only [c1, c2, if_true, if_false]
          exact .cons n2 .nil
        · simp only [c1, c2, if_false]
          exact .nil
      have ltk : (r.2.take j).length ≤ 3 := by
        rw [List.length_take]
        omega
      have lk : kvs.length = (r.2.take j).length := Paired.length pr
      refine ⟨d, kt, kvs, keyN t.1, rfl, rfl, nd, nk _ upd_same (sG _ _ (sF _ _ at1)) (sG _ _ (sF _ _ at2)), keyN_depth _, by omega, fun φ2 nd2 => ?_⟩
      have fresh : atN kvs (keyN t.1) = none := by
        refine atN_none ⟨tk.p0, tk.f0⟩ pr (fun t' ht' => ?_) ?_
        · have := tok.each t' (List.mem_of_mem_take ht')
          exact ⟨this.p0, this.f0⟩
        · intro hmem
          have nd1 := tok.nd
          have e := take_snoc ht
          have : ((r.2.take (j + 1)).map (·.1)).Nodup := by
            rw [List.map_take]
            exact nd1.sublist (List.take_sublist _ _)
          rw [e, List.map_append, List.nodup_append] at this
          exact this.2.2 _ hmem _ (List.mem_singleton.mpr rfl) rfl
      have ep : putN kvs (keyN t.1) kt (.ref pt) = kvs ++ [(keyN t.1, kt, .ref pt)] := by
        unfold putN
        rw [fresh]
        rfl
      rw [ep] at nd2
      have sH : Same H6 _ := same_put (o := .ext φ2) (s8.trans s8G) hd
      obtain ⟨ob, _, _, _, ed, _⟩ := nd.ex
      refine ⟨sH, ⟨_, nd2, ?_⟩, _, _, _, _, rfl⟩
      rw [take_snoc ht]
      refine paired_snoc (L2.Paired.mapP pr fun kv t' ⟨e1, pt', e2, e3⟩ => ⟨e1, pt', e2, ?_⟩) ⟨rfl, pt, rfl, ?_⟩
      · exact (upd_ne (L2.ne_of e3 ed (fun h => nomatch h))).trans e3
      · have ept := sG _ _ (upd_same (a := pt) (o := .tup [.int t.2.1, .int t.2.2]))
        exact (upd_ne (L2.ne_of ept ed (fun h => nomatch h))).trans ept
    · rintro σ H7 ⟨s7, pa, v5, v6, v7, v8, rfl⟩
      have et : r.2.take ws.length = r.2 := by rw [lw, List.take_length]
      rw [et] at pa
      have eL7 := s7 _ _ eL
      refine ⟨_, rfl, .inl ⟨rfl, _, SqL.of eL7⟩, _, rfl, _, rfl, by show 2 ≤ sizeLine; decide, fun q hq => ?_⟩
      have sq := same_upd (o := .tup [.int r.1, .ref d]) hq
      have eL8 := sq _ _ eL7
      refine ⟨L, _, _, rfl, rfl, eL8, small1000 (by rw [lr]; omega), ?_⟩
      have s67 := s7.trans sq
      refine ⟨same_put (s6.trans s67) hL, ⟨_, upd_same, by rw [List.length_append, lr]; rfl, ?_⟩, _, _, _, _, _, _, _, rfl⟩
      have kl := KeepL.put (ys := rs ++ [.ref q]) eL8
      rw [take_snoc hr']
      refine paired_snoc (ra.keep ((Same.keepL s67).trans kl)) ⟨q, d, rfl, kl _ _ upd_same (fun _ => nofun), (pa.mono sq).keep kl⟩
  · rintro σ H5 ⟨s5, ⟨rs, eL, lr, ra⟩, v2, v3, v4, v5, v6, v7, v8, rfl⟩
    have et : S.take us.length = S := by rw [lS, List.take_length]
    rw [et] at ra
    exact ⟨_, rfl, k L rs _ s5 hL eL ra⟩
theorem ok_worth (T : Txt K mg) : FnOk P w K mg base CX0 6 T.a_worth T.d_worth ["sums", "size"] (spWorth P w K) := by
  refine T.F_worth.ok sc_worth (fun vs H Q E h => ?_) (fun cdv A outer s H vs Q E hr h => ?_)
  · obtain ⟨p, S, sz, _, _, _, rfl, _⟩ := h
    rfl
  obtain ⟨x, S, sz, top, deep, wide, rfl, dS, ok, h1, h2, h3, hz, k⟩ := h
  refine ⟨_, (pss_one (ps_ret (pe_call (ok_rows_worth T) (hr.mono (by decide)) (by rfl) T.g_rows_worth T.F_rows_worth.kp T.b_rows_worth .nil pass0 (pa_cons (pe_call (ok_read_rows T) (hr.mono (by decide)) (by rfl) T.g_read_rows T.F_read_rows.kp T.b_read_rows .nil pass0 (pa_cons (pv 0) pa_nil)) (pa_cons (pv 1) pa_nil))))), ?_⟩
  refine ⟨_, rfl, x, S, top, deep, wide, rfl, dS, ok, fun p us H1 s1 np ep ra => ?_⟩
  refine ⟨_, rfl, p, us, S, sz, rfl, ep, ra, hz, sumSz_of h1 h2 h3 ok, fun v H2 s2 dv => k v H2 (s1.trans s2) dv⟩
def LV : Nat := 20
def spLaw (K : PySem.W.Frag) : Sp := fun vs H Q _ => ∃ (a : Addr) (ns : List Int), vs = [.ref a] ∧ SqL K H a (ns.map V.int) ∧ ns.length ≤ 63 ∧ ∀ H', Q (.bl true) H'
theorem rowD_at {H : Hp} {v : V} {r : Rw} (h : Dp K H v (rowD r)) : ∃ t x, v = .ref t ∧ SqT K H t [.int r.1, x] := by
  obtain ⟨t, x1, x2, e, hs, d1, _⟩ := h.tup2
  cases d1.int'
  exact ⟨t, x2, e, hs⟩
theorem ok_law (T : Txt K mg) : FnG P w K mg base CX0 LV T.a_law T.d_law ["_law_script"] (spLaw K) := by
  refine fnG_ok T.F_law sc_law (fun vs H Q E h => ?_) (fun cdv A outer s H vs Q E gd hr h => ?_)
  · obtain ⟨a, ns, rfl, _⟩ := h
    rfl
  obtain ⟨a, ns, rfl, hS, hl, k⟩ := h
  refine ⟨_, (pss_cons (ps_set (i := 1) sc_law.nd rfl (Or.inl rfl) (pe_call (ok_law_begin T) (hr.mono (by decide)) (by rfl) T.g_law_begin T.F_law_begin.kp T.b_law_begin .nil pass0 (pa_cons (pv 0) pa_nil)))
      (pss_cons (ps_for PassesOwn.never rfl (pi_range1 (by rfl) T.z_range (pa_cons pe_int pa_nil)) (pg_name (i := 2) sc_law.nd rfl (Or.inl rfl)) (pss_cons (ps_set (i := 3) sc_law.nd rfl (Or.inl rfl) (pe_call (ok_law_drawn_sums T) (hr.mono (by decide)) (by rfl) T.g_law_drawn_sums T.F_law_drawn_sums.kp T.b_law_drawn_sums .nil pass0 (pa_cons (pv 1) (pa_cons pe_int (pa_cons (pe_ix ix_list (pe_lst (pa_cons pe_int (pa_cons pe_int (pa_cons pe_int pa_nil)))) (pe_call (ok_law_take T) (hr.mono (by decide)) (by rfl) T.g_law_take T.F_law_take.kp T.b_law_take .nil pass0 (pa_cons (pv 1) (pa_cons pe_int pa_nil))) (fun _ _ => rfl)) (pa_cons (pe_ix ix_list (pe_lst (pa_cons pe_int (pa_cons pe_int (pa_cons (pe_op op_pow pe_int pe_int) pa_nil)))) (pe_call (ok_law_take T) (hr.mono (by decide)) (by rfl) T.g_law_take T.F_law_take.kp T.b_law_take .nil pass0 (pa_cons (pv 1) (pa_cons pe_int pa_nil))) (fun _ _ => rfl)) pa_nil))))))
      (pss_cons (ps_set (i := 4) sc_law.nd rfl (Or.inl rfl) (pe_callB (call_reprD gd (repr_room hr)) (by rfl) T.z_repr (by decide +kernel) (pa_cons (pv 3) pa_nil)))
      (pss_cons (ps_set (i := 5) sc_law.nd rfl (Or.inl rfl) (pe_op op_cat (pe_op op_cat (pe_lst (pa_cons pe_int (pa_cons pe_int (pa_cons (pe_call (ok_law_take T) (hr.mono (by decide)) (by rfl) T.g_law_take T.F_law_take.kp T.b_law_take .nil pass0 (pa_cons (pv 1) (pa_cons pe_int pa_nil))) (pa_cons (pe_call (ok_law_take T) (hr.mono (by decide)) (by rfl) T.g_law_take T.F_law_take.kp T.b_law_take .nil pass0 (pa_cons (pv 1) (pa_cons (pe_op op_pow pe_int pe_int) pa_nil))) pa_nil))))) (pe_lc (own := [("_law_row", 8)]) (g := gName 8) (tt := tYes) rfl sc_law.nd (pi_list (pv 3)) (blkOk_by (N := N_law) (sc := defScope s_law) (by decide +kernel)) (fun _ _ _ _ _ => (pg_name (i := 8) sc_law.nd rfl (Or.inl rfl))) (fun _ _ _ _ _ => pts_nil) (fun _ _ _ _ _ => (pe_ix (r := rIxT K) ix_tup (pv 8) pe_int (fun _ _ => rfl))))) (pe_lst (pa_cons (pe_op op_add (pe_ix ix_tup (pe_ix ix_list (pv 3) (pe_un un_neg pe_int) (fun _ _ => rfl)) pe_int (fun _ _ => rfl)) pe_int) pa_nil))))
      (pss_cons (ps_for PassesOwn.never rfl (pi_list (pv 5)) (pg_name (i := 6) sc_law.nd rfl (Or.inl rfl)) (pss_cons (ps_set (i := 7) sc_law.nd rfl (Or.inl rfl) (pe_call (ok_law_sums_at T) (hr.mono (by decide)) (by rfl) T.g_law_sums_at T.F_law_sums_at.kp T.b_law_sums_at .nil pass0 (pa_cons (pv 3) (pa_cons (pv 6) pa_nil))))
      (pss_one (ps_if (PW.pt (pw_or (pt_not (pt_val (pe_call (ok_law_same T) (hr.mono (by decide)) (by rfl) T.g_law_same T.F_law_same.kp T.b_law_same .nil pass0 (pa_cons (pe_lst (pa_cons (pe_call (ok_worth T) (hr.mono (by decide)) (by rfl) T.g_worth T.F_worth.kp T.b_worth .nil pass0 (pa_cons (pv 3) (pa_cons (pv 6) pa_nil))) pa_nil)) (pa_cons (pe_lst (pa_cons (pv 7) pa_nil)) pa_nil))))) (pw_or1 (pt_cmpR op_ne (pe_callB (call_reprD gd (repr_room hr)) (by rfl) T.z_repr (by decide +kernel) (pa_cons (pv 3) pa_nil)) (pv 4) (nomark _))))) (pss_one (ps_ret pe_bl)) pss_nil))))
      (pss_cons (ps_asg (pe_tup (pa_cons pe_int (pa_cons (pe_lst (pa_cons (pe_tup (pa_cons (pe_tup (pa_cons pe_int (pa_cons pe_int pa_nil))) (pa_cons (pe_tup (pa_cons pe_int (pa_cons pe_int pa_nil))) pa_nil))) pa_nil)) pa_nil))) (pg_sub (pv 3) pe_int set_list))
      (pss_one (ps_if (PW.pt (pw_and (pt_cmpR op_eq (pe_callB call_len_seq (by rfl) T.z_len (by decide +kernel) (pa_cons (pv 3) pa_nil)) pe_int (nomark _)) (pw_and1 (pt_not (pt_val (pe_call (ok_law_same T) (hr.mono (by decide)) (by rfl) T.g_law_same T.F_law_same.kp T.b_law_same .nil pass0 (pa_cons (pe_call (ok_worth T) (hr.mono (by decide)) (by rfl) T.g_worth T.F_worth.kp T.b_worth .nil pass0 (pa_cons (pv 3) (pa_cons pe_int pa_nil))) (pa_cons (pe_tup (pa_cons pe_int (pa_cons pe_int pa_nil))) pa_nil)))))))) (pss_one (ps_ret pe_bl)) pss_nil))))))))
      (pss_one (ps_ret pe_bl)))), ?_⟩
  refine ⟨_, rfl, a, ns, rfl, hS, hl, fun d l H1 nd _ s1 D1 => ?_⟩
  refine ⟨5, rfl, by decide, by decide, for_it walk_range (fun _ σ H => DrawAt H d l ∧ ∃ v2 v3 v4 v5 v6 v7 v8, σ = [some (.ref a), some (.ref d), v2, v3, v4, v5, v6, v7, v8]) ⟨D1, _, _, _, _, _, _, _, rfl⟩ (fun _ _ _ _ _ => trivial) ?_ ?_⟩
  · rintro i x σ H2 H3 hi ⟨D2, v2, v3, v4, v5, v6, v7, v8, rfl⟩ ⟨rfl, rfl⟩
    refine ⟨_, rfl, by show 3 ≤ sizeLine; decide, fun L0 hL0 => ?_⟩
    have D3 := D2.upd (o := .lst [.int 0, .int 3, .int 9]) hL0
    refine ⟨_, rfl, d, l, 3, rfl, D3, by decide, by decide, fun r0 H5 r00 r01 D5 b5 => ?_⟩
    have eL0 := b5 _ _ upd_same (D2.ned hL0)
    have at0 : ∀ n : Nat, (n : Int) < 3 → ∃ deep : Int, atI [V.int 0, V.int 3, V.int 9] (n : Int) = some (.int deep) ∧ 0 ≤ deep ∧ deep ≤ 9 := by
      intro n hn
      match n, hn with
      | 0, _ => exact ⟨0, rfl, by decide, by decide⟩
      | 1, _ => exact ⟨3, rfl, by decide, by decide⟩
      | 2, _ => exact ⟨9, rfl, by decide, by decide⟩
      | n + 3, e => omega
    obtain ⟨deep, hd, hd0, hd1⟩ := at0 r0.toNat (by omega)
    rw [show ((r0.toNat : Nat) : Int) = r0 by omega] at hd
    refine ⟨L0, _, _, _, rfl, rfl, SqL.of eL0, hd, ?_⟩
    have cp : CPow 10 29 := ⟨by decide, by decide, by decide⟩
    refine ⟨_, _, rfl, rfl, cp, by show 3 ≤ sizeLine; decide, fun L hL => ?_⟩
    have D6 := D5.upd (o := .lst [.int 9, .int 500, .int (10 ^ 29)]) hL
    refine ⟨_, rfl, d, l, 3, rfl, D6, by decide, by decide, fun r H7 r0 r1 D7 b7 => ?_⟩
    have eL := b7 _ _ upd_same (D5.ned hL)
    have at3 : ∀ n : Nat, (n : Int) < 3 → ∃ wide : Int, atI [V.int 9, V.int 500, V.int (10 ^ 29)] (n : Int) = some (.int wide) ∧ 0 < wide ∧ wide < 2 ^ 200 := by
      intro n hn
      match n, hn with
      | 0, _ => exact ⟨9, rfl, by decide, by decide⟩
      | 1, _ => exact ⟨500, rfl, by decide, by decide⟩
      | 2, _ => exact ⟨10 ^ 29, rfl, by decide, by decide⟩
      | n + 3, e => omega
    obtain ⟨wide, hw, hw0, hw1⟩ := at3 r.toNat (by omega)
    rw [show ((r.toNat : Nat) : Int) = r by omega] at hw
    refine ⟨L, _, _, _, rfl, rfl, SqL.of eL, hw, ?_⟩
    refine ⟨d, l, fun _ => none, 9, deep, wide, rfl, (fun _ _ h => nomatch h), rfl, D7, by decide, by decide, hd0, by omega, hw0, hw1, fun p us S G8 H8 g8 D8 np gp ep dp ok => ?_⟩
    have ss : Shows (sumsD S) := sums_shows (by decide) (Int.lt_of_le_of_lt hd1 (by decide)) (Int.lt_trans hw1 (by decide)) ok
    have lu : us.length = S.length := by
      have := dp.length
      rw [List.length_map] at this
      exact this
    have dpH : DpAll K H8 us (S.map rowD) := dp.mono g8.gh
    have pd : p ≠ d := D7.ned np
    have pl : p ≠ l := D7.nel np
    refine ⟨_, rfl, p, sumsD S, rfl, .lst (SqL.of ep) dpH, ss.showable, ss.hasDict, ss.depth, ss.len, ?_⟩
    refine ⟨_, rfl, d, l, 60, rfl, D8, by decide, by decide, fun t Ha t0 t1 Da ba => ?_⟩
    have cp30 : CPow 10 30 := ⟨by decide, by decide, by decide⟩
    refine ⟨_, rfl, _, _, rfl, rfl, cp30, d, l, 10 ^ 30, rfl, Da, by decide, by decide, fun u Hb u0 u1 Db bb => ?_⟩
    refine ⟨by show 4 ≤ sizeLine; decide, fun M hM => ?_⟩
    have bpb : ∀ c o, G8 c = some o → Hb c = some o := fun c o e => bb _ _ (ba _ _ (g8.gh _ _ e) (fun q => by
      rw [show c = d from q, g8.none rfl D7.cell] at e
      cases e)) (fun q => by
      rw [show c = d from q, g8.none rfl D7.cell] at e
      cases e)
    have epb : Hb p = some (.lst us) := bb _ _ (ba _ _ ep pd) pd
    have sM := same_upd (o := .lst [.int 0, .int 1, .int t, .int u]) hM
    have DM := Db.upd (o := .lst [.int 0, .int 1, .int t, .int u]) hM
    have eM : (upd Hb M (.lst [.int 0, .int 1, .int t, .int u])) M = _ := upd_same
    have epM := sM _ _ epb
    have dpM : DpAll K (upd Hb M (.lst [.int 0, .int 1, .int t, .int u])) us (S.map rowD) := dp.mono (fun c o e => sM _ _ (bpb _ _ e))
    generalize (upd Hb M (.lst [.int 0, .int 1, .int t, .int u])) = Hc at DM eM epM dpM ⊢
    refine ⟨_, rfl, p, rfl, ⟨_, SqL.of epM⟩, fun R hR => ?_⟩
    refine lc_pure (walk_list (xs := us)) (fun j => .int ((S.map (·.1)).getD j 0)) (by have := ok.len; omega) hR (fun H' sm => SqL.of (sm _ _ epM)) ?_ ?_
    · rintro j y H9 H10 Q' hj s9 ⟨rfl, hy⟩ kq
      obtain ⟨r', hr', dr⟩ := DpAll.at_ dpM hy
      obtain ⟨b, x2, rfl, hs⟩ := rowD_at dr
      rw [getD_of' (r := r'.1) (by rw [List.getElem?_map, hr']; rfl)] at kq
      refine ⟨rfl, ?_⟩
      exact ⟨_, rfl, b, _, _, _, rfl, rfl, same_t s9 hs, rfl, kq _ (Same.refl _)⟩
    intro Hd sd eR
    have eR : Hd R = some (.lst ((S.map (·.1)).map V.int)) := by
      rw [eR, lu, ← List.length_map (f := fun r : Rw => r.1)]
      show some (HO.lst ((List.range _).map (V.int ∘ fun j => (S.map (·.1)).getD j 0))) = _
      rw [← List.map_map, range_getD]
    have sc : (S.map fun r : Rw => r.1).length ≤ 4 := by rw [List.length_map]; exact ok.len
    refine ⟨_, _, _, _, rfl, rfl, sd _ _ eM, eR, (by show 4 + _ ≤ 16777216; rw [List.length_map]; omega), fun N hN => ?_⟩
    have sN := same_upd (o := .lst ([.int 0, .int 1, .int t, .int u] ++ (S.map (·.1)).map V.int)) hN
    obtain ⟨S', r1, rfl⟩ := snoc_of (n := S.length - 1) (l := S) (by
      obtain ⟨ts, r, e⟩ := ok.first
      rw [e]
      simp)
    obtain ⟨us', u1', rfl⟩ := snoc_of (n := us.length - 1) (l := us) (by
      rw [lu, List.length_append]
      simp)
    have dM2 := dpM.mono sd
    rw [List.map_append] at dM2
    obtain ⟨b, x2, rfl, hs1⟩ := rowD_at (DpAll.unsnoc dM2)
    have okr := (ok.each r1 (by simp)).2
    refine ⟨_, rfl, _, rfl, p, _, _, _, rfl, rfl, SqL.of (sN _ _ (sd _ _ epM)), atI_last _ _, b, _, _, _, rfl, rfl, same_t sN hs1, rfl, ?_⟩
    refine ⟨_, _, rfl, rfl, by show 1 ≤ sizeLine; decide, fun B hB => ?_⟩
    have sB := same_upd (o := .lst [.int (r1.1 + 1)]) hB
    refine ⟨_, _, _, _, rfl, rfl, sB _ _ upd_same, upd_same, (by rw [List.length_append, List.length_map]; show 4 + _ + 1 ≤ 16777216; omega), fun C hC => ?_⟩
    have sumEq : ([V.int 0, V.int 1, V.int t, V.int u] ++ List.map V.int (List.map (fun x : Rw => x.fst) (S' ++ [r1])) ++ [(fun i j : Int => V.int (i + j)) r1.fst 1]) = ([0, 1, t, u] ++ (S' ++ [r1]).map (fun x : Rw => x.1) ++ [r1.1 + 1]).map V.int := by
      generalize List.map (fun x : Rw => x.fst) (S' ++ [r1]) = q
      rw [List.map_append, List.map_append]
      rfl
    rw [sumEq]
    have zb : ∀ z ∈ ([0, 1, t, u] ++ (S' ++ [r1]).map (fun x : Rw => x.1) ++ [r1.1 + 1]), z.natAbs < 2 ^ 110 := by
      intro z hz
      have h36 : ∀ y ∈ (S' ++ [r1]).map (fun x : Rw => x.1), 0 ≤ y ∧ y ≤ 36 := by
        intro y hy
        obtain ⟨q, hq, rfl⟩ := List.mem_map.mp hy
        exact (ok.each q hq).2
      rcases List.mem_append.mp hz with hz | hz
      · rcases List.mem_append.mp hz with hz | hz
        · simp only [List.mem_cons, List.not_mem_nil, or_false] at hz
          have : (10 : Int) ^ 30 < 2 ^ 110 := by decide
          rcases hz with rfl | rfl | rfl | rfl <;> omega
        · have := h36 z hz
          omega
      · rw [List.mem_singleton.mp hz]
        omega
    generalize ([0, 1, t, u] ++ (S' ++ [r1]).map (fun x : Rw => x.1) ++ [r1.1 + 1]) = zs at zb ⊢
    have sC := same_upd (o := .lst (zs.map V.int)) hC
    have sAll := sd.trans (sN.trans (sB.trans sC))
    have eC : (upd (upd (upd Hd N (.lst ([V.int 0, V.int 1, V.int t, V.int u] ++ List.map V.int (List.map (fun x : Rw => x.fst) (S' ++ [r1]))))) B (.lst [.int (r1.1 + 1)])) C (.lst (zs.map V.int))) C = _ := upd_same
    have DC := DM.mono sAll
    have epC := sAll _ _ epM
    have dpC := dpM.mono sAll
    generalize (upd (upd (upd Hd N (.lst ([V.int 0, V.int 1, V.int t, V.int u] ++ List.map V.int (List.map (fun x : Rw => x.fst) (S' ++ [r1]))))) B (.lst [.int (r1.1 + 1)])) C (.lst (zs.map V.int))) = He at eC DC epC dpC ⊢
    have dvals : ∀ {Hq : Hp}, Same He Hq → Dp K Hq (.ref p) (sumsD (S' ++ [r1])) := fun sm => .lst (SqL.of (sm _ _ epC)) (dpC.mono sm)
    refine ⟨_, rfl, C, rfl, ⟨_, SqL.of eC⟩, for_it (walk_list (xs := zs.map V.int)) (fun j σ H' => Same He H' ∧ ∃ v2 v6 v7 v8, σ = [some (.ref a), some (.ref d), v2, some (.ref p), some (.str (sumsD (S' ++ [r1])).shown), some (.ref C), v6, v7, v8]) ⟨Same.refl _, _, _, _, _, rfl⟩ (fun j σ H' _ q => SqL.of (q.1 _ _ eC)) ?_ ?_⟩
    · rintro j y σ Hf Hg hj ⟨sf, v2, v6, v7, v8, rfl⟩ ⟨rfl, hy⟩
      obtain ⟨z, hz, rfl⟩ : ∃ z, z ∈ zs ∧ y = .int z := by
        rw [List.getElem?_map] at hy
        cases q : zs[j]? with
        | none => rw [q] at hy; cases hy
        | some z =>
          rw [q] at hy
          exact ⟨z, List.mem_of_getElem? q, (Option.some.inj hy).symm⟩
      refine ⟨_, rfl, _, rfl, .ref p, S' ++ [r1], z, 9, deep, wide, rfl, dvals sf, ok, by decide, hd1, hw1, zb z hz, fun v H' s9 dv => ?_⟩
      refine ⟨_, rfl, _, rfl, .ref p, S' ++ [r1], z, 9, deep, wide, rfl, dvals (sf.trans s9), ok, by decide, hd1, hw1, zb z hz, fun v' H'' s10 dv' => ?_⟩
      refine ⟨by show 1 ≤ sizeLine; decide, fun X hX => ?_⟩
      have sX := same_upd (o := .lst [v']) hX
      refine ⟨_, rfl, by show 1 ≤ sizeLine; decide, fun Y hY => ?_⟩
      have sY := same_upd (o := .lst [v]) hY
      refine ⟨_, _, .list [partD _], rfl, .lst (SqL.of (sY _ _ upd_same)) (.cons (dv'.mono (sX.trans sY)) .nil), .lst (SqL.of upd_same) (.cons (dv.mono (s10.trans (sX.trans sY))) .nil), ?_, ?_, fun H8 s8 => ?_⟩
      · simp [dep, depAll, partD]
      · simp [wid, widAll, partD]
      have sZ := sf.trans (s9.trans (s10.trans (sX.trans (sY.trans s8))))
      refine ⟨_, rfl, iteF ?_⟩
      refine ⟨_, rfl, p, sumsD (S' ++ [r1]), rfl, dvals sZ, ss.showable, ss.hasDict, ss.depth, ss.len, ?_⟩
      refine ⟨_, rfl, rfl, _, rfl, ?_⟩
      refine ite2 (fun q => ?_) (fun _ => ?_)
      · simp at q
      · exact ⟨sZ, _, _, _, _, rfl⟩
    · rintro σ Hf ⟨sf, v2, v6, v7, v8, rfl⟩
      have Df := DC.mono sf
      have epf := sf _ _ epC
      have dpf := dpC.mono sf
      refine ⟨by show 2 ≤ sizeLine; decide, fun X1 hX1 => ⟨by show 2 ≤ sizeLine; decide, fun X2 hX2 => ⟨by show 2 ≤ sizeLine; decide, fun X3 hX3 => ⟨by show 1 ≤ sizeLine; decide, fun X4 hX4 => ⟨by show 2 ≤ sizeLine; decide, fun X5 hX5 => ?_⟩⟩⟩⟩⟩
      have s1 := same_upd (o := .tup [.int 1, .int 1]) hX1
      have s2 := same_upd (o := .tup [.int 3, .int 2]) hX2
      have s3 := same_upd (o := .tup [.ref X1, .ref X2]) hX3
      have s4 := same_upd (o := .lst [.ref X3]) hX4
      have s5 := same_upd (o := .tup [.int 0, .ref X4]) hX5
      have sA := s1.trans (s2.trans (s3.trans (s4.trans s5)))
      have e1 := (s2.trans (s3.trans (s4.trans s5))) _ _ upd_same
      have e2 := (s3.trans (s4.trans s5)) _ _ upd_same
      have e3 := (s4.trans s5) _ _ upd_same
      have e4 := s5 _ _ upd_same
      have e5 : (upd (upd (upd (upd (upd Hf X1 (.tup [.int 1, .int 1])) X2 (.tup [.int 3, .int 2])) X3 (.tup [.ref X1, .ref X2])) X4 (.lst [.ref X3])) X5 (.tup [.int 0, .ref X4])) X5 = _ := upd_same
      have D5 := Df.mono sA
      have ep5 := sA _ _ epf
      have n1 : X1 ≠ p := fun q => by rw [q, epf] at hX1; cases hX1
      generalize (upd (upd (upd (upd (upd Hf X1 (.tup [.int 1, .int 1])) X2 (.tup [.int 3, .int 2])) X3 (.tup [.ref X1, .ref X2])) X4 (.lst [.ref X3])) X5 (.tup [.int 0, .ref X4])) = Hh at e1 e2 e3 e4 e5 D5 ep5 ⊢
      have lp : 0 < (us' ++ [V.ref b]).length := by simp
      refine ⟨_, rfl, p, _, _, 0, rfl, rfl, ep5, (by unfold ixN; rw [if_pos (by decide), if_pos (by omega)]; rfl), ?_⟩
      have Dq := D5.put (o := .lst ((us' ++ [V.ref b]).set 0 (.ref X5))) pd pl
      have npt : ∀ {c : Addr} {xs : List V}, Hh c = some (.tup xs) → c ≠ p := fun e q => by rw [q, ep5] at e; cases e
      have np4 : X4 ≠ p := fun q => by
        have := (s1.trans (s2.trans s3)) _ _ epf
        rw [q, this] at hX4
        cases hX4
      have f1 : (upd Hh p (.lst ((us' ++ [V.ref b]).set 0 (.ref X5)))) X1 = _ := (upd_ne (npt e1)).trans e1
      have f2 : (upd Hh p (.lst ((us' ++ [V.ref b]).set 0 (.ref X5)))) X2 = _ := (upd_ne (npt e2)).trans e2
      have f3 : (upd Hh p (.lst ((us' ++ [V.ref b]).set 0 (.ref X5)))) X3 = _ := (upd_ne (npt e3)).trans e3
      have f4 : (upd Hh p (.lst ((us' ++ [V.ref b]).set 0 (.ref X5)))) X4 = _ := (upd_ne np4).trans e4
      have f5 : (upd Hh p (.lst ((us' ++ [V.ref b]).set 0 (.ref X5)))) X5 = _ := (upd_ne (npt e5)).trans e5
      have fp : (upd Hh p (.lst ((us' ++ [V.ref b]).set 0 (.ref X5)))) p = _ := upd_same
      generalize (upd Hh p (.lst ((us' ++ [V.ref b]).set 0 (.ref X5)))) = Hi at Dq f1 f2 f3 f4 f5 fp ⊢
      refine ⟨_, rfl, p, _, rfl, .inl (SqL.of fp), rfl, _, rfl, ?_⟩
      refine ite2 (fun q => ?_) (fun q => iteF ⟨Dq, _, _, _, _, _, _, _, rfl⟩)
      have q : us' = [] := by
        have q := of_decide_eq_true q
        have q : ((us' ++ [V.ref b]).set 0 (V.ref X5)).length = (1 : Int) := by simpa using q
        rw [List.length_set, List.length_append] at q
        exact List.eq_nil_of_length_eq_zero (by simp at q; omega)
      subst q
      have fp : Hi p = some (.lst [.ref X5]) := fp
      have dT : Dp K Hi (.ref X3) (termD ((1, 1), (3, 2))) := .tup (SqT.of f3) (.cons (.tup (SqT.of f1) (.cons (.int _) (.cons (.int _) .nil))) (.cons (.tup (SqT.of f2) (.cons (.int _) (.cons (.int _) .nil))) .nil))
      have dS : Dp K Hi (.ref p) (sumsD [(0, [((1, 1), (3, 2))])]) := .lst (SqL.of fp) (.cons (.tup (SqT.of f5) (.cons (.int _) (.cons (.lst (SqL.of f4) (.cons dT .nil)) .nil))) .nil)
      have okS : SumsOk 9 9 9 [(0, [((1, 1), (3, 2))])] := by
        refine ⟨fun r hr => ?_, ⟨_, _, rfl⟩, List.pairwise_singleton _ _, by decide⟩
        rw [List.mem_singleton.mp hr]
        refine ⟨⟨fun t ht => ?_, by simp, List.pairwise_singleton _ _, by decide⟩, by decide, by decide⟩
        rw [List.mem_singleton.mp ht]
        exact ⟨by decide, by decide, by decide, by decide, by decide, by decide, by decide, by decide, by decide⟩
      refine ⟨_, rfl, .ref p, _, 5, 9, 9, 9, rfl, dS, okS, by decide, by decide, by decide, by decide, fun v Hj sj dv => ?_⟩
      have ew : worthL 5 (Builtin.Int.intBits 5 : Nat) (termsAt [(0, [((1, 1), (3, 2))])] 5) = (45, 2) := by decide
      rw [ew] at dv
      refine ⟨by show 2 ≤ sizeLine; decide, fun Z hZ => ?_⟩
      have sZ := same_upd (o := .tup [.int 45, .int 2]) hZ
      refine ⟨v, .ref Z, partD (45, 2), rfl, dv.mono sZ, .tup (SqT.of upd_same) (.cons (.int _) (.cons (.int _) .nil)), by decide, by decide, fun H8 s8 => ?_⟩
      refine ⟨_, rfl, iteF ?_⟩
      exact ⟨Dq.mono (sj.trans (sZ.trans s8)), _, _, _, _, _, _, _, rfl⟩
  · rintro σ H5 ⟨D5, v2, v3, v4, v5, v6, v7, v8, rfl⟩
    exact k _
end
theorem all_mk {l : PySem.W.OpenLaw} {w : World} {K : PySem.W.Frag} {h : Heap} {mg : Str → Option Value} {fa : Addr} (X : K.In h) (G : h.Ns mainGlobals mg) (hfa : mg "law" = some (.ref fa))
    {f0 : Addr} {od0 an0 : Option Addr} {sl0 : Array (Option Value)} {oc0 kV0 dc0 pm0 cd0 ct0 : Value}
    (a0 : PySem.W.nsIn K mainGlobals "_law_begin" = some (some (.ref f0))) (l0 : K.lookup f0 = some ⟨oc0, od0, .func (PySem.W.fnOf "_law_begin" "_law_begin" (defArgs s_law_begin) (defBody s_law_begin) (defScope s_law_begin) .none kV0 dc0 pm0 an0 cd0 ct0), sl0⟩) (c0 : PySem.W.codeIn K cd0 "_law_begin" = true) (k0 : PySem.W.keepIn K (.ref f0) = true)
    {f1 : Addr} {od1 an1 : Option Addr} {sl1 : Array (Option Value)} {oc1 kV1 dc1 pm1 cd1 ct1 : Value}
    (a1 : PySem.W.nsIn K mainGlobals "_law_take" = some (some (.ref f1))) (l1 : K.lookup f1 = some ⟨oc1, od1, .func (PySem.W.fnOf "_law_take" "_law_take" (defArgs s_law_take) (defBody s_law_take) (defScope s_law_take) .none kV1 dc1 pm1 an1 cd1 ct1), sl1⟩) (c1 : PySem.W.codeIn K cd1 "_law_take" = true) (k1 : PySem.W.keepIn K (.ref f1) = true)
    {f2 : Addr} {od2 an2 : Option Addr} {sl2 : Array (Option Value)} {oc2 kV2 dc2 pm2 cd2 ct2 : Value}
    (a2 : PySem.W.nsIn K mainGlobals "_law_gcd" = some (some (.ref f2))) (l2 : K.lookup f2 = some ⟨oc2, od2, .func (PySem.W.fnOf "_law_gcd" "_law_gcd" (defArgs s_law_gcd) (defBody s_law_gcd) (defScope s_law_gcd) .none kV2 dc2 pm2 an2 cd2 ct2), sl2⟩) (c2 : PySem.W.codeIn K cd2 "_law_gcd" = true) (k2 : PySem.W.keepIn K (.ref f2) = true)
    {f3 : Addr} {od3 an3 : Option Addr} {sl3 : Array (Option Value)} {oc3 kV3 dc3 pm3 cd3 ct3 : Value}
    (a3 : PySem.W.nsIn K mainGlobals "_law_lowest" = some (some (.ref f3))) (l3 : K.lookup f3 = some ⟨oc3, od3, .func (PySem.W.fnOf "_law_lowest" "_law_lowest" (defArgs s_law_lowest) (defBody s_law_lowest) (defScope s_law_lowest) .none kV3 dc3 pm3 an3 cd3 ct3), sl3⟩) (c3 : PySem.W.codeIn K cd3 "_law_lowest" = true) (k3 : PySem.W.keepIn K (.ref f3) = true)
    {f4 : Addr} {od4 an4 : Option Addr} {sl4 : Array (Option Value)} {oc4 kV4 dc4 pm4 cd4 ct4 : Value}
    (a4 : PySem.W.nsIn K mainGlobals "_law_terms" = some (some (.ref f4))) (l4 : K.lookup f4 = some ⟨oc4, od4, .func (PySem.W.fnOf "_law_terms" "_law_terms" (defArgs s_law_terms) (defBody s_law_terms) (defScope s_law_terms) .none kV4 dc4 pm4 an4 cd4 ct4), sl4⟩) (c4 : PySem.W.codeIn K cd4 "_law_terms" = true) (k4 : PySem.W.keepIn K (.ref f4) = true)
    {f5 : Addr} {od5 an5 : Option Addr} {sl5 : Array (Option Value)} {oc5 kV5 dc5 pm5 cd5 ct5 : Value}
    (a5 : PySem.W.nsIn K mainGlobals "_law_drawn_sums" = some (some (.ref f5))) (l5 : K.lookup f5 = some ⟨oc5, od5, .func (PySem.W.fnOf "_law_drawn_sums" "_law_drawn_sums" (defArgs s_law_drawn_sums) (defBody s_law_drawn_sums) (defScope s_law_drawn_sums) .none kV5 dc5 pm5 an5 cd5 ct5), sl5⟩) (c5 : PySem.W.codeIn K cd5 "_law_drawn_sums" = true) (k5 : PySem.W.keepIn K (.ref f5) = true)
    {f6 : Addr} {od6 an6 : Option Addr} {sl6 : Array (Option Value)} {oc6 kV6 dc6 pm6 cd6 ct6 : Value}
    (a6 : PySem.W.nsIn K mainGlobals "_law_raised" = some (some (.ref f6))) (l6 : K.lookup f6 = some ⟨oc6, od6, .func (PySem.W.fnOf "_law_raised" "_law_raised" (defArgs s_law_raised) (defBody s_law_raised) (defScope s_law_raised) .none kV6 dc6 pm6 an6 cd6 ct6), sl6⟩) (c6 : PySem.W.codeIn K cd6 "_law_raised" = true) (k6 : PySem.W.keepIn K (.ref f6) = true)
    {f7 : Addr} {od7 an7 : Option Addr} {sl7 : Array (Option Value)} {oc7 kV7 dc7 pm7 cd7 ct7 : Value}
    (a7 : PySem.W.nsIn K mainGlobals "_law_sums_at" = some (some (.ref f7))) (l7 : K.lookup f7 = some ⟨oc7, od7, .func (PySem.W.fnOf "_law_sums_at" "_law_sums_at" (defArgs s_law_sums_at) (defBody s_law_sums_at) (defScope s_law_sums_at) .none kV7 dc7 pm7 an7 cd7 ct7), sl7⟩) (c7 : PySem.W.codeIn K cd7 "_law_sums_at" = true) (k7 : PySem.W.keepIn K (.ref f7) = true)
    {f8 : Addr} {od8 an8 : Option Addr} {sl8 : Array (Option Value)} {oc8 kV8 dc8 pm8 cd8 ct8 : Value}
    (a8 : PySem.W.nsIn K mainGlobals "_law_same" = some (some (.ref f8))) (l8 : K.lookup f8 = some ⟨oc8, od8, .func (PySem.W.fnOf "_law_same" "_law_same" (defArgs s_law_same) (defBody s_law_same) (defScope s_law_same) .none kV8 dc8 pm8 an8 cd8 ct8), sl8⟩) (c8 : PySem.W.codeIn K cd8 "_law_same" = true) (k8 : PySem.W.keepIn K (.ref f8) = true)
    {f9 : Addr} {od9 an9 : Option Addr} {sl9 : Array (Option Value)} {oc9 kV9 dc9 pm9 cd9 ct9 : Value}
    (a9 : PySem.W.nsIn K mainGlobals "common_part" = some (some (.ref f9))) (l9 : K.lookup f9 = some ⟨oc9, od9, .func (PySem.W.fnOf "common_part" "common_part" (defArgs s_common_part) (defBody s_common_part) (defScope s_common_part) .none kV9 dc9 pm9 an9 cd9 ct9), sl9⟩) (c9 : PySem.W.codeIn K cd9 "common_part" = true) (k9 : PySem.W.keepIn K (.ref f9) = true)
    {f10 : Addr} {od10 an10 : Option Addr} {sl10 : Array (Option Value)} {oc10 kV10 dc10 pm10 cd10 ct10 : Value}
    (a10 : PySem.W.nsIn K mainGlobals "lowest" = some (some (.ref f10))) (l10 : K.lookup f10 = some ⟨oc10, od10, .func (PySem.W.fnOf "lowest" "lowest" (defArgs s_lowest) (defBody s_lowest) (defScope s_lowest) .none kV10 dc10 pm10 an10 cd10 ct10), sl10⟩) (c10 : PySem.W.codeIn K cd10 "lowest" = true) (k10 : PySem.W.keepIn K (.ref f10) = true)
    {f11 : Addr} {od11 an11 : Option Addr} {sl11 : Array (Option Value)} {oc11 kV11 dc11 pm11 cd11 ct11 : Value}
    (a11 : PySem.W.nsIn K mainGlobals "sum_of_two" = some (some (.ref f11))) (l11 : K.lookup f11 = some ⟨oc11, od11, .func (PySem.W.fnOf "sum_of_two" "sum_of_two" (defArgs s_sum_of_two) (defBody s_sum_of_two) (defScope s_sum_of_two) .none kV11 dc11 pm11 an11 cd11 ct11), sl11⟩) (c11 : PySem.W.codeIn K cd11 "sum_of_two" = true) (k11 : PySem.W.keepIn K (.ref f11) = true)
    {f12 : Addr} {od12 an12 : Option Addr} {sl12 : Array (Option Value)} {oc12 kV12 dc12 pm12 cd12 ct12 : Value}
    (a12 : PySem.W.nsIn K mainGlobals "product" = some (some (.ref f12))) (l12 : K.lookup f12 = some ⟨oc12, od12, .func (PySem.W.fnOf "product" "product" (defArgs s_product) (defBody s_product) (defScope s_product) .none kV12 dc12 pm12 an12 cd12 ct12), sl12⟩) (c12 : PySem.W.codeIn K cd12 "product" = true) (k12 : PySem.W.keepIn K (.ref f12) = true)
    {f13 : Addr} {od13 an13 : Option Addr} {sl13 : Array (Option Value)} {oc13 kV13 dc13 pm13 cd13 ct13 : Value}
    (a13 : PySem.W.nsIn K mainGlobals "raised" = some (some (.ref f13))) (l13 : K.lookup f13 = some ⟨oc13, od13, .func (PySem.W.fnOf "raised" "raised" (defArgs s_raised) (defBody s_raised) (defScope s_raised) .none kV13 dc13 pm13 an13 cd13 ct13), sl13⟩) (c13 : PySem.W.codeIn K cd13 "raised" = true) (k13 : PySem.W.keepIn K (.ref f13) = true)
    {f14 : Addr} {od14 an14 : Option Addr} {sl14 : Array (Option Value)} {oc14 kV14 dc14 pm14 cd14 ct14 : Value}
    (a14 : PySem.W.nsIn K mainGlobals "worth_of" = some (some (.ref f14))) (l14 : K.lookup f14 = some ⟨oc14, od14, .func (PySem.W.fnOf "worth_of" "worth_of" (defArgs s_worth_of) (defBody s_worth_of) (defScope s_worth_of) .none kV14 dc14 pm14 an14 cd14 ct14), sl14⟩) (c14 : PySem.W.codeIn K cd14 "worth_of" = true) (k14 : PySem.W.keepIn K (.ref f14) = true)
    {f15 : Addr} {od15 an15 : Option Addr} {sl15 : Array (Option Value)} {oc15 kV15 dc15 pm15 cd15 ct15 : Value}
    (a15 : PySem.W.nsIn K mainGlobals "rows_worth" = some (some (.ref f15))) (l15 : K.lookup f15 = some ⟨oc15, od15, .func (PySem.W.fnOf "rows_worth" "rows_worth" (defArgs s_rows_worth) (defBody s_rows_worth) (defScope s_rows_worth) .none kV15 dc15 pm15 an15 cd15 ct15), sl15⟩) (c15 : PySem.W.codeIn K cd15 "rows_worth" = true) (k15 : PySem.W.keepIn K (.ref f15) = true)
    {f16 : Addr} {od16 an16 : Option Addr} {sl16 : Array (Option Value)} {oc16 kV16 dc16 pm16 cd16 ct16 : Value}
    (a16 : PySem.W.nsIn K mainGlobals "read_rows" = some (some (.ref f16))) (l16 : K.lookup f16 = some ⟨oc16, od16, .func (PySem.W.fnOf "read_rows" "read_rows" (defArgs s_read_rows) (defBody s_read_rows) (defScope s_read_rows) .none kV16 dc16 pm16 an16 cd16 ct16), sl16⟩) (c16 : PySem.W.codeIn K cd16 "read_rows" = true) (k16 : PySem.W.keepIn K (.ref f16) = true)
    {f17 : Addr} {od17 an17 : Option Addr} {sl17 : Array (Option Value)} {oc17 kV17 dc17 pm17 cd17 ct17 : Value}
    (a17 : PySem.W.nsIn K mainGlobals "worth" = some (some (.ref f17))) (l17 : K.lookup f17 = some ⟨oc17, od17, .func (PySem.W.fnOf "worth" "worth" (defArgs s_worth) (defBody s_worth) (defScope s_worth) .none kV17 dc17 pm17 an17 cd17 ct17), sl17⟩) (c17 : PySem.W.codeIn K cd17 "worth" = true) (k17 : PySem.W.keepIn K (.ref f17) = true)
    {f18 : Addr} {od18 an18 : Option Addr} {sl18 : Array (Option Value)} {oc18 kV18 dc18 pm18 cd18 ct18 : Value}
    (a18 : PySem.W.nsIn K mainGlobals "law" = some (some (.ref f18))) (l18 : K.lookup f18 = some ⟨oc18, od18, .func (PySem.W.fnOf "law" "law" (defArgs s_law) (defBody s_law) (defScope s_law) .none kV18 dc18 pm18 an18 cd18 ct18), sl18⟩) (c18 : PySem.W.codeIn K cd18 "law" = true) (k18 : PySem.W.keepIn K (.ref f18) = true)
    (z_abs : PySem.W.nsIn K mainGlobals "abs" = some none)
    (z_all : PySem.W.nsIn K mainGlobals "all" = some none)
    (z_bool : PySem.W.nsIn K mainGlobals "bool" = some none)
    (z_int : PySem.W.nsIn K mainGlobals "int" = some none)
    (z_isinstance : PySem.W.nsIn K mainGlobals "isinstance" = some none)
    (z_len : PySem.W.nsIn K mainGlobals "len" = some none)
    (z_list : PySem.W.nsIn K mainGlobals "list" = some none)
    (z_range : PySem.W.nsIn K mainGlobals "range" = some none)
    (z_repr : PySem.W.nsIn K mainGlobals "repr" = some none)
    (z_sorted : PySem.W.nsIn K mainGlobals "sorted" = some none)
    (z_str : PySem.W.nsIn K mainGlobals "str" = some none)
    (z_tuple : PySem.W.nsIn K mainGlobals "tuple" = some none)
    (z_zip : PySem.W.nsIn K mainGlobals "zip" = some none)
    {t_FIGURES : Tok} (m_FIGURES : PySem.W.nsIn K mainGlobals "FIGURES" = some (some (Value.str "#" t_FIGURES)))
    {p_NOUGHT : Addr} {oa_NOUGHT : Option Addr} {n_NOUGHT : Nat} {sx_NOUGHT : Array (Option Value)} {t_NOUGHT_0 : Tok} {t_NOUGHT_1 : Tok}
    (m_NOUGHT : PySem.W.nsIn K mainGlobals "NOUGHT" = some (some (.ref p_NOUGHT))) (q_NOUGHT : K.lookup p_NOUGHT = some ⟨.type "tuple", oa_NOUGHT, .seq #[Value.int 0 t_NOUGHT_0, Value.int 1 t_NOUGHT_1] n_NOUGHT, sx_NOUGHT⟩)
    {t_SIZE : Tok} (m_SIZE : PySem.W.nsIn K mainGlobals "SIZE" = some (some (Value.str "n" t_SIZE)))
    : ∃ fd : FuncData, (∀ (s : Shared) (v : Value), BindsTo s fd ⟨[v], []⟩ [("_law_script", v)]) ∧ ∀ base : Heap, K.In base → base.Ns mainGlobals mg → FnG l.prog w K mg base CX0 LV fa fd ["_law_script"] (spLaw K) := by
  have e := hfa.symm.trans (PySem.W.mg_of X G a18)
  cases e
  have F0 := fun_mk (st := s_law_begin) l0 c0 k0
  have b0 := F0.binds (ps := ["_law_script"]) fun _ _ _ _ _ _ us hl => match us, hl with | [_], _ => rfl
  have F1 := fun_mk (st := s_law_take) l1 c1 k1
  have b1 := F1.binds (ps := ["_law_draw", "_law_sides"]) fun _ _ _ _ _ _ us hl => match us, hl with | [_, _], _ => rfl
  have F2 := fun_mk (st := s_law_gcd) l2 c2 k2
  have b2 := F2.binds (ps := ["_law_a", "_law_b"]) fun _ _ _ _ _ _ us hl => match us, hl with | [_, _], _ => rfl
  have F3 := fun_mk (st := s_law_lowest) l3 c3 k3
  have b3 := F3.binds (ps := ["_law_over", "_law_under"]) fun _ _ _ _ _ _ us hl => match us, hl with | [_, _], _ => rfl
  have F4 := fun_mk (st := s_law_terms) l4 c4 k4
  have b4 := F4.binds (ps := ["_law_draw", "_law_top", "_law_deep", "_law_wide"]) fun _ _ _ _ _ _ us hl => match us, hl with | [_, _, _, _], _ => rfl
  have F5 := fun_mk (st := s_law_drawn_sums) l5 c5 k5
  have b5 := F5.binds (ps := ["_law_draw", "_law_top", "_law_deep", "_law_wide"]) fun _ _ _ _ _ _ us hl => match us, hl with | [_, _, _, _], _ => rfl
  have F6 := fun_mk (st := s_law_raised) l6 c6 k6
  have b6 := F6.binds (ps := ["_law_part", "_law_upto"]) fun _ _ _ _ _ _ us hl => match us, hl with | [_, _], _ => rfl
  have F7 := fun_mk (st := s_law_sums_at) l7 c7 k7
  have b7 := F7.binds (ps := ["_law_sums", "_law_size"]) fun _ _ _ _ _ _ us hl => match us, hl with | [_, _], _ => rfl
  have F8 := fun_mk (st := s_law_same) l8 c8 k8
  have b8 := F8.binds (ps := ["_law_found", "_law_due"]) fun _ _ _ _ _ _ us hl => match us, hl with | [_, _], _ => rfl
  have F9 := fun_mk (st := s_common_part) l9 c9 k9
  have b9 := F9.binds (ps := ["one", "other"]) fun _ _ _ _ _ _ us hl => match us, hl with | [_, _], _ => rfl
  have F10 := fun_mk (st := s_lowest) l10 c10 k10
  have b10 := F10.binds (ps := ["over", "under"]) fun _ _ _ _ _ _ us hl => match us, hl with | [_, _], _ => rfl
  have F11 := fun_mk (st := s_sum_of_two) l11 c11 k11
  have b11 := F11.binds (ps := ["one", "other"]) fun _ _ _ _ _ _ us hl => match us, hl with | [_, _], _ => rfl
  have F12 := fun_mk (st := s_product) l12 c12 k12
  have b12 := F12.binds (ps := ["one", "other"]) fun _ _ _ _ _ _ us hl => match us, hl with | [_, _], _ => rfl
  have F13 := fun_mk (st := s_raised) l13 c13 k13
  have b13 := F13.binds (ps := ["base", "power"]) fun _ _ _ _ _ _ us hl => match us, hl with | [_, _], _ => rfl
  have F14 := fun_mk (st := s_worth_of) l14 c14 k14
  have b14 := F14.binds (ps := ["poly", "values"]) fun _ _ _ _ _ _ us hl => match us, hl with | [_, _], _ => rfl
  have F15 := fun_mk (st := s_rows_worth) l15 c15 k15
  have b15 := F15.binds (ps := ["rows", "size"]) fun _ _ _ _ _ _ us hl => match us, hl with | [_, _], _ => rfl
  have F16 := fun_mk (st := s_read_rows) l16 c16 k16
  have b16 := F16.binds (ps := ["told"]) fun _ _ _ _ _ _ us hl => match us, hl with | [_], _ => rfl
  have F17 := fun_mk (st := s_worth) l17 c17 k17
  have b17 := F17.binds (ps := ["sums", "size"]) fun _ _ _ _ _ _ us hl => match us, hl with | [_, _], _ => rfl
  have F18 := fun_mk (st := s_law) l18 c18 k18
  have b18 := F18.binds (ps := ["_law_script"]) fun _ _ _ _ _ _ us hl => match us, hl with | [_], _ => rfl
  let T : Txt K mg := ⟨f0, _, F0, b0, PySem.W.mg_of X G a0,
    f1, _, F1, b1, PySem.W.mg_of X G a1,
    f2, _, F2, b2, PySem.W.mg_of X G a2,
    f3, _, F3, b3, PySem.W.mg_of X G a3,
    f4, _, F4, b4, PySem.W.mg_of X G a4,
    f5, _, F5, b5, PySem.W.mg_of X G a5,
    f6, _, F6, b6, PySem.W.mg_of X G a6,
    f7, _, F7, b7, PySem.W.mg_of X G a7,
    f8, _, F8, b8, PySem.W.mg_of X G a8,
    f9, _, F9, b9, PySem.W.mg_of X G a9,
    f10, _, F10, b10, PySem.W.mg_of X G a10,
    f11, _, F11, b11, PySem.W.mg_of X G a11,
    f12, _, F12, b12, PySem.W.mg_of X G a12,
    f13, _, F13, b13, PySem.W.mg_of X G a13,
    f14, _, F14, b14, PySem.W.mg_of X G a14,
    f15, _, F15, b15, PySem.W.mg_of X G a15,
    f16, _, F16, b16, PySem.W.mg_of X G a16,
    f17, _, F17, b17, PySem.W.mg_of X G a17,
    fa, _, F18, b18, PySem.W.mg_of X G a18,
    PySem.W.mg_none_of X G z_abs,
    PySem.W.mg_none_of X G z_all,
    PySem.W.mg_none_of X G z_bool,
    PySem.W.mg_none_of X G z_int,
    PySem.W.mg_none_of X G z_isinstance,
    PySem.W.mg_none_of X G z_len,
    PySem.W.mg_none_of X G z_list,
    PySem.W.mg_none_of X G z_range,
    PySem.W.mg_none_of X G z_repr,
    PySem.W.mg_none_of X G z_sorted,
    PySem.W.mg_none_of X G z_str,
    PySem.W.mg_none_of X G z_tuple,
    PySem.W.mg_none_of X G z_zip,
    _, PySem.W.mg_of X G m_FIGURES, ⟨_, rfl⟩,
    _, PySem.W.mg_of X G m_NOUGHT, p_NOUGHT, rfl, fun H => Or.inr ⟨_, _, _, q_NOUGHT, rfl, rfl, (by show 2 ≤ sizeLine; decide), (.cons ⟨_, rfl⟩ (.cons ⟨_, rfl⟩ .nil))⟩,
    _, PySem.W.mg_of X G m_SIZE, ⟨_, rfl⟩⟩
  exact ⟨_, fun s v => .of_eq rfl, fun base _ _ => ok_law T⟩
end My
open PySem PySem.W PyProof.Rows
set_option maxHeartbeats 0 in
theorem PySem.Challenge.cw_outgrow_k12_worths_of_sums_holds : PySem.Challenge.rw_outgrow_k12_worths_of_sums.Holds := by
  w_on; o_law; k_head; (case hw => w_witness2)
  k_fill
  refine My.walkG_of (l := PySem.Challenge.rw_outgrow_k12_worths_of_sums) (n := 63) (k := My.LV) (x := "_law_script") (CX := fun _ => L2.CX0) (sp := fun w => My.spLaw _) rfl (by decide) rfl ⟨rfl, by decide, by decide⟩ (fun w h Y => PySem.W.kIn_of Y) ?F (fun _ _ a ns hl _ hS => ⟨a, ns, rfl, hS, hl, fun _ => rfl⟩) (fun _ _ _ _ _ h => h)
  case F =>
    intro w mg fa h KX G hmg
    refine' My.all_mk KX G hmg ?a0 ?l0 ?c0 ?k0 ?a1 ?l1 ?c1 ?k1 ?a2 ?l2 ?c2 ?k2 ?a3 ?l3 ?c3 ?k3 ?a4 ?l4 ?c4 ?k4 ?a5 ?l5 ?c5 ?k5 ?a6 ?l6 ?c6 ?k6 ?a7 ?l7 ?c7 ?k7 ?a8 ?l8 ?c8 ?k8 ?a9 ?l9 ?c9 ?k9 ?a10 ?l10 ?c10 ?k10 ?a11 ?l11 ?c11 ?k11 ?a12 ?l12 ?c12 ?k12 ?a13 ?l13 ?c13 ?k13 ?a14 ?l14 ?c14 ?k14 ?a15 ?l15 ?c15 ?k15 ?a16 ?l16 ?c16 ?k16 ?a17 ?l17 ?c17 ?k17 ?a18 ?l18 ?c18 ?k18 ?z_abs ?z_all ?z_bool ?z_int ?z_isinstance ?z_len ?z_list ?z_range ?z_repr ?z_sorted ?z_str ?z_tuple ?z_zip ?m_FIGURES ?m_NOUGHT ?q_NOUGHT ?m_SIZE
    (case a0 => k_is)
    (case l0 => k_is)
    (case c0 => k_is)
    (case k0 => k_is)
    (case a1 => k_is)
    (case l1 => k_is)
    (case c1 => k_is)
    (case k1 => k_is)
    (case a2 => k_is)
    (case l2 => k_is)
    (case c2 => k_is)
    (case k2 => k_is)
    (case a3 => k_is)
    (case l3 => k_is)
    (case c3 => k_is)
    (case k3 => k_is)
    (case a4 => k_is)
    (case l4 => k_is)
    (case c4 => k_is)
    (case k4 => k_is)
    (case a5 => k_is)
    (case l5 => k_is)
    (case c5 => k_is)
    (case k5 => k_is)
    (case a6 => k_is)
    (case l6 => k_is)
    (case c6 => k_is)
    (case k6 => k_is)
    (case a7 => k_is)
    (case l7 => k_is)
    (case c7 => k_is)
    (case k7 => k_is)
    (case a8 => k_is)
    (case l8 => k_is)
    (case c8 => k_is)
    (case k8 => k_is)
    (case a9 => k_is)
    (case l9 => k_is)
    (case c9 => k_is)
    (case k9 => k_is)
    (case a10 => k_is)
    (case l10 => k_is)
    (case c10 => k_is)
    (case k10 => k_is)
    (case a11 => k_is)
    (case l11 => k_is)
    (case c11 => k_is)
    (case k11 => k_is)
    (case a12 => k_is)
    (case l12 => k_is)
    (case c12 => k_is)
    (case k12 => k_is)
    (case a13 => k_is)
    (case l13 => k_is)
    (case c13 => k_is)
    (case k13 => k_is)
    (case a14 => k_is)
    (case l14 => k_is)
    (case c14 => k_is)
    (case k14 => k_is)
    (case a15 => k_is)
    (case l15 => k_is)
    (case c15 => k_is)
    (case k15 => k_is)
    (case a16 => k_is)
    (case l16 => k_is)
    (case c16 => k_is)
    (case k16 => k_is)
    (case a17 => k_is)
    (case l17 => k_is)
    (case c17 => k_is)
    (case k17 => k_is)
    (case a18 => k_is)
    (case l18 => k_is)
    (case c18 => k_is)
    (case k18 => k_is)
    (case z_abs => k_is)
    (case z_all => k_is)
    (case z_bool => k_is)
    (case z_int => k_is)
    (case z_isinstance => k_is)
    (case z_len => k_is)
    (case z_list => k_is)
    (case z_range => k_is)
    (case z_repr => k_is)
    (case z_sorted => k_is)
    (case z_str => k_is)
    (case z_tuple => k_is)
    (case z_zip => k_is)
    (case m_FIGURES => k_is)
    (case m_NOUGHT => k_is)
    (case q_NOUGHT => k_is)
    (case m_SIZE => k_is)
#print axioms PySem.Challenge.cw_outgrow_k12_worths_of_sums_holds
