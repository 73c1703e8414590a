import PyProof.Rows.All
import Wide.All
import OpenK.AllK
import Wide.FinOn
import HandS.ForMost
import HandS.Wide
import HandS.WideMore
import HandS.IsInst
import HandS.Style
import HandS.Codes
import HandS.Walk
import HandS.Zip
import HandS.SortRule
import HandS.Conv
import HandS.FStr
import HandS.More
import HandS.TupAny
import HandS.WideBits
import HandS.Defaults
import HandS.MakeKwOnly
import PySem.Challenge.RW_outgrow_k08_steps_walked
set_option linter.unusedVariables false
set_option Elab.async false
set_option maxRecDepth 100000
set_option maxHeartbeats 4000000
namespace My
open PySem L2
/-! ### heaps: a frozen part G, a working part H; M: what may change of what stood -/
def NoM : Addr → Prop := fun _ => False
def Only1 (d : Addr) : Addr → Prop := fun b => b = d
def But (M : Addr → Prop) (H H' : Hp) : Prop := ∀ b o, H b = some o → ¬ M b → H' b = some o
/-- something that stands there and is no tuple -/
structure Cell (o : Option HO) : Prop where
  some : o ≠ none
  tup : ∀ xs, o ≠ Option.some (.tup xs)
structure Grow (M : Addr → Prop) (G H G' H' : Hp) : Prop where
  g : Same G G'
  gh : Same G' H'
  h : But M H H'
  old : ∀ b, Cell (H b) → G' b = G b
theorem cell_lst {H : Hp} {a : Addr} {xs : List V} (h : H a = some (.lst xs)) : Cell (H a) := ⟨fun e => (by rw [h] at e; cases e), fun ys e => (by rw [h] at e; cases e)⟩
theorem cell_dK {H : Hp} {a : Addr} {xs : List (L2.Key × V)} (h : H a = some (.dK xs)) : Cell (H a) := ⟨fun e => (by rw [h] at e; cases e), fun ys e => (by rw [h] at e; cases e)⟩
theorem cell_dT {H : Hp} {a : Addr} {xs : List (List L2.Key × V)} (h : H a = some (.dT xs)) : Cell (H a) := ⟨fun e => (by rw [h] at e; cases e), fun ys e => (by rw [h] at e; cases e)⟩
theorem cell_ins {H : Hp} {a C dx : Addr} {fs : List (Str × V)} (h : H a = some (.ins C dx fs)) : Cell (H a) := ⟨fun e => (by rw [h] at e; cases e), fun ys e => (by rw [h] at e; cases e)⟩
theorem But.refl (M : Addr → Prop) (H : Hp) : But M H H := fun _ _ e _ => e
theorem But.trans {M : Addr → Prop} {H H1 H2 : Hp} (a : But M H H1) (b : But M H1 H2) : But M H H2 := fun c o e n => b c o (a c o e n) n
theorem But.mono {M M' : Addr → Prop} {H H1 : Hp} (h : ∀ b, M b → M' b) (a : But M H H1) : But M' H H1 := fun c o e n => a c o e fun z => n (h c z)
theorem But.same {H H1 : Hp} (a : But NoM H H1) : Same H H1 := fun c o e => a c o e fun z => z
theorem same_but {M : Addr → Prop} {H H1 : Hp} (a : Same H H1) : But M H H1 := fun c o e _ => a c o e
theorem same_upd {H : Hp} {p : Addr} {o : HO} (h : H p = none) : Same H (upd H p o) := fun b x e => by
  rw [upd_ne (ne_of_none e h)]
  exact e
theorem But.new {M : Addr → Prop} {H : Hp} {p : Addr} {o : HO} (h : H p = none) : But M H (upd H p o) := same_but (same_upd h)
theorem But.put {M : Addr → Prop} {H H1 : Hp} {p : Addr} {o : HO} (a : But M H H1) (h : M p) : But M H (upd H1 p o) := fun b x e n => by
  rw [upd_ne (fun z => n (by rw [z]; exact h))]
  exact a b x e n
theorem But.put0 {M : Addr → Prop} {H H1 : Hp} {p : Addr} {o : HO} (a : But M H H1) (h : H p = none) : But M H (upd H1 p o) := fun b x e n => by
  rw [upd_ne (ne_of_none e h)]
  exact a b x e n
theorem But.cell {M : Addr → Prop} {H H1 : Hp} (a : But M H H1) (hm : ∀ b, M b → Cell (H1 b)) {b : Addr} (h : Cell (H b)) : Cell (H1 b) := by
  by_cases n : M b
  · exact hm b n
  · cases e : H b with
    | none => exact absurd e h.some
    | some o =>
      rw [a b o e n]
      rw [e] at h
      exact h
theorem But.none {M : Addr → Prop} {H H1 : Hp} (a : But M H H1) (hm : ∀ b, M b → Cell (H1 b)) {b : Addr} (h : H1 b = none) : H b = none := by
  cases e : H b with
  | none => rfl
  | some o =>
    by_cases n : M b
    · exact absurd h (hm b n).some
    · rw [a b o e n] at h
      cases h
theorem Grow.refl {M : Addr → Prop} {G H : Hp} (h : Same G H) : Grow M G H G H := ⟨Same.refl _, h, But.refl _ _, fun _ _ => rfl⟩
theorem Grow.trans {M : Addr → Prop} {G H G1 H1 G2 H2 : Hp} (a : Grow M G H G1 H1) (b : Grow M G1 H1 G2 H2) (hm : ∀ c, M c → Cell (H1 c)) : Grow M G H G2 H2 :=
  ⟨a.g.trans b.g, b.gh, a.h.trans b.h, fun c hc => (b.old c (a.h.cell hm hc)).trans (a.old c hc)⟩
theorem Grow.mono {M M' : Addr → Prop} {G H G1 H1 : Hp} (h : ∀ b, M b → M' b) (a : Grow M G H G1 H1) : Grow M' G H G1 H1 := ⟨a.g, a.gh, a.h.mono h, a.old⟩
/-- a new cell -/
theorem Grow.cell {M : Addr → Prop} {G H G1 H1 : Hp} {p : Addr} {o : HO} (a : Grow M G H G1 H1) (h : H1 p = none) : Grow M G H G1 (upd H1 p o) :=
  ⟨a.g, a.gh.trans (same_upd h), a.h.trans (But.new h), a.old⟩
/-- a cell of one's own, or one of M, is written -/
theorem Grow.put {M : Addr → Prop} {G H G1 H1 : Hp} {p : Addr} {o : HO} (a : Grow M G H G1 H1) (hg : G1 p = none) (h : H p = none ∨ M p) : Grow M G H G1 (upd H1 p o) :=
  ⟨a.g, fun b x e => by rw [upd_ne (ne_of_none e hg)]; exact a.gh b x e, by rcases h with h | h; exact a.h.put0 h; exact a.h.put h, a.old⟩
/-- a cell of one's own is frozen -/
theorem Grow.pub {M : Addr → Prop} {G H G1 H1 : Hp} {p : Addr} {o : HO} (a : Grow M G H G1 H1) (h1 : H1 p = some o) (hg : G1 p = none) (h : H p = none) : Grow M G H (upd G1 p o) H1 :=
  ⟨a.g.trans (same_upd hg), fun b x e => by
    by_cases q : b = p
    · subst q
      rw [upd_same] at e
      rw [← e]
      exact h1
    · rw [upd_ne q] at e
      exact a.gh b x e, a.h, fun b hb => by
    have q : b ≠ p := fun z => hb.some (by rw [z]; exact h)
    rw [upd_ne q]
    exact a.old b hb⟩
/-- a tuple is frozen at any time -/
theorem Grow.pubT {M : Addr → Prop} {G H G1 H1 : Hp} {p : Addr} {xs : List V} (a : Grow M G H G1 H1) (h1 : H1 p = some (.tup xs)) (hm : ∀ c, M c → Cell (H1 c)) : Grow M G H (upd G1 p (.tup xs)) H1 :=
  ⟨a.g.trans (fun b x e => by
    by_cases q : b = p
    · subst q
      rw [a.gh b x e] at h1
      rw [upd_same, h1]
    · rw [upd_ne q]
      exact e), fun b x e => by
    by_cases q : b = p
    · subst q
      rw [upd_same] at e
      rw [← e]
      exact h1
    · rw [upd_ne q] at e
      exact a.gh b x e, a.h, fun b hb => by
    have q : b ≠ p := fun z => (a.h.cell hm hb).tup xs (by rw [z]; exact h1)
    rw [upd_ne q]
    exact a.old b hb⟩
theorem pub_same {G H : Hp} {p : Addr} {o : HO} (g : Same G H) (h : H p = some o) : Same G (upd G p o) := fun b x e => by
  by_cases q : b = p
  · subst q
    rw [g b x e] at h
    rw [upd_same, h]
  · rw [upd_ne q]
    exact e
/-- a new thing, frozen at once -/
theorem Grow.new {M : Addr → Prop} {G H G1 H1 : Hp} {p : Addr} {o : HO} (a : Grow M G H G1 H1) (h : H1 p = none) (hm : ∀ c, M c → Cell (H1 c)) : Grow M G H (upd G1 p o) (upd H1 p o) :=
  (a.cell h).pub upd_same (a.gh.free h) (a.h.none hm h)
theorem Grow.none {M : Addr → Prop} {G H G1 H1 : Hp} {p : Addr} (a : Grow M G H G1 H1) (hg : G p = .none) (h : Cell (H p)) : G1 p = .none := by
  rw [a.old p h]
  exact hg
/-- a cell of one's own at the heap behind -/
theorem Grow.at_ {M : Addr → Prop} {G H G1 H1 : Hp} {p : Addr} {o : HO} (a : Grow M G H G1 H1) (h : H p = some o) (n : ¬ M p) : H1 p = some o := a.h p o h n
theorem noM {P : Addr → Prop} : ∀ c, NoM c → P c := fun _ h => h.elim
theorem noMC {H : Hp} : ∀ c, NoM c → Cell (H c) := fun _ h => h.elim
theorem only1 {d : Addr} : Only1 d d := rfl

end My
namespace L2
open PySem
/-! ### data -/
theorem same_rd {H H' : Hp} {a : Addr} {u : HO} (e : Same H H') (h : Rd H a u) : Rd H' a u := by
  rcases h with h | ⟨o, h⟩
  · exact Or.inl (e a _ h)
  · exact Or.inr ⟨o, e a _ h⟩
theorem same_l {K : PySem.W.Frag} {H H' : Hp} {a : Addr} {xs : List V} (e : Same H H') (h : SqL K H a xs) : SqL K H' a xs := by
  rcases h with h | h
  · exact Or.inl (same_rd e h)
  · exact Or.inr h
theorem same_t {K : PySem.W.Frag} {H H' : Hp} {a : Addr} {xs : List V} (e : Same H H') (h : SqT K H a xs) : SqT K H' a xs := by
  rcases h with h | h
  · exact Or.inl (same_rd e h)
  · exact Or.inr h
mutual
theorem Dp.mono {K : PySem.W.Frag} {H H' : Hp} (e : Same H H') : ∀ {d : PyData} {v : V}, Dp K H v d → Dp K H' v d
  | _, _, .non => .non
  | _, _, .bl b => .bl b
  | _, _, .int i => .int i
  | _, _, .str x => .str x
  | _, _, .lst h a => .lst (same_l e h) (DpAll.mono e a)
  | _, _, .tup h a => .tup (same_t e h) (DpAll.mono e a)
theorem DpAll.mono {K : PySem.W.Frag} {H H' : Hp} (e : Same H H') : ∀ {ds : List PyData} {vs : List V}, DpAll K H vs ds → DpAll K H' vs ds
  | _, _, .nil => .nil
  | _, _, .cons a b => .cons (Dp.mono e a) (DpAll.mono e b)
end
theorem DpAll.length {K : PySem.W.Frag} {H : Hp} : ∀ {ds : List PyData} {vs : List V}, DpAll K H vs ds → vs.length = ds.length
  | _, _, .nil => rfl
  | _, _, .cons _ b => by
    rw [List.length_cons, List.length_cons, DpAll.length b]
theorem DpAll.snoc {K : PySem.W.Frag} {H : Hp} {d : PyData} {v : V} : ∀ {ds : List PyData} {vs : List V}, DpAll K H vs ds → Dp K H v d → DpAll K H (vs ++ [v]) (ds ++ [d])
  | _, _, .nil, h => .cons h .nil
  | _, _, .cons a b, h => .cons a (DpAll.snoc b h)
theorem DpAll.get {K : PySem.W.Frag} {H : Hp} : ∀ {ds : List PyData} {vs : List V} {i : Nat} {v : V}, DpAll K H vs ds → vs[i]? = some v → ∃ d, ds[i]? = some d ∧ Dp K H v d
  | _, _, _, _, .nil, h => by simp at h
  | _, _, 0, _, .cons a _, h => by
    simp at h
    subst h
    exact ⟨_, rfl, a⟩
  | _, _, i + 1, _, .cons _ b, h => by
    obtain ⟨d, e, q⟩ := DpAll.get (i := i) b (by simpa using h)
    exact ⟨d, by simpa using e, q⟩
theorem DpAll.get' {K : PySem.W.Frag} {H : Hp} : ∀ {ds : List PyData} {vs : List V} {i : Nat} {d : PyData}, DpAll K H vs ds → ds[i]? = some d → ∃ v, vs[i]? = some v ∧ Dp K H v d
  | _, _, _, _, .nil, h => by simp at h
  | _, _, 0, _, .cons a _, h => by
    simp at h
    subst h
    exact ⟨_, rfl, a⟩
  | _, _, i + 1, _, .cons _ b, h => by
    obtain ⟨d, e, q⟩ := DpAll.get' (i := i) b (by simpa using h)
    exact ⟨d, by simpa using e, q⟩

end L2
namespace My
open PySem L2
/-! ### the draw -/
structure DrawAt (H : Hp) (d l : Addr) : Prop where
  ex : ∃ (ns : List Int) (p g s : Int), H d = some (.lst [.ref l, .int p, .int g, .int s]) ∧ H l = some (.lst (ns.map V.int)) ∧ 0 ≤ p ∧ 0 ≤ g ∧ 0 ≤ s ∧ s < 2147483647 ∧ ns.length ≤ 63
theorem DrawAt.some {H : Hp} {d l : Addr} (h : DrawAt H d l) : H d ≠ none := by
  obtain ⟨ns, p, g, s, e, _⟩ := h.ex
  rw [e]
  simp
theorem DrawAt.cell {H : Hp} {d l : Addr} (h : DrawAt H d l) : Cell (H d) := by
  obtain ⟨ns, p, g, s, e, _⟩ := h.ex
  exact cell_lst e
theorem DrawAt.some' {H : Hp} {d l : Addr} (h : DrawAt H d l) : ∀ c, Only1 d c → Cell (H c) := fun c e => by
  rw [show c = d from e]
  exact h.cell
theorem DrawAt.ned {H : Hp} {d l p : Addr} (h : DrawAt H d l) (e : H p = none) : p ≠ d := fun q => h.some (by rw [← q]; exact e)
theorem DrawAt.nel {H : Hp} {d l p : Addr} (h : DrawAt H d l) (e : H p = none) : p ≠ l := fun q => by
  obtain ⟨ns, p, g, s, _, e2, _⟩ := h.ex
  rw [← q, e] at e2
  cases e2
theorem DrawAt.mono {H H' : Hp} {d l : Addr} (h : DrawAt H d l) (e : Same H H') : DrawAt H' d l := by
  obtain ⟨ns, p, g, s, e1, e2, r⟩ := h.ex
  exact ⟨⟨ns, p, g, s, e _ _ e1, e _ _ e2, r⟩⟩
theorem DrawAt.upd {H : Hp} {d l p : Addr} {o : HO} (h : DrawAt H d l) (e : H p = none) : DrawAt (upd H p o) d l := h.mono (same_upd e)
theorem DrawAt.put {H : Hp} {d l p : Addr} {o : HO} (h : DrawAt H d l) (hd : p ≠ d) (hl : p ≠ l) : DrawAt (L2.upd H p o) d l := by
  obtain ⟨ns, p', g, s, e1, e2, r⟩ := h.ex
  exact ⟨⟨ns, p', g, s, by rw [upd_ne hd.symm]; exact e1, by rw [upd_ne hl.symm]; exact e2, r⟩⟩
theorem log_small {n : Int} {k : Nat} (h0 : 0 < n) (h : n < 2 ^ k) (hk : k ≤ 9000) (k0 : 0 < k) : CDivW 0 n := by
  refine wide_div (i := 0) h0 (b := k) ?_ k0 hk
  have : ((n.natAbs : Nat) : Int) < ((2 ^ k : Nat) : Int) := by
    rw [Int.natAbs_of_nonneg (by omega)]
    simpa using h
  exact_mod_cast this
end My
namespace My
open PySem L2
/-! ### types and depth of data -/
def tyN : PyData → String
  | .none => "NoneType"
  | .bool _ => "bool"
  | .int _ => "int"
  | .str _ => "str"
  | .list _ => "list"
  | .tuple _ => "tuple"
  | .dict _ => "dict"
abbrev tyD (d : PyData) : Value := .type (tyN d)
theorem sql_ty {K : PySem.W.Frag} {H : Hp} {a : Addr} {xs : List V} (h : SqL K H a xs) : TyX K H (.ref a) (.type "list") := by
  rcases h with (h | ⟨o, h⟩) | ⟨o, its, n, h, c, _⟩
  · exact .base (.lst h)
  · exact .base (.frz h)
  · exact .kList h c
theorem sqt_ty {K : PySem.W.Frag} {H : Hp} {a : Addr} {xs : List V} (h : SqT K H a xs) : TyX K H (.ref a) (.type "tuple") := by
  rcases h with (h | ⟨o, h⟩) | ⟨o, its, n, h, c, _⟩
  · exact .base (.tup h)
  · exact .fTuple h
  · exact .kTuple h c
theorem dp_ty {K : PySem.W.Frag} {H : Hp} {v : V} {d : PyData} (h : Dp K H v d) : TyX K H v (tyD d) := by
  cases h with
  | non => exact .base .non
  | bl b => exact .base (.bl b)
  | int i => exact .base (.int i)
  | str x => exact .base (.str x)
  | lst h _ => exact sql_ty h
  | tup h _ => exact sqt_ty h
mutual
def dep : PyData → Nat
  | .list ds => depAll ds + 1
  | .tuple ds => depAll ds + 1
  | _ => 0
def depAll : List PyData → Nat
  | [] => 0
  | d :: ds => max (dep d) (depAll ds)
end
theorem dep_get : ∀ {ds : List PyData} {i : Nat} {d : PyData}, ds[i]? = some d → dep d ≤ depAll ds
  | [], _, _, h => by simp at h
  | x :: r, 0, d, h => by
    have e : x = d := by simpa using h
    rw [e, depAll]
    omega
  | x :: r, i + 1, d, h => by
    have q := dep_get (ds := r) (i := i) (d := d) (by simpa using h)
    rw [depAll]
    omega
mutual
def wid : PyData → Nat
  | .list ds => max ds.length (widAll ds)
  | .tuple ds => max ds.length (widAll ds)
  | _ => 0
def widAll : List PyData → Nat
  | [] => 0
  | d :: ds => max (wid d) (widAll ds)
end
theorem wid_get : ∀ {ds : List PyData} {i : Nat} {d : PyData}, ds[i]? = some d → wid d ≤ widAll ds
  | [], _, _, h => by simp at h
  | x :: r, 0, d, h => by
    have e : x = d := by simpa using h
    rw [e, widAll]
    omega
  | x :: r, i + 1, d, h => by
    have q := wid_get (ds := r) (i := i) (d := d) (by simpa using h)
    rw [widAll]
    omega
theorem kit2 {K : PySem.W.Frag} {t : Value} {a b : String} {r s : Bool} (h1 : PySem.W.kitOne K t (.type a) = some r) (h2 : PySem.W.kitOne K t (.type b) = some s) : PySem.W.kitAny K t [.type a, .type b] = some (r || s) := by
  refine kitAny_cons h1 (fun e => ?_) (fun e => by rw [e]; rfl)
  rw [e]
  refine kitAny_cons h2 (fun e => ?_) (fun e => by rw [e]; rfl)
  rw [e]
  exact kitAny_nil
/-- is a list, is a tuple, .. -/
def isTn (s t : String) : Bool := t == s || (t == "bool" && s == "int")
abbrev isTy (s : String) (d : PyData) : Bool := isTn s (tyN d)
theorem kit_n {K : PySem.W.Frag} (a b : String) (h : kitB a b = some (isTn b a)) : PySem.W.kitOne K (.type a) (.type b) = some (isTn b a) := kit_ty h
theorem kit_d {K : PySem.W.Frag} (d : PyData) : PySem.W.kitOne K (tyD d) (.type "list") = some (isTy "list" d) ∧ PySem.W.kitOne K (tyD d) (.type "tuple") = some (isTy "tuple" d) ∧
    PySem.W.kitOne K (tyD d) (.type "bool") = some (isTy "bool" d) ∧ PySem.W.kitOne K (tyD d) (.type "int") = some (isTy "int" d) ∧ PySem.W.kitOne K (tyD d) (.type "str") = some (isTy "str" d) := by
  cases d with
  | none => exact ⟨kit_n "NoneType" "list" (by decide +kernel), kit_n "NoneType" "tuple" (by decide +kernel), kit_n "NoneType" "bool" (by decide +kernel), kit_n "NoneType" "int" (by decide +kernel), kit_n "NoneType" "str" (by decide +kernel)⟩
  | bool _ => exact ⟨kit_n "bool" "list" (by decide +kernel), kit_n "bool" "tuple" (by decide +kernel), kit_n "bool" "bool" (by decide +kernel), kit_n "bool" "int" (by decide +kernel), kit_n "bool" "str" (by decide +kernel)⟩
  | int _ => exact ⟨kit_n "int" "list" (by decide +kernel), kit_n "int" "tuple" (by decide +kernel), kit_n "int" "bool" (by decide +kernel), kit_n "int" "int" (by decide +kernel), kit_n "int" "str" (by decide +kernel)⟩
  | str _ => exact ⟨kit_n "str" "list" (by decide +kernel), kit_n "str" "tuple" (by decide +kernel), kit_n "str" "bool" (by decide +kernel), kit_n "str" "int" (by decide +kernel), kit_n "str" "str" (by decide +kernel)⟩
  | list _ => exact ⟨kit_n "list" "list" (by decide +kernel), kit_n "list" "tuple" (by decide +kernel), kit_n "list" "bool" (by decide +kernel), kit_n "list" "int" (by decide +kernel), kit_n "list" "str" (by decide +kernel)⟩
  | tuple _ => exact ⟨kit_n "tuple" "list" (by decide +kernel), kit_n "tuple" "tuple" (by decide +kernel), kit_n "tuple" "bool" (by decide +kernel), kit_n "tuple" "int" (by decide +kernel), kit_n "tuple" "str" (by decide +kernel)⟩
  | dict _ => exact ⟨kit_n "dict" "list" (by decide +kernel), kit_n "dict" "tuple" (by decide +kernel), kit_n "dict" "bool" (by decide +kernel), kit_n "dict" "int" (by decide +kernel), kit_n "dict" "str" (by decide +kernel)⟩
abbrev clsLT : List V := [.ty "list", .ty "tuple"]
theorem pairLT : Paired ClsV clsLT [.type "list", .type "tuple"] := .cons (.ty _) (.cons (.ty _) .nil)
theorem walk_zipT {K : PySem.W.Frag} {a b : Addr} {xs ys : List V} {n : Nat} (hn : n = min xs.length ys.length) : Walk (RZ.ItzT K a b) n (fun H => SqT K H a xs ∧ SqT K H b ys) (YPair (fun i => xs[i]?) (fun i => ys[i]?)) := by
  subst hn
  refine ⟨fun i _ hi q => ?_, fun _ q => ⟨xs, ys, q.1, q.2, by omega⟩, fun i H v H' _ q y => ?_⟩
  · have h1 : i < xs.length := by omega
    have h2 : i < ys.length := by omega
    exact ⟨xs, ys, xs[i], ys[i], q.1, q.2, by simp [h1], by simp [h2]⟩
  · obtain ⟨T, x, z, h1, h2, h3, h4, h5⟩ := y
    exact ⟨T, x, z, h1, h2, h3, h4 xs q.1, h5 ys q.2⟩
theorem but_l {K : PySem.W.Frag} {M : Addr → Prop} {H H' : Hp} {a : Addr} {xs : List V} (e : But M H H') (n : ¬ M a) (h : SqL K H a xs) : SqL K H' a xs := by
  rcases h with (h | ⟨o, h⟩) | h
  · exact Or.inl (Or.inl (e a _ h n))
  · exact Or.inl (Or.inr ⟨o, e a _ h n⟩)
  · exact Or.inr h
theorem but_t {K : PySem.W.Frag} {M : Addr → Prop} {H H' : Hp} {a : Addr} {xs : List V} (e : But M H H') (n : ¬ M a) (h : SqT K H a xs) : SqT K H' a xs := by
  rcases h with (h | ⟨o, h⟩) | h
  · exact Or.inl (Or.inl (e a _ h n))
  · exact Or.inl (Or.inr ⟨o, e a _ h n⟩)
  · exact Or.inr h
end My
namespace My
open PySem L2
/-- [f sign for sign in text] -/
theorem lc_sign {te tz : TE} {σ : L2.St} {H : Hp} {Q : VK} {j : Nat} (z : Str) (f : Nat → Bool) (hz : z.length ≤ 100000) (hv : ∀ Q' : VK, Q' (.str z) H → tz σ H Q')
    (hw : ∀ x : V, wipe ((wipe σ [j]).set j (some x)) [j] = wipe σ [j]) (hs : ∀ (c : Nat) (H' : Hp) (Q' : VK), Q' (.bl (f c)) H' → te ((wipe σ [j]).set j (some (.str ⟨#[c]⟩))) H' Q')
    (k : ∀ (D : Addr) (H' : Hp), Same H H' → H D = none → H' D = some (.lst ((z.cps.toList.map f).map V.bl)) → Q (.ref D) H') : tLc (iStr tz) (gName j) tYes te [j] σ H Q := by
  refine hv _ ⟨z, rfl, fun D hD => ?_⟩
  refine lc_it walk_str (fun i H' => Same H H' ∧ H' D = some (.lst (((z.cps.toList.take i).map f).map V.bl))) ⟨same_upd hD, upd_same⟩ (fun _ _ _ _ => trivial) ?_ ?_
  · rintro i x H1 H2 hi ⟨sm, eD⟩ ⟨rfl, c, hc, rfl⟩
    refine ⟨hw _, ?_⟩
    refine hs c H2 _ ⟨_, eD, ?_, ?_, ?_⟩
    · rw [List.length_map, List.length_map, List.length_take]
      have : i < 100000 := Nat.lt_of_lt_of_le hi hz
      exact Nat.lt_of_le_of_lt (Nat.min_le_left _ _) (Nat.lt_of_lt_of_le this (by decide))
    · intro b o e
      rw [upd_ne (ne_of_none e hD)]
      exact sm b o e
    · rw [upd_same, List.take_add_one]
      have e : z.cps.toList[i]? = some c := by
        rw [Array.getElem?_toList]
        exact hc
      rw [e]
      simp
  · rintro H' ⟨sm, eD⟩
    refine k D H' sm hD ?_
    rw [eD, List.take_of_length_le (by rw [Array.length_toList]; exact Nat.le_refl _)]
theorem list_all_map {α : Type} (f : α → Bool) (l : List α) : (l.map f).all id = l.all f := by
  rw [List.all_map]
  rfl
end My
namespace My
open PySem L2
section
variable {X : Cx}
theorem iop_mulW : OpR X (inplaceOp .Mult) (rI CMulW fun i j => .int (i * j)) := opI fun _ _ _ _ _ _ _ hc q => PyProof.Rows.imul_int q hc.ok
theorem ip_mulW : PIp X .Mult (rI CMulW fun i j => .int (i * j)) := fun pins s σ H x y v u Q I rx ry h => iop_mulW pins s σ H x y v u Q I rx ry h
theorem ip_fdivW : PIp X .FloorDiv (rI CDivW fun i j => .int (i / j)) := fun pins s σ H x y v u Q I rx ry h => iop_fdivW pins s σ H x y v u Q I rx ry h
end
theorem pow_lt {b : Int} {m : Nat} (h : b.natAbs < 2 ^ m) : ∀ i : Nat, (b ^ i).natAbs < 2 ^ (m * i + 1)
  | 0 => by
    rw [Int.pow_zero, Nat.mul_zero]
    decide
  | i + 1 => by
    have q := pow_lt h i
    rw [Int.pow_succ]
    have e : m * (i + 1) + 1 = (m * i + 1) + m := by rw [Nat.mul_succ]; omega
    rw [e]
    exact wide_lt q h
/-- base, power: the power, by a product for each turn -/
def spRaised : Sp := fun vs H Q _ => ∃ (b : Int) (p m : Nat), vs = [.int b, .int p] ∧ b.natAbs < 2 ^ m ∧ 0 < m ∧ m * (p + 1) ≤ 900000 ∧ Q (.int (b ^ p)) H
theorem raised_ok {b : Int} {m p i : Nat} (h : b.natAbs < 2 ^ m) (h0 : 0 < m) (h1 : m * (p + 1) ≤ 900000) (hi : i < p) : CMulW (b ^ i) b := by
  have e1 : m * i + m ≤ m * (p + 1) := by
    rw [← Nat.mul_succ]
    exact Nat.mul_le_mul_left _ (by omega)
  exact wide_mul (pow_lt h i) h (by omega) h0 (by omega)
theorem raised_small {m p : Nat} (h0 : 0 < m) (h1 : m * (p + 1) ≤ 900000) : p < 900000 := by
  have : 1 * (p + 1) ≤ m * (p + 1) := Nat.mul_le_mul_right _ h0
  omega
end My
namespace My
open PySem L2
/-- a comprehension whose turns leave all that stood as it was: the values f i -/
theorem lc_pure {J : It} {n : Nat} {G : Hp → Prop} {Y : Nat → Hp → V → Hp → Prop} (w : Walk J n G Y) {g : TG} {te : TE} {vs : List Nat} {σ : L2.St} {H : Hp} {D : Addr} {Qd : Hp → Prop} (f : Nat → V) (hn : n ≤ 100000) (hD : H D = none) (hG : ∀ H', Same H H' → G H')
    (hs : ∀ (i : Nat) (x : V) (H1 H2 : Hp) (Q' : VK), i < n → Same H H1 → Y i H1 x H2 → (∀ H4, Same H1 H4 → Q' (f i) H4) → g x (wipe σ vs) H2 fun σ2 H3 => wipe σ2 vs = wipe σ vs ∧ te σ2 H3 Q')
    (k : ∀ H', Same H H' → H' D = some (.lst ((List.range n).map f)) → Qd H') :
    ∃ W : Nat → Nat → Hp → Prop, (∃ m, W 0 m (upd H D (.lst []))) ∧ ∀ i m H, W i m H →
      (J.stop i H ∧ Qd H) ∨ (J.go i H ∧ ∃ Nx : Hp → Prop, (∀ H', Nx H' → ∃ m', m' < m ∧ W (i + 1) m' H') ∧ ∀ x H', J.yld i H x H' → g x (wipe σ vs) H' fun σ2 H2 => wipe σ2 vs = wipe σ vs ∧ tYes σ2 H2 fun b H3 =>
        if b = true then te σ2 H3 fun y H4 => ∃ acc, H4 D = some (.lst acc) ∧ acc.length < sizeLine ∧ Nx (upd H4 D (.lst (acc ++ [y]))) else Nx H3) := by
  refine lc_it w (fun i H' => Same H H' ∧ H' D = some (.lst ((List.range i).map f))) ⟨same_upd hD, upd_same⟩ (fun i H' _ p => hG H' p.1) ?_ (fun H' p => k H' p.1 p.2)
  rintro i x H1 H2 hi ⟨sm, eD⟩ y
  refine hs i x H1 H2 _ hi sm y fun H4 s4 => ?_
  refine ⟨_, s4 _ _ eD, ?_, ?_, ?_⟩
  · rw [List.length_map, List.length_range]
    exact Nat.lt_of_lt_of_le hi (Nat.le_trans hn (by decide))
  · intro b o e
    rw [upd_ne (ne_of_none e hD)]
    exact s4 _ _ (sm b o e)
  · rw [upd_same, List.range_succ, List.map_append]
    rfl
/-- the draw's list and what was frozen -/
theorem Grow.draw {G H H' : Hp} {d : Addr} (sg : Same G H) (gd : G d = .none) (b : But (Only1 d) H H') : Grow (Only1 d) G H G H' :=
  ⟨Same.refl _, fun c o e => b c o (sg c o e) (fun q => by
    rw [show c = d from q, gd] at e
    cases e), b, fun _ _ => rfl⟩
end My
namespace My
open PySem L2
abbrev keptL : List Str := ["step", "for", "from", "to", "if", "else", "double", "call", "with", "again", "on", "halves", "thirds", "less", "n"]
end My
namespace My
open PySem L2
/-! ### texts -/
def num (i : Int) : Str := Str.ofString (toString i)
theorem str_assoc (a b c : Str) : a ++ b ++ c = a ++ (b ++ c) := congrArg Str.mk (Array.append_assoc (xs := a.cps) (ys := b.cps) (zs := c.cps))
theorem str_nil (a : Str) : Str.empty ++ a = a := congrArg Str.mk (Array.empty_append (xs := a.cps))
theorem str_nil_r (a : Str) : a ++ Str.empty = a := congrArg Str.mk (Array.append_empty (xs := a.cps))
theorem str_len (a b : Str) : (a ++ b).length = a.length + b.length := Array.size_append
theorem join_one (s x : Str) : Txt.join s [x] = x := by rw [TL.join_eq]; rfl
theorem join_nil (s : Str) : Txt.join s [] = Str.empty := by rw [TL.join_eq]; rfl
theorem join_cons {s x : Str} {l : List Str} (h : l ≠ []) : Txt.join s (x :: l) = x ++ s ++ Txt.join s l := by
  cases l with
  | nil => exact absurd rfl h
  | cons y r => rw [TL.join_eq, TL.join_eq]; rfl
theorem join_snoc {s x : Str} : ∀ {l : List Str}, l ≠ [] → Txt.join s (l ++ [x]) = Txt.join s l ++ s ++ x
  | [], h => absurd rfl h
  | [y], _ => by rw [List.singleton_append, join_cons (by simp), join_one, join_one]
  | y :: z :: r, _ => by
    have ih := join_snoc (s := s) (x := x) (l := z :: r) (by simp)
    rw [List.cons_append, join_cons (by simp), ih, join_cons (l := z :: r) (by simp)]
    simp only [str_assoc]
theorem join_len (s : Str) : ∀ l : List Str, (Txt.join s l).length ≤ (l.map (·.length)).sum + l.length * s.length
  | [] => by rw [join_nil]; exact Nat.zero_le _
  | [x] => by rw [join_one]; simp
  | x :: y :: r => by
    have ih := join_len s (y :: r)
    rw [join_cons (by simp), str_len, str_len]
    simp only [List.map_cons, List.sum_cons, List.length_cons, Nat.add_mul, Nat.one_mul] at ih ⊢
    omega
theorem sum_le {B : Nat} : ∀ {l : List Str}, (∀ x ∈ l, x.length ≤ B) → (l.map (·.length)).sum ≤ l.length * B
  | [], _ => by simp
  | x :: r, h => by
    have ih := sum_le (l := r) fun y hy => h y (List.mem_cons_of_mem _ hy)
    have h1 := h x (List.mem_cons_self ..)
    simp only [List.map_cons, List.sum_cons, List.length_cons, Nat.add_mul, Nat.one_mul]
    omega
theorem num_len {i : Int} {k : Nat} (hk : 0 < k) (h : i.natAbs.log2 < k) : (num i).length ≤ k + 1 := by
  have e := int_text_length_le hk h
  have e2 : (num i).length = (toString i).length := by
    unfold num
    rw [Str.ofString_eq_toList]
    show ((toString i).toList.map Char.toNat).toArray.size = _
    rw [List.size_toArray, List.length_map]
    rfl
  omega
theorem log_lt {i : Int} {k : Nat} (h0 : i.natAbs < 2 ^ k) (hk : 0 < k) : i.natAbs.log2 < k := by
  by_cases h : i.natAbs = 0
  · rw [h]; exact hk
  · exact (Nat.log2_lt h).mpr h0
end My
namespace L2
open PySem
theorem Dp.tup2 {K : PySem.W.Frag} {H : Hp} {v : V} {d e : PyData} (h : Dp K H v (.tuple [d, e])) : ∃ a x y, v = .ref a ∧ SqT K H a [x, y] ∧ Dp K H x d ∧ Dp K H y e := by
  cases h with
  | tup hs hr =>
    cases hr with
    | cons h1 hr =>
      cases hr with
      | cons h2 hr =>
        cases hr
        exact ⟨_, _, _, rfl, hs, h1, h2⟩
theorem Dp.lst' {K : PySem.W.Frag} {H : Hp} {v : V} {ds : List PyData} (h : Dp K H v (.list ds)) : ∃ a xs, v = .ref a ∧ SqL K H a xs ∧ DpAll K H xs ds := by
  cases h with
  | lst hs hr => exact ⟨_, _, rfl, hs, hr⟩
theorem Dp.int' {K : PySem.W.Frag} {H : Hp} {v : V} {i : Int} (h : Dp K H v (.int i)) : v = .int i := by
  cases h
  rfl
theorem Dp.str' {K : PySem.W.Frag} {H : Hp} {v : V} {x : Str} (h : Dp K H v (.str x)) : v = .str x := by
  cases h
  rfl
end L2
namespace My
open PySem L2
theorem canLay_map {α : Type} {f : α → PyData} : ∀ {l : List α}, (∀ x ∈ l, (f x).canLay0 = true) → PyData.canLayAll0 (l.map f) = true
  | [], _ => rfl
  | x :: r, h => by
    have h1 := h x (List.mem_cons_self ..)
    have h2 := canLay_map (f := f) (l := r) fun y hy => h y (List.mem_cons_of_mem _ hy)
    simp only [List.map_cons, PyData.canLayAll0, h1, h2, Bool.and_self]
theorem depth_map {α : Type} {f : α → PyData} {n : Nat} : ∀ {l : List α}, (∀ x ∈ l, (f x).depth ≤ n) → PyData.depthAll (l.map f) ≤ n
  | [], _ => Nat.zero_le _
  | x :: r, h => by
    have h1 := h x (List.mem_cons_self ..)
    have h2 := depth_map (f := f) (l := r) fun y hy => h y (List.mem_cons_of_mem _ hy)
    simp only [List.map_cons, PyData.depthAll]
    omega
theorem shaped_list {α : Type} {f : α → PyData} {l : List α} (h : ∀ x ∈ l, (f x).canLay0 = true ∧ (f x).depth ≤ 63) : SeqAt.shaped (.list (l.map f)) = true := by
  unfold SeqAt.shaped
  rw [Bool.and_eq_true, decide_eq_true_eq]
  refine ⟨?_, ?_⟩
  · unfold PyData.canLay0
    exact canLay_map fun x hx => (h x hx).1
  · unfold PyData.depth
    have := depth_map (f := f) (n := 63) (l := l) fun x hx => (h x hx).2
    omega
theorem shaped_nil : SeqAt.shaped (.list []) = true := shaped_list (α := Int) (f := PyData.int) (l := []) (by simp)
theorem eqv_nil {α : Type} (f : α → PyData) (l : List α) : PyData.eqv (.list (l.map f)) (.list []) = l.isEmpty := by
  cases l with
  | nil => rfl
  | cons x r => rfl
theorem strOk_of (s : String) : PyData.strOk (Str.ofString s) = true := by
  unfold PyData.strOk
  rw [Str.ofString_eq_toList]
  show ((s.toList.map Char.toNat).toArray).all (fun x => decide (x < 1114112)) = true
  rw [List.all_toArray]
  rw [List.all_eq_true]
  intro c hc
  obtain ⟨ch, _, rfl⟩ := List.mem_map.mp hc
  have h := ch.valid
  have : ch.toNat < 1114112 := by
    rcases h with h | h
    · exact Nat.lt_trans h (by decide)
    · exact h.2
  exact decide_eq_true this
theorem strOk_app {a b : Str} (h1 : PyData.strOk a = true) (h2 : PyData.strOk b = true) : PyData.strOk (a ++ b) = true := by
  unfold PyData.strOk at *
  show (a.cps ++ b.cps).all _ = true
  rw [Array.all_append, h1, h2]
  rfl
theorem same_put {H H1 : Hp} {p : Addr} {o : HO} (a : Same H H1) (h : H p = none) : Same H (upd H1 p o) := fun b x e => by
  rw [upd_ne (ne_of_none e h)]
  exact a b x e
theorem DpAll.at_ {K : PySem.W.Frag} {H : Hp} {α : Type} {f : α → PyData} {us : List V} {l : List α} {i : Nat} {x : V} (h : DpAll K H us (l.map f)) (hx : us[i]? = some x) : ∃ r, l[i]? = some r ∧ Dp K H x (f r) := by
  obtain ⟨d, e, q⟩ := DpAll.get h hx
  rw [List.getElem?_map] at e
  cases hr : l[i]? with
  | none => rw [hr] at e; cases e
  | some r =>
    rw [hr] at e
    exact ⟨r, rfl, by rw [Option.some.inj e]; exact q⟩
theorem take_snoc {α : Type} {l : List α} {i : Nat} {r : α} (h : l[i]? = some r) : l.take (i + 1) = l.take i ++ [r] := by
  rw [List.take_add_one, h]
  rfl
theorem range_getD {α : Type} (l : List α) (d : α) : (List.range l.length).map (fun i => l.getD i d) = l := by
  apply List.ext_getElem?
  intro i
  rw [List.getElem?_map]
  by_cases h : i < l.length
  · rw [List.getElem?_range h, List.getElem?_eq_getElem h]
    show some (l.getD i d) = some l[i]
    rw [List.getD_eq_getElem?_getD, List.getElem?_eq_getElem h]
    rfl
  · rw [List.getElem?_eq_none (by simpa using h), List.getElem?_eq_none (by omega)]
    rfl
theorem getD_of' {α : Type} {l : List α} {d r : α} {i : Nat} (h : l[i]? = some r) : l.getD i d = r := by
  rw [List.getD_eq_getElem?_getD, h]
  rfl
end My
namespace L2
open PySem
theorem Dp.tup' {K : PySem.W.Frag} {H : Hp} {v : V} {ds : List PyData} (h : Dp K H v (.tuple ds)) : ∃ a xs, v = .ref a ∧ SqT K H a xs ∧ DpAll K H xs ds := by
  cases h with
  | tup hs hr => exact ⟨_, _, rfl, hs, hr⟩
theorem DpAll.c {K : PySem.W.Frag} {H : Hp} {vs : List V} {d : PyData} {ds : List PyData} (h : DpAll K H vs (d :: ds)) : ∃ x r, vs = x :: r ∧ Dp K H x d ∧ DpAll K H r ds := by
  cases h with
  | cons a b => exact ⟨_, _, rfl, a, b⟩
theorem DpAll.n {K : PySem.W.Frag} {H : Hp} {vs : List V} (h : DpAll K H vs []) : vs = [] := by
  cases h
  rfl
end L2
namespace My
open PySem L2
theorem inV_strs (x : Str) (l : List Str) : inV (.str x) (l.map V.str) = decide (x ∈ l) := by
  induction l with
  | nil => rfl
  | cons y r ih =>
    rw [List.map_cons]
    show (eqV (.str y) (.str x) || inV (.str x) (r.map V.str)) = _
    rw [ih]
    have e : eqV (.str y) (.str x) = decide (y = x) := by
      unfold eqV
      by_cases h : y = x
      · simp [h]
      · simp [h]
    rw [e]
    by_cases h : x = y
    · subst h
      simp
    · have h2 : ¬ y = x := fun q => h q.symm
      simp [h, h2]
theorem flat_strs (l : List Str) : (l.map V.str).all flatV = true := by
  rw [List.all_map, List.all_eq_true]
  intro x _
  rfl
end My
namespace My
open PySem PySem.Spec PyProof.Rows L2
section
variable {prog : Program} {w : World} {A : Around} {E : Value → Shared → Prop} {s : Shared}
theorem walks_tupleFrom {A : Around} (hh : A.handled = none) (I ax : Addr) (hne : ax ≠ I) (items : Array Value) (k : Nat) (hk : k ≤ items.size) :
    Walks prog w A I [I, ax] [I] (items.size - k) (fun i v => items[k + i]? = some v) (fun i h => h.IsTupleIter I ax (k + i) ∧ h.IsTuple ax items) where
  sub := fun b hb => by simp at hb; simp [hb]
  frame := fun _ _ _ st hk => ⟨st.1.at fun o e => hk I (by simp) o e, st.2.at fun o e => hk ax (by simp) o e⟩
  item := fun i s Q E hi st hQ => by
    have hi' : k + i < items.size := by omega
    refine wpAny_pyNext_tuple_item st.1 st.2 (x := items[k + i]) (by simp [hi']) fun h' hit' hs' => ?_
    exact hQ _ h' s.toks (by simp [hi']) ⟨hit', st.2.extBut hs'.extBut hne⟩ fun b o hb e => hs'.extBut b o (fun h => hb (by simp [h])) e
  done := fun s Q E st hQ => wpAny_pyNext_tuple_end hh st.1 st.2 (by simp; omega) fun h' he' => hQ h' s.toks fun b o hb e => he' b o (fun h => hb (by simp [h])) e
  self := fun _ _ _ _ st hQ => wpAny_pyIter_tupleiter st.1 hQ
theorem itemsOf_eq {items acc : Array Value} {x : Value} {r : List Value} (e : items = (x :: r).toArray) (h : ItemsOf (fun i v => items[1 + i]? = some v) acc (items.size - 1)) : acc.toList = r := by
  subst e
  obtain ⟨h1, h2⟩ := h
  have hs : acc.size = r.length := by rw [h1]; simp
  apply List.ext_getElem?
  intro i
  by_cases hi : i < r.length
  · have e1 : acc[i]? = some acc[i] := Array.getElem?_eq_getElem (by omega)
    have e2 := h2 i _ e1
    rw [Array.getElem?_toList, e1]
    have e2 : (x :: r).toArray[1 + i]? = some acc[i] := e2
    rw [Nat.add_comm] at e2
    simpa using e2.symm
  · rw [Array.getElem?_toList, Array.getElem?_eq_none (by omega), List.getElem?_eq_none (by omega)]
theorem unpackItems_star1 {t : Addr} {x : Value} {r : List Value} {Q : List Value → Shared → Prop} (hh : A.handled = none) (ht : s.heap.IsTuple t (x :: r).toArray) (hz : r.length ≤ sizeLine)
    (hQ : ∀ (h' : Heap) (tk : Nat), (∀ b o, s.heap.get? b = some o → h'.get? b = some o) → Q [x, .ref h'.objs.size] { s with heap := h'.push { cls := .type "list", data := .seq r.toArray }, toks := tk }) :
    wpAny (model prog w) A (unpackItems (.ref t) 2 (some 1)) Q E s := by
  have hlt : t ≠ s.heap.objs.size := by obtain ⟨o, ho, _⟩ := ht; exact Nat.ne_of_lt (Heap.lt_size ho)
  unfold unpackItems
  refine wpAny_bind ?_
  · unfold notIterableAtAll
    refine wpAny_bind (wpAny_specialOf ht.typeIs F.slot_tuple_iter.lookup ?_)
    refine wpAny_pure ?_
    simp only [Bool.false_eq_true, if_false]
    refine wpAny_bind (wpAny_holding (wpAny_pyIter_tuple ht ?_))
    refine wpAny_bind (wpAny_holding (wpAny_draw_tuple hlt 1 0 _ _ ⟨_, Heap.get?_push_size _ rfl, rfl, rfl⟩ (ht.push _) (by simp) fun h₁ hit₁ hs₁ => ?_))
    rw [if_neg (by simp)]
    have ht₁ : h₁.IsTuple t (x :: r).toArray := (ht.push _).extBut hs₁.extBut hlt
    have W := (walks_tupleFrom (prog := prog) (w := w) (A := A.in1) hh s.heap.objs.size t hlt (x :: r).toArray 1 (by simp)).toS
    refine wpAny_bind (wpAny_holding (wpAny_collect_iter (T := "tuple_iterator") (.inr (.inr (.inr rfl))) W (fun i s st => st.1.typeIs) ⟨by simpa using hit₁, ht₁⟩ ?_ (by simp) (fun s' acc hm hi => ?_) (by simpa using hz)))
    · intro b hb
      have h1 := hit₁
      obtain ⟨o, ho, _⟩ := hit₁
      obtain ⟨o2, ho2, _⟩ := ht₁
      simp only [List.mem_cons, List.not_mem_nil, or_false] at hb
      rcases hb with rfl | rfl
      · exact Heap.lt_size ho
      · exact Heap.lt_size ho2
    · have ea := itemsOf_eq rfl hi
      rw [ea]
      rw [Moved.eq_with hm]
      rw [if_neg (by simp)]
      have e1 : List.take (r.length - (2 - 1 - 1)) r = r := List.take_of_length_le (by omega)
      have e2 : List.drop (r.length - (2 - 1 - 1)) r = [] := List.drop_of_length_le (by omega)
      rw [e1, e2]
      refine wpAny_bind (wpAny_newObj_type ?_)
      refine wpAny_pure ?_
      have kk : ∀ b o, s.heap.get? b = some o → s'.heap.get? b = some o := fun b o e => by
        have nb : b ≠ s.heap.objs.size := Nat.ne_of_lt (Heap.lt_size e)
        exact hm.heap b o (by simpa using nb) (hs₁.extBut b o nb (Heap.get?_push_of_some _ e))
      exact hQ _ _ kk
theorem assign_star1 {env : Env} {elts : List Expr} {x1} {pos : Pos} {t : Addr} {x : Value} {r : List Value} {Q : Unit → Shared → Prop} (hh : A.handled = none) (ht : s.heap.IsTuple t (x :: r).toArray) (hz : r.length ≤ sizeLine)
    (hn : (assignEach elts env).length = 2) (hstar : (assignEach elts env).findIdx? (·.1) = some 1)
    (h : ∀ (h' : Heap) (tk : Nat), (∀ b o, s.heap.get? b = some o → h'.get? b = some o) →
      wpAny (model prog w) A (assignInOrder ((assignEach elts env).map (·.2)) [x, .ref h'.objs.size]) Q E { s with heap := h'.push { cls := .type "list", data := .seq r.toArray }, toks := tk }) :
    wpAny (model prog w) A (assign (.Tuple elts x1 pos) env (.ref t)) Q E s := by
  rw [assign_Tuple]
  refine wpAny_bind (wpAny_standAt ?_)
  unfold unpack
  rw [hn, hstar]
  exact wpAny_bind (wpAny_holding (unpackItems_star1 hh ht hz h))
end
section
variable {X : Cx} {pos : Pos}
/-- x, *r = a tuple -/
def gStar (K : PySem.W.Frag) (g0 g1 : TG) : TG := fun v σ H Q => ∃ a x xs, v = .ref a ∧ SqT K H a (x :: xs) ∧ ∀ p, H p = none → g0 x σ (upd H p (.lst xs)) fun σ1 H1 => g1 (.ref p) σ1 H1 Q
theorem pg_star {e0 e1 : Expr} {p1 : Pos} {k : Nat} {g0 g1 : TG} (hc : X.calm = true) (h0 : PG X e0 g0) (h1 : PG X e1 g1)
    (hn : (assignEach [e0, .Starred e1 p1] X.env).length = 2 := by rfl) (hst : (assignEach [e0, .Starred e1 p1] X.env).findIdx? (·.1) = some 1 := by rfl)
    (hm : (assignEach [e0, .Starred e1 p1] X.env).map (·.2) = [assign e0 X.env, assign e1 X.env] := by rfl) : PG X (.Tuple [e0, .Starred e1 p1] k pos) (gStar X.K g0 g1) := by
  refine ⟨fun pins s σ H v u Q I r hw => ?_⟩
  obtain ⟨a, x, xs, e1', hq, hw⟩ := hw
  subst e1'
  cases r
  obtain ⟨its, rv, ht, hz⟩ := I.tuple hq
  cases rv with
  | @cons _ y _ ys rx rr =>
    have hl := rr.length
    refine assign_star1 (I.ok.hd hc) ht (by simp at hz; omega) hn hst fun h' tk kk => ?_
    have I1 : Inv X pins σ H { s with heap := h', toks := tk } := I.kept kk
    have I2 := I1.lnew (t' := tk) rr (by simp at hz; omega)
    rw [hm]
    refine assignInOrder_cons (thn (h0.run pins _ σ _ x _ _ I2 rx (hw h'.objs.size I1.fresh)) fun _ s1 ⟨σ1, H1, I3, q1⟩ => ?_)
    refine assignInOrder_cons (thn (h1.run pins s1 σ1 H1 (.ref h'.objs.size) _ _ I3 rfl q1) fun _ s2 ⟨σ2, H2, I4, q2⟩ => ?_)
    exact assignInOrder_nil ⟨σ2, H2, I4, q2⟩
/-- a text, many times -/
def repS (x : Str) (k : Nat) : Str := ⟨(List.replicate k x.cps).foldl (· ++ ·) #[]⟩
theorem op_repS : OpR X (binaryOp .Mult) (fun x y H Q => ∃ (i : Str) (k : Int), x = .str i ∧ y = .int k ∧ 2 ≤ k ∧ k < 2 ^ 20 ∧ 0 < i.length ∧ i.length * k.toNat ≤ 2 ^ 20 ∧ (repS i k.toNat).length ≤ sizeLine ∧ Q (.str (repS i k.toNat)) H) := by
  intro pins s σ H x y v u Q I rx ry h
  obtain ⟨i, k, rfl, rfl, h1, h2, h3, h4, h5, q⟩ := h
  obtain ⟨t, rfl⟩ := rx
  obtain ⟨t', rfl⟩ := ry
  have n1 : ¬ k < 1 := by omega
  have n2 : (k == 1 || i.length == 0) = false := by
    rw [Bool.or_eq_false_iff]
    exact ⟨beq_false_of_ne (by omega), beq_false_of_ne (by omega)⟩
  refine PySem.P.mul_str ?_ (fun _ _ => ?_) (fun _ _ => ?_) ?_
  · rw [decide_eq_false (by omega), decide_eq_false (by omega)]
    rfl
  · have e : (i.length : Int) ≤ 2 ^ 20 := by
      have := Nat.le_mul_of_pos_right i.length (show 0 < k.toNat by omega)
      omega
    have : (2 ^ 63 - 1 : Int) / 2 ^ 20 ≤ (2 ^ 63 - 1) / k := by
      rw [Int.le_ediv_iff_mul_le (by omega)]
      have e3 : (2 ^ 63 - 1 : Int) / 2 ^ 20 * k ≤ (2 ^ 63 - 1) / 2 ^ 20 * 2 ^ 20 := Int.mul_le_mul_of_nonneg_left (by omega) (by decide)
      exact Int.le_trans e3 (by decide)
    have e2 : (2 ^ 20 : Int) ≤ (2 ^ 63 - 1) / 2 ^ 20 := by decide
    omega
  · unfold Builtin.Str.tooLong
    rw [decide_eq_false]
    exact Nat.not_lt.mpr (Nat.le_trans h4 (by decide))
  · rw [if_neg n1, if_neg (by rw [n2]; decide)]
    exact ⟨h5, ⟨.str (repS i k.toNat), H, I.tok _, ⟨_, rfl⟩, q⟩⟩
end
end My
namespace My
open PySem L2
/-! ### plans as data -/
abbrev En := Str × Int
inductive Thing where
  | step (n : Int)
  | call (nm : Str) (e : En)
  | double (b : List Thing)
  | loop (nm : Str) (e1 e2 : En) (b : List Thing)
  | test (e1 e2 : En) (b1 b2 : List Thing)
  | again (n : Int) (w : Str)
def endD (e : En) : PyData := .tuple [.str e.1, .int e.2]
mutual
def thingD : Thing → PyData
  | .step n => .tuple [.str "step", .int n]
  | .call nm e => .tuple [.str "call", .str nm, endD e]
  | .double b => .tuple [.str "double", .tuple (thingsD b)]
  | .loop nm e1 e2 b => .tuple [.str "for", .str nm, endD e1, endD e2, .tuple (thingsD b)]
  | .test e1 e2 b1 b2 => .tuple [.str "if", endD e1, endD e2, .tuple (thingsD b1), .tuple (thingsD b2)]
  | .again n w => .tuple [.str "again", .int n, .str w]
def thingsD : List Thing → List PyData
  | [] => []
  | t :: r => thingD t :: thingsD r
end
def planD (b : List Thing) : PyData := .tuple (thingsD b)
theorem thingsD_eq : ∀ b : List Thing, thingsD b = b.map thingD
  | [] => by simp [thingsD]
  | t :: r => by simp [thingsD, thingsD_eq r]
mutual
/-- how many things -/
def thingC : Thing → Nat
  | .double b => thingsC b + 1
  | .loop _ _ _ b => thingsC b + 1
  | .test _ _ b1 b2 => thingsC b1 + thingsC b2 + 1
  | _ => 1
def thingsC : List Thing → Nat
  | [] => 0
  | t :: r => thingC t + thingsC r
end
structure Kit where
  kn : List (Str × (Bool × Int × Int))
  fig : Bool
  wide : Bool
def NameOk (nm : Str) : Prop := 1 ≤ nm.length ∧ nm.length ≤ 8 ∧ (∀ c ∈ nm.cps.toList, 97 ≤ c ∧ c ≤ 122) ∧ nm ∉ keptL
def EndOk (wide : Bool) (sc : List Str) (e : En) : Prop := e.2.natAbs < (if wide then 100 else 5) ∧ ((e.1 = "" ∧ 0 ≤ e.2) ∨ e.1 ∈ sc)
mutual
def ThOk (k : Kit) : Thing → List Str → Nat → Prop
  | .step n => fun _ _ => 0 ≤ n ∧ n < 100
  | .call nm e => fun sc deep => ∃ en : Bool × Int × Int, (nm, en) ∈ k.kn ∧ en.2.1 + deep < 9 ∧ en.2.2 < 4 ∧ EndOk k.wide sc e ∧ (en.1 = true → e.1 = "" ∨ e = ((Str.ofString "n", 0) : En))
  | .double b => fun sc deep => deep ≤ 3 ∧ k.fig = true ∧ 1 ≤ b.length ∧ b.length ≤ 3 ∧ BdOk k b sc (deep + 1)
  | .loop nm e1 e2 b => fun sc deep => deep ≤ 3 ∧ NameOk nm ∧ nm ∉ sc ∧ EndOk k.wide sc e1 ∧ EndOk k.wide sc e2 ∧ 1 ≤ b.length ∧ b.length ≤ 3 ∧ BdOk k b (sc ++ [nm]) (deep + 1)
  | .test e1 e2 b1 b2 => fun sc deep => deep ≤ 3 ∧ EndOk k.wide sc e1 ∧ EndOk k.wide sc e2 ∧ 1 ≤ b1.length ∧ b1.length ≤ 3 ∧ b2.length ≤ 3 ∧ BdOk k b1 sc (deep + 1) ∧ BdOk k b2 sc (deep + 1)
  | .again _ _ => fun _ _ => False
def BdOk (k : Kit) : List Thing → List Str → Nat → Prop
  | [] => fun _ _ => True
  | t :: r => fun sc deep => ThOk k t sc deep ∧ BdOk k r sc deep
end
theorem BdOk.nil {k : Kit} {sc : List Str} {deep : Nat} : BdOk k [] sc deep := by simp [BdOk]
theorem BdOk.snoc {k : Kit} {sc : List Str} {deep : Nat} {t : Thing} (h : ThOk k t sc deep) : ∀ {b : List Thing}, BdOk k b sc deep → BdOk k (b ++ [t]) sc deep
  | [], _ => by
    rw [List.nil_append, BdOk]
    exact ⟨h, .nil⟩
  | x :: r, q => by
    rw [BdOk] at q
    rw [List.cons_append, BdOk]
    exact ⟨q.1, BdOk.snoc h q.2⟩
theorem BdOk.mem {k : Kit} {sc : List Str} {deep : Nat} {t : Thing} : ∀ {b : List Thing}, BdOk k b sc deep → t ∈ b → ThOk k t sc deep
  | [], _, h => nomatch h
  | x :: r, q, h => by
    rw [BdOk] at q
    rcases List.mem_cons.mp h with rfl | h
    · exact q.1
    · exact BdOk.mem q.2 h
theorem thingsC_snoc (t : Thing) : ∀ b : List Thing, thingsC (b ++ [t]) = thingsC b + thingC t
  | [] => by simp [thingsC]
  | x :: r => by
    rw [List.cons_append, thingsC, thingsC_snoc t r, thingsC]
    omega
theorem thingC_pos (t : Thing) : 1 ≤ thingC t := by
  cases t <;> simp [thingC]
theorem thingsC_len : ∀ b : List Thing, b.length ≤ thingsC b
  | [] => Nat.zero_le _
  | t :: r => by
    have := thingsC_len r
    have := thingC_pos t
    rw [thingsC, List.length_cons]
    omega
def letters : Str := "abcdefghijklmnopqrstuvwxyz"
theorem letters_ok : ∀ c ∈ letters.cps.toList, 97 ≤ c ∧ c ≤ 122 := by decide +kernel
theorem join_signs (cs : List Nat) : Txt.join "" (cs.map fun c => (⟨#[c]⟩ : Str)) = ⟨cs.toArray⟩ := by
  induction cs with
  | nil => rw [List.map_nil, join_nil]; rfl
  | cons c r ih =>
    cases r with
    | nil => rw [List.map_singleton, join_one]
    | cons x l =>
      rw [List.map_cons, join_cons (by simp), ih]
      show (⟨#[c]⟩ : Str) ++ Str.empty ++ ⟨(x :: l).toArray⟩ = _
      rw [str_nil_r]
      show (⟨#[c] ++ (x :: l).toArray⟩ : Str) = _
      simp
def spares : List Str := letters.cps.toList.map fun c => repS ⟨#[c]⟩ 2
theorem spares_ok : ∀ x ∈ spares, x.length = 2 ∧ (∀ c ∈ x.cps.toList, 97 ≤ c ∧ c ≤ 122) ∧ x ∉ keptL := by decide +kernel
theorem spares_nd : spares.Nodup := by decide +kernel
theorem spares_len : spares.length = 26 := by decide +kernel
theorem nodup_len {α : Type} [DecidableEq α] : ∀ {l m : List α}, l.Nodup → (∀ x ∈ l, x ∈ m) → l.length ≤ m.length
  | [], _, _, _ => Nat.zero_le _
  | x :: r, m, nd, h => by
    rw [List.nodup_cons] at nd
    have hx := h x (List.mem_cons_self ..)
    have ih := nodup_len (l := r) (m := m.erase x) nd.2 fun y hy => (List.mem_erase_of_ne (fun e => nd.1 (by rw [← e]; exact hy))).mpr (h y (List.mem_cons_of_mem _ hy))
    rw [List.length_erase_of_mem hx] at ih
    have := List.length_pos_of_mem hx
    rw [List.length_cons]
    omega
theorem spare_free {taken : List Str} (h : taken.length ≤ 25) : ∃ x, x ∈ spares ∧ x ∉ taken := by
  by_cases c : ∃ x, x ∈ spares ∧ x ∉ taken
  · exact c
  · exfalso
    have sub : ∀ x ∈ spares, x ∈ taken := fun x hx => by
      by_cases q : x ∈ taken
      · exact q
      · exact absurd ⟨x, hx, q⟩ c
    have := nodup_len spares_nd sub
    rw [spares_len] at this
    omega
end My
namespace My
open PySem L2
/-- the kit of a drawing: what is left, the plans that may be called, figures, wide -/
def KitAt (H : Hp) (kc dk : Addr) (r : Int) (k : Kit) : Prop := H kc = some (.lst [.int r, .ref dk, .bl k.fig, .bl k.wide])
structure KnAt (G : Hp) (dk : Addr) (kn : List (Str × (Bool × Int × Int))) : Prop where
  len : kn.length < 60
  ok : ∀ e ∈ kn, NameOk e.1
  ex : ∃ kvs : List (L2.Key × V), G dk = some (.dK kvs) ∧ kvs.map (·.1) = (kn.map (·.1)).map Sum.inr ∧
    ∀ nm, nm ∈ kn.map (·.1) → ∃ (en : Bool × Int × Int) (p : Addr), (nm, en) ∈ kn ∧ valV kvs (Sum.inr nm) = some (.ref p) ∧ G p = some (.tup [.bl en.1, .int en.2.1, .int en.2.2])
theorem KnAt.mono {G G' : Hp} {dk : Addr} {kn : List (Str × (Bool × Int × Int))} (h : KnAt G dk kn) (s : Same G G') : KnAt G' dk kn := by
  obtain ⟨kvs, e1, e2, e3⟩ := h.ex
  refine ⟨h.len, h.ok, kvs, s _ _ e1, e2, fun nm hn => ?_⟩
  obtain ⟨en, p, q1, q2, q3⟩ := e3 nm hn
  exact ⟨en, p, q1, q2, s _ _ q3⟩
theorem KitAt.ne {H : Hp} {kc dk d l : Addr} {r : Int} {k : Kit} (h : KitAt H kc dk r k) (D : DrawAt H d l) : kc ≠ d := by
  rintro rfl
  obtain ⟨ns, p, z, s, e, _⟩ := D.ex
  rw [h] at e
  cases e
theorem strOk_name {nm : Str} (h : NameOk nm) : PyData.strOk nm = true := by
  unfold PyData.strOk
  rw [← Array.all_toList, List.all_eq_true]
  intro c hc
  have := (h.2.2.1 c hc).2
  exact decide_eq_true (by omega)
end My
namespace My
open PySem L2
def Two (d c : Addr) : Addr → Prop := fun b => b = d ∨ b = c
theorem two_cell {H : Hp} {d l kc dk : Addr} {r : Int} {k : Kit} (D : DrawAt H d l) (kit : KitAt H kc dk r k) : ∀ c, Two d kc c → Cell (H c) := by
  rintro c (rfl | rfl)
  · exact D.cell
  · exact cell_lst kit
theorem KitAt.nel {H : Hp} {kc dk d l : Addr} {r : Int} {k : Kit} (h : KitAt H kc dk r k) (D : DrawAt H d l) : kc ≠ l := by
  rintro rfl
  obtain ⟨ns, p, z, s, _, e, _⟩ := D.ex
  rw [h] at e
  cases ns with
  | nil => cases e
  | cons a ns =>
    cases ns with
    | nil => cases e
    | cons b ns => cases e
theorem Grow.one {d c : Addr} {G H G' H' : Hp} (g : Grow (Only1 d) G H G' H') : Grow (Two d c) G H G' H' := g.mono fun _ e => .inl e
theorem KitAt.but {H H' : Hp} {kc dk d : Addr} {r : Int} {k : Kit} (h : KitAt H kc dk r k) (n : kc ≠ d) (b : But (Only1 d) H H') : KitAt H' kc dk r k := b _ _ h n
/-- thing and body promises -/
def spThing (K : PySem.W.Frag) (f : Nat) : Sp := fun vs H Q _ => ∃ (d l kc dk sa : Addr) (sc : List Str) (k : Kit) (r : Int) (deep : Nat) (G : Hp), vs = [.ref d, .ref kc, .ref sa, .int (deep : Nat)] ∧ Same G H ∧ G d = none ∧ G kc = none ∧ DrawAt H d l ∧ KitAt H kc dk r k ∧ KnAt G dk k.kn ∧
  G sa = some (.lst (sc.map V.str)) ∧ (Str.ofString "n") ∈ sc ∧ sc.length ≤ deep + 10 ∧ 1 ≤ r ∧ deep ≤ 4 ∧ 5 ≤ deep + f ∧
  ∀ (v : V) (t : Thing) (G' H' : Hp), Grow (Two d kc) G H G' H' → DrawAt H' d l → KitAt H' kc dk (r - thingC t) k → (thingC t : Int) ≤ r → Dp K G' v (thingD t) → ThOk k t sc deep → Q v H'
def spBody (K : PySem.W.Frag) (f : Nat) : Sp := fun vs H Q _ => ∃ (d l kc dk sa : Addr) (sc : List Str) (k : Kit) (r : Int) (deep : Nat) (G : Hp), vs = [.ref d, .ref kc, .ref sa, .int (deep : Nat)] ∧ Same G H ∧ G d = none ∧ G kc = none ∧ DrawAt H d l ∧ KitAt H kc dk r k ∧ KnAt G dk k.kn ∧
  G sa = some (.lst (sc.map V.str)) ∧ (Str.ofString "n") ∈ sc ∧ sc.length ≤ deep + 10 ∧ 1 ≤ r ∧ deep ≤ 4 ∧ 5 ≤ deep + f ∧
  ∀ (v : V) (b : List Thing) (G' H' : Hp), Grow (Two d kc) G H G' H' → DrawAt H' d l → KitAt H' kc dk (r - thingsC b) k → (thingsC b : Int) ≤ r → Dp K G' v (planD b) → BdOk k b sc deep → 1 ≤ b.length → b.length ≤ 3 → Q v H'
end My
namespace My
open PySem L2
/-! ### plans as texts -/
def endT (e : En) : Str := if e.1 = "" then num e.2 else if e.2 = 0 then e.1 else if 0 < e.2 then e.1 ++ " + " ++ num e.2 else e.1 ++ " - " ++ num (0 - e.2)
mutual
def thingT : Thing → Str
  | .step n => "step " ++ num n
  | .call nm e => "call " ++ nm ++ " with " ++ endT e
  | .double b => "double (" ++ planT b ++ ")"
  | .loop nm e1 e2 b => "for " ++ nm ++ " from " ++ endT e1 ++ " to " ++ endT e2 ++ " (" ++ planT b ++ ")"
  | .test e1 e2 b1 b2 => if b2.isEmpty then "if " ++ endT e1 ++ " <= " ++ endT e2 ++ " (" ++ planT b1 ++ ")" else "if " ++ endT e1 ++ " <= " ++ endT e2 ++ " (" ++ planT b1 ++ ")" ++ " else (" ++ planT b2 ++ ")"
  | .again n w => "again " ++ num n ++ " on " ++ w
def planT : List Thing → Str
  | [] => ""
  | [t] => thingT t
  | t :: u :: r => thingT t ++ "; " ++ planT (u :: r)
end
theorem planT_eq : ∀ b : List Thing, planT b = Txt.join "; " (b.map thingT)
  | [] => by
    rw [planT, List.map_nil, join_nil]
    rfl
  | [t] => by
    rw [planT, List.map_singleton, join_one]
  | t :: u :: r => by
    rw [planT, planT_eq (u :: r), List.map_cons (a := t), join_cons (l := (u :: r).map thingT) (by simp)]
/-- small names and numbers -/
def NmS (x : Str) : Prop := x.length ≤ 100 ∧ PyData.strOk x = true
def EnS (e : En) : Prop := NmS e.1 ∧ e.2.natAbs.log2 < 400
mutual
def ThS : Thing → Prop
  | .step n => n.natAbs.log2 < 400
  | .call nm e => NmS nm ∧ EnS e
  | .double b => BdS b
  | .loop nm e1 e2 b => NmS nm ∧ EnS e1 ∧ EnS e2 ∧ BdS b
  | .test e1 e2 b1 b2 => EnS e1 ∧ EnS e2 ∧ BdS b1 ∧ BdS b2
  | .again n w => n.natAbs.log2 < 400 ∧ NmS w
def BdS : List Thing → Prop
  | [] => True
  | t :: r => ThS t ∧ BdS r
end
theorem BdS.mem {t : Thing} : ∀ {b : List Thing}, BdS b → t ∈ b → ThS t
  | [], _, h => nomatch h
  | x :: r, q, h => by
    rw [BdS] at q
    rcases List.mem_cons.mp h with rfl | h
    · exact q.1
    · exact BdS.mem q.2 h
theorem BdS.of : ∀ {b : List Thing}, (∀ t ∈ b, ThS t) → BdS b
  | [], _ => by simp [BdS]
  | x :: r, q => by
    rw [BdS]
    exact ⟨q x (List.mem_cons_self ..), BdS.of fun t h => q t (List.mem_cons_of_mem _ h)⟩
theorem neg_log {i : Int} : (0 - i).natAbs = i.natAbs := by omega
theorem endT_len {e : En} (h : EnS e) : (endT e).length ≤ 504 := by
  have h1 := num_len (by decide) h.2
  have h2 := num_len (i := 0 - e.2) (k := 400) (by decide) (by rw [neg_log]; exact h.2)
  have h3 := h.1.1
  have e1 : (Str.ofString " + ").length = 3 := by decide
  have e2 : (Str.ofString " - ").length = 3 := by decide
  unfold endT
  split
  · omega
  · split
    · omega
    · split
      · rw [str_len, str_len, e1]; omega
      · rw [str_len, str_len, e2]; omega
theorem s_len1 : (Str.ofString "step ").length = 5 ∧ (Str.ofString "call ").length = 5 ∧ (Str.ofString " with ").length = 6 ∧ (Str.ofString "double (").length = 8 ∧ (Str.ofString ")").length = 1 ∧ (Str.ofString "for ").length = 4 ∧ (Str.ofString " from ").length = 6 ∧ (Str.ofString " to ").length = 4 ∧ (Str.ofString " (").length = 2 ∧
  (Str.ofString "if ").length = 3 ∧ (Str.ofString " <= ").length = 4 ∧ (Str.ofString " else (").length = 7 ∧ (Str.ofString "again ").length = 6 ∧ (Str.ofString " on ").length = 4 ∧ (Str.ofString "; ").length = 2 := by decide +kernel
mutual
theorem thingT_len : ∀ {t : Thing}, ThS t → (thingT t).length + 2 ≤ 3000 * thingC t
  | .step n, h => by
    rw [ThS] at h
    have := num_len (by decide) h
    have q := s_len1
    rw [thingT, thingC, str_len]
    · omega
    all_goals simp
  | .call nm e, h => by
    rw [ThS] at h
    have := endT_len h.2
    have h1 := h.1.1
    have q := s_len1
    rw [thingT, thingC, str_len, str_len, str_len]
    · omega
    all_goals simp
  | .double b, h => by
    rw [ThS] at h
    have := planT_len h
    have q := s_len1
    rw [thingT, thingC, str_len, str_len]
    omega
  | .loop nm e1 e2 b, h => by
    rw [ThS] at h
    have := planT_len h.2.2.2
    have h1 := h.1.1
    have h2 := endT_len h.2.1
    have h3 := endT_len h.2.2.1
    have q := s_len1
    rw [thingT, thingC]
    simp only [str_len]
    omega
  | .test e1 e2 b1 b2, h => by
    rw [ThS] at h
    have := planT_len h.2.2.1
    have := planT_len h.2.2.2
    have h2 := endT_len h.1
    have h3 := endT_len h.2.1
    have q := s_len1
    rw [thingT, thingC]
    split
    · simp only [str_len]
      omega
    · simp only [str_len]
      omega
  | .again n w, h => by
    rw [ThS] at h
    have := num_len (by decide) h.1
    have h1 := h.2.1
    have q := s_len1
    rw [thingT, thingC, str_len, str_len, str_len]
    · omega
    all_goals simp
theorem planT_len : ∀ {b : List Thing}, BdS b → (planT b).length ≤ 3000 * thingsC b
  | [], _ => by
    rw [planT]
    exact Nat.zero_le _
  | [t], h => by
    rw [BdS] at h
    have := thingT_len h.1
    rw [planT, thingsC]
    omega
  | t :: u :: r, h => by
    rw [BdS] at h
    have h1 := thingT_len h.1
    have h2 := planT_len h.2
    have q := s_len1
    rw [planT, thingsC, str_len, str_len]
    omega
end
theorem endD_lay {e : En} (h : EnS e) : (endD e).canLay0 = true ∧ (endD e).depth ≤ 1 := by
  have := h.1.2
  simp [endD, PyData.canLay0, PyData.canLayAll0, PyData.depth, PyData.depthAll, this]
theorem strOk_lit (s : String) : PyData.strOk (Str.ofString s) = true := strOk_of s
mutual
theorem thingD_lay : ∀ {t : Thing}, ThS t → (thingD t).canLay0 = true ∧ (thingD t).depth ≤ 2 * thingC t
  | .step n, h => by
    simp [thingD, thingC, PyData.canLay0, PyData.canLayAll0, PyData.depth, PyData.depthAll, strOk_lit]
  | .call nm e, h => by
    rw [ThS] at h
    have h1 := endD_lay h.2
    have h2 := h.1.2
    simp [thingD, thingC, PyData.canLay0, PyData.canLayAll0, PyData.depth, PyData.depthAll, strOk_lit, h1.1, h2]
    omega
  | .double b, h => by
    rw [ThS] at h
    have h1 := thingsD_lay h
    simp [thingD, thingC, PyData.canLay0, PyData.canLayAll0, PyData.depth, PyData.depthAll, strOk_lit, h1.1]
    omega
  | .loop nm e1 e2 b, h => by
    rw [ThS] at h
    have h1 := thingsD_lay h.2.2.2
    have h2 := h.1.2
    have h3 := endD_lay h.2.1
    have h4 := endD_lay h.2.2.1
    simp [thingD, thingC, PyData.canLay0, PyData.canLayAll0, PyData.depth, PyData.depthAll, strOk_lit, h1.1, h2, h3.1, h4.1]
    omega
  | .test e1 e2 b1 b2, h => by
    rw [ThS] at h
    have h1 := thingsD_lay h.2.2.1
    have h2 := thingsD_lay h.2.2.2
    have h3 := endD_lay h.1
    have h4 := endD_lay h.2.1
    simp [thingD, thingC, PyData.canLay0, PyData.canLayAll0, PyData.depth, PyData.depthAll, strOk_lit, h1.1, h2.1, h3.1, h4.1]
    omega
  | .again n w, h => by
    rw [ThS] at h
    have h2 := h.2.2
    simp [thingD, thingC, PyData.canLay0, PyData.canLayAll0, PyData.depth, PyData.depthAll, strOk_lit, h2]
theorem thingsD_lay : ∀ {b : List Thing}, BdS b → PyData.canLayAll0 (thingsD b) = true ∧ PyData.depthAll (thingsD b) ≤ 2 * thingsC b
  | [], _ => by simp [thingsD, PyData.canLayAll0, PyData.depthAll]
  | t :: r, h => by
    rw [BdS] at h
    have h1 := thingD_lay h.1
    have h2 := thingsD_lay h.2
    simp [thingsD, thingsC, PyData.canLayAll0, PyData.depthAll, h1.1, h2.1]
    omega
end
theorem shaped_plan {b : List Thing} (h : BdS b) (c : thingsC b ≤ 31) : SeqAt.shaped (planD b) = true := by
  have h1 := thingsD_lay h
  unfold SeqAt.shaped planD
  rw [Bool.and_eq_true, decide_eq_true_eq]
  unfold PyData.canLay0 PyData.depth
  exact ⟨h1.1, by omega⟩
theorem eqv_plan (b : List Thing) : PyData.eqv (planD b) (.tuple []) = b.isEmpty := by
  cases b with
  | nil => simp [planD, thingsD, PyData.eqv, PyData.eqvAll]
  | cons t r => simp [planD, thingsD, PyData.eqv, PyData.eqvAll]
end My
namespace My
open PySem L2
theorem str_e0 : Str.empty.length = 0 := rfl
theorem dec_ff {x y : Str} (h : x ≠ y) : decide (V.str x = V.str y) = false := decide_eq_false fun e => h (V.str.inj e)
theorem dec_tt (x : Str) : decide (V.str x = V.str x) = true := decide_eq_true rfl
theorem num_len' {i : Int} (h : i.natAbs.log2 < 400) : (Str.ofString (toString i)).length ≤ 401 := num_len (k := 400) (by decide) h
end My
namespace My
open PySem L2
theorem thingC_mem {t : Thing} : ∀ {b : List Thing}, t ∈ b → thingC t ≤ thingsC b
  | [], h => nomatch h
  | x :: r, h => by
    rw [thingsC]
    rcases List.mem_cons.mp h with rfl | h
    · omega
    · have := thingC_mem h
      omega
theorem planSum : ∀ {b : List Thing}, BdS b → ((b.map thingT).map (·.length)).sum + b.length * 2 ≤ 3000 * thingsC b
  | [], _ => by simp
  | t :: r, h => by
    rw [BdS] at h
    have h1 := thingT_len h.1
    have h2 := planSum h.2
    rw [thingsC, List.map_cons, List.map_cons, List.sum_cons, List.length_cons]
    omega
/-! promises of the writers -/
def spEndText (K : PySem.W.Frag) : Sp := fun vs H Q _ => ∃ (v : V) (e : En), vs = [v] ∧ Dp K H v (endD e) ∧ EnS e ∧ ∀ H', Same H H' → Q (.str (endT e)) H'
def spThingText (K : PySem.W.Frag) (f : Nat) : Sp := fun vs H Q _ => ∃ (v : V) (t : Thing), vs = [v] ∧ Dp K H v (thingD t) ∧ ThS t ∧ thingC t ≤ f ∧ thingC t ≤ 31 ∧ ∀ H', Same H H' → Q (.str (thingT t)) H'
def spPlanText (K : PySem.W.Frag) (f : Nat) : Sp := fun vs H Q _ => ∃ (v : V) (b : List Thing), vs = [v] ∧ Dp K H v (planD b) ∧ BdS b ∧ thingsC b ≤ f ∧ thingsC b ≤ 31 ∧ ∀ H', Same H H' → Q (.str (planT b)) H'
end My
namespace My
open PySem L2
theorem nmS_of {nm : Str} (h : NameOk nm) : NmS nm := ⟨by have := h.2.1; omega, strOk_name h⟩
theorem nmS_n : NmS "n" := ⟨by decide, strOk_of _⟩
theorem enS_of {wide : Bool} {sc : List Str} {e : En} (hs : ∀ x ∈ sc, NmS x) (h : EndOk wide sc e) : EnS e := by
  obtain ⟨h1, h2⟩ := h
  have h3 : e.2.natAbs < 100 := by
    cases wide
    · have : e.2.natAbs < 5 := h1
      omega
    · exact h1
  refine ⟨?_, log_lt (k := 400) (Nat.lt_trans h3 (by decide)) (by decide)⟩
  rcases h2 with ⟨h2, _⟩ | h2
  · rw [h2]
    exact ⟨by decide, strOk_of _⟩
  · exact hs _ h2
mutual
theorem thS_of {k : Kit} (hk : ∀ e ∈ k.kn, NameOk e.1) : ∀ {t : Thing} {sc : List Str} {deep : Nat}, (∀ x ∈ sc, NmS x) → ThOk k t sc deep → ThS t
  | .step n, sc, deep, hs, h => by
    rw [ThOk] at h
    rw [ThS]
    exact log_lt (k := 400) (Nat.lt_trans (m := 100) (by omega) (by decide)) (by decide)
  | .call nm e, sc, deep, hs, h => by
    rw [ThOk] at h
    obtain ⟨en, h1, _, _, h2, _⟩ := h
    rw [ThS]
    exact ⟨nmS_of (hk _ h1), enS_of hs h2⟩
  | .double b, sc, deep, hs, h => by
    rw [ThOk] at h
    rw [ThS]
    exact bdS_of hk hs h.2.2.2.2
  | .loop nm e1 e2 b, sc, deep, hs, h => by
    rw [ThOk] at h
    obtain ⟨_, h1, _, h2, h3, _, _, h4⟩ := h
    rw [ThS]
    refine ⟨nmS_of h1, enS_of hs h2, enS_of hs h3, bdS_of hk (fun x hx => ?_) h4⟩
    rcases List.mem_append.mp hx with hx | hx
    · exact hs x hx
    · rw [List.mem_singleton.mp hx]
      exact nmS_of h1
  | .test e1 e2 b1 b2, sc, deep, hs, h => by
    rw [ThOk] at h
    obtain ⟨_, h2, h3, _, _, _, h4, h5⟩ := h
    rw [ThS]
    exact ⟨enS_of hs h2, enS_of hs h3, bdS_of hk hs h4, bdS_of hk hs h5⟩
  | .again _ _, _, _, _, h => by
    rw [ThOk] at h
    exact h.elim
theorem bdS_of {k : Kit} (hk : ∀ e ∈ k.kn, NameOk e.1) : ∀ {b : List Thing} {sc : List Str} {deep : Nat}, (∀ x ∈ sc, NmS x) → BdOk k b sc deep → BdS b
  | [], _, _, _, _ => by simp [BdS]
  | t :: r, sc, deep, hs, h => by
    rw [BdOk] at h
    rw [BdS]
    exact ⟨thS_of hk hs h.1, bdS_of hk hs h.2⟩
end
theorem bdS_drawn {fig wide : Bool} {b : List Thing} (h : BdOk ⟨[], fig, wide⟩ b [Str.ofString "n"] 0) : BdS b :=
  bdS_of (fun e (h : e ∈ []) => nomatch h) (fun x hx => by rw [List.mem_singleton.mp hx]; exact nmS_n) h
/-! ### tuples cut and put together, frozen -/
theorem cat_G {K : PySem.W.Frag} {G H : Hp} {a b : Addr} {xs ys : List V} {Q : VK} (sg : Same G H) (ha : SqT K G a xs) (hb : SqT K G b ys) (hl : xs.length + ys.length ≤ 1000)
    (k : ∀ (p : Addr) (G' H' : Hp), Grow NoM G H G' H' → SqT K G' p (xs ++ ys) → Q (.ref p) H') : rCatA K (.ref a) (.ref b) H Q := by
  refine ⟨a, b, xs, ys, rfl, rfl, same_t sg ha, same_t sg hb, Nat.le_trans hl (by decide), fun e => ?_, fun e1 e => ?_, fun _ _ p hp => ?_⟩
  · subst e
    exact k b G H (Grow.refl sg) hb
  · subst e
    exact k a G H (Grow.refl sg) (by rw [List.append_nil]; exact ha)
  · exact k p _ _ ((Grow.refl sg).new (o := .tup (xs ++ ys)) hp (fun _ h => h.elim)) (SqT.of upd_same)
theorem sl_G {K : PySem.W.Frag} {G H : Hp} {a : Addr} {xs ys : List V} {lo hi : Option Int} {Q : VK} (sg : Same G H) (ha : SqT K G a xs) (hw : HT.sIx xs.length 0 lo = 0 ∧ HT.sIx xs.length xs.length hi = xs.length → ys = xs) (hc : cutV xs lo hi = ys)
    (k : ∀ (p : Addr) (G' H' : Hp), Grow NoM G H G' H' → SqT K G' p ys → Q (.ref p) H') : rSlA K (.ref a) lo hi H Q := by
  refine ⟨a, xs, rfl, same_t sg ha, fun e => ?_, fun _ p hp => ?_⟩
  · have := hw e
    subst this
    exact k a G H (Grow.refl sg) ha
  · rw [hc]
    exact k p _ _ ((Grow.refl sg).new (o := .tup ys) hp (fun _ h => h.elim)) (SqT.of upd_same)
theorem cut_head (xs : List V) : cutV xs none (some 1) = xs.take 1 := by
  unfold cutV
  rw [HT.sIx_none, List.drop_zero, Nat.sub_zero]
  show xs.take (HT.sIx xs.length xs.length (some ((1 : Nat) : Int))) = _
  rw [HT.sIx_nat]
  cases xs with
  | nil => rfl
  | cons x r => simp
theorem cut_tail (xs : List V) : cutV xs (some 2) none = xs.drop 2 := by
  unfold cutV
  rw [HT.sIx_none]
  show (xs.drop (HT.sIx xs.length 0 (some ((2 : Nat) : Int)))).take (xs.length - HT.sIx xs.length 0 (some ((2 : Nat) : Int))) = _
  rw [HT.sIx_nat]
  rw [List.take_of_length_le (by rw [List.length_drop]; exact Nat.le_refl _)]
  by_cases h : 2 ≤ xs.length
  · rw [Nat.min_eq_left h]
  · rw [Nat.min_eq_right (by omega), List.drop_of_length_le (Nat.le_refl _), List.drop_of_length_le (by omega)]
theorem DpAll_app {K : PySem.W.Frag} {H : Hp} {us vs : List V} {ds es : List PyData} (h1 : DpAll K H us ds) (h2 : DpAll K H vs es) : DpAll K H (us ++ vs) (ds ++ es) := by
  induction ds generalizing us with
  | nil =>
    rw [h1.n]
    exact h2
  | cons d r ih =>
    obtain ⟨x, u, rfl, hx, hr⟩ := h1.c
    exact .cons hx (ih hr)
theorem DpAll_take {K : PySem.W.Frag} {H : Hp} : ∀ {us : List V} {ds : List PyData} (n : Nat), DpAll K H us ds → DpAll K H (us.take n) (ds.take n)
  | _, _, 0, _ => .nil
  | _, [], n + 1, h => by
    rw [h.n]
    exact .nil
  | _, d :: ds, n + 1, h => by
    obtain ⟨x, u, rfl, hx, hr⟩ := h.c
    exact .cons hx (DpAll_take n hr)
theorem DpAll_drop {K : PySem.W.Frag} {H : Hp} : ∀ {us : List V} {ds : List PyData} (n : Nat), DpAll K H us ds → DpAll K H (us.drop n) (ds.drop n)
  | _, _, 0, h => h
  | _, [], n + 1, h => by
    rw [h.n]
    exact .nil
  | _, d :: ds, n + 1, h => by
    obtain ⟨x, u, rfl, hx, hr⟩ := h.c
    exact DpAll_drop n hr
theorem same_single {H : Hp} {a : Addr} {o : HO} (h : H a = some o) : Same (upd (fun _ => none) a o) H := fun b x e => by
  by_cases q : b = a
  · rw [q, upd_same] at e
    rw [q, h, e]
  · rw [upd_ne q] at e
    cases e
theorem thingsC_app : ∀ (a b : List Thing), thingsC (a ++ b) = thingsC a + thingsC b
  | [], b => by simp [thingsC]
  | t :: r, b => by
    rw [List.cons_append, thingsC, thingsC, thingsC_app r b]
    omega
end My
namespace My
open PySem L2
/-! ### what stands in a plan -/
def bodiesL : Thing → List (List Thing)
  | .double b => [b]
  | .loop _ _ _ b => [b]
  | .test _ _ b1 b2 => [b1, b2]
  | .step _ => []
  | .call _ _ => []
  | .again _ _ => []
mutual
def everyT : Thing → List Thing
  | .double b => .double b :: everyL b
  | .loop nm e1 e2 b => .loop nm e1 e2 b :: everyL b
  | .test e1 e2 b1 b2 => .test e1 e2 b1 b2 :: (everyL b1 ++ everyL b2)
  | .step n => [.step n]
  | .call nm e => [.call nm e]
  | .again n w => [.again n w]
def everyL : List Thing → List Thing
  | [] => []
  | t :: r => everyT t ++ everyL r
end
theorem everyT_eq (t : Thing) : everyT t = t :: (bodiesL t).flatMap everyL := by
  cases t <;> simp [everyT, bodiesL]
mutual
theorem everyT_len : ∀ t : Thing, (everyT t).length = thingC t
  | .step _ => by simp [everyT, thingC]
  | .call _ _ => by simp [everyT, thingC]
  | .again _ _ => by simp [everyT, thingC]
  | .double b => by simp [everyT, thingC, everyL_len b]
  | .loop _ _ _ b => by simp [everyT, thingC, everyL_len b]
  | .test _ _ b1 b2 => by simp [everyT, thingC, everyL_len b1, everyL_len b2]
theorem everyL_len : ∀ b : List Thing, (everyL b).length = thingsC b
  | [] => by simp [everyL, thingsC]
  | t :: r => by simp [everyL, thingsC, everyT_len t, everyL_len r]
end
theorem everyL_app : ∀ a b : List Thing, everyL (a ++ b) = everyL a ++ everyL b
  | [], b => by simp [everyL]
  | t :: r, b => by simp [everyL, everyL_app r b]
theorem bodies_lt {t : Thing} {b : List Thing} (h : b ∈ bodiesL t) : thingsC b < thingC t := by
  cases t <;> simp only [bodiesL, List.mem_cons, List.not_mem_nil, or_false] at h
  · subst h; simp [thingC]
  · subst h; simp [thingC]
  · rcases h with rfl | rfl <;> simp [thingC] <;> omega
def callStep (acc : List Str) : Thing → List Str
  | .call nm _ => if nm ∈ acc then acc else acc ++ [nm]
  | _ => acc
def callsL (b : List Thing) : List Str := (everyL b).foldl callStep []
theorem callStep_len (acc : List Str) (t : Thing) : (callStep acc t).length ≤ acc.length + 1 := by
  unfold callStep
  split
  · split <;> simp
  · omega
theorem calls_len : ∀ (l : List Thing) (acc : List Str), (l.foldl callStep acc).length ≤ acc.length + l.length
  | [], acc => Nat.le_refl _
  | t :: r, acc => by
    have h1 := callStep_len acc t
    have h2 := calls_len r (callStep acc t)
    rw [List.foldl_cons, List.length_cons]
    omega
end My
namespace My
open PySem L2
theorem same_none {H H' : Hp} {p : Addr} (s : Same H H') (h : H' p = none) : H p = none := by
  cases e : H p with
  | none => rfl
  | some o =>
    rw [s _ _ e] at h
    cases h
theorem take_C (b : List Thing) (i : Nat) : thingsC (b.take i) ≤ thingsC b := by
  have : thingsC b = thingsC (b.take i) + thingsC (b.drop i) := by rw [← thingsC_app, List.take_append_drop]
  omega
def everyP (b : List Thing) (i : Nat) (t : Thing) (j : Nat) : List Thing := everyL (b.take i) ++ (t :: ((bodiesL t).take j).flatMap everyL)
theorem flat_len : ∀ (l : List (List Thing)) (j : Nat), ((l.take j).flatMap everyL).length ≤ (l.flatMap everyL).length
  | [], j => by simp
  | x :: r, 0 => by simp
  | x :: r, j + 1 => by
    have := flat_len r j
    rw [List.take_succ_cons, List.flatMap_cons, List.flatMap_cons, List.length_append, List.length_append]
    omega
theorem everyP_len {b : List Thing} {t : Thing} (i j : Nat) (ht : t ∈ b) : (everyP b i t j).length ≤ 2 * thingsC b := by
  have h1 := take_C b i
  have h2 := thingC_mem ht
  have h3 := everyT_len t
  rw [everyT_eq, List.length_cons] at h3
  have h4 := flat_len (bodiesL t) j
  unfold everyP
  rw [List.length_append, List.length_cons, everyL_len]
  omega
theorem everyP_zero (b : List Thing) (i : Nat) (t : Thing) : everyP b i t 0 = everyL (b.take i) ++ [t] := by simp [everyP]
theorem everyP_succ {b : List Thing} {i j : Nat} {t : Thing} {c : List Thing} (h : (bodiesL t)[j]? = some c) : everyP b i t (j + 1) = everyP b i t j ++ everyL c := by
  unfold everyP
  rw [take_snoc h, List.flatMap_append]
  simp
theorem everyP_end {b : List Thing} {i : Nat} {t : Thing} (h : b[i]? = some t) : everyP b i t (bodiesL t).length = everyL (b.take (i + 1)) := by
  unfold everyP
  rw [take_snoc h, everyL_app, List.take_length]
  simp [everyL, everyT_eq t]
end My
namespace My
open PySem L2
def wordT : Thing → Str
  | .step _ => "step"
  | .call _ _ => "call"
  | .double _ => "double"
  | .loop _ _ _ _ => "for"
  | .test _ _ _ _ => "if"
  | .again _ _ => "again"
theorem thing_head {K : PySem.W.Frag} {G : Hp} {v : V} {t : Thing} (h : Dp K G v (thingD t)) : ∃ a r, v = .ref a ∧ SqT K G a (.str (wordT t) :: r) := by
  have e : ∃ ds, thingD t = .tuple (.str (wordT t) :: ds) := by
    cases t <;> (rw [thingD]; exact ⟨_, rfl⟩)
  obtain ⟨ds, e⟩ := e
  rw [e] at h
  obtain ⟨a, xs, rfl, hs, hd⟩ := h.tup'
  obtain ⟨x, r, rfl, hx, _⟩ := hd.c
  cases hx.str'
  exact ⟨a, r, rfl, hs⟩
theorem thing_call {K : PySem.W.Frag} {G : Hp} {v : V} {nm : Str} {e : En} (h : Dp K G v (thingD (.call nm e))) : ∃ a x, v = .ref a ∧ SqT K G a [.str "call", .str nm, x] ∧ Dp K G x (endD e) := by
  rw [thingD] at h
  obtain ⟨a, xs, rfl, hs, hd⟩ := h.tup'
  obtain ⟨x0, r0, rfl, h0, hd⟩ := hd.c
  obtain ⟨x1, r1, rfl, h1, hd⟩ := hd.c
  obtain ⟨x2, r2, rfl, h2, hd⟩ := hd.c
  cases hd.n
  cases h0.str'
  cases h1.str'
  exact ⟨a, x2, rfl, hs, h2⟩
theorem word_no_call {t : Thing} (h : ∀ nm e, t ≠ .call nm e) : wordT t ≠ "call" ∧ ∀ acc, callStep acc t = acc := by
  cases t with
  | call nm e => exact absurd rfl (h nm e)
  | _ => exact ⟨by simp only [wordT]; decide, fun acc => rfl⟩
end My
namespace My
open PySem L2
def spBodies (K : PySem.W.Frag) : Sp := fun vs H Q _ => ∃ (v : V) (t : Thing) (G : Hp), vs = [v] ∧ Same G H ∧ Dp K G v (thingD t) ∧
  ∀ (p : Addr) (us : List V) (H' : Hp), Same H H' → H p = none → H' p = some (.lst us) → DpAll K G us ((bodiesL t).map planD) → Q (.ref p) H'
/-- all that stands in a plan, a new list -/
def spEvery (K : PySem.W.Frag) (f : Nat) : Sp := fun vs H Q _ => ∃ (v : V) (b : List Thing) (G : Hp), vs = [v] ∧ Same G H ∧ Dp K G v (planD b) ∧ thingsC b < f ∧ thingsC b ≤ 31 ∧
  ∀ (p : Addr) (us : List V) (H' : Hp), Same H H' → H p = none → H' p = some (.lst us) → DpAll K G us ((everyL b).map thingD) → Q (.ref p) H'
/-- the names that a plan calls, a new list -/
def spCalls (K : PySem.W.Frag) : Sp := fun vs H Q _ => ∃ (v : V) (b : List Thing) (G : Hp), vs = [v] ∧ Same G H ∧ Dp K G v (planD b) ∧ thingsC b < 15 ∧
  ∀ (p : Addr) (H' : Hp), Same H H' → H p = none → H' p = some (.lst ((callsL b).map V.str)) → Q (.ref p) H'
end My
namespace My
open PySem PySem.Spec PyProof.Rows L2
/-! ### a promise where no repr is under way -/
structure FnG (P : Program) (w : World) (K : PySem.W.Frag) (mg : Str → Option Value) (base : Heap) (CX : CXT) (k : Nat) (f : Addr) (fd : FuncData) (ps : List Str) (sp : Sp) : Prop where
  many : ∀ vs H Q E, sp vs H Q E → vs.length = ps.length
  goes : ∀ (A : Around) (out : List Env) (st : Shared) (H : Hp) (ar : Args) (us : List Value) (vs : List V) (Q : VK) (E : XK), A.guards = some [] → Room k A → Env0 P w K mg base A out st H →
    BindsTo st fd ar (ps.zip us) → Vals vs us → sp vs H Q E → codeAny (model P w) A (.call (.ref f) ar) (CR CX out P w H st Q E) st
theorem fnG_of {CX : CXT} {P : Program} {w : World} {K : PySem.W.Frag} {mg : Str → Option Value} {base : Heap} {k : Nat} {f : Addr} {x qual : Str} {st : Stmt} {fd : FuncData} {N ps : List Str} {sp : Sp}
    (F : Fun K x qual st f fd) (S : FnScope N ps (defScope st)) (len : ∀ vs H Q E, sp vs H Q E → vs.length = ps.length)
    (hbody : ∀ (cdv : Value) (A : Around) (out : List Env) (s : Shared) (H : Hp) (vs : List V) (Q : VK) (E : XK), (A.deeper (envOfC qual (defScope st) s.heap.objs.size f cdv)).guards = some [] →
      Room k (A.deeper (envOfC qual (defScope st) s.heap.objs.size f cdv)) → sp vs H Q E →
      ∃ t, PSs (cxOf CX P w K mg base N qual (defScope st) f cdv A out s H E) (defBody st) t ∧ t { nx := fun _ H' => Q .non H', rt := Q } (start N vs) H) : FnG P w K mg base CX (k + 1) f fd ps sp := by
  obtain ⟨oc, od, kV, doc, pm, an, cdv, ct, osl, rfl, lk, hcd⟩ := F.ex
  constructor
  · exact len
  · intro A out s0 H ar us vs Q E gd room env bnd rel prom
    have here : K.In s0.heap := env.mod.kin.keeps fun b o e => (env.bs b o e).1
    have free : s0.heap.NoLimit := env.mod.nolimit.keeps fun b o e => (env.bs b o e).1
    have kinds : ∀ y ∈ ps.zip us, (defScope st).names.lookup y.1 = some .local ∨ ((defScope st).names.lookup y.1 = some .cell ∧ ((cellsFrom (s0.heap.objs.size + 1) (defScope st).names []).lookup y.1).isSome = true) := by
      rintro ⟨n, v⟩ hy
      cases S.par n (List.of_mem_zip hy).1 with
      | inl q => exact .inl q
      | inr q => exact .inr ⟨q, PySem.W.cellsFrom_some _ _ _ (.inl q)⟩
    apply codeAny_call_function room.depth (here _ _ lk) rfl S.co S.gen rfl (PySem.W.codeRec_of here hcd)
    apply bnd
    apply wpAny_newFunctionEnv_cells S.kind kinds
    rintro en rfl s1 ic
    refine ⟨free.keeps ic.toInCall.keep, codeAny_func ?_⟩
    obtain ⟨t, run, ends⟩ := hbody cdv A out s0 H vs Q E gd (room.deeper _) prom
    have inv := inv_start (CX := CX) (E := E) S room.hd env (len _ _ _ _ prom) rel ic
    have wp := run.run [] s1 (start N vs) H _ inv ends
    refine wpAny_mono wp (fun fl s2 at2 => ?_) (fun _ _ at2 => at2)
    cases fl with
    | next =>
      obtain ⟨σ2, H2, J, q⟩ := at2
      exact ⟨V.non, H2, J.os, J.bare, J.base, J.hok, rfl, q⟩
    | ret u =>
      obtain ⟨v, σ2, H2, J, rv, q⟩ := at2
      exact ⟨v, H2, J.os, J.bare, J.base, J.hok, rv, q⟩
    | brk => exact at2.elim fun _ z => z.elim fun _ z => z.2.elim
    | cont => exact at2.elim fun _ z => z.elim fun _ z => z.2.elim
/-- the same where nothing is raised -/
theorem fnG_ok {P : Program} {w : World} {K : PySem.W.Frag} {mg : Str → Option Value} {base : Heap} {k : Nat} {f : Addr} {x qual : Str} {st : Stmt} {fd : FuncData} {N ps : List Str} {sp : Sp}
    (F : Fun K x qual st f fd) (S : FnScope N ps (defScope st)) (len : ∀ vs H Q E, sp vs H Q E → vs.length = ps.length)
    (hbody : ∀ (cdv : Value) (A : Around) (out : List Env) (s : Shared) (H : Hp) (vs : List V) (Q : VK) (E : XK), (A.deeper (envOfC qual (defScope st) s.heap.objs.size f cdv)).guards = some [] →
      Room k (A.deeper (envOfC qual (defScope st) s.heap.objs.size f cdv)) → sp vs H Q E →
      ∃ t, PSs (cxOf CX0 P w K mg base N qual (defScope st) f cdv A out s H E).nox (defBody st) t ∧ t { nx := fun _ H' => Q .non H', rt := Q } (start N vs) H) : FnG P w K mg base CX0 (k + 1) f fd ps sp :=
  fnG_of F S len fun cdv A out s H vs Q E gd hr h => by
    obtain ⟨t, ht, q⟩ := hbody cdv A out s H vs Q E gd hr h
    exact ⟨t, ht.nox, q⟩
end My
namespace My
open PySem PySem.Spec PyProof.Rows L2
/-- the call of the law's def, H being what is tracked of the script -/
theorem goes_at {P : Program} {w : World} {K : PySem.W.Frag} {mg mb : Str → Option Value} {CX : CXT} {k : Nat} {fa a : Addr} {fd : FuncData} {x : Str} {sp : Sp} {s : Shared} {H : Hp} {o : Obj} {items : Array Value} {ep : Nat}
    (KX : K.In s.heap) (nsm : s.heap.Ns mainGlobals mg) (nsb : s.heap.Ns builtinsNs mb) (boot : ∀ y : Str, y ≠ "__name__" → mb y = bootBuiltins y) (lim : s.heap.NoLimit) (gens : s.gens = #[])
    (at_ : s.heap.get? a = some o) (od : o.data = .seq items ep) (room : Room k callerA)
    (F : ∀ base : Heap, K.In base → base.Ns mainGlobals mg → FnG P w K mg base CX k fa fd [x] sp) (bnd : ∀ (t : Shared) (u : Value), BindsTo t fd ⟨[u], []⟩ [(x, u)])
    (prom : sp [.ref a] H (fun v _ => v = .bl true) fun _ _ _ => False) (noX : ∀ e t, CX [] H s (fun _ _ _ => False) e t → False)
    (hO : Only H) (hok : HOk P w H s.heap) (one : ∀ b, H b ≠ none → b = a) (off : H a ≠ none → K.lookup a = none) :
    codeAny (model P w) callerA (.call (.ref fa) ⟨[.ref a], []⟩) (fun r t => r = .ok (.ret (.bool true)) ∧ OldK s.heap t.heap ∧ t.os = s.os ∧ AllBare t.gens) s := by
  have stays : ∀ {b : Addr} {u : Obj}, s.heap.get? b = some u → H b = none → (hidT s.heap H).get? b = some u := fun e n => hidT_get e n
  have dictFree : ∀ {b : Addr} {u : Obj} {es : Array DictEntry} {n : Nat}, s.heap.get? b = some u → u.data = .dict es n → H b = none := by
    intro b u es n e d
    refine Classical.byContradiction fun q => ?_
    rw [one b q, at_] at e
    cases e
    rw [od] at d
    cases d
  have spaces : ∀ {b : Addr} {m : Str → Option Value}, s.heap.Ns b m → (hidT s.heap H).Ns b m := by
    rintro b m ⟨u, es, n, e, d, r⟩
    exact ⟨u, es, n, stays e (dictFree e d), d, r⟩
  have KB : K.In (hidT s.heap H) := by
    intro b u e
    refine stays (KX b u e) (Classical.byContradiction fun q => ?_)
    have ba := one b q
    rw [ba] at q e
    rw [off q] at e
    cases e
  obtain ⟨mc, c1, c2⟩ := lim
  have env : Env0 P w K mg (hidT s.heap H) callerA [] s H :=
    ⟨rfl, ⟨KB, spaces nsm, ⟨mb, spaces nsb, boot⟩, mc, spaces c1, c2⟩, fun b u e => of_hidT e, Nat.le_of_eq (hidT_size _ _), trivial, fun b z => absurd (show b ∈ ([] : List Addr) from z) List.not_mem_nil, hok, .of_eq gens⟩
  have run := (F _ KB (spaces nsm)).goes callerA [] s H ⟨[.ref a], []⟩ [.ref a] [.ref a] _ _ rfl room env (bnd s (.ref a)) (.cons rfl .nil) prom
  refine codeAny_mono run fun r t fin => ?_
  match r, fin with
  | .error e, fin => exact (noX e t fin).elim
  | .ok .next, fin => exact fin.elim
  | .ok .brk, fin => exact fin.elim
  | .ok .cont, fin => exact fin.elim
  | .ok (.ret u), ⟨v, H', os, bare, un, hok', rel, q⟩ =>
    have q : v = V.bl true := q
    subst q
    have hu : u = Value.bool true := rel
    subst hu
    refine ⟨rfl, OldK.of_keep fun b z e => ?_, os, bare⟩
    cases hb : H b with
    | none => exact un.keep b z e hb (fun y => absurd (show b ∈ ([] : List Addr) from y) List.not_mem_nil) (by simp)
    | some y =>
      rcases hO b with n | ⟨ob, xs, n⟩
      · rw [n] at hb
        cases hb
      · obtain ⟨p1, _⟩ := hok b _ n
        obtain ⟨p2, _⟩ := hok' b _ (un.frzs b ob _ n)
        rw [e] at p1
        cases p1
        exact p2
/-- as walk_of, for a law's promise where no repr is under way -/
theorem walkG_of {l : PySem.W.OpenLaw} {n k : Nat} {q : Program} {loose : List Str} {XP : (Str → Option Value) → Heap → Prop} {YP : World → Heap → Prop} {d : DefRec} {K : Params → PySem.W.Frag} {CX : World → CXT} {sp : World → Sp} {x : Str}
    (hn : l.most = some n) (hn2 : n ≤ sizeLine) (hdf : d.params.defaults = []) (hr : Room k callerA)
    (hY : ∀ (w : World) (h : Heap), YP w h → (K w.params).In h)
    (F : ∀ (w : World) (mg : Str → Option Value) (fa : Addr) (h : Heap), (K w.params).In h → h.Ns mainGlobals mg → mg d.name = some (.ref fa) →
      ∃ fd : FuncData, (∀ (s : Shared) (u : Value), BindsTo s fd ⟨[u], []⟩ [(x, u)]) ∧
        ∀ base : Heap, (K w.params).In base → base.Ns mainGlobals mg → FnG l.prog w (K w.params) mg base (CX w) k fa fd [x] (sp w))
    (hsp : ∀ (w : World) (H : Hp) (a : Addr) (ns : List Int), ns.length ≤ n → Only H → SqL (K w.params) H a (ns.map V.int) → sp w [.ref a] H (fun v _ => v = .bl true) fun _ _ _ => False)
    (hCX : ∀ (w : World) (H : Hp) (s : Shared) (e : Value) (s' : Shared), CX w [] H s (fun _ _ _ => False) e s' → False) :
    PySem.W.WalkO q loose XP YP l.row.toRowW d [] (fun f vs => PySem.call f vs) := by
  apply Att.attach_call hn hdf
  intro w s₀ s mg mb fa o pm cd doc a vs ns G Y ho hd hcd hmg at_ ival many gens
  have KX := hY w _ Y
  obtain ⟨fd, bnd, hF⟩ := F w mg fa _ KX G.T.g hmg
  have rel := vals_ints ival
  have len := ival.length
  have small : ns.length ≤ sizeLine := Nat.le_trans many hn2
  have go := fun (H : Hp) => goes_at (H := H) KX G.T.g G.T.b G.T.builtins G.T.nolimit gens at_ rfl hr hF bnd
  cases hk : (K w.params).lookup a with
  | none =>
    let H : Hp := fun b => if b = a then some (.frz { cls := .type "list", data := .seq vs.toArray } (.lst (ns.map V.int))) else none
    have hH : H a = some (.frz { cls := .type "list", data := .seq vs.toArray } (.lst (ns.map V.int))) := if_pos rfl
    have off : ∀ b, b ≠ a → H b = none := fun b hb => if_neg hb
    have only : Only H := fun b => by
      by_cases hb : b = a
      · exact .inr ⟨_, _, by rw [hb]; exact hH⟩
      · exact .inl (off b hb)
    refine go H (hsp w H a ns many only (.inl (.inr ⟨_, hH⟩))) (fun e t => hCX w H s e t) only (fun b u z => ?_) (fun b z => Classical.byContradiction fun q => z (off b q)) fun _ => hk
    by_cases hb : b = a
    · rw [hb] at z ⊢
      rw [hH] at z
      cases z
      exact ⟨at_, by rw [List.length_map]; exact small, vs, _, rel, at_⟩
    · rw [off b hb] at z
      cases z
  | some u =>
    have e := KX a u hk
    rw [at_] at e
    cases e
    have only : Only fun _ => none := fun _ => .inl rfl
    refine go (fun _ => none) (hsp w _ a ns many only (.inr ⟨_, vs.toArray, _, hk, rfl, rfl, rfl, by rw [List.size_toArray, len]; exact small, by simpa using rel⟩)) (fun e t => hCX w _ s e t) only (fun b y z => nomatch z) (fun b z => absurd rfl z) fun z => absurd rfl z
end My
namespace My
open PySem PySem.Spec PyProof.Rows L2
/-! ### repr of data -/
def rRepr (K : PySem.W.Frag) : List V → Hp → VK → Prop := fun xs H Q => ∃ (a : Addr) (d : PyData), xs = [.ref a] ∧ Dp K H (.ref a) d ∧ d.showable = true ∧ d.hasDict = false ∧ d.depth ≤ 100 ∧ d.shown.length ≤ sizeLine ∧ Q (.str d.shown) H
theorem call_reprD {X : Cx} (hg : X.A.guards = some []) (hu : X.A.units + 120 < cLine) : CallR X (.builtin "repr") (rRepr X.K) := by
  rintro pins s σ H xs us Q I r ⟨a, d, rfl, hd, h1, h2, h3, h4, q⟩
  cases r with
  | cons r t =>
    cases t
    obtain ⟨as, rd⟩ := Dp.reads I d _ _ hd r
    cases r
    refine repr_of_reads' rd h1 (fun z => by rw [h2] at z; cases z) hg (by omega) (fun _ _ e => e) (fun h' u tk hk => ?_) h4
    exact ⟨.str d.shown, H, I.kept hk, ⟨_, rfl⟩, q⟩
theorem repr_room {A : Around} {k : Nat} (hr : Room k A) : A.units + 120 < cLine := by
  have := hr.un
  omega
end My
namespace My
open PySem PySem.Spec L2
/-! ### data whose repr is short -/
mutual
def tame : PyData → Bool
  | .none | .bool _ => true
  | .int i => decide (i.natAbs.log2 < 400)
  | .str x => x.cps.toList.all fun c => decide (c < 16 ^ 8)
  | .list xs | .tuple xs => tameAll xs
  | .dict _ => false
def tameAll : List PyData → Bool
  | [] => true
  | x :: xs => tame x && tameAll xs
end
mutual
theorem tame_all : ∀ d : PyData, tame d = true → d.showable = true ∧ d.hasDict = false ∧ d.leavesShort 401 = true
  | .none, _ => ⟨rfl, rfl, rfl⟩
  | .bool _, _ => ⟨rfl, rfl, rfl⟩
  | .int i, h => by
    have h : i.natAbs.log2 < 400 := by simpa only [tame, decide_eq_true_eq] using h
    refine ⟨by simp only [PyData.showable, decide_eq_true_eq]; omega, rfl, ?_⟩
    have e := int_text_length_le (k := 400) (by decide) h
    simp only [PyData.leavesShort, decide_eq_true_eq]
    show (Str.ofString (toString i)).length ≤ 401
    rw [ofString_length]
    exact e
  | .str x, h => ⟨rfl, rfl, by simpa only [tame, PyData.leavesShort] using h⟩
  | .list xs, h => by
    obtain ⟨a, b, c⟩ := tame_alls xs (by simpa only [tame] using h)
    exact ⟨by simpa only [PyData.showable] using a, by simpa only [PyData.hasDict] using b, by simpa only [PyData.leavesShort] using c⟩
  | .tuple xs, h => by
    obtain ⟨a, b, c⟩ := tame_alls xs (by simpa only [tame] using h)
    exact ⟨by simpa only [PyData.showable] using a, by simpa only [PyData.hasDict] using b, by simpa only [PyData.leavesShort] using c⟩
  | .dict _, h => by simp only [tame] at h; cases h
theorem tame_alls : ∀ xs : List PyData, tameAll xs = true → PyData.showableAll xs = true ∧ PyData.hasDictAll xs = false ∧ PyData.leavesShortAll 401 xs = true
  | [], _ => ⟨rfl, rfl, rfl⟩
  | x :: xs, h => by
    have h : tame x = true ∧ tameAll xs = true := by simpa only [tameAll, Bool.and_eq_true] using h
    obtain ⟨a, b, c⟩ := tame_all x h.1
    obtain ⟨a', b', c'⟩ := tame_alls xs h.2
    simp only [PyData.showableAll, PyData.hasDictAll, PyData.leavesShortAll, Bool.and_eq_true, Bool.or_eq_false_iff]
    exact ⟨⟨a, a'⟩, ⟨b, b'⟩, c, c'⟩
end
/-- what rRepr wants -/
structure Shows (d : PyData) : Prop where
  showable : d.showable = true
  hasDict : d.hasDict = false
  depth : d.depth ≤ 100
  len : d.shown.length ≤ sizeLine
theorem shows_of {d : PyData} (h : tame d = true) (hd : d.depth ≤ 100) (hw : d.weight ≤ 40000) : Shows d := by
  obtain ⟨a, b, c⟩ := tame_all d h
  refine ⟨a, b, hd, ?_⟩
  have e := PyData.shown_le 401 (by decide) d c
  have e2 : (401 + 2) * d.weight ≤ 403 * 40000 := Nat.mul_le_mul_left _ hw
  show _ ≤ 16777216
  omega
theorem tameAll_of {xs : List PyData} (h : ∀ x ∈ xs, tame x = true) : tameAll xs = true := by
  induction xs with
  | nil => rfl
  | cons x r ih =>
    simp only [tameAll, Bool.and_eq_true]
    exact ⟨h x (List.mem_cons_self ..), ih fun y hy => h y (List.mem_cons_of_mem _ hy)⟩
theorem depthAll_of {xs : List PyData} {n : Nat} (h : ∀ x ∈ xs, x.depth ≤ n) : PyData.depthAll xs ≤ n := by
  induction xs with
  | nil => exact Nat.zero_le _
  | cons x r ih =>
    simp only [PyData.depthAll]
    have := h x (List.mem_cons_self ..)
    have := ih fun y hy => h y (List.mem_cons_of_mem _ hy)
    omega
theorem weightAll_of {xs : List PyData} {n : Nat} (h : ∀ x ∈ xs, x.weight ≤ n) : PyData.weightAll xs ≤ xs.length * (n + 1) := by
  induction xs with
  | nil => exact Nat.zero_le _
  | cons x r ih =>
    simp only [PyData.weightAll, List.length_cons, Nat.add_mul, Nat.one_mul]
    have := h x (List.mem_cons_self ..)
    have := ih fun y hy => h y (List.mem_cons_of_mem _ hy)
    omega
theorem tame_int {i : Int} {k : Nat} (h : i.natAbs < 2 ^ k) (hk : 0 < k) (hk2 : k ≤ 400) : tame (.int i) = true := by
  have := log_lt h hk
  simp only [tame, decide_eq_true_eq]
  omega
theorem weight_int {i : Int} {k : Nat} (h : i.natAbs < 2 ^ k) (hk : 0 < k) : (PyData.int i).weight ≤ k := by
  have := log_lt h hk
  simp only [PyData.weight]
  split <;> omega
end My
namespace My
open PySem L2
/-! ### plans walked: steps and visits -/
abbrev WEnv := List (Str × Int)
abbrev Plans := List (Str × List Thing)
def lookE (env : WEnv) (x : Str) : Int := (env.lookup x).getD 0
def endW (env : WEnv) (e : En) : Int := if e.1 = "" then e.2 else lookE env e.1 + e.2
def isAgain : Thing → Bool
  | .again _ _ => true
  | _ => false
def bitsN (i : Int) : Nat := Builtin.Int.intBits i
/-- rounds from the i-th on: steps, visits -/
def rounds : Nat → Nat → (Nat → Int × Int) → Int × Int
  | 0, _, _ => (0, 0)
  | n + 1, i, f => ((f i).1 + (rounds n (i + 1) f).1, (f i).2 + 1 + (rounds n (i + 1) f).2)
mutual
def stT (P : Str → Int → Int × Int) : Thing → WEnv → Int × Int
  | .step n => fun _ => (n, 0)
  | .call nm e => fun env => P nm (max 0 (endW env e))
  | .double b => fun env => rounds (bitsN (lookE env "n")) 0 fun _ => stB P b env
  | .loop nm e1 e2 b => fun env => rounds (endW env e2 + 1 - endW env e1).toNat 0 fun i => stB P b (env ++ [(nm, endW env e1 + (i : Nat))])
  | .test e1 e2 b1 b2 => fun env => if endW env e1 ≤ endW env e2 then stB P b1 env else stB P b2 env
  | .again _ _ => fun _ => (0, 0)
def stB (P : Str → Int → Int × Int) : List Thing → WEnv → Int × Int
  | [] => fun _ => (0, 0)
  | t :: r => fun env => if isAgain t then stB P r env else ((stT P t env).1 + (stB P r env).1, (stT P t env).2 + 1 + (stB P r env).2)
end
/-- the same with so many visits left: steps, what is left; below nought nothing more is done -/
def lRounds : Nat → Nat → (Nat → Int → Int × Int) → Int → Int × Int
  | 0, _, _, l => (0, l)
  | n + 1, i, f, l => if l < 0 then (0, l) else ((f i (l - 1)).1 + (lRounds n (i + 1) f (f i (l - 1)).2).1, (lRounds n (i + 1) f (f i (l - 1)).2).2)
mutual
def lT (P : Str → Int → Int → Int × Int) : Thing → WEnv → Int → Int × Int
  | .step n => fun _ l => (n, l)
  | .call nm e => fun env l => P nm (max 0 (endW env e)) l
  | .double b => fun env l => lRounds (bitsN (lookE env "n")) 0 (fun _ l => lB P b env l) l
  | .loop nm e1 e2 b => fun env l => lRounds (endW env e2 + 1 - endW env e1).toNat 0 (fun i l => lB P b (env ++ [(nm, endW env e1 + (i : Nat))]) l) l
  | .test e1 e2 b1 b2 => fun env l => if endW env e1 ≤ endW env e2 then lB P b1 env l else lB P b2 env l
  | .again _ _ => fun _ l => (0, l)
def lB (P : Str → Int → Int → Int × Int) : List Thing → WEnv → Int → Int × Int
  | [] => fun _ l => (0, l)
  | t :: r => fun env l => if isAgain t ∨ l < 0 then lB P r env l else ((lT P t env (l - 1)).1 + (lB P r env (lT P t env (l - 1)).2).1, (lB P r env (lT P t env (l - 1)).2).2)
end
/-- the plan of a name, among the plans, called plans by the fuel less one -/
def planOf (ps : Plans) (nm : Str) : List Thing := (ps.lookup nm).getD []
def callee : Nat → Plans → Str → Int → Int × Int
  | 0, _, _, _ => (0, 0)
  | f + 1, ps, nm, sz => stB (callee f ps) (planOf ps nm) [("n", sz)]
def lCallee : Nat → Plans → Str → Int → Int → Int × Int
  | 0, _, _, _, l => (0, l)
  | f + 1, ps, nm, sz, l => lB (lCallee f ps) (planOf ps nm) [("n", sz)] l
/-- what of the visits tells of the steps -/
structure RelW (a : Int × Int) (b : Int → Int × Int) : Prop where
  nn : 0 ≤ a.2
  enough : ∀ l, a.2 ≤ l → b l = (a.1, l - a.2)
  few : ∀ l, l < a.2 → (b l).2 < 0
  neg : ∀ l, l < 0 → (b l).2 < 0
theorem RelW.mk' {a : Int × Int} {b : Int → Int × Int} (h0 : 0 ≤ a.2) (h1 : ∀ l, a.2 ≤ l → b l = (a.1, l - a.2)) (h2 : ∀ l, l < a.2 → (b l).2 < 0) : RelW a b := ⟨h0, h1, h2, fun l h => h2 l (by omega)⟩
theorem rel_rounds {f : Nat → Int × Int} {g : Nat → Int → Int × Int} (h : ∀ i, RelW (f i) (g i)) : ∀ n i, RelW (rounds n i f) (lRounds n i g)
  | 0, i => .mk' (Int.le_refl _) (fun l _ => by show (0, l) = ((0 : Int), l - 0); rw [Int.sub_zero]) fun l h => h
  | n + 1, i => by
    have ih := rel_rounds h n (i + 1)
    have hi := h i
    have z1 := ih.nn
    have z2 := hi.nn
    have e : (rounds (n + 1) i f) = ((f i).1 + (rounds n (i + 1) f).1, (f i).2 + 1 + (rounds n (i + 1) f).2) := rfl
    rw [e]
    refine .mk' (by show 0 ≤ (f i).2 + 1 + (rounds n (i + 1) f).2; omega) (fun l hl => ?_) fun l hl => ?_
    · have hl : (f i).2 + 1 + (rounds n (i + 1) f).2 ≤ l := hl
      have e2 : lRounds (n + 1) i g l = ((g i (l - 1)).1 + (lRounds n (i + 1) g (g i (l - 1)).2).1, (lRounds n (i + 1) g (g i (l - 1)).2).2) := if_neg (by omega)
      rw [e2, hi.enough (l - 1) (by omega), ih.enough (l - 1 - (f i).2) (by omega)]
      show _ = ((f i).1 + _, l - ((f i).2 + 1 + (rounds n (i + 1) f).2))
      rw [show l - ((f i).2 + 1 + (rounds n (i + 1) f).2) = l - 1 - (f i).2 - (rounds n (i + 1) f).2 by omega]
    · have hl : l < (f i).2 + 1 + (rounds n (i + 1) f).2 := hl
      by_cases hn : l < 0
      · have e2 : lRounds (n + 1) i g l = (0, l) := if_pos hn
        rw [e2]
        exact hn
      have e2 : lRounds (n + 1) i g l = ((g i (l - 1)).1 + (lRounds n (i + 1) g (g i (l - 1)).2).1, (lRounds n (i + 1) g (g i (l - 1)).2).2) := if_neg hn
      rw [e2]
      by_cases c : (f i).2 ≤ l - 1
      · rw [hi.enough (l - 1) c]
        exact ih.few _ (by show l - 1 - (f i).2 < _; omega)
      · exact ih.neg _ (hi.few _ (by omega))
mutual
theorem rel_thing {P : Str → Int → Int × Int} {L : Str → Int → Int → Int × Int} (h : ∀ nm sz, RelW (P nm sz) (L nm sz)) : ∀ (t : Thing) (env : WEnv), RelW (stT P t env) (lT L t env)
  | .step n, env => by
    simp only [stT, lT]
    exact .mk' (Int.le_refl _) (fun l _ => by show (n, l) = (n, l - 0); rw [Int.sub_zero]) fun l h => h
  | .call nm e, env => by
    simp only [stT, lT]
    exact h _ _
  | .double b, env => by
    simp only [stT, lT]
    exact rel_rounds (fun i => rel_body h b env) _ _
  | .loop nm e1 e2 b, env => by
    simp only [stT, lT]
    exact rel_rounds (fun i => rel_body h b _) _ _
  | .test e1 e2 b1 b2, env => by
    simp only [stT, lT]
    by_cases c : endW env e1 ≤ endW env e2
    · rw [if_pos c]
      have r := rel_body h b1 env
      exact ⟨r.nn, fun l q => by rw [if_pos c]; exact r.enough l q, fun l q => by rw [if_pos c]; exact r.few l q, fun l q => by rw [if_pos c]; exact r.neg l q⟩
    · rw [if_neg c]
      have r := rel_body h b2 env
      exact ⟨r.nn, fun l q => by rw [if_neg c]; exact r.enough l q, fun l q => by rw [if_neg c]; exact r.few l q, fun l q => by rw [if_neg c]; exact r.neg l q⟩
  | .again n w, env => by
    simp only [stT, lT]
    exact .mk' (Int.le_refl _) (fun l _ => by show ((0 : Int), l) = ((0 : Int), l - 0); rw [Int.sub_zero]) fun l h => h
theorem rel_body {P : Str → Int → Int × Int} {L : Str → Int → Int → Int × Int} (h : ∀ nm sz, RelW (P nm sz) (L nm sz)) : ∀ (b : List Thing) (env : WEnv), RelW (stB P b env) (lB L b env)
  | [], env => by
    simp only [stB, lB]
    exact .mk' (Int.le_refl _) (fun l _ => by show ((0 : Int), l) = ((0 : Int), l - 0); rw [Int.sub_zero]) fun l h => h
  | t :: r, env => by
    have ih := rel_body h r env
    have hi := rel_thing h t env
    have z1 := ih.nn
    have z2 := hi.nn
    simp only [stB, lB]
    by_cases ca : isAgain t = true
    · rw [if_pos ca]
      exact ⟨ih.nn, fun l q => by rw [if_pos (.inl ca)]; exact ih.enough l q, fun l q => by rw [if_pos (.inl ca)]; exact ih.few l q, fun l q => by rw [if_pos (.inl ca)]; exact ih.neg l q⟩
    rw [if_neg ca]
    refine .mk' (by show 0 ≤ (stT P t env).2 + 1 + (stB P r env).2; omega) (fun l hl => ?_) fun l hl => ?_
    · have hl : (stT P t env).2 + 1 + (stB P r env).2 ≤ l := hl
      rw [if_neg (by rintro (z | z); exact ca z; omega), hi.enough (l - 1) (by omega), ih.enough (l - 1 - (stT P t env).2) (by omega)]
      show _ = ((stT P t env).1 + _, l - ((stT P t env).2 + 1 + (stB P r env).2))
      rw [show l - ((stT P t env).2 + 1 + (stB P r env).2) = l - 1 - (stT P t env).2 - (stB P r env).2 by omega]
    · have hl : l < (stT P t env).2 + 1 + (stB P r env).2 := hl
      by_cases hn : l < 0
      · rw [if_pos (.inr hn)]
        exact ih.neg l hn
      rw [if_neg (by rintro (z | z); exact ca z; exact hn z)]
      by_cases c : (stT P t env).2 ≤ l - 1
      · rw [hi.enough (l - 1) c]
        exact ih.few _ (by show l - 1 - (stT P t env).2 < _; omega)
      · exact ih.neg _ (hi.few _ (by omega))
end
theorem rel_callee : ∀ (f : Nat) (ps : Plans) (nm : Str) (sz : Int), RelW (callee f ps nm sz) (lCallee f ps nm sz)
  | 0, ps, nm, sz => .mk' (Int.le_refl _) (fun l _ => by show ((0 : Int), l) = ((0 : Int), l - 0); rw [Int.sub_zero]) fun l h => h
  | f + 1, ps, nm, sz => rel_body (fun nm sz => rel_callee f ps nm sz) _ _
end My
namespace My
open PySem L2
/-! ### again: the lesser sizes -/
def nextSz (w : Str) (sz : Int) : Int := if w = "halves" then sz / 2 else if w = "thirds" then sz / 3 else sz - 1
def agE : Nat → Int → Str → (Int → Int × Int) → Int → Int → Int × Int
  | 0, _, _, _, _, _ => (0, 0)
  | g + 1, n, w, F, sz, many => if sz ≤ 0 then (0, 0) else (many * n * (F (nextSz w sz)).1 + (agE g n w F (nextSz w sz) (many * n)).1, (F (nextSz w sz)).2 + 1 + (agE g n w F (nextSz w sz) (many * n)).2)
def agL : Nat → Int → Str → (Int → Int → Int × Int) → Int → Int → Int → Int × Int
  | 0, _, _, _, _, _, l => (0, l)
  | g + 1, n, w, F, sz, many, l => if sz ≤ 0 ∨ l < 0 then (0, l) else (many * n * (F (nextSz w sz) (l - 1)).1 + (agL g n w F (nextSz w sz) (many * n) (F (nextSz w sz) (l - 1)).2).1, (agL g n w F (nextSz w sz) (many * n) (F (nextSz w sz) (l - 1)).2).2)
theorem rel_ag {F : Int → Int × Int} {L : Int → Int → Int × Int} (h : ∀ sz, RelW (F sz) (L sz)) (n : Int) (w : Str) : ∀ (g : Nat) (sz many : Int), RelW (agE g n w F sz many) (agL g n w L sz many)
  | 0, sz, many => .mk' (Int.le_refl _) (fun l _ => by show ((0 : Int), l) = ((0 : Int), l - 0); rw [Int.sub_zero]) fun l h => h
  | g + 1, sz, many => by
    have ih := rel_ag h n w g (nextSz w sz) (many * n)
    have hi := h (nextSz w sz)
    have z1 := ih.nn
    have z2 := hi.nn
    simp only [agE, agL]
    by_cases c0 : sz ≤ 0
    · rw [if_pos c0]
      refine .mk' (Int.le_refl _) (fun l _ => ?_) fun l q => ?_
      · rw [if_pos (.inl c0), Int.sub_zero]
      · rw [if_pos (.inl c0)]
        exact q
    rw [if_neg c0]
    refine .mk' (by show 0 ≤ (F (nextSz w sz)).2 + 1 + (agE g n w F (nextSz w sz) (many * n)).2; omega) (fun l hl => ?_) fun l hl => ?_
    · have hl : (F (nextSz w sz)).2 + 1 + (agE g n w F (nextSz w sz) (many * n)).2 ≤ l := hl
      rw [if_neg (by rintro (z | z) <;> omega), hi.enough (l - 1) (by omega), ih.enough (l - 1 - (F (nextSz w sz)).2) (by omega)]
      show _ = (many * n * (F (nextSz w sz)).1 + (agE g n w F (nextSz w sz) (many * n)).1, l - ((F (nextSz w sz)).2 + 1 + (agE g n w F (nextSz w sz) (many * n)).2))
      rw [show l - ((F (nextSz w sz)).2 + 1 + (agE g n w F (nextSz w sz) (many * n)).2) = l - 1 - (F (nextSz w sz)).2 - (agE g n w F (nextSz w sz) (many * n)).2 by omega]
    · have hl : l < (F (nextSz w sz)).2 + 1 + (agE g n w F (nextSz w sz) (many * n)).2 := hl
      by_cases hn : l < 0
      · rw [if_pos (.inr hn)]
        exact hn
      rw [if_neg (by rintro (z | z) <;> omega)]
      by_cases c : (F (nextSz w sz)).2 ≤ l - 1
      · rw [hi.enough (l - 1) c]
        exact ih.few _ (by show l - 1 - (F (nextSz w sz)).2 < _; omega)
      · exact ih.neg _ (hi.few _ (by omega))
def wayP : List Thing → Option (Int × Str)
  | [] => none
  | .again n w :: _ => some (n, w)
  | _ :: r => wayP r
def topE (f : Nat) (ps : Plans) (nm : Str) (sz : Int) : Int × Int :=
  match wayP (planOf ps nm) with
  | none => stB (callee f ps) (planOf ps nm) [("n", sz)]
  | some (n, w) => ((stB (callee f ps) (planOf ps nm) [("n", sz)]).1 + (agE sz.toNat n w (fun sz => stB (callee f ps) (planOf ps nm) [("n", sz)]) sz 1).1,
      (stB (callee f ps) (planOf ps nm) [("n", sz)]).2 + (agE sz.toNat n w (fun sz => stB (callee f ps) (planOf ps nm) [("n", sz)]) sz 1).2)
def topL (f : Nat) (ps : Plans) (nm : Str) (sz l : Int) : Int × Int :=
  match wayP (planOf ps nm) with
  | none => lB (lCallee f ps) (planOf ps nm) [("n", sz)] l
  | some (n, w) => ((lB (lCallee f ps) (planOf ps nm) [("n", sz)] l).1 + (agL sz.toNat n w (fun sz l => lB (lCallee f ps) (planOf ps nm) [("n", sz)] l) sz 1 (lB (lCallee f ps) (planOf ps nm) [("n", sz)] l).2).1,
      (agL sz.toNat n w (fun sz l => lB (lCallee f ps) (planOf ps nm) [("n", sz)] l) sz 1 (lB (lCallee f ps) (planOf ps nm) [("n", sz)] l).2).2)
theorem rel_top (f : Nat) (ps : Plans) (nm : Str) (sz : Int) : RelW (topE f ps nm sz) (topL f ps nm sz) := by
  have hb : ∀ sz, RelW (stB (callee f ps) (planOf ps nm) [("n", sz)]) (lB (lCallee f ps) (planOf ps nm) [("n", sz)]) := fun sz => rel_body (fun nm sz => rel_callee f ps nm sz) _ _
  unfold topE topL
  cases wayP (planOf ps nm) with
  | none => exact hb sz
  | some p =>
    obtain ⟨n, w⟩ := p
    have ra := rel_ag hb n w sz.toNat sz 1
    have hi := hb sz
    have z1 := ra.nn
    have z2 := hi.nn
    simp only
    refine .mk' (by show 0 ≤ (stB (callee f ps) (planOf ps nm) [("n", sz)]).2 + (agE sz.toNat n w (fun sz => stB (callee f ps) (planOf ps nm) [("n", sz)]) sz 1).2; omega) (fun l hl => ?_) fun l hl => ?_
    · have hl : (stB (callee f ps) (planOf ps nm) [("n", sz)]).2 + (agE sz.toNat n w (fun sz => stB (callee f ps) (planOf ps nm) [("n", sz)]) sz 1).2 ≤ l := hl
      rw [hi.enough l (by omega), ra.enough _ (by show _ ≤ l - _; omega)]
      show (_, l - _ - _) = (_, l - (_ + _))
      rw [Int.sub_sub]
    · have hl : l < (stB (callee f ps) (planOf ps nm) [("n", sz)]).2 + (agE sz.toNat n w (fun sz => stB (callee f ps) (planOf ps nm) [("n", sz)]) sz 1).2 := hl
      by_cases c : (stB (callee f ps) (planOf ps nm) [("n", sz)]).2 ≤ l
      · rw [hi.enough l c]
        exact ra.few _ (by show l - _ < _; omega)
      · exact ra.neg _ (hi.few _ (by omega))
/-! ### what a plan must be to be walked -/
def WkE (sc : List Str) (e : En) : Prop := e.2.natAbs ≤ 99 ∧ (e.1 = "" ∨ e.1 ∈ sc)
mutual
def WkT (nms : List Str) : Thing → List Str → Nat → Prop
  | .step n => fun _ _ => 0 ≤ n ∧ n ≤ 99
  | .call nm e => fun sc _ => nm ∈ nms ∧ WkE sc e
  | .double b => fun sc deep => deep ≤ 3 ∧ WkB nms b sc (deep + 1)
  | .loop nm e1 e2 b => fun sc deep => deep ≤ 3 ∧ nm ∉ sc ∧ WkE sc e1 ∧ WkE sc e2 ∧ WkB nms b (sc ++ [nm]) (deep + 1)
  | .test e1 e2 b1 b2 => fun sc deep => deep ≤ 3 ∧ WkE sc e1 ∧ WkE sc e2 ∧ WkB nms b1 sc (deep + 1) ∧ WkB nms b2 sc (deep + 1)
  | .again n w => fun _ deep => deep = 0 ∧ 1 ≤ n ∧ n ≤ 9 ∧ (w = "halves" ∨ w = "thirds" ∨ (w = "less" ∧ n = 1))
def WkB (nms : List Str) : List Thing → List Str → Nat → Prop
  | [] => fun _ _ => True
  | t :: r => fun sc deep => WkT nms t sc deep ∧ WkB nms r sc deep
end
/-- a value, what is left: within bounds -/
structure LOk (l : Int) (a : Int × Int) : Prop where
  v0 : 0 ≤ a.1
  v1 : a.1 ≤ 99 * (l - a.2)
  l0 : a.2 ≤ l
  l1 : -1 ≤ a.2
structure LOk1 (l : Int) (a : Int × Int) : Prop where
  v0 : 0 ≤ a.1
  v1 : a.1 ≤ 99 * (l - a.2 + 1)
  l0 : a.2 ≤ l
  l1 : -1 ≤ a.2
theorem LOk.one {l : Int} {a : Int × Int} (h : LOk l a) : LOk1 l a := ⟨h.v0, by have := h.v1; omega, h.l0, h.l1⟩
theorem lOk_zero {l : Int} (h : -1 ≤ l) : LOk l (0, l) := ⟨Int.le_refl _, by show (0 : Int) ≤ 99 * (l - l); omega, Int.le_refl _, h⟩
theorem lRounds_ok {g : Nat → Int → Int × Int} (h : ∀ i l, -1 ≤ l → LOk l (g i l)) : ∀ n i l, -1 ≤ l → LOk l (lRounds n i g l)
  | 0, i, l, hl => lOk_zero hl
  | n + 1, i, l, hl => by
    by_cases hn : l < 0
    · have e2 : lRounds (n + 1) i g l = (0, l) := if_pos hn
      rw [e2]
      exact lOk_zero hl
    have e2 : lRounds (n + 1) i g l = ((g i (l - 1)).1 + (lRounds n (i + 1) g (g i (l - 1)).2).1, (lRounds n (i + 1) g (g i (l - 1)).2).2) := if_neg hn
    rw [e2]
    obtain ⟨a1, a2, a3, a4⟩ := h i (l - 1) (by omega)
    obtain ⟨b1, b2, b3, b4⟩ := lRounds_ok h n (i + 1) _ a4
    refine ⟨?_, ?_, ?_, b4⟩
    · show 0 ≤ _ + _
      omega
    · show _ + _ ≤ 99 * (l - _)
      omega
    · show _ ≤ l
      omega
mutual
theorem lT_ok {L : Str → Int → Int → Int × Int} (hL : ∀ nm sz l, -1 ≤ l → LOk l (L nm sz l)) {nms : List Str} : ∀ {t : Thing} {sc : List Str} {deep : Nat} (env : WEnv) (l : Int), WkT nms t sc deep → -1 ≤ l → LOk1 l (lT L t env l)
  | .step n, sc, deep, env, l, h, hl => by
    rw [WkT] at h
    simp only [lT]
    exact ⟨h.1, by show n ≤ 99 * (l - l + 1); omega, Int.le_refl _, hl⟩
  | .call nm e, sc, deep, env, l, h, hl => by
    simp only [lT]
    exact (hL _ _ _ hl).one
  | .double b, sc, deep, env, l, h, hl => by
    rw [WkT] at h
    simp only [lT]
    exact (lRounds_ok (fun i l hl => lB_ok hL env l h.2 hl) _ _ l hl).one
  | .loop nm e1 e2 b, sc, deep, env, l, h, hl => by
    rw [WkT] at h
    simp only [lT]
    exact (lRounds_ok (fun i l hl => lB_ok hL _ l h.2.2.2.2 hl) _ _ l hl).one
  | .test e1 e2 b1 b2, sc, deep, env, l, h, hl => by
    rw [WkT] at h
    simp only [lT]
    split
    · exact (lB_ok hL env l h.2.2.2.1 hl).one
    · exact (lB_ok hL env l h.2.2.2.2 hl).one
  | .again n w, sc, deep, env, l, h, hl => by
    simp only [lT]
    exact (lOk_zero hl).one
theorem lB_ok {L : Str → Int → Int → Int × Int} (hL : ∀ nm sz l, -1 ≤ l → LOk l (L nm sz l)) {nms : List Str} : ∀ {b : List Thing} {sc : List Str} {deep : Nat} (env : WEnv) (l : Int), WkB nms b sc deep → -1 ≤ l → LOk l (lB L b env l)
  | [], sc, deep, env, l, h, hl => by
    simp only [lB]
    exact lOk_zero hl
  | t :: r, sc, deep, env, l, h, hl => by
    rw [WkB] at h
    simp only [lB]
    by_cases c : isAgain t = true ∨ l < 0
    · rw [if_pos c]
      exact lB_ok hL env l h.2 hl
    rw [if_neg c]
    have hl2 : -1 ≤ l - 1 := by
      have : ¬ l < 0 := fun z => c (.inr z)
      omega
    obtain ⟨a1, a2, a3, a4⟩ := lT_ok hL env (l - 1) h.1 hl2
    obtain ⟨b1, b2, b3, b4⟩ := lB_ok hL env _ h.2 a4
    refine ⟨?_, ?_, ?_, b4⟩
    · show 0 ≤ _ + _
      omega
    · show _ + _ ≤ 99 * (l - _)
      omega
    · show _ ≤ l
      omega
end
end My
namespace My
open PySem L2
/-! ### a dict of plans -/
inductive KvOk (K : PySem.W.Frag) (G : Hp) : List (L2.Key × V) → Plans → Prop
  | nil : KvOk K G [] []
  | cons {nm : Str} {b : List Thing} {v : V} {kvs : List (L2.Key × V)} {ps : Plans} : Dp K G v (planD b) → KvOk K G kvs ps → KvOk K G ((Sum.inr nm, v) :: kvs) ((nm, b) :: ps)
theorem KvOk.mono {K : PySem.W.Frag} {G G' : Hp} (s : Same G G') : ∀ {kvs : List (L2.Key × V)} {ps : Plans}, KvOk K G kvs ps → KvOk K G' kvs ps
  | _, _, .nil => .nil
  | _, _, .cons d r => .cons (Dp.mono s d) (r.mono s)
theorem planOf_pos {nm : Str} {b : List Thing} {ps : Plans} : planOf ((nm, b) :: ps) nm = b := by
  unfold planOf
  rw [List.lookup_cons, beq_self_eq_true]
  rfl
theorem planOf_neg {nm x : Str} {b : List Thing} {ps : Plans} (h : ¬ nm = x) : planOf ((nm, b) :: ps) x = planOf ps x := by
  unfold planOf
  rw [List.lookup_cons, beq_false_of_ne fun e => h e.symm]
theorem KvOk.get {K : PySem.W.Frag} {G : Hp} {x : Str} : ∀ {kvs : List (L2.Key × V)} {ps : Plans}, KvOk K G kvs ps → x ∈ ps.map (·.1) → ∃ v, valV kvs (Sum.inr x) = some v ∧ Dp K G v (planD (planOf ps x))
  | _, _, .nil, h => nomatch h
  | _, _, .cons (nm := nm) d r, h => by
    by_cases c : nm = x
    · subst c
      exact ⟨_, valV_pos rfl, by rw [planOf_pos]; exact d⟩
    · rw [planOf_neg c, valV_neg (by intro e; exact c (Sum.inr.inj e))]
      refine r.get ?_
      rcases List.mem_cons.mp h with e | h
      · exact absurd e.symm c
      · exact h
theorem KvOk.keys {K : PySem.W.Frag} {G : Hp} : ∀ {kvs : List (L2.Key × V)} {ps : Plans}, KvOk K G kvs ps → kvs.map (fun kv => kV kv.1) = (ps.map (·.1)).map V.str
  | _, _, .nil => rfl
  | _, _, .cons d r => by
    rw [List.map_cons, List.map_cons, List.map_cons, r.keys]
    rfl
theorem KvOk.length {K : PySem.W.Frag} {G : Hp} : ∀ {kvs : List (L2.Key × V)} {ps : Plans}, KvOk K G kvs ps → kvs.length = ps.length
  | _, _, .nil => rfl
  | _, _, .cons d r => congrArg Nat.succ r.length
theorem KvOk.snoc {K : PySem.W.Frag} {G : Hp} {x : Str} {c : List Thing} {v : V} (d : Dp K G v (planD c)) : ∀ {kvs : List (L2.Key × V)} {ps : Plans}, KvOk K G kvs ps → KvOk K G (kvs ++ [(Sum.inr x, v)]) (ps ++ [(x, c)])
  | _, _, .nil => .cons d .nil
  | _, _, .cons e r => .cons e (r.snoc d)
theorem KvOk.none {K : PySem.W.Frag} {G : Hp} {x : Str} : ∀ {kvs : List (L2.Key × V)} {ps : Plans}, KvOk K G kvs ps → x ∉ ps.map (·.1) → (kvs.any fun kv => decide (kv.1 = Sum.inr x)) = false
  | _, _, .nil, _ => rfl
  | _, _, .cons (nm := nm) d r, h => by
    rw [List.map_cons, List.mem_cons, not_or] at h
    rw [List.any_cons, decide_eq_false (by intro e; exact h.1 (Sum.inr.inj e).symm), Bool.false_or]
    exact r.none h.2
theorem KvOk.put_new {K : PySem.W.Frag} {G : Hp} {x : Str} {c : List Thing} {v : V} {kvs : List (L2.Key × V)} {ps : Plans} (h : KvOk K G kvs ps) (hn : x ∉ ps.map (·.1)) (d : Dp K G v (planD c)) : KvOk K G (putK kvs (Sum.inr x) v) (ps ++ [(x, c)]) := by
  unfold putK
  rw [if_neg (by rw [h.none hn]; decide)]
  exact h.snoc d
theorem putK_same {x : Str} {v : V} : ∀ {kvs : List (L2.Key × V)}, (kvs.any fun kv => decide (kv.1 = Sum.inr x)) = false → kvs.map (fun kv => if kv.1 = Sum.inr x then (kv.1, v) else kv) = kvs
  | [], _ => rfl
  | p :: r, h => by
    rw [List.any_cons, Bool.or_eq_false_iff] at h
    rw [List.map_cons, putK_same h.2, if_neg (of_decide_eq_false h.1)]
theorem KvOk.put_last {K : PySem.W.Frag} {G : Hp} {x : Str} {b c : List Thing} {v : V} : ∀ {ps : Plans} {kvs : List (L2.Key × V)}, KvOk K G kvs (ps ++ [(x, b)]) → x ∉ ps.map (·.1) → Dp K G v (planD c) → KvOk K G (putK kvs (Sum.inr x) v) (ps ++ [(x, c)])
  | [], _, .cons (v := w) d .nil, _, dv => by
    have e : putK [((Sum.inr x : L2.Key), w)] (Sum.inr x) v = [(Sum.inr x, v)] := by
      unfold putK
      simp
    rw [e]
    exact .cons dv .nil
  | (nm, b') :: ps, _, .cons (v := w) (kvs := kvs) d r, h, dv => by
    rw [List.map_cons, List.mem_cons, not_or] at h
    have ih := r.put_last h.2 dv
    have ha : (kvs.any fun kv => decide (kv.1 = Sum.inr x)) = true := by
      cases e : (kvs.any fun kv => decide (kv.1 = Sum.inr x)) with
      | true => rfl
      | false =>
        have z := valV_any (Sum.inr x) kvs
        rw [e] at z
        obtain ⟨u, hu, _⟩ := r.get (x := x) (by simp)
        rw [hu] at z
        cases z
    unfold putK at ih ⊢
    rw [if_pos ha] at ih
    have hb : (((Sum.inr nm, w) :: kvs).any fun kv => decide (kv.1 = (Sum.inr x : L2.Key))) = true := by rw [List.any_cons, ha, Bool.or_true]
    have hne : ¬ (Sum.inr nm : L2.Key) = Sum.inr x := fun e => h.1 (Sum.inr.inj e).symm
    rw [if_pos hb, List.map_cons, if_neg hne]
    exact .cons d ih
def PlsAt (K : PySem.W.Frag) (G H : Hp) (dk : Addr) (ps : Plans) : Prop := ∃ kvs : List (L2.Key × V), Rd H dk (.dK kvs) ∧ KvOk K G kvs ps
theorem PlsAt.mono {K : PySem.W.Frag} {G G' H H' : Hp} {dk : Addr} {ps : Plans} (h : PlsAt K G H dk ps) (sg : Same G G') (s : Same H H') : PlsAt K G' H' dk ps := by
  obtain ⟨kvs, e, k⟩ := h
  exact ⟨kvs, same_rd s e, k.mono sg⟩
theorem PlsAt.get {K : PySem.W.Frag} {G H : Hp} {dk : Addr} {ps : Plans} {x : Str} (h : PlsAt K G H dk ps) (hx : x ∈ ps.map (·.1)) : ∃ v, DGet H dk (.str x) (some v) ∧ Dp K G v (planD (planOf ps x)) := by
  obtain ⟨kvs, e, k⟩ := h
  obtain ⟨v, hv, d⟩ := k.get hx
  exact ⟨v, .inl ⟨kvs, Sum.inr x, e, rfl, hv.symm⟩, d⟩
/-! ### what the plans must be -/
/-- each plan calls those ahead of it; the last one alone may do itself again -/
structure PlOk (nms : List Str) (nm : Str) (b : List Thing) : Prop where
  name : NameOk nm
  wk : WkB nms b [Str.ofString "n"] 0
  bds : BdS b
  size : thingsC b ≤ 13
def PlsOk (ps : Plans) : Prop := ∀ i nm b, ps[i]? = some (nm, b) → PlOk ((ps.take i).map (·.1)) nm b ∧ nm ∉ (ps.take i).map (·.1) ∧ (i + 1 < ps.length → wayP b = none)
end My
namespace My
open PySem L2
/-! ### again -/
def AgOk (b : List Thing) : Prop := ∀ n w, Thing.again n w ∈ b → 1 ≤ n ∧ n ≤ 9 ∧ (w = "halves" ∨ w = "thirds" ∨ (w = "less" ∧ n = 1))
theorem AgOk.s {b : List Thing} (h : AgOk b) : BdS (b.filter isAgain) := by
  refine BdS.of fun t ht => ?_
  obtain ⟨h1, h2⟩ := List.mem_filter.mp ht
  cases t with
  | again n w =>
    obtain ⟨a1, a2, a3⟩ := h n w h1
    rw [ThS]
    refine ⟨?_, ?_⟩
    · have : n.natAbs < 2 ^ 400 := Nat.lt_of_lt_of_le (m := 16) (by omega) (by decide)
      by_cases z : n.natAbs = 0
      · rw [z]; decide
      · exact (Nat.log2_lt z).mpr this
    · rcases a3 with rfl | rfl | ⟨rfl, _⟩ <;> exact ⟨by decide, strOk_of _⟩
  | _ => cases h2
theorem wkB_ag : ∀ {b : List Thing} {nms sc : List Str} {deep : Nat}, WkB nms b sc deep → AgOk b
  | [], _, _, _, _ => fun _ _ h => nomatch h
  | t :: r, _, _, _, h => fun n w q => by
    rw [WkB] at h
    rcases List.mem_cons.mp q with e | q
    · rw [← e, WkT] at h
      exact h.1.2
    · exact wkB_ag h.2 n w q
theorem shaped_things {b : List Thing} (h : BdS b) (c : thingsC b ≤ 31) : SeqAt.shaped (.list (b.map thingD)) = true := by
  have h1 := thingsD_lay h
  rw [thingsD_eq] at h1
  unfold SeqAt.shaped
  rw [Bool.and_eq_true, decide_eq_true_eq]
  unfold PyData.canLay0 PyData.depth
  exact ⟨h1.1, by omega⟩
theorem eqv_things (b : List Thing) : PyData.eqv (.list (b.map thingD)) (.list []) = b.isEmpty := by
  cases b with
  | nil => simp [PyData.eqv, PyData.eqvAll]
  | cons t r => simp [PyData.eqv, PyData.eqvAll]
theorem agC : ∀ b : List Thing, thingsC (b.filter isAgain) ≤ b.length
  | [] => by simp [thingsC]
  | t :: r => by
    have ih := agC r
    cases t <;> simp only [List.filter_cons, isAgain, Bool.false_eq_true, if_false, if_true, List.length_cons, thingsC, thingC] <;> omega
theorem wayP_eq : ∀ b : List Thing, (b.filter isAgain = [] ∧ wayP b = none) ∨ ∃ n w r, b.filter isAgain = .again n w :: r ∧ wayP b = some (n, w)
  | [] => .inl ⟨rfl, rfl⟩
  | t :: r => by
    have ih := wayP_eq r
    cases t with
    | again n w => exact .inr ⟨n, w, r.filter isAgain, rfl, rfl⟩
    | _ => exact ih
def WayV (K : PySem.W.Frag) (G : Hp) (u : V) : Option (Int × Str) → Prop
  | none => u = .non
  | some p => Dp K G u (thingD (.again p.1 p.2))
/-- the again of a plan, or None -/
def spWay (K : PySem.W.Frag) : Sp := fun vs H Q _ => ∃ (v : V) (b : List Thing) (G : Hp), vs = [v] ∧ Same G H ∧ Dp K G v (planD b) ∧ AgOk b ∧ b.length ≤ 16 ∧
  ∀ (u : V) (H' : Hp), Same H H' → WayV K G u (wayP b) → Q u H'
/-- is a plan without again, or with less? -/
def spSomeB (K : PySem.W.Frag) : Sp := fun vs H Q _ => ∃ (v : V) (b : List Thing) (G : Hp), vs = [v] ∧ Same G H ∧ Dp K G v (planD b) ∧ AgOk b ∧ b.length ≤ 16 ∧
  ∀ (x : Bool) (H' : Hp), Same H H' → Q (.bl x) H'
theorem again_at {K : PySem.W.Frag} {G : Hp} {u : V} {n : Int} {w : Str} (h : Dp K G u (thingD (.again n w))) : ∃ a, u = .ref a ∧ SqT K G a [.str "again", .int n, .str w] := by
  rw [thingD] at h
  obtain ⟨a, xs, rfl, hs, hd⟩ := h.tup'
  obtain ⟨x0, r0, rfl, h0, hd⟩ := hd.c
  obtain ⟨x1, r1, rfl, h1, hd⟩ := hd.c
  obtain ⟨x2, r2, rfl, h2, hd⟩ := hd.c
  cases hd.n
  cases h0.str'
  cases h1.int'
  cases h2.str'
  exact ⟨a, rfl, hs⟩
theorem word_again {t : Thing} : decide (V.str (wordT t) = V.str "again") = isAgain t := by
  cases t <;> simp only [wordT, isAgain, decide_eq_true_eq, decide_eq_false_iff_not, V.str.injEq] <;> decide
def WayV2 (K : PySem.W.Frag) (G H : Hp) (u : V) : Option (Int × Str) → Prop
  | none => u = .non
  | some p => ∃ a, u = .ref a ∧ SqT K H a [.int p.1, .str p.2]
/-- how a plan does itself again, or None -/
def spWayOf (K : PySem.W.Frag) : Sp := fun vs H Q _ => ∃ (v : V) (b : List Thing) (G : Hp), vs = [v] ∧ Same G H ∧ Dp K G v (planD b) ∧ AgOk b ∧ b.length ≤ 16 ∧
  ∀ (u : V) (H' : Hp), Same H H' → WayV2 K G H' u (wayP b) → Q u H'
theorem wayP_take : ∀ {b : List Thing} {i : Nat}, (∀ t ∈ b.take i, isAgain t = false) → wayP b = wayP (b.drop i)
  | [], i, _ => by simp
  | t :: r, 0, _ => rfl
  | t :: r, i + 1, h => by
    rw [List.take_succ_cons] at h
    have h1 := h t (List.mem_cons_self ..)
    rw [List.drop_succ_cons, ← wayP_take (b := r) (i := i) fun x hx => h x (List.mem_cons_of_mem _ hx)]
    cases t with
    | again n w => cases h1
    | _ => rfl
theorem wayP_at {b : List Thing} {i : Nat} {n : Int} {w : Str} (h : ∀ t ∈ b.take i, isAgain t = false) (e : b[i]? = some (.again n w)) : wayP b = some (n, w) := by
  rw [wayP_take h]
  obtain ⟨hi, e⟩ := List.getElem?_eq_some_iff.mp e
  rw [List.drop_eq_getElem_cons hi, e]
  rfl
theorem wayP_all {b : List Thing} (h : ∀ t ∈ b, isAgain t = false) : wayP b = none := by
  rw [wayP_take (i := b.length) (by rw [List.take_length]; exact h), List.drop_length]
  rfl
end My
namespace My
open PySem L2
/-! ### the names of a walk -/
def envD (env : WEnv) : List (L2.Key × V) := env.map fun p => (Sum.inr p.1, .int p.2)
theorem envD_len (env : WEnv) : (envD env).length = env.length := List.length_map ..
theorem env_val {x : Str} : ∀ {env : WEnv}, x ∈ env.map (·.1) → valV (envD env) (Sum.inr x) = some (.int (lookE env x))
  | [], h => nomatch h
  | (y, i) :: r, h => by
    by_cases c : y = x
    · subst c
      unfold lookE
      rw [List.lookup_cons, beq_self_eq_true]
      exact valV_pos rfl
    · unfold lookE
      rw [List.lookup_cons, beq_false_of_ne fun e => c e.symm]
      have ih := env_val (x := x) (env := r) (by
        rcases List.mem_cons.mp h with e | h
        · exact absurd e.symm c
        · exact h)
      exact (valV_neg (by intro e; exact c (Sum.inr.inj e))).trans ih
theorem env_get {H : Hp} {dk : Addr} {env : WEnv} {x : Str} (h : Rd H dk (.dK (envD env))) (hx : x ∈ env.map (·.1)) : DGet H dk (.str x) (some (.int (lookE env x))) :=
  .inl ⟨_, Sum.inr x, h, rfl, (env_val hx).symm⟩
theorem env_none {x : Str} : ∀ {env : WEnv}, x ∉ env.map (·.1) → ((envD env).any fun kv => decide (kv.1 = Sum.inr x)) = false
  | [], _ => rfl
  | (y, i) :: r, h => by
    rw [List.map_cons, List.mem_cons, not_or] at h
    have ih := env_none (env := r) h.2
    show (decide ((Sum.inr y : L2.Key) = Sum.inr x) || ((envD r).any fun kv => decide (kv.1 = Sum.inr x))) = false
    rw [ih, Bool.or_false]
    exact decide_eq_false (by intro e; exact h.1 (Sum.inr.inj e).symm)
theorem env_put {x : Str} {i : Int} {env : WEnv} (h : x ∉ env.map (·.1)) : putK (envD env) (Sum.inr x) (.int i) = envD (env ++ [(x, i)]) := by
  unfold putK
  rw [if_neg (by rw [env_none h]; decide)]
  unfold envD
  rw [List.map_append]
  rfl
/-- values that stay small -/
def EnvOk (env : WEnv) : Prop := env.length ≤ 10 ∧ ∀ p ∈ env, p.2.natAbs ≤ 10 ^ 9
theorem lookE_ok {env : WEnv} (h : EnvOk env) (x : Str) : (lookE env x).natAbs ≤ 10 ^ 9 := by
  unfold lookE
  cases e : env.lookup x with
  | none => exact Nat.zero_le _
  | some i =>
    have : (x, i) ∈ env := by
      clear h
      induction env with
      | nil => cases e
      | cons p r ih =>
        obtain ⟨y, j⟩ := p
        rw [List.lookup_cons] at e
        by_cases c : (x == y) = true
        · rw [c] at e
          have e : j = i := Option.some.inj e
          rw [eq_of_beq c, e]
          exact List.mem_cons_self ..
        · rw [Bool.eq_false_iff.mpr c] at e
          exact List.mem_cons_of_mem _ (ih e)
    exact h.2 _ this
theorem endW_ok {env : WEnv} {sc : List Str} {e : En} (h : EnvOk env) (he : WkE sc e) : (endW env e).natAbs ≤ 10 ^ 9 + 99 := by
  unfold endW
  have h1 := lookE_ok h e.1
  have h2 := he.1
  split
  · omega
  · omega
/-- what an end comes to -/
def spComes (K : PySem.W.Frag) : Sp := fun vs H Q _ => ∃ (v : V) (dk : Addr) (e : En) (env : WEnv), vs = [v, .ref dk] ∧ Dp K H v (endD e) ∧ Rd H dk (.dK (envD env)) ∧ WkE (env.map (·.1)) e ∧ EnvOk env ∧ Q (.int (endW env e)) H
end My
namespace My
open PySem L2
/-! ### plans that call plans -/
theorem wk_bodies {nms : List Str} {t : Thing} {sc : List Str} {deep : Nat} (h : WkT nms t sc deep) {c : List Thing} (hc : c ∈ bodiesL t) : deep ≤ 3 ∧ ∃ sc', WkB nms c sc' (deep + 1) := by
  cases t with
  | double b =>
    rw [WkT] at h
    simp only [bodiesL, List.mem_cons, List.not_mem_nil, or_false] at hc
    subst hc
    exact ⟨h.1, _, h.2⟩
  | loop nm e1 e2 b =>
    rw [WkT] at h
    simp only [bodiesL, List.mem_cons, List.not_mem_nil, or_false] at hc
    subst hc
    exact ⟨h.1, _, h.2.2.2.2⟩
  | test e1 e2 b1 b2 =>
    rw [WkT] at h
    simp only [bodiesL, List.mem_cons, List.not_mem_nil, or_false] at hc
    rcases hc with rfl | rfl
    · exact ⟨h.1, _, h.2.2.2.1⟩
    · exact ⟨h.1, _, h.2.2.2.2⟩
  | _ => simp [bodiesL] at hc
theorem WkB.mem {nms : List Str} {t : Thing} {sc : List Str} {deep : Nat} : ∀ {b : List Thing}, WkB nms b sc deep → t ∈ b → WkT nms t sc deep
  | [], _, h => nomatch h
  | x :: r, h, q => by
    rw [WkB] at h
    rcases List.mem_cons.mp q with rfl | q
    · exact h.1
    · exact h.2.mem q
mutual
theorem wkT_calls {nms : List Str} {x : Str} {e : En} : ∀ {t : Thing} {sc : List Str} {deep : Nat}, WkT nms t sc deep → Thing.call x e ∈ everyT t → x ∈ nms
  | .step n, _, _, _, q => by simp [everyT] at q
  | .again n w, _, _, _, q => by simp [everyT] at q
  | .call nm e', _, _, h, q => by
    rw [WkT] at h
    simp only [everyT, List.mem_cons, List.not_mem_nil, or_false, Thing.call.injEq] at q
    rw [q.1]
    exact h.1
  | .double b, _, _, h, q => by
    rw [WkT] at h
    rw [everyT] at q
    rcases List.mem_cons.mp q with q | q
    · cases q
    · exact wkB_calls h.2 q
  | .loop nm e1 e2 b, _, _, h, q => by
    rw [WkT] at h
    rw [everyT] at q
    rcases List.mem_cons.mp q with q | q
    · cases q
    · exact wkB_calls h.2.2.2.2 q
  | .test e1 e2 b1 b2, _, _, h, q => by
    rw [WkT] at h
    rw [everyT] at q
    rcases List.mem_cons.mp q with q | q
    · cases q
    · rcases List.mem_append.mp q with q | q
      · exact wkB_calls h.2.2.2.1 q
      · exact wkB_calls h.2.2.2.2 q
theorem wkB_calls {nms : List Str} {x : Str} {e : En} : ∀ {b : List Thing} {sc : List Str} {deep : Nat}, WkB nms b sc deep → Thing.call x e ∈ everyL b → x ∈ nms
  | [], _, _, _, q => by simp [everyL] at q
  | t :: r, _, _, h, q => by
    rw [WkB] at h
    rw [everyL] at q
    rcases List.mem_append.mp q with q | q
    · exact wkT_calls h.1 q
    · exact wkB_calls h.2 q
end
theorem mem_calls {x : Str} : ∀ (l : List Thing) (acc : List Str), x ∈ l.foldl callStep acc → x ∈ acc ∨ ∃ e, Thing.call x e ∈ l
  | [], acc, h => .inl h
  | t :: r, acc, h => by
    rw [List.foldl_cons] at h
    rcases mem_calls r _ h with h | ⟨e, h⟩
    · cases t with
      | call nm e =>
        simp only [callStep] at h
        split at h
        · exact .inl h
        · rcases List.mem_append.mp h with h | h
          · exact .inl h
          · rw [List.mem_singleton.mp h]
            exact .inr ⟨e, List.mem_cons_self ..⟩
      | _ => exact .inl h
    · exact .inr ⟨e, List.mem_cons_of_mem _ h⟩
theorem planOf_at : ∀ {ps : Plans} {j : Nat} {nm : Str} {b : List Thing}, ps[j]? = some (nm, b) → nm ∉ (ps.take j).map (·.1) → planOf ps nm = b
  | [], _, _, _, h, _ => by cases h
  | p :: r, 0, nm, b, h, _ => by
    cases Option.some.inj h
    exact planOf_pos
  | p :: r, j + 1, nm, b, h, q => by
    rw [List.take_succ_cons, List.map_cons, List.mem_cons, not_or] at q
    rw [show p = (p.1, p.2) from rfl, planOf_neg fun z => q.1 z.symm]
    exact planOf_at (ps := r) h q.2
theorem pls_find {ps : Plans} (ok : PlsOk ps) {i : Nat} {nm : Str} (h : nm ∈ (ps.take i).map (·.1)) : ∃ j b, j < i ∧ ps[j]? = some (nm, b) ∧ planOf ps nm = b ∧ PlOk ((ps.take j).map (·.1)) nm b ∧ (j + 1 < ps.length → wayP b = none) := by
  obtain ⟨p, hp, rfl⟩ := List.mem_map.mp h
  obtain ⟨j, hj, e⟩ := List.getElem_of_mem hp
  have hj' : j < i := by
    rw [List.length_take] at hj
    omega
  have e : ps[j]? = some (p.1, p.2) := by
    have z := List.getElem?_eq_getElem hj
    rw [e, List.getElem?_take, if_pos hj'] at z
    exact z
  obtain ⟨k1, k2, k3⟩ := ok j _ _ e
  exact ⟨j, p.2, hj', e, planOf_at e k2, k1, k3⟩
theorem mem_take {ps : Plans} {i : Nat} {nm : Str} (h : nm ∈ (ps.take i).map (·.1)) : nm ∈ ps.map (·.1) := by
  obtain ⟨p, hp, rfl⟩ := List.mem_map.mp h
  exact List.mem_map.mpr ⟨p, List.mem_of_mem_take hp, rfl⟩
/-- what a question of a plan that may call the first i ones wants -/
structure AskAt (K : PySem.W.Frag) (G H : Hp) (v : V) (dk : Addr) (b : List Thing) (ps : Plans) (i : Nat) : Prop where
  sg : Same G H
  db : Dp K G v (planD b)
  pls : PlsAt K G H dk ps
  ok : PlsOk ps
  wk : WkB ((ps.take i).map (·.1)) b [Str.ofString "n"] 0
  bds : BdS b
  size : thingsC b ≤ 13
def spFig (K : PySem.W.Frag) (f : Nat) : Sp := fun vs H Q _ => ∃ (v : V) (dk : Addr) (b : List Thing) (ps : Plans) (i : Nat) (G : Hp), vs = [v, .ref dk] ∧ AskAt K G H v dk b ps i ∧ i ≤ f ∧ ∀ (x : Bool) (H' : Hp), Same H H' → Q (.bl x) H'
def spChain (K : PySem.W.Frag) (f : Nat) : Sp := fun vs H Q _ => ∃ (v : V) (dk : Addr) (b : List Thing) (ps : Plans) (i : Nat) (G : Hp), vs = [v, .ref dk] ∧ AskAt K G H v dk b ps i ∧ i ≤ f ∧ ∀ (x : Int) (H' : Hp), Same H H' → Q (.int x) H'
def spWeight (K : PySem.W.Frag) (f : Nat) : Sp := fun vs H Q _ => ∃ (v : V) (dk : Addr) (b : List Thing) (ps : Plans) (i : Nat) (G : Hp), vs = [v, .ref dk] ∧ AskAt K G H v dk b ps i ∧ 6 * i + 6 ≤ f ∧ ∀ (x : Int) (H' : Hp), Same H H' → Q (.int x) H'
def spWeightIn (K : PySem.W.Frag) (f : Nat) : Sp := fun vs H Q _ => ∃ (v : V) (dk : Addr) (b : List Thing) (ps : Plans) (i deep : Nat) (sc : List Str) (G : Hp), vs = [v, .ref dk] ∧ Same G H ∧ Dp K G v (planD b) ∧ PlsAt K G H dk ps ∧ PlsOk ps ∧
  WkB ((ps.take i).map (·.1)) b sc deep ∧ thingsC b ≤ 13 ∧ deep ≤ 4 ∧ 6 * i + 5 - deep ≤ f ∧ ∀ (x : Int) (H' : Hp), Same H H' → Q (.int x) H'
theorem AskAt.callee {K : PySem.W.Frag} {G H : Hp} {v : V} {dk : Addr} {b : List Thing} {ps : Plans} {i : Nat} (h : AskAt K G H v dk b ps i) {nm : Str} (hn : nm ∈ (ps.take i).map (·.1)) : ∃ u j, DGet H dk (.str nm) (some u) ∧ j < i ∧ AskAt K G H u dk (planOf ps nm) ps j := by
  obtain ⟨u, d1, d2⟩ := h.pls.get (mem_take hn)
  obtain ⟨j, b', h1, h2, h3, h4, h5⟩ := pls_find h.ok hn
  rw [h3] at d2 ⊢
  exact ⟨u, j, d1, h1, h.sg, d2, h.pls, h.ok, h4.wk, h4.bds, h4.size⟩
theorem AskAt.mono {K : PySem.W.Frag} {G H H' : Hp} {v : V} {dk : Addr} {b : List Thing} {ps : Plans} {i : Nat} (h : AskAt K G H v dk b ps i) (s : Same H H') : AskAt K G H' v dk b ps i :=
  ⟨h.sg.trans s, h.db, h.pls.mono (Same.refl _) s, h.ok, h.wk, h.bds, h.size⟩
mutual
theorem thS_every {x : Thing} : ∀ {t : Thing}, ThS t → x ∈ everyT t → ThS x
  | .step n, h, q => by
    rw [everyT, List.mem_singleton] at q
    rw [q]
    exact h
  | .call nm e, h, q => by
    rw [everyT, List.mem_singleton] at q
    rw [q]
    exact h
  | .again n w, h, q => by
    rw [everyT, List.mem_singleton] at q
    rw [q]
    exact h
  | .double b, h, q => by
    rw [everyT] at q
    rcases List.mem_cons.mp q with q | q
    · rw [q]
      exact h
    · rw [ThS] at h
      exact bdS_every h q
  | .loop nm e1 e2 b, h, q => by
    rw [everyT] at q
    rcases List.mem_cons.mp q with q | q
    · rw [q]
      exact h
    · rw [ThS] at h
      exact bdS_every h.2.2.2 q
  | .test e1 e2 b1 b2, h, q => by
    rw [everyT] at q
    rcases List.mem_cons.mp q with q | q
    · rw [q]
      exact h
    · rw [ThS] at h
      rcases List.mem_append.mp q with q | q
      · exact bdS_every h.2.2.1 q
      · exact bdS_every h.2.2.2 q
theorem bdS_every {x : Thing} : ∀ {b : List Thing}, BdS b → x ∈ everyL b → ThS x
  | [], _, q => by simp [everyL] at q
  | t :: r, h, q => by
    rw [BdS] at h
    rw [everyL] at q
    rcases List.mem_append.mp q with q | q
    · exact thS_every h.1 q
    · exact bdS_every h.2 q
end
theorem shaped_end {e : En} (h : EnS e) : SeqAt.shaped (endD e) = true := by
  have h1 := endD_lay h
  unfold endD at h1 ⊢
  unfold SeqAt.shaped
  rw [Bool.and_eq_true, decide_eq_true_eq]
  exact ⟨h1.1, by omega⟩
end My
namespace My
open PySem L2
/-! ### a heap but for one cell -/
def Off (c : Addr) (H : Hp) : Hp := fun b => if b = c then none else H b
theorem off_ne {c b : Addr} {H : Hp} (n : b ≠ c) : Off c H b = H b := if_neg n
theorem off_none {c : Addr} {H : Hp} : Off c H c = none := if_pos rfl
theorem off_same {c : Addr} {H : Hp} : Same (Off c H) H := fun b o e => by
  by_cases n : b = c
  · rw [n, off_none] at e
    cases e
  · rw [off_ne n] at e
    exact e
theorem off_but {c : Addr} {H H' : Hp} (h : But (Only1 c) H H') : Same (Off c H) (Off c H') := fun b o e => by
  by_cases n : b = c
  · rw [n, off_none] at e
    cases e
  · rw [off_ne n] at e ⊢
    exact h b o e n
theorem off_but' {c : Addr} {H H' : Hp} (h : But (Only1 c) H H') : Same (Off c H) H' := (off_but h).trans off_same
theorem But.off {c : Addr} {H H' : Hp} (h : Same (Off c H) H') : But (Only1 c) H H' := fun b o e n => h b o (by rw [off_ne n]; exact e)
theorem off_rd {c b : Addr} {H : Hp} {o : HO} (h : H b = some o) (n : b ≠ c) : Rd (Off c H) b o := .inl (by rw [off_ne n]; exact h)
/-! ### what a walk reads -/
def EnvB (f : Nat) (env : WEnv) : Prop := ∀ p ∈ env, p.2.natAbs + 100 * f ≤ 10 ^ 9
theorem EnvB.ok {f : Nat} {env : WEnv} (h : EnvB f env) (l : env.length ≤ 10) : EnvOk env := ⟨l, fun p hp => by have := h p hp; omega⟩
theorem EnvB.mono {f g : Nat} {env : WEnv} (h : EnvB f env) (q : g ≤ f) : EnvB g env := fun p hp => by have := h p hp; omega
theorem EnvB.look {f : Nat} {env : WEnv} (h : EnvB f env) (f0 : 100 * f ≤ 10 ^ 9) (x : Str) : (lookE env x).natAbs + 100 * f ≤ 10 ^ 9 := by
  have e : lookE env x = 0 ∨ ∃ p ∈ env, p.2 = lookE env x := by
    unfold lookE
    clear h
    induction env with
    | nil => exact .inl rfl
    | cons p r ih =>
      obtain ⟨y, j⟩ := p
      rw [List.lookup_cons]
      by_cases c : (x == y) = true
      · rw [c]
        exact .inr ⟨(y, j), List.mem_cons_self .., rfl⟩
      · rw [Bool.eq_false_iff.mpr c]
        rcases ih with z | ⟨p, hp, z⟩
        · exact .inl z
        · exact .inr ⟨p, List.mem_cons_of_mem _ hp, z⟩
  rcases e with z | ⟨p, hp, z⟩
  · rw [z]
    omega
  · rw [← z]
    exact h p hp
theorem EnvB.f0 {f : Nat} {env : WEnv} (h : EnvB f env) {x : Str} (hx : x ∈ env.map (·.1)) : 100 * f ≤ 10 ^ 9 := by
  obtain ⟨p, hp, _⟩ := List.mem_map.mp hx
  have := h p hp
  omega
theorem EnvB.fin {f : Nat} {env : WEnv} {sc : List Str} {e : En} (h : EnvB f env) (f0 : 100 * f ≤ 10 ^ 9) (he : WkE sc e) : (endW env e).natAbs + 100 * f ≤ 10 ^ 9 + 99 := by
  unfold endW
  have h1 := h.look f0 e.1
  have h2 := he.1
  split
  · omega
  · omega
theorem EnvB.snoc {f : Nat} {env : WEnv} {nm : Str} {i : Int} (h : EnvB (f + 1) env) (hi : i.natAbs + 100 * f ≤ 10 ^ 9) : EnvB f (env ++ [(nm, i)]) := fun p hp => by
  rcases List.mem_append.mp hp with hp | hp
  · exact h.mono (by omega) p hp
  · rw [List.mem_singleton.mp hp]
    exact hi
structure LwAt (K : PySem.W.Frag) (H : Hp) (dk lc : Addr) (ps : Plans) : Prop where
  pls : PlsAt K (Off lc H) (Off lc H) dk ps
  ok : PlsOk ps
theorem LwAt.mono {K : PySem.W.Frag} {H H' : Hp} {dk lc : Addr} {ps : Plans} (h : LwAt K H dk lc ps) (b : But (Only1 lc) H H') : LwAt K H' dk lc ps := ⟨h.pls.mono (off_but b) (off_but b), h.ok⟩
structure LwIn (H : Hp) (en lc : Addr) (env : WEnv) (f deep : Nat) : Prop where
  rd : Rd (Off lc H) en (.dK (envD env))
  len : env.length ≤ deep + 1
  b : EnvB f env
  n : Str.ofString "n" ∈ env.map (·.1)
theorem LwIn.mono {H H' : Hp} {en lc : Addr} {env : WEnv} {f g deep : Nat} (h : LwIn H en lc env f deep) (b : But (Only1 lc) H H') (q : g ≤ f) : LwIn H' en lc env g deep := ⟨same_rd (off_but b) h.rd, h.len, h.b.mono q, h.n⟩
theorem LwIn.deep {H : Hp} {en lc : Addr} {env : WEnv} {f deep deep' : Nat} (h : LwIn H en lc env f deep) (q : deep ≤ deep') : LwIn H en lc env f deep' := ⟨h.rd, Nat.le_trans h.len (by omega), h.b, h.n⟩
def LeftAt (H : Hp) (lc : Addr) (l : Int) : Prop := H lc = some (.lst [.int l])
theorem callee_ok {ps : Plans} (ok : PlsOk ps) : ∀ (g : Nat) (nm : Str) (sz l : Int), -1 ≤ l → LOk l (lCallee g ps nm sz l)
  | 0, nm, sz, l, hl => lOk_zero hl
  | g + 1, nm, sz, l, hl => by
    unfold lCallee
    by_cases h : nm ∈ ps.map (·.1)
    · obtain ⟨j, b, h1, h2, h3, h4, h5⟩ := pls_find ok (i := ps.length) (nm := nm) (by rw [List.take_length]; exact h)
      rw [h3]
      exact lB_ok (fun nm sz l hl => callee_ok ok g nm sz l hl) _ l h4.wk hl
    · have e : planOf ps nm = [] := by
        unfold planOf
        rw [List.lookup_eq_none_iff.mpr]
        · rfl
        · intro p hp
          refine bne_iff_ne.mpr fun z => ?_
          exact h (List.mem_map.mpr ⟨p, hp, z.symm⟩)
      rw [e]
      simp only [lB]
      exact lOk_zero hl
/-- the law's walk of a thing -/
def spLT (K : PySem.W.Frag) (f : Nat) : Sp := fun vs H Q _ => ∃ (dk en lc : Addr) (v : V) (t : Thing) (ps : Plans) (env : WEnv) (i g deep : Nat) (l : Int), vs = [.ref dk, v, .ref en, .ref lc] ∧ LwAt K H dk lc ps ∧ LeftAt H lc l ∧ Dp K (Off lc H) v (thingD t) ∧
  LwIn H en lc env f deep ∧ WkT ((ps.take i).map (·.1)) t (env.map (·.1)) deep ∧ isAgain t = false ∧ i < ps.length ∧ i ≤ g ∧ deep ≤ 4 ∧ 11 * i + 2 * (4 - deep) + 1 ≤ f ∧ -1 ≤ l ∧ l ≤ 3000 ∧
  ∀ H', But (Only1 lc) H H' → LeftAt H' lc (lT (lCallee g ps) t env l).2 → Q (.int (lT (lCallee g ps) t env l).1) H'
def spLB (K : PySem.W.Frag) (f : Nat) : Sp := fun vs H Q _ => ∃ (dk en lc : Addr) (v : V) (b : List Thing) (ps : Plans) (env : WEnv) (i g deep : Nat) (l : Int), vs = [.ref dk, v, .ref en, .ref lc] ∧ LwAt K H dk lc ps ∧ LeftAt H lc l ∧ Dp K (Off lc H) v (planD b) ∧
  LwIn H en lc env f deep ∧ WkB ((ps.take i).map (·.1)) b (env.map (·.1)) deep ∧ i < ps.length ∧ i ≤ g ∧ deep ≤ 4 ∧ 11 * i + 2 * (4 - deep) + 2 ≤ f ∧ -1 ≤ l ∧ l ≤ 3000 ∧
  ∀ H', But (Only1 lc) H H' → LeftAt H' lc (lB (lCallee g ps) b env l).2 → Q (.int (lB (lCallee g ps) b env l).1) H'
def spLW (K : PySem.W.Frag) (f : Nat) : Sp := fun vs H Q _ => ∃ (dk lc : Addr) (nm : Str) (b : List Thing) (ps : Plans) (sz l : Int) (i g : Nat), vs = [.ref dk, .str nm, .int sz, .ref lc] ∧ LwAt K H dk lc ps ∧ LeftAt H lc l ∧
  ps[i]? = some (nm, b) ∧ i ≤ g ∧ 11 * i + 11 ≤ f ∧ (wayP b = none ∨ sz ≤ 1000) ∧ 0 ≤ sz ∧ sz.natAbs + 100 * f ≤ 10 ^ 9 ∧ -1 ≤ l ∧ l ≤ 3000 ∧
  ∀ H', But (Only1 lc) H H' → LeftAt H' lc (topL g ps nm sz l).2 → Q (.int (topL g ps nm sz l).1) H'
theorem lB_drop {L : Str → Int → Int → Int × Int} {b : List Thing} {i : Nat} {t : Thing} (h : b[i]? = some t) (env : WEnv) (l : Int) : lB L (b.drop i) env l = if isAgain t ∨ l < 0 then lB L (b.drop (i + 1)) env l else ((lT L t env (l - 1)).1 + (lB L (b.drop (i + 1)) env (lT L t env (l - 1)).2).1, (lB L (b.drop (i + 1)) env (lT L t env (l - 1)).2).2) := by
  obtain ⟨hi, e⟩ := List.getElem?_eq_some_iff.mp h
  rw [List.drop_eq_getElem_cons hi, e, lB]
theorem lB_end {L : Str → Int → Int → Int × Int} {b : List Thing} (env : WEnv) (l : Int) : lB L (b.drop b.length) env l = (0, l) := by
  rw [List.drop_length, lB]
end My
namespace My
open PySem L2
theorem thing_step' {K : PySem.W.Frag} {G : Hp} {v : V} {n : Int} (h : Dp K G v (thingD (.step n))) : ∃ a, v = .ref a ∧ SqT K G a [.str "step", .int n] := by
  rw [thingD] at h
  obtain ⟨a, xs, rfl, hs, hd⟩ := h.tup'
  obtain ⟨x0, r0, rfl, h0, hd⟩ := hd.c
  obtain ⟨x1, r1, rfl, h1, hd⟩ := hd.c
  cases hd.n
  cases h0.str'
  cases h1.int'
  exact ⟨a, rfl, hs⟩
theorem thing_double {K : PySem.W.Frag} {G : Hp} {v : V} {b : List Thing} (h : Dp K G v (thingD (.double b))) : ∃ a x, v = .ref a ∧ SqT K G a [.str "double", x] ∧ Dp K G x (planD b) := by
  rw [thingD] at h
  obtain ⟨a, xs, rfl, hs, hd⟩ := h.tup'
  obtain ⟨x0, r0, rfl, h0, hd⟩ := hd.c
  obtain ⟨x1, r1, rfl, h1, hd⟩ := hd.c
  cases hd.n
  cases h0.str'
  exact ⟨a, x1, rfl, hs, h1⟩
theorem thing_loop {K : PySem.W.Frag} {G : Hp} {v : V} {nm : Str} {e1 e2 : En} {b : List Thing} (h : Dp K G v (thingD (.loop nm e1 e2 b))) : ∃ a x y z, v = .ref a ∧ SqT K G a [.str "for", .str nm, x, y, z] ∧ Dp K G x (endD e1) ∧ Dp K G y (endD e2) ∧ Dp K G z (planD b) := by
  rw [thingD] at h
  obtain ⟨a, xs, rfl, hs, hd⟩ := h.tup'
  obtain ⟨x0, r0, rfl, h0, hd⟩ := hd.c
  obtain ⟨x1, r1, rfl, h1, hd⟩ := hd.c
  obtain ⟨x2, r2, rfl, h2, hd⟩ := hd.c
  obtain ⟨x3, r3, rfl, h3, hd⟩ := hd.c
  obtain ⟨x4, r4, rfl, h4, hd⟩ := hd.c
  cases hd.n
  cases h0.str'
  cases h1.str'
  exact ⟨a, x2, x3, x4, rfl, hs, h2, h3, h4⟩
theorem thing_test {K : PySem.W.Frag} {G : Hp} {v : V} {e1 e2 : En} {b1 b2 : List Thing} (h : Dp K G v (thingD (.test e1 e2 b1 b2))) : ∃ a x y z u, v = .ref a ∧ SqT K G a [.str "if", x, y, z, u] ∧ Dp K G x (endD e1) ∧ Dp K G y (endD e2) ∧ Dp K G z (planD b1) ∧ Dp K G u (planD b2) := by
  rw [thingD] at h
  obtain ⟨a, xs, rfl, hs, hd⟩ := h.tup'
  obtain ⟨x0, r0, rfl, h0, hd⟩ := hd.c
  obtain ⟨x1, r1, rfl, h1, hd⟩ := hd.c
  obtain ⟨x2, r2, rfl, h2, hd⟩ := hd.c
  obtain ⟨x3, r3, rfl, h3, hd⟩ := hd.c
  obtain ⟨x4, r4, rfl, h4, hd⟩ := hd.c
  cases hd.n
  cases h0.str'
  exact ⟨a, x1, x2, x3, x4, rfl, hs, h1, h2, h3, h4⟩
theorem LwIn.ok {H : Hp} {en lc : Addr} {env : WEnv} {f deep : Nat} (h : LwIn H en lc env f deep) (d : deep ≤ 5) : EnvOk env := h.b.ok (by have := h.len; omega)
theorem LwIn.f0 {H : Hp} {en lc : Addr} {env : WEnv} {f deep : Nat} (h : LwIn H en lc env f deep) : 100 * f ≤ 10 ^ 9 := h.b.f0 h.n
end My
namespace My
open PySem L2
theorem lRounds_succ {n i : Nat} {F : Nat → Int → Int × Int} {m : Int} (h : ¬ m < 0) : lRounds (n + 1) i F m = ((F i (m - 1)).1 + (lRounds n (i + 1) F (F i (m - 1)).2).1, (lRounds n (i + 1) F (F i (m - 1)).2).2) := if_neg h
theorem lRounds_neg {n i : Nat} {F : Nat → Int → Int × Int} {m : Int} (h : m < 0) : lRounds n i F m = (0, m) := by
  cases n with
  | zero => rfl
  | succ n => exact if_pos h
theorem lRounds_zero {i : Nat} {F : Nat → Int → Int × Int} {m : Int} : lRounds 0 i F m = (0, m) := rfl
theorem max_if {j : Int} : (if j > 0 then j else 0) = max 0 j := by
  split <;> omega
end My
namespace My
open PySem L2
theorem bitsN_le {i : Int} (h : i.natAbs ≤ 10 ^ 9) : bitsN i ≤ 30 := by
  unfold bitsN Builtin.Int.intBits
  by_cases z : i = 0
  · rw [z]
    decide
  · have zb : (i == 0) = false := beq_eq_false_iff_ne.mpr z
    rw [zb]
    have : i.natAbs.log2 < 30 := (Nat.log2_lt (by omega)).mpr (Nat.lt_of_le_of_lt h (by decide))
    show _ + 1 ≤ 30
    omega
theorem rng_ok {i : Int} (h : i.natAbs ≤ 10 ^ 9 + 200) : -(2 ^ 62) ≤ i ∧ i < 2 ^ 62 := by
  have e : (2 : Int) ^ 62 = 4611686018427387904 := by decide
  rw [e]
  omega
end My
namespace My
open PySem L2
theorem upd_upd {H : Hp} {p : Addr} {x y : HO} : upd (upd H p x) p y = upd H p y := by
  funext b
  by_cases q : b = p
  · rw [q, upd_same, upd_same]
  · rw [upd_ne q, upd_ne q, upd_ne q]
end My
namespace My
open PySem L2
theorem dget_mono {H H' : Hp} {a : Addr} {y : V} {r : Option V} (s : Same H H') (h : DGet H a y r) : DGet H' a y r := by
  rcases h with ⟨kvs, k, h, e, e2⟩ | ⟨kvs, k, b, h, e, hb, e2⟩
  · exact .inl ⟨kvs, k, same_rd s h, e, e2⟩
  · exact .inr ⟨kvs, k, b, same_rd s h, e, s _ _ hb, e2⟩
theorem wayP_mem {b : List Thing} {n : Int} {w : Str} (h : wayP b = some (n, w)) : Thing.again n w ∈ b := by
  rcases wayP_eq b with ⟨_, e⟩ | ⟨n', w', r, e1, e2⟩
  · rw [e] at h
    cases h
  · rw [e2] at h
    cases h
    have : Thing.again n w ∈ b.filter isAgain := by
      rw [e1]
      exact List.mem_cons_self ..
    exact (List.mem_filter.mp this).1
theorem nextSz_lt {w : Str} {sz : Int} (hw : w = "halves" ∨ w = "thirds" ∨ w = "less") (h : 0 < sz) : 0 ≤ nextSz w sz ∧ nextSz w sz ≤ sz - 1 := by
  unfold nextSz
  split
  · omega
  · split
    · omega
    · omega
theorem agL_stop {g : Nat} {n : Int} {w : Str} {F : Int → Int → Int × Int} {sz many l : Int} (h : sz ≤ 0 ∨ l < 0) (hg : sz.toNat ≤ g) : agL g n w F sz many l = (0, l) := by
  cases g with
  | zero => rfl
  | succ g => exact if_pos h
theorem agL_go {g : Nat} {n : Int} {w : Str} {F : Int → Int → Int × Int} {sz many l : Int} (h : 0 < sz) (hl : 0 ≤ l) (hg : sz.toNat ≤ g) : ∃ g', g = g' + 1 ∧ agL g n w F sz many l = (many * n * (F (nextSz w sz) (l - 1)).1 + (agL g' n w F (nextSz w sz) (many * n) (F (nextSz w sz) (l - 1)).2).1, (agL g' n w F (nextSz w sz) (many * n) (F (nextSz w sz) (l - 1)).2).2) := by
  cases g with
  | zero => omega
  | succ g => exact ⟨g, rfl, if_neg (by omega)⟩
theorem nat_lt {i : Int} {k : Nat} {N : Nat} (h0 : 0 ≤ i) (h : i < N) (hk : N ≤ 2 ^ k) : i.natAbs < 2 ^ k := by
  have : i.natAbs < N := by omega
  omega
end My
namespace My
open PySem L2
theorem pick_next {w : Str} {sz : Int} (hw : w = "halves" ∨ w = "thirds" ∨ w = "less") : some (V.int (nextSz w sz)) = valV (mergeK [] [((Sum.inr (Str.ofString "halves") : L2.Key), V.int (sz / 2)), (Sum.inr (Str.ofString "thirds"), V.int (sz / 3)), (Sum.inr (Str.ofString "less"), V.int (sz - 1))]) (Sum.inr w) := by
  rcases hw with rfl | rfl | rfl <;> rfl
end My
namespace My
open PySem L2
def MonoT (c : TT) : Prop := ∀ (σ : St) (H : Hp) (Q Q' : Bool → Hp → Prop), (∀ b H1, Q b H1 → Q' b H1) → c σ H Q → c σ H Q'
theorem mono_and {a b : TT} (ha : MonoT a) (hb : MonoT b) : MonoT (tAnd a b) := fun σ H Q Q' h x => by
  refine ha σ H _ _ (fun c H1 y => ?_) x
  cases c with
  | true => exact hb σ H1 Q Q' h y
  | false => exact h _ _ y
end My
namespace My
open PySem L2
/-! ### a drawn plan is one that is walked -/
theorem wkE_of {wide : Bool} {sc : List Str} {e : En} (h : EndOk wide sc e) : WkE sc e := by
  obtain ⟨h1, h2⟩ := h
  refine ⟨?_, ?_⟩
  · cases wide
    · have : e.2.natAbs < 5 := h1
      omega
    · have : e.2.natAbs < 100 := h1
      omega
  · rcases h2 with ⟨h2, _⟩ | h2
    · exact .inl h2
    · exact .inr h2
mutual
theorem wkT_of {k : Kit} {nms : List Str} (hk : ∀ e ∈ k.kn, e.1 ∈ nms) : ∀ {t : Thing} {sc : List Str} {deep : Nat}, ThOk k t sc deep → WkT nms t sc deep
  | .step n, _, _, h => by
    rw [ThOk] at h
    rw [WkT]
    omega
  | .call nm e, _, _, h => by
    rw [ThOk] at h
    obtain ⟨en, h1, _, _, h2, _⟩ := h
    rw [WkT]
    exact ⟨hk _ h1, wkE_of h2⟩
  | .double b, _, _, h => by
    rw [ThOk] at h
    rw [WkT]
    exact ⟨h.1, wkB_of hk h.2.2.2.2⟩
  | .loop nm e1 e2 b, _, _, h => by
    rw [ThOk] at h
    rw [WkT]
    exact ⟨h.1, h.2.2.1, wkE_of h.2.2.2.1, wkE_of h.2.2.2.2.1, wkB_of hk h.2.2.2.2.2.2.2⟩
  | .test e1 e2 b1 b2, _, _, h => by
    rw [ThOk] at h
    rw [WkT]
    exact ⟨h.1, wkE_of h.2.1, wkE_of h.2.2.1, wkB_of hk h.2.2.2.2.2.2.1, wkB_of hk h.2.2.2.2.2.2.2⟩
  | .again _ _, _, _, h => by
    rw [ThOk] at h
    exact h.elim
theorem wkB_of {k : Kit} {nms : List Str} (hk : ∀ e ∈ k.kn, e.1 ∈ nms) : ∀ {b : List Thing} {sc : List Str} {deep : Nat}, BdOk k b sc deep → WkB nms b sc deep
  | [], _, _, _ => by simp [WkB]
  | t :: r, _, _, h => by
    rw [BdOk] at h
    rw [WkB]
    exact ⟨wkT_of hk h.1, wkB_of hk h.2⟩
end
theorem wayP_of {k : Kit} : ∀ {b : List Thing} {sc : List Str} {deep : Nat}, BdOk k b sc deep → wayP b = none
  | [], _, _, _ => rfl
  | t :: r, _, _, h => by
    rw [BdOk] at h
    cases t with
    | again n w =>
      have := h.1
      rw [ThOk] at this
      exact this.elim
    | _ => exact (wayP_of (b := r) h.2 : wayP r = none)
theorem WkB.app {nms : List Str} {sc : List Str} {deep : Nat} {c : List Thing} (h : WkB nms c sc deep) : ∀ {b : List Thing}, WkB nms b sc deep → WkB nms (b ++ c) sc deep
  | [], _ => h
  | t :: r, q => by
    rw [WkB] at q
    rw [List.cons_append, WkB]
    exact ⟨q.1, WkB.app h q.2⟩
theorem WkB.part {nms : List Str} {sc : List Str} {deep : Nat} {b : List Thing} (h : WkB nms b sc deep) (i : Nat) : WkB nms (b.take i) sc deep ∧ WkB nms (b.drop i) sc deep := by
  induction b generalizing i with
  | nil => simp [WkB]
  | cons t r ih =>
    cases i with
    | zero => exact ⟨by simp [WkB], h⟩
    | succ i =>
      rw [WkB] at h
      obtain ⟨h1, h2⟩ := ih h.2 i
      refine ⟨?_, h2⟩
      rw [List.take_succ_cons, WkB]
      exact ⟨h.1, h1⟩
theorem BdS.app {b c : List Thing} (h : BdS b) (q : BdS c) : BdS (b ++ c) := BdS.of fun t ht => by
  rcases List.mem_append.mp ht with z | z
  · exact h.mem z
  · exact q.mem z
theorem BdS.part {b : List Thing} (h : BdS b) (i : Nat) : BdS (b.take i) ∧ BdS (b.drop i) := ⟨BdS.of fun t ht => h.mem (List.mem_of_mem_take ht), BdS.of fun t ht => h.mem (List.mem_of_mem_drop ht)⟩
/-- a plan more -/
theorem PlsOk.snoc {ps : Plans} (ok : PlsOk ps) (way : ∀ (i : Nat) (nm : Str) (b : List Thing), ps[i]? = some (nm, b) → wayP b = none) {nm : Str} {b : List Thing} (p : PlOk (ps.map (·.1)) nm b) (n : nm ∉ ps.map (·.1)) : PlsOk (ps ++ [(nm, b)]) := by
  intro i x c h
  rw [List.getElem?_append] at h
  split at h
  · rename_i hi
    have et : (ps ++ [(nm, b)]).take i = ps.take i := by
      rw [List.take_append_of_le_length (by omega)]
    rw [et]
    obtain ⟨h1, h2, h3⟩ := ok i x c h
    exact ⟨h1, h2, fun _ => way i x c h⟩
  · rename_i hi
    have hz : i - ps.length = 0 := by
      cases e : i - ps.length with
      | zero => rfl
      | succ j => rw [e] at h; cases h
    rw [hz] at h
    cases Option.some.inj h
    have ei : i = ps.length := by omega
    subst ei
    rw [List.take_left]
    refine ⟨p, n, fun z => ?_⟩
    rw [List.length_append] at z
    have : ps.length + 1 < ps.length + 1 := z
    omega
/-- the last plan is another one -/
theorem PlsOk.last {ps : Plans} {nm : Str} {b c : List Thing} (ok : PlsOk (ps ++ [(nm, b)])) (p : PlOk (ps.map (·.1)) nm c) : PlsOk (ps ++ [(nm, c)]) := by
  intro i x d h
  by_cases hi : i < ps.length
  · rw [List.getElem?_append_left hi] at h
    obtain ⟨h1, h2, h3⟩ := ok i x d (by rw [List.getElem?_append_left hi]; exact h)
    rw [List.take_append_of_le_length (by omega)] at h1 h2 ⊢
    refine ⟨h1, h2, fun _ => h3 (by rw [List.length_append]; show i + 1 < ps.length + 1; omega)⟩
  · rw [List.getElem?_append_right (by omega)] at h
    have hz : i - ps.length = 0 := by
      cases e : i - ps.length with
      | zero => rfl
      | succ j => rw [e] at h; cases h
    rw [hz] at h
    cases Option.some.inj h
    have ei : i = ps.length := by omega
    subst ei
    rw [List.take_left]
    obtain ⟨_, h2, _⟩ := ok ps.length nm b (by rw [List.getElem?_append_right (Nat.le_refl _), Nat.sub_self]; rfl)
    rw [List.take_left] at h2
    refine ⟨p, h2, fun z => ?_⟩
    rw [List.length_append] at z
    have : ps.length + 1 < ps.length + 1 := z
    omega
/-! ### the known plans while they are put down -/
inductive KnC (H : Hp) : List (L2.Key × V) → List (Str × (Bool × Int × Int)) → Prop
  | nil : KnC H [] []
  | cons {nm : Str} {en : Bool × Int × Int} {p : Addr} {kvs : List (L2.Key × V)} {kn : List (Str × (Bool × Int × Int))} : H p = some (.tup [.bl en.1, .int en.2.1, .int en.2.2]) → KnC H kvs kn → KnC H ((Sum.inr nm, .ref p) :: kvs) ((nm, en) :: kn)
theorem KnC.mono {H H' : Hp} (s : ∀ p xs, H p = some (.tup xs) → H' p = some (.tup xs)) : ∀ {kvs : List (L2.Key × V)} {kn : List (Str × (Bool × Int × Int))}, KnC H kvs kn → KnC H' kvs kn
  | _, _, .nil => .nil
  | _, _, .cons d r => .cons (s _ _ d) (r.mono s)
theorem KnC.snoc {H : Hp} {nm : Str} {en : Bool × Int × Int} {p : Addr} (h : H p = some (.tup [.bl en.1, .int en.2.1, .int en.2.2])) : ∀ {kvs : List (L2.Key × V)} {kn : List (Str × (Bool × Int × Int))}, KnC H kvs kn → KnC H (kvs ++ [(Sum.inr nm, .ref p)]) (kn ++ [(nm, en)])
  | _, _, .nil => .cons h .nil
  | _, _, .cons d r => .cons d (r.snoc h)
theorem KnC.keys {H : Hp} : ∀ {kvs : List (L2.Key × V)} {kn : List (Str × (Bool × Int × Int))}, KnC H kvs kn → kvs.map (·.1) = (kn.map (·.1)).map Sum.inr
  | _, _, .nil => rfl
  | _, _, .cons d r => by
    rw [List.map_cons, List.map_cons, List.map_cons, r.keys]
theorem KnC.length {H : Hp} : ∀ {kvs : List (L2.Key × V)} {kn : List (Str × (Bool × Int × Int))}, KnC H kvs kn → kvs.length = kn.length
  | _, _, .nil => rfl
  | _, _, .cons d r => congrArg Nat.succ r.length
theorem KnC.none {H : Hp} {x : Str} : ∀ {kvs : List (L2.Key × V)} {kn : List (Str × (Bool × Int × Int))}, KnC H kvs kn → x ∉ kn.map (·.1) → (kvs.any fun kv => decide (kv.1 = Sum.inr x)) = false
  | _, _, .nil, _ => rfl
  | _, _, .cons (nm := nm) d r, h => by
    rw [List.map_cons, List.mem_cons, not_or] at h
    rw [List.any_cons, decide_eq_false (by intro e; exact h.1 (Sum.inr.inj e).symm), Bool.false_or]
    exact r.none h.2
theorem KnC.put {H : Hp} {x : Str} {en : Bool × Int × Int} {p : Addr} {kvs : List (L2.Key × V)} {kn : List (Str × (Bool × Int × Int))} (h : KnC H kvs kn) (hn : x ∉ kn.map (·.1)) (d : H p = some (.tup [.bl en.1, .int en.2.1, .int en.2.2])) : KnC H (putK kvs (Sum.inr x) (.ref p)) (kn ++ [(x, en)]) := by
  unfold putK
  rw [if_neg (by rw [h.none hn]; decide)]
  exact h.snoc d
theorem KnC.get {H : Hp} {x : Str} : ∀ {kvs : List (L2.Key × V)} {kn : List (Str × (Bool × Int × Int))}, KnC H kvs kn → x ∈ kn.map (·.1) → ∃ (en : Bool × Int × Int) (p : Addr), (x, en) ∈ kn ∧ valV kvs (Sum.inr x) = some (.ref p) ∧ H p = some (.tup [.bl en.1, .int en.2.1, .int en.2.2])
  | _, _, .nil, h => nomatch h
  | _, _, .cons (nm := nm) (en := en) (p := p) d r, h => by
    by_cases c : nm = x
    · subst c
      exact ⟨en, p, List.mem_cons_self .., valV_pos rfl, d⟩
    · rw [valV_neg (by intro e; exact c (Sum.inr.inj e))]
      obtain ⟨en, p, h1, h2, h3⟩ := r.get (x := x) (by
        rcases List.mem_cons.mp h with e | h
        · exact absurd e.symm c
        · exact h)
      exact ⟨en, p, List.mem_cons_of_mem _ h1, h2, h3⟩
/-- all that is new is frozen -/
def pubA (G H H' : Hp) : Hp := fun b => if H b = none then H' b else G b
theorem pubA_new {G H H' : Hp} {b : Addr} (h : H b = none) : pubA G H H' b = H' b := if_pos h
theorem pubA_old {G H H' : Hp} {b : Addr} (h : H b ≠ none) : pubA G H H' b = G b := if_neg h
theorem Grow.all {M : Addr → Prop} {G H H' : Hp} (s : Same G H) (b : But M H H') (hg : ∀ c, M c → G c = Option.none) : Grow M G H (pubA G H H') H' := by
  refine ⟨fun a o e => ?_, fun a o e => ?_, b, fun a c => pubA_old c.some⟩
  · rw [pubA_old (fun z => by rw [s a o e] at z; cases z)]
    exact e
  · by_cases z : H a = Option.none
    · rw [pubA_new z] at e
      exact e
    · rw [pubA_old z] at e
      exact b a o (s a o e) fun m => by rw [hg a m] at e; cases e
theorem grow_drop' {d kc : Addr} {G H G1 H1 G2 H2 : Hp} (a : Grow (Only1 d) G H G1 H1) (b : Grow (Two d kc) G1 H1 G2 H2) (hk : H kc = none) (hm : ∀ c, Only1 d c → Cell (H1 c)) : Grow (Only1 d) G H G2 H2 :=
  ⟨a.g.trans b.g, b.gh, fun x o e n => b.h x o (a.h x o e n) (by
    rintro (z | z)
    · exact n z
    · rw [z, hk] at e
      cases e), fun c hc => (b.old c (a.h.cell hm hc)).trans (a.old c hc)⟩
/-- a new plan that may call those that are -/
def spMore (K : PySem.W.Frag) : Sp := fun vs H Q _ => ∃ (d l dk : Addr) (kvs : List (L2.Key × V)) (ps : Plans) (r : Int) (fig wide : Bool) (G : Hp), vs = [.ref d, .ref dk, .int r, .bl fig, .bl wide] ∧ Same G H ∧ G d = none ∧ G dk = none ∧ DrawAt H d l ∧
  H dk = some (.dK kvs) ∧ KvOk K G kvs ps ∧ PlsOk ps ∧ ps.length ≤ 4 ∧ 1 ≤ r ∧
  ∀ (v : V) (b : List Thing) (kn : List (Str × (Bool × Int × Int))) (G' H' : Hp), Grow (Only1 d) G H G' H' → DrawAt H' d l → Dp K G' v (planD b) → (∀ e ∈ kn, e.1 ∈ ps.map (·.1)) → BdOk ⟨kn, fig, wide⟩ b [Str.ofString "n"] 0 → 1 ≤ b.length → b.length ≤ 3 → (thingsC b : Int) ≤ r → Q v H'
/-- some plans -/
def spPlans (K : PySem.W.Frag) : Sp := fun vs H Q _ => ∃ (d l : Addr) (up : Int) (fig wide : Bool) (G : Hp), vs = [.ref d, .int up, .bl fig, .bl wide] ∧ Same G H ∧ G d = none ∧ DrawAt H d l ∧ 1 ≤ up ∧ up ≤ 5 ∧
  ∀ (dk : Addr) (kvs : List (L2.Key × V)) (ps : Plans) (G' H' : Hp), Grow (Only1 d) G H G' H' → DrawAt H' d l → H dk = none → G' dk = none → H' dk = some (.dK kvs) → KvOk K G' kvs ps → PlsOk ps → 1 ≤ ps.length → (ps.length : Int) ≤ up →
    (∀ (i : Nat) (nm : Str) (b : List Thing), ps[i]? = some (nm, b) → wayP b = none ∧ thingsC b ≤ 9 ∧ b.length ≤ 3) → Q (.ref dk) H'
def Two' (d c : Addr) : Addr → Prop := fun b => b = d ∨ b = c
/-- the last plan does itself again -/
def spWithWay (K : PySem.W.Frag) : Sp := fun vs H Q _ => ∃ (d l dk : Addr) (kvs : List (L2.Key × V)) (ps : Plans) (nm : Str) (b : List Thing) (G : Hp), vs = [.ref d, .ref dk] ∧ Same G H ∧ G d = none ∧ G dk = none ∧ DrawAt H d l ∧
  H dk = some (.dK kvs) ∧ KvOk K G kvs (ps ++ [(nm, b)]) ∧ PlsOk (ps ++ [(nm, b)]) ∧ ps.length ≤ 4 ∧ wayP b = none ∧ thingsC b ≤ 9 ∧ b.length ≤ 3 ∧
  ∀ (kvs' : List (L2.Key × V)) (c : List Thing) (G' H' : Hp), Grow (Two' d dk) G H G' H' → DrawAt H' d l → H' dk = some (.dK kvs') → KvOk K G' kvs' (ps ++ [(nm, c)]) → PlsOk (ps ++ [(nm, c)]) → Q (.str nm) H'
end My
namespace My
open PySem L2
theorem KvOk.at_ {K : PySem.W.Frag} {G : Hp} {k : L2.Key} {v : V} : ∀ {kvs : List (L2.Key × V)} {ps : Plans} {j : Nat}, KvOk K G kvs ps → kvs[j]? = some (k, v) → ∃ (nm : Str) (b : List Thing), k = Sum.inr nm ∧ ps[j]? = some (nm, b) ∧ Dp K G v (planD b)
  | _, _, _, .nil, h => by cases h
  | _, _, 0, .cons (nm := nm) (b := b) d r, h => by
    cases Option.some.inj h
    exact ⟨nm, b, rfl, rfl, d⟩
  | _, _, j + 1, .cons d r, h => KvOk.at_ (j := j) r h
/-- what is new -/
def NewH (H H' : Hp) : Hp := fun b => if H b = none then H' b else none
theorem newH_at {H H' : Hp} {b : Addr} {o : HO} (h : NewH H H' b = some o) : H b = none ∧ H' b = some o := by
  unfold NewH at h
  split at h
  · rename_i q
    exact ⟨q, h⟩
  · cases h
theorem newH_of {H H' : Hp} {b : Addr} {o : HO} (h : H b = none) (q : H' b = some o) : NewH H H' b = some o := (if_pos h).trans q
end My
namespace My
open PySem L2
theorem cut_to (xs : List V) (n : Nat) : cutV xs none (some (n : Int)) = xs.take n := by
  unfold cutV
  rw [HT.sIx_none, List.drop_zero, Nat.sub_zero, HT.sIx_nat]
  by_cases h : n ≤ xs.length
  · rw [Nat.min_eq_left h]
  · rw [Nat.min_eq_right (by omega), List.take_of_length_le (Nat.le_refl _), List.take_of_length_le (by omega)]
theorem cut_from (xs : List V) (n : Nat) : cutV xs (some (n : Int)) none = xs.drop n := by
  unfold cutV
  rw [HT.sIx_none, HT.sIx_nat, List.take_of_length_le (by rw [List.length_drop]; exact Nat.le_refl _)]
  by_cases h : n ≤ xs.length
  · rw [Nat.min_eq_left h]
  · rw [Nat.min_eq_right (by omega), List.drop_of_length_le (Nat.le_refl _), List.drop_of_length_le (by omega)]
theorem sl_take {K : PySem.W.Frag} {G H : Hp} {a : Addr} {xs : List V} {Q : VK} (n : Nat) (sg : Same G H) (ha : SqT K G a xs) (k : ∀ (p : Addr) (G' H' : Hp), Grow NoM G H G' H' → SqT K G' p (xs.take n) → Q (.ref p) H') : rSlA K (.ref a) none (some (n : Int)) H Q := by
  refine sl_G sg ha (fun e => ?_) (cut_to xs n) k
  have e2 := e.2
  rw [HT.sIx_nat] at e2
  exact List.take_of_length_le (by omega)
theorem sl_drop {K : PySem.W.Frag} {G H : Hp} {a : Addr} {xs : List V} {Q : VK} (n : Nat) (sg : Same G H) (ha : SqT K G a xs) (k : ∀ (p : Addr) (G' H' : Hp), Grow NoM G H G' H' → SqT K G' p (xs.drop n) → Q (.ref p) H') : rSlA K (.ref a) (some (n : Int)) none H Q := by
  refine sl_G sg ha (fun e => ?_) (cut_from xs n) k
  have e1 := e.1
  rw [HT.sIx_nat] at e1
  by_cases h : n = 0
  · rw [h, List.drop_zero]
  · have : xs.length = 0 := by omega
    rw [List.length_eq_zero_iff.mp this, List.drop_nil]
/-- an again of a drawn plan -/
def AgT (t : Thing) : Prop := ∃ n w, t = .again n w ∧ 1 ≤ n ∧ n ≤ 9 ∧ (w = "halves" ∨ w = "thirds" ∨ (w = "less" ∧ n = 1))
theorem agT_ok {nms : List Str} {b : List Thing} {t : Thing} {nm : Str} (i : Nat) (p : PlOk nms nm b) (c : thingsC b ≤ 9) (h : AgT t) : PlOk nms nm (b.take i ++ [t] ++ b.drop i) := by
  obtain ⟨n, w, rfl, h1, h9, h3⟩ := h
  obtain ⟨w1, w2⟩ := p.wk.part i
  obtain ⟨s1, s2⟩ := p.bds.part i
  have wt : WkB nms [Thing.again n w] [Str.ofString "n"] 0 := by
    rw [WkB, WkT]
    exact ⟨⟨rfl, h1, h9, h3⟩, by simp [WkB]⟩
  have st : BdS [Thing.again n w] := BdS.of fun x hx => by
    rw [List.mem_singleton.mp hx, ThS]
    refine ⟨?_, ?_⟩
    · have : n.natAbs < 2 ^ 400 := Nat.lt_of_lt_of_le (m := 16) (by omega) (by decide)
      exact (Nat.log2_lt (by omega)).mpr this
    · rcases h3 with rfl | rfl | ⟨rfl, _⟩ <;> exact ⟨by decide, strOk_of _⟩
  refine ⟨p.name, WkB.app w2 (WkB.app wt w1), (s1.app st).app s2, ?_⟩
  have e : thingsC b = thingsC (b.take i) + thingsC (b.drop i) := by rw [← thingsC_app, List.take_append_drop]
  rw [thingsC_app, thingsC_app]
  have : thingsC [Thing.again n w] = 1 := by simp [thingsC, thingC]
  omega
theorem again_dp {K : PySem.W.Frag} {G : Hp} {p : Addr} {n : Int} {w : Str} (h : SqT K G p [.str "again", .int n, .str w]) : Dp K G (.ref p) (thingD (.again n w)) := by
  rw [thingD]
  exact .tup h (.cons (.str _) (.cons (.int _) (.cons (.str _) .nil)))
theorem PlsOk.at_last {ps : Plans} {nm : Str} {b : List Thing} (ok : PlsOk (ps ++ [(nm, b)])) : (ps ++ [(nm, b)])[ps.length]? = some (nm, b) ∧ planOf (ps ++ [(nm, b)]) nm = b ∧ PlOk (ps.map (·.1)) nm b ∧ nm ∉ ps.map (·.1) := by
  have e : (ps ++ [(nm, b)])[ps.length]? = some (nm, b) := by
    rw [List.getElem?_append_right (Nat.le_refl _), Nat.sub_self]
    rfl
  obtain ⟨h1, h2, _⟩ := ok _ _ _ e
  have h3 := planOf_at e h2
  rw [List.take_left] at h1 h2
  exact ⟨e, h3, h1, h2⟩
end My
namespace My
open PySem L2
/-! ### the program's walk -/
def wkF (dk : Addr) (l : Int) : List (Str × V) := [(Str.ofString "plans", .ref dk), (Str.ofString "left", .int l)]
def WkObj (H : Hp) (o C dk : Addr) (l : Int) : Prop := ∃ dx, H o = some (.ins C dx (wkF dk l))
theorem wkF_put (dk : Addr) (l m : Int) : putF (Str.ofString "left") (.int m) (wkF dk l) = wkF dk m := rfl
theorem WkObj.ne {H : Hp} {o C dk p : Addr} {l : Int} (h : WkObj H o C dk l) (hp : H p = none) : o ≠ p := fun z => by
  obtain ⟨dx, e⟩ := h
  rw [z, hp] at e
  cases e
def spVisit (C : Addr) : Sp := fun vs H Q _ => ∃ (o dk : Addr) (l : Int), vs = [.ref o] ∧ WkObj H o C dk l ∧ 1 ≤ l ∧ ∀ H', But (Only1 o) H H' → WkObj H' o C dk (l - 1) → Q .non H'
def spPT (K : PySem.W.Frag) (C : Addr) (f : Nat) : Sp := fun vs H Q _ => ∃ (o dk en : Addr) (v : V) (t : Thing) (ps : Plans) (env : WEnv) (i g deep : Nat) (l : Int), vs = [.ref o, v, .ref en] ∧ LwAt K H dk o ps ∧ WkObj H o C dk l ∧ Dp K (Off o H) v (thingD t) ∧
  LwIn H en o env f deep ∧ WkT ((ps.take i).map (·.1)) t (env.map (·.1)) deep ∧ isAgain t = false ∧ i < ps.length ∧ i ≤ g ∧ deep ≤ 4 ∧ 16 * i + 3 * (4 - deep) + 1 ≤ f ∧ (stT (callee g ps) t env).2 ≤ l ∧ l ≤ 10000 ∧
  ∀ H', But (Only1 o) H H' → WkObj H' o C dk (l - (stT (callee g ps) t env).2) → Q (.int (stT (callee g ps) t env).1) H'
def spPB (K : PySem.W.Frag) (C : Addr) (f : Nat) : Sp := fun vs H Q _ => ∃ (o dk en : Addr) (v : V) (b : List Thing) (ps : Plans) (env : WEnv) (i g deep : Nat) (l : Int), vs = [.ref o, v, .ref en] ∧ LwAt K H dk o ps ∧ WkObj H o C dk l ∧ Dp K (Off o H) v (planD b) ∧
  LwIn H en o env f deep ∧ WkB ((ps.take i).map (·.1)) b (env.map (·.1)) deep ∧ i < ps.length ∧ i ≤ g ∧ deep ≤ 4 ∧ 16 * i + 3 * (4 - deep) + 2 ≤ f ∧ (stB (callee g ps) b env).2 ≤ l ∧ l ≤ 10000 ∧
  ∀ H', But (Only1 o) H H' → WkObj H' o C dk (l - (stB (callee g ps) b env).2) → Q (.int (stB (callee g ps) b env).1) H'
def spPR (K : PySem.W.Frag) (C : Addr) (f : Nat) : Sp := fun vs H Q _ => ∃ (o dk en : Addr) (v : V) (n : Nat) (b : List Thing) (ps : Plans) (env : WEnv) (i g deep : Nat) (l : Int), vs = [.ref o, .int n, v, .ref en] ∧ n ≤ 30 ∧ LwAt K H dk o ps ∧ WkObj H o C dk l ∧ Dp K (Off o H) v (planD b) ∧
  LwIn H en o env f deep ∧ WkB ((ps.take i).map (·.1)) b (env.map (·.1)) deep ∧ i < ps.length ∧ i ≤ g ∧ deep ≤ 4 ∧ 16 * i + 3 * (4 - deep) + 3 ≤ f ∧ (rounds n 0 fun _ => stB (callee g ps) b env).2 ≤ l ∧ l ≤ 10000 ∧
  ∀ H', But (Only1 o) H H' → WkObj H' o C dk (l - (rounds n 0 fun _ => stB (callee g ps) b env).2) → Q (.int (rounds n 0 fun _ => stB (callee g ps) b env).1) H'
def spPP (K : PySem.W.Frag) (C : Addr) (f : Nat) : Sp := fun vs H Q _ => ∃ (o dk : Addr) (nm : Str) (b : List Thing) (ps : Plans) (sz l : Int) (i g : Nat), vs = [.ref o, .str nm, .int sz] ∧ LwAt K H dk o ps ∧ WkObj H o C dk l ∧
  ps[i]? = some (nm, b) ∧ i ≤ g ∧ 16 * i + 16 ≤ f ∧ (wayP b = none ∨ sz ≤ 1000) ∧ 0 ≤ sz ∧ sz.natAbs + 100 * f ≤ 10 ^ 9 ∧ (topE g ps nm sz).2 ≤ l ∧ l ≤ 10000 ∧
  ∀ H', But (Only1 o) H H' → WkObj H' o C dk (l - (topE g ps nm sz).2) → Q (.int (topE g ps nm sz).1) H'
theorem stB_drop {P : Str → Int → Int × Int} {b : List Thing} {i : Nat} {t : Thing} (h : b[i]? = some t) (env : WEnv) : stB P (b.drop i) env = if isAgain t then stB P (b.drop (i + 1)) env else ((stT P t env).1 + (stB P (b.drop (i + 1)) env).1, (stT P t env).2 + 1 + (stB P (b.drop (i + 1)) env).2) := by
  obtain ⟨hi, e⟩ := List.getElem?_eq_some_iff.mp h
  rw [List.drop_eq_getElem_cons hi, e, stB]
theorem stB_end {P : Str → Int → Int × Int} {b : List Thing} (env : WEnv) : stB P (b.drop b.length) env = (0, 0) := by
  rw [List.drop_length, stB]
theorem stT_nn (ps : Plans) (g : Nat) (t : Thing) (env : WEnv) : 0 ≤ (stT (callee g ps) t env).2 := (rel_thing (fun nm sz => rel_callee g ps nm sz) t env).nn
theorem stB_nn (ps : Plans) (g : Nat) (b : List Thing) (env : WEnv) : 0 ≤ (stB (callee g ps) b env).2 := (rel_body (fun nm sz => rel_callee g ps nm sz) b env).nn
theorem stB_ok {ps : Plans} (ok : PlsOk ps) (g : Nat) {nms sc : List Str} {deep : Nat} {b : List Thing} (env : WEnv) (wk : WkB nms b sc deep) : 0 ≤ (stB (callee g ps) b env).1 ∧ (stB (callee g ps) b env).1 ≤ 99 * (stB (callee g ps) b env).2 := by
  have r := rel_body (fun nm sz => rel_callee g ps nm sz) b env
  have e := r.enough _ (Int.le_refl _)
  have h := lB_ok (fun nm sz l h => callee_ok ok g nm sz l h) env (stB (callee g ps) b env).2 wk (by have := r.nn; omega)
  rw [e] at h
  have h0 := h.v0
  have h1 := h.v1
  exact ⟨h0, by simpa using h1⟩
theorem rounds_nn {F : Nat → Int × Int} (h : ∀ i, 0 ≤ (F i).2) : ∀ n i, 0 ≤ (rounds n i F).2
  | 0, i => Int.le_refl _
  | n + 1, i => by
    have := rounds_nn h n (i + 1)
    have := h i
    show 0 ≤ (F i).2 + 1 + (rounds n (i + 1) F).2
    omega
theorem rounds_zero {F : Nat → Int × Int} {i : Nat} : rounds 0 i F = (0, 0) := rfl
theorem rounds_succ {F : Nat → Int × Int} {n i : Nat} : rounds (n + 1) i F = ((F i).1 + (rounds n (i + 1) F).1, (F i).2 + 1 + (rounds n (i + 1) F).2) := rfl
theorem agE_stop {g : Nat} {n : Int} {w : Str} {F : Int → Int × Int} {sz many : Int} (h : sz ≤ 0) : agE g n w F sz many = (0, 0) := by
  cases g with
  | zero => rfl
  | succ g => exact if_pos h
theorem agE_go {g : Nat} {n : Int} {w : Str} {F : Int → Int × Int} {sz many : Int} (h : 0 < sz) (hg : sz.toNat ≤ g) : ∃ g', g = g' + 1 ∧ agE g n w F sz many = (many * n * (F (nextSz w sz)).1 + (agE g' n w F (nextSz w sz) (many * n)).1, (F (nextSz w sz)).2 + 1 + (agE g' n w F (nextSz w sz) (many * n)).2) := by
  cases g with
  | zero => omega
  | succ g => exact ⟨g, rfl, if_neg (by omega)⟩
theorem agE_nn {n : Int} {w : Str} {F : Int → Int × Int} (h : ∀ sz, 0 ≤ (F sz).2) : ∀ g sz many, 0 ≤ (agE g n w F sz many).2
  | 0, sz, many => Int.le_refl _
  | g + 1, sz, many => by
    have := agE_nn (n := n) (w := w) h g (nextSz w sz) (many * n)
    have := h (nextSz w sz)
    simp only [agE]
    split
    · exact Int.le_refl _
    · show 0 ≤ (F (nextSz w sz)).2 + 1 + (agE g n w F (nextSz w sz) (many * n)).2
      omega
end My
namespace My
open PySem L2
theorem sqt_off {K : PySem.W.Frag} {H : Hp} {o a C dx : Addr} {fs : List (Str × V)} {xs : List V} (hs : SqT K H a xs) (oe : H o = some (.ins C dx fs)) : SqT K (Off o H) a xs := by
  rcases hs with (h | ⟨od, h⟩) | h
  · exact .inl (.inl (by
      rw [off_ne (fun z => by rw [z, oe] at h; cases h)]
      exact h))
  · exact .inl (.inr ⟨od, by
      rw [off_ne (fun z => by rw [z, oe] at h; cases h)]
      exact h⟩)
  · exact .inr h
end My
namespace My
open PySem PySem.Spec L2
/-! ### repr of a dict of plans -/
mutual
def noL : PyData → Bool
  | .list _ => false
  | .dict _ => false
  | .tuple xs => noLs xs
  | _ => true
def noLs : List PyData → Bool
  | [] => true
  | x :: r => noL x && noLs r
end
mutual
theorem reads_flat {h : Heap} : ∀ {v : Value} {d : PyData} {as : List Addr}, Reads h v d as → noL d = true → as = []
  | _, _, _, .none, _ => rfl
  | _, _, _, .bool _, _ => rfl
  | _, _, _, .int _ _, _ => rfl
  | _, _, _, .str _ _, _ => rfl
  | _, _, _, .list _ _ _ _, q => by simp [noL] at q
  | _, _, _, .tuple _ _ _ h4, q => reads_flats h4 (by simpa only [noL] using q)
  | _, _, _, .dict _ _ _ _ _, q => by simp [noL] at q
theorem reads_flats {h : Heap} : ∀ {vs : List Value} {ds : List PyData} {as : List Addr}, ReadsAll h vs ds as → noLs ds = true → as = []
  | _, _, _, .nil, _ => rfl
  | _, _, _, .cons r rs, q => by
    simp only [noLs, Bool.and_eq_true] at q
    rw [reads_flat r q.1, reads_flats rs q.2]
    rfl
end
theorem tame_str {x : Str} (h : PyData.strOk x = true) : tame (.str x) = true := by
  unfold PyData.strOk at h
  rw [← Array.all_toList, List.all_eq_true] at h
  simp only [tame]
  rw [List.all_eq_true]
  intro c hc
  have q : decide (c < 1114112) = true := h c hc
  have q : c < 1114112 := of_decide_eq_true q
  have e : (16 : Nat) ^ 8 = 4294967296 := by decide
  exact decide_eq_true (by omega)
theorem end_w {sc : List Str} {e : En} (h : EnS e) (w : WkE sc e) : tame (endD e) = true ∧ noL (endD e) = true ∧ (endD e).weight ≤ 110 := by
  have t1 := tame_str h.1.2
  have l1 := h.1.1
  have w1 := w.1
  have b7 : e.2.natAbs < 2 ^ 7 := by
    have : (2 : Nat) ^ 7 = 128 := by decide
    omega
  have t2 := tame_int b7 (by decide) (by decide)
  have w2 := weight_int b7 (by decide)
  refine ⟨?_, rfl, ?_⟩
  · simp only [endD, tame, tameAll, Bool.and_true, Bool.and_eq_true] at t1 t2 ⊢
    exact ⟨t1, t2⟩
  · simp only [endD, PyData.weight, PyData.weightAll] at w2 ⊢
    have l1 : e.1.cps.size ≤ 100 := l1
    omega
theorem tame_word (s : String) : tame (.str (Str.ofString s)) = true := tame_str (strOk_of _)
mutual
theorem thing_w {nms : List Str} : ∀ {t : Thing} {sc : List Str} {deep : Nat}, WkT nms t sc deep → ThS t → tame (thingD t) = true ∧ noL (thingD t) = true ∧ (thingD t).weight + 1 ≤ 400 * thingC t
  | .step n, _, _, h, q => by
    rw [WkT] at h
    have b7 : n.natAbs < 2 ^ 7 := by
      have : (2 : Nat) ^ 7 = 128 := by decide
      omega
    have t1 := tame_word "step"
    have t2 := tame_int b7 (by decide) (by decide)
    have w2 := weight_int b7 (by decide)
    have w1 : (PyData.str (Str.ofString "step")).weight = 4 := rfl
    rw [thingD]
    refine ⟨?_, by simp [noL, noLs], ?_⟩
    · simp only [tame, tameAll, Bool.and_true, Bool.and_eq_true] at t1 t2 ⊢
      exact ⟨t1, t2⟩
    · simp only [thingC]
      simp only [PyData.weight, PyData.weightAll] at w1 w2 ⊢
      omega
  | .again n w, _, _, h, q => by
    rw [WkT] at h
    have b7 : n.natAbs < 2 ^ 7 := by
      have : (2 : Nat) ^ 7 = 128 := by decide
      omega
    have t1 := tame_word "again"
    have t2 := tame_int b7 (by decide) (by decide)
    have w2 := weight_int b7 (by decide)
    have w1 : (PyData.str (Str.ofString "again")).weight = 5 := rfl
    have w3 : tame (.str w) = true ∧ (PyData.str w).weight ≤ 6 := by
      rcases h.2.2.2 with rfl | rfl | ⟨rfl, _⟩
      · exact ⟨tame_word _, by decide⟩
      · exact ⟨tame_word _, by decide⟩
      · exact ⟨tame_word _, by decide⟩
    obtain ⟨t3, w3⟩ := w3
    rw [thingD]
    refine ⟨?_, by simp [noL, noLs], ?_⟩
    · simp only [tame, tameAll, Bool.and_true, Bool.and_eq_true] at t1 t2 t3 ⊢
      exact ⟨t1, t2, t3⟩
    · simp only [thingC]
      simp only [PyData.weight, PyData.weightAll] at w1 w2 w3 ⊢
      omega
  | .call nm e, _, _, h, q => by
    rw [WkT] at h
    rw [ThS] at q
    obtain ⟨e1, e2, e3⟩ := end_w q.2 h.2
    have t1 := tame_word "call"
    have t2 := tame_str q.1.2
    have w1 : (PyData.str (Str.ofString "call")).weight = 4 := rfl
    have w2 : (PyData.str nm).weight ≤ 100 := by
      simp only [PyData.weight]
      exact q.1.1
    rw [thingD]
    refine ⟨?_, by simp only [noL, noLs, e2, Bool.and_true], ?_⟩
    · simp only [tame, tameAll, Bool.and_true, Bool.and_eq_true] at t1 t2 ⊢
      exact ⟨t1, t2, e1⟩
    · simp only [thingC]
      have e : (PyData.tuple [.str (Str.ofString "call"), .str nm, endD e]).weight = (PyData.str (Str.ofString "call")).weight + 1 + ((PyData.str nm).weight + 1 + ((endD e).weight + 1 + 0)) := by simp only [PyData.weight, PyData.weightAll]
      rw [e]
      omega
  | .double b, _, _, h, q => by
    rw [WkT] at h
    rw [ThS] at q
    obtain ⟨b1, b2, b3⟩ := body_w h.2 q
    have t1 := tame_word "double"
    have w1 : (PyData.str (Str.ofString "double")).weight = 6 := rfl
    rw [thingD]
    refine ⟨?_, by simp only [noL, noLs, b2, Bool.and_true], ?_⟩
    · simp only [tame, tameAll, Bool.and_true, Bool.and_eq_true] at t1 ⊢
      exact ⟨t1, b1⟩
    · simp only [thingC]
      have e : (PyData.tuple [.str (Str.ofString "double"), .tuple (thingsD b)]).weight = (PyData.str (Str.ofString "double")).weight + 1 + (PyData.weightAll (thingsD b) + 1 + 0) := by simp only [PyData.weight, PyData.weightAll]
      rw [e]
      omega
  | .loop nm e1 e2 b, _, _, h, q => by
    rw [WkT] at h
    rw [ThS] at q
    obtain ⟨b1, b2, b3⟩ := body_w h.2.2.2.2 q.2.2.2
    obtain ⟨c1, c2, c3⟩ := end_w q.2.1 h.2.2.1
    obtain ⟨d1, d2, d3⟩ := end_w q.2.2.1 h.2.2.2.1
    have t1 := tame_word "for"
    have t2 := tame_str q.1.2
    have w1 : (PyData.str (Str.ofString "for")).weight = 3 := rfl
    have w2 : (PyData.str nm).weight ≤ 100 := by
      simp only [PyData.weight]
      exact q.1.1
    rw [thingD]
    refine ⟨?_, by simp only [noL, noLs, b2, c2, d2, Bool.and_true], ?_⟩
    · simp only [tame, tameAll, Bool.and_true, Bool.and_eq_true] at t1 t2 ⊢
      exact ⟨t1, t2, c1, d1, b1⟩
    · simp only [thingC]
      have e : (PyData.tuple [.str (Str.ofString "for"), .str nm, endD e1, endD e2, .tuple (thingsD b)]).weight = (PyData.str (Str.ofString "for")).weight + 1 + ((PyData.str nm).weight + 1 + ((endD e1).weight + 1 + ((endD e2).weight + 1 + (PyData.weightAll (thingsD b) + 1 + 0)))) := by simp only [PyData.weight, PyData.weightAll]
      rw [e]
      omega
  | .test e1 e2 b1 b2, _, _, h, q => by
    rw [WkT] at h
    rw [ThS] at q
    obtain ⟨a1, a2, a3⟩ := body_w h.2.2.2.1 q.2.2.1
    obtain ⟨b1', b2', b3⟩ := body_w h.2.2.2.2 q.2.2.2
    obtain ⟨c1, c2, c3⟩ := end_w q.1 h.2.1
    obtain ⟨d1, d2, d3⟩ := end_w q.2.1 h.2.2.1
    have t1 := tame_word "if"
    have w1 : (PyData.str (Str.ofString "if")).weight = 2 := rfl
    rw [thingD]
    refine ⟨?_, by simp only [noL, noLs, a2, b2', c2, d2, Bool.and_true], ?_⟩
    · simp only [tame, tameAll, Bool.and_true, Bool.and_eq_true] at t1 ⊢
      exact ⟨t1, c1, d1, a1, b1'⟩
    · simp only [thingC]
      have e : (PyData.tuple [.str (Str.ofString "if"), endD e1, endD e2, .tuple (thingsD b1), .tuple (thingsD b2)]).weight = (PyData.str (Str.ofString "if")).weight + 1 + ((endD e1).weight + 1 + ((endD e2).weight + 1 + (PyData.weightAll (thingsD b1) + 1 + (PyData.weightAll (thingsD b2) + 1 + 0)))) := by simp only [PyData.weight, PyData.weightAll]
      rw [e]
      omega
theorem body_w {nms : List Str} : ∀ {b : List Thing} {sc : List Str} {deep : Nat}, WkB nms b sc deep → BdS b → tameAll (thingsD b) = true ∧ noLs (thingsD b) = true ∧ PyData.weightAll (thingsD b) ≤ 400 * thingsC b
  | [], _, _, _, _ => by simp [thingsD, tameAll, noLs, PyData.weightAll]
  | t :: r, _, _, h, q => by
    rw [WkB] at h
    rw [BdS] at q
    obtain ⟨a1, a2, a3⟩ := thing_w h.1 q.1
    obtain ⟨b1, b2, b3⟩ := body_w h.2 q.2
    rw [thingsD, tameAll, noLs, PyData.weightAll, thingsC, a1, a2, b1, b2]
    exact ⟨rfl, rfl, by omega⟩
end
def plansD (ps : Plans) : List (PyData × PyData) := ps.map fun p => (.str p.1, planD p.2)
/-- each plan can be shown -/
structure PlShow (p : Str × List Thing) : Prop where
  nm : NmS p.1
  tame : My.tame (planD p.2) = true
  noL : My.noL (planD p.2) = true
  weight : (planD p.2).weight ≤ 5200
  depth : (planD p.2).depth ≤ 30
theorem plShow_of {nms : List Str} {nm : Str} {b : List Thing} (h : PlOk nms nm b) : PlShow (nm, b) := by
  obtain ⟨b1, b2, b3⟩ := body_w h.wk h.bds
  have l := thingsD_lay h.bds
  have c := h.size
  refine ⟨nmS_of h.name, by simpa only [planD, tame] using b1, by simpa only [planD, noL] using b2, ?_, ?_⟩
  · simp only [planD, PyData.weight]
    omega
  · simp only [planD, PyData.depth]
    omega
theorem plans_show : ∀ {ps : Plans}, (∀ p ∈ ps, PlShow p) → PyData.showableKv (plansD ps) = true ∧ PyData.leavesShortKv 401 (plansD ps) = true ∧ PyData.depthKv (plansD ps) ≤ 30 ∧ PyData.weightKv (plansD ps) ≤ 5302 * ps.length ∧ noLs ((plansD ps).map (·.1)) = true ∧ noLs ((plansD ps).map (·.2)) = true
  | [], _ => by simp [plansD, PyData.showableKv, PyData.leavesShortKv, PyData.depthKv, PyData.weightKv, noLs]
  | p :: r, h => by
    have hp := h p (List.mem_cons_self ..)
    obtain ⟨a1, a2, a3, a4, a5, a6⟩ := plans_show (ps := r) fun x hx => h x (List.mem_cons_of_mem _ hx)
    obtain ⟨t1, t2, t3⟩ := tame_all _ hp.tame
    obtain ⟨n1, n2, n3⟩ := tame_all _ (tame_str hp.nm.2)
    have w1 : (PyData.str p.1).weight ≤ 100 := by
      simp only [PyData.weight]
      exact hp.nm.1
    have d1 : (PyData.str p.1).depth = 0 := rfl
    have w2 := hp.weight
    have d2 := hp.depth
    have e : plansD (p :: r) = (.str p.1, planD p.2) :: plansD r := rfl
    rw [e]
    refine ⟨?_, ?_, ?_, ?_, ?_, ?_⟩
    · rw [PyData.showableKv, t1, n1, a1]
      rfl
    · rw [PyData.leavesShortKv, t3, n3, a2]
      rfl
    · rw [PyData.depthKv]
      omega
    · rw [PyData.weightKv, List.length_cons]
      omega
    · rw [List.map_cons, noLs, a5]
      rfl
    · rw [List.map_cons, noLs, a6, hp.noL]
      rfl
theorem plans_shown {ps : Plans} (h : ∀ p ∈ ps, PlShow p) (l : ps.length ≤ 5) : (PyData.dict (plansD ps)).showable = true ∧ (PyData.dict (plansD ps)).depth ≤ 31 ∧ (PyData.dict (plansD ps)).shown.length ≤ sizeLine := by
  obtain ⟨a1, a2, a3, a4, _, _⟩ := plans_show h
  refine ⟨by simpa only [PyData.showable] using a1, by simp only [PyData.depth]; omega, ?_⟩
  have e := PyData.shown_le 401 (by decide) (.dict (plansD ps)) (by simpa only [PyData.leavesShort] using a2)
  have w : (PyData.dict (plansD ps)).weight ≤ 26510 := by
    simp only [PyData.weight]
    omega
  have e2 : (401 + 2) * (PyData.dict (plansD ps)).weight ≤ 403 * 26510 := Nat.mul_le_mul_left _ w
  show _ ≤ 16777216
  omega
end My
namespace My
open PySem PySem.Spec PyProof.Rows L2
theorem reads_plans {X : Cx} {pins : List (Addr × Obj)} {σ : L2.St} {H : Hp} {s : Shared} (I : Inv X pins σ H s) : ∀ {kvs : List (L2.Key × V)} {ps : Plans} {vs : List (L2.Key × Value)} {es : List DictEntry},
    KvOk X.K H kvs ps → KV kvs vs → Pairs (mixKind X.prog X.w) es vs → ∃ as bs, ReadsAll s.heap (es.map (·.key)) ((plansD ps).map (·.1)) as ∧ ReadsAll s.heap (es.map (·.val)) ((plansD ps).map (·.2)) bs := by
  intro kvs ps vs es h
  induction h generalizing vs es with
  | nil =>
    intro r q
    cases r
    cases q
    exact ⟨_, _, .nil, .nil⟩
  | @cons nm b v kvs ps d r ih =>
    intro rr q
    cases rr with
    | @cons p q' _ qs hh tt =>
      obtain ⟨h1, h2⟩ := hh
      cases q with
      | @cons e kv es' _ hk hv hr =>
        obtain ⟨as, bs, r1, r2⟩ := ih tt hr
        obtain ⟨cs, r3⟩ := Dp.reads I _ _ _ d h2
        have hk : keyIs q'.1 e.key = true := hk
        rw [← h1] at hk
        rcases keyIs_shape hk with ⟨i, t, e2, e1⟩ | ⟨x, t, e2, e1⟩
        · cases e2
        · cases e2
          have k1 : ReadsAll s.heap (Value.str nm t :: es'.map (·.key)) (.str nm :: (plansD ps).map (·.1)) ([] ++ as) := .cons (.str _ _) r1
          have k2 : ReadsAll s.heap (q'.snd :: es'.map (·.val)) (planD b :: (plansD ps).map (·.2)) (cs ++ bs) := .cons r3 r2
          refine ⟨[] ++ as, cs ++ bs, ?_, ?_⟩
          · show ReadsAll s.heap (e.key :: es'.map (·.key)) (.str nm :: (plansD ps).map (·.1)) _
            rw [e1]
            exact k1
          · show ReadsAll s.heap (e.val :: es'.map (·.val)) (planD b :: (plansD ps).map (·.2)) _
            rw [hv]
            exact k2
/-- repr(d), d a dict of plans -/
def rReprP (K : PySem.W.Frag) : List V → Hp → VK → Prop := fun xs H Q => ∃ (a : Addr) (kvs : List (L2.Key × V)) (ps : Plans), xs = [.ref a] ∧ Rd H a (.dK kvs) ∧ KvOk K H kvs ps ∧ (∀ p ∈ ps, PlShow p) ∧ ps.length ≤ 5 ∧ Q (.str (PyData.dict (plansD ps)).shown) H
theorem call_reprP {X : Cx} (hg : X.A.guards = some []) (hu : X.A.units + 120 < cLine) : CallR X (.builtin "repr") (rReprP X.K) := by
  rintro pins s σ H xs us Q I r ⟨a, kvs, ps, rfl, hd, hk, hp, hl, q⟩
  cases r with
  | cons r t =>
    cases t
    cases r
    obtain ⟨_, hm, vs, rel, o, es, ep, ho, hx, hdat, _, hpr, _⟩ := dk_rd I.hok hd
    obtain ⟨as, bs, r1, r2⟩ := reads_plans I hk rel hpr
    obtain ⟨_, _, _, _, n1, n2⟩ := plans_show hp
    obtain ⟨s1, s2, s3⟩ := plans_shown hp hl
    have e1 := reads_flats r1 n1
    have e2 := reads_flats r2 n2
    subst e1
    subst e2
    have rd : Reads s.heap (.ref a) (.dict (plansD ps)) _ := .dict ho hx.1 hdat r1 r2
    refine repr_of_reads' rd s1 (fun _ z => ?_) hg (by omega) (fun _ _ e => e) (fun h' u tk hk => ?_) s3
    · have z : sysModules ∈ [a] := by simpa using z
      rw [List.mem_singleton.mp z] at hm
      exact absurd hm (by simp)
    · exact ⟨.str _, H, I.kept hk, ⟨_, rfl⟩, q⟩
end My
namespace My
open PySem L2
def topS (i : Nat) : Stmt := PySem.Challenge.pw_outgrow_k08_steps_walked.main.body.getD i (.Pass ⟨0, 0, 0, 0⟩)
abbrev s_law_begin : Stmt := topS 13
abbrev N_law_begin : List Str := ["_law_script"]
theorem sc_law_begin : FnScope N_law_begin ["_law_script"] (defScope s_law_begin) := ⟨rfl, rfl, rfl, by decide +kernel, rfl, by decide +kernel, by decide +kernel⟩
abbrev s_law_take : Stmt := topS 14
abbrev N_law_take : List Str := ["_law_draw", "_law_sides", "_law_cell", "_law_got"]
theorem sc_law_take : FnScope N_law_take ["_law_draw", "_law_sides"] (defScope s_law_take) := ⟨rfl, rfl, rfl, by decide +kernel, rfl, by decide +kernel, by decide +kernel⟩
abbrev s_law_pick : Stmt := topS 15
abbrev N_law_pick : List Str := ["_law_draw", "_law_row"]
theorem sc_law_pick : FnScope N_law_pick ["_law_draw", "_law_row"] (defScope s_law_pick) := ⟨rfl, rfl, rfl, by decide +kernel, rfl, by decide +kernel, by decide +kernel⟩
abbrev s_law_kept_words : Stmt := topS 16
abbrev N_law_kept_words : List Str := []
theorem sc_law_kept_words : FnScope N_law_kept_words [] (defScope s_law_kept_words) := ⟨rfl, rfl, rfl, by decide +kernel, rfl, by decide +kernel, by decide +kernel⟩
abbrev s_law_fresh : Stmt := topS 17
abbrev N_law_fresh : List Str := ["_law_draw", "_law_taken", "_law_size", "_law_name", "_law_spare", "_law_sign", "_law_k", "_law_one"]
theorem sc_law_fresh : FnScope N_law_fresh ["_law_draw", "_law_taken"] (defScope s_law_fresh) := ⟨rfl, rfl, rfl, by decide +kernel, rfl, by decide +kernel, by decide +kernel⟩
abbrev s_law_some_end : Stmt := topS 27
abbrev N_law_some_end : List Str := ["_law_draw", "_law_scope", "_law_wide", "_law_more"]
theorem sc_law_some_end : FnScope N_law_some_end ["_law_draw", "_law_scope", "_law_wide"] (defScope s_law_some_end) := ⟨rfl, rfl, rfl, by decide +kernel, rfl, by decide +kernel, by decide +kernel⟩
abbrev s_law_leaf : Stmt := topS 28
abbrev N_law_leaf : List Str := ["_law_draw", "_law_kit", "_law_scope", "_law_deep", "_law_name", "_law_fit", "_law_end"]
theorem sc_law_leaf : FnScope N_law_leaf ["_law_draw", "_law_kit", "_law_scope", "_law_deep"] (defScope s_law_leaf) := ⟨rfl, rfl, rfl, by decide +kernel, rfl, by decide +kernel, by decide +kernel⟩
abbrev s_law_drawn_thing : Stmt := topS 29
abbrev N_law_drawn_thing : List Str := ["_law_draw", "_law_kit", "_law_scope", "_law_deep", "_law_fork", "_law_one", "_law_other", "_law_name", "_law_body", "_law_rest"]
theorem sc_law_drawn_thing : FnScope N_law_drawn_thing ["_law_draw", "_law_kit", "_law_scope", "_law_deep"] (defScope s_law_drawn_thing) := ⟨rfl, rfl, rfl, by decide +kernel, rfl, by decide +kernel, by decide +kernel⟩
abbrev s_law_drawn_body : Stmt := topS 30
abbrev N_law_drawn_body : List Str := ["_law_draw", "_law_kit", "_law_scope", "_law_deep", "_law_found", "_law_k"]
theorem sc_law_drawn_body : FnScope N_law_drawn_body ["_law_draw", "_law_kit", "_law_scope", "_law_deep"] (defScope s_law_drawn_body) := ⟨rfl, rfl, rfl, by decide +kernel, rfl, by decide +kernel, by decide +kernel⟩
abbrev s_law_way : Stmt := topS 18
abbrev N_law_way : List Str := ["_law_plan", "_law_found", "_law_thing"]
theorem sc_law_way : FnScope N_law_way ["_law_plan"] (defScope s_law_way) := ⟨rfl, rfl, rfl, by decide +kernel, rfl, by decide +kernel, by decide +kernel⟩
abbrev s_law_plain : Stmt := topS 19
abbrev N_law_plain : List Str := ["_law_plan", "_law_again"]
theorem sc_law_plain : FnScope N_law_plain ["_law_plan"] (defScope s_law_plain) := ⟨rfl, rfl, rfl, by decide +kernel, rfl, by decide +kernel, by decide +kernel⟩
abbrev s_law_bodies : Stmt := topS 20
abbrev N_law_bodies : List Str := ["_law_thing"]
theorem sc_law_bodies : FnScope N_law_bodies ["_law_thing"] (defScope s_law_bodies) := ⟨rfl, rfl, rfl, by decide +kernel, rfl, by decide +kernel, by decide +kernel⟩
abbrev s_law_every : Stmt := topS 21
abbrev N_law_every : List Str := ["_law_plan", "_law_found", "_law_thing", "_law_body"]
theorem sc_law_every : FnScope N_law_every ["_law_plan"] (defScope s_law_every) := ⟨rfl, rfl, rfl, by decide +kernel, rfl, by decide +kernel, by decide +kernel⟩
abbrev s_law_figured : Stmt := topS 22
abbrev N_law_figured : List Str := ["_law_plan", "_law_plans", "_law_thing"]
theorem sc_law_figured : FnScope N_law_figured ["_law_plan", "_law_plans"] (defScope s_law_figured) := ⟨rfl, rfl, rfl, by decide +kernel, rfl, by decide +kernel, by decide +kernel⟩
abbrev s_law_weight_in : Stmt := topS 23
abbrev N_law_weight_in : List Str := ["_law_plan", "_law_plans", "_law_found", "_law_thing", "_law_here", "_law_body"]
theorem sc_law_weight_in : FnScope N_law_weight_in ["_law_plan", "_law_plans"] (defScope s_law_weight_in) := ⟨rfl, rfl, rfl, by decide +kernel, rfl, by decide +kernel, by decide +kernel⟩
abbrev s_law_weight : Stmt := topS 24
abbrev N_law_weight : List Str := ["_law_plan", "_law_plans", "_law_again"]
theorem sc_law_weight : FnScope N_law_weight ["_law_plan", "_law_plans"] (defScope s_law_weight) := ⟨rfl, rfl, rfl, by decide +kernel, rfl, by decide +kernel, by decide +kernel⟩
abbrev s_law_calls : Stmt := topS 25
abbrev N_law_calls : List Str := ["_law_plan", "_law_found", "_law_thing"]
theorem sc_law_calls : FnScope N_law_calls ["_law_plan"] (defScope s_law_calls) := ⟨rfl, rfl, rfl, by decide +kernel, rfl, by decide +kernel, by decide +kernel⟩
abbrev s_law_chain : Stmt := topS 26
abbrev N_law_chain : List Str := ["_law_plan", "_law_plans", "_law_name"]
theorem sc_law_chain : FnScope N_law_chain ["_law_plan", "_law_plans"] (defScope s_law_chain) := ⟨rfl, rfl, rfl, by decide +kernel, rfl, by decide +kernel, by decide +kernel⟩
abbrev s_law_more_plan : Stmt := topS 31
abbrev N_law_more_plan : List Str := ["_law_draw", "_law_plans", "_law_room", "_law_figures", "_law_wide", "_law_known", "_law_name", "_law_plan"]
theorem sc_law_more_plan : FnScope N_law_more_plan ["_law_draw", "_law_plans", "_law_room", "_law_figures", "_law_wide"] (defScope s_law_more_plan) := ⟨rfl, rfl, rfl, by decide +kernel, rfl, by decide +kernel, by decide +kernel⟩
abbrev s_law_drawn_plans : Stmt := topS 32
abbrev N_law_drawn_plans : List Str := ["_law_draw", "_law_upto", "_law_figures", "_law_wide", "_law_plans", "_law_k", "_law_name"]
theorem sc_law_drawn_plans : FnScope N_law_drawn_plans ["_law_draw", "_law_upto", "_law_figures", "_law_wide"] (defScope s_law_drawn_plans) := ⟨rfl, rfl, rfl, by decide +kernel, rfl, by decide +kernel, by decide +kernel⟩
abbrev s_law_with_way : Stmt := topS 33
abbrev N_law_with_way : List Str := ["_law_draw", "_law_plans", "_law_name", "_law_plan", "_law_ways", "_law_at"]
theorem sc_law_with_way : FnScope N_law_with_way ["_law_draw", "_law_plans"] (defScope s_law_with_way) := ⟨rfl, rfl, rfl, by decide +kernel, rfl, by decide +kernel, by decide +kernel⟩
abbrev s_law_comes : Stmt := topS 34
abbrev N_law_comes : List Str := ["_law_end", "_law_names"]
theorem sc_law_comes : FnScope N_law_comes ["_law_end", "_law_names"] (defScope s_law_comes) := ⟨rfl, rfl, rfl, by decide +kernel, rfl, by decide +kernel, by decide +kernel⟩
abbrev s_law_walk_thing : Stmt := topS 35
abbrev N_law_walk_thing : List Str := ["_law_plans", "_law_thing", "_law_names", "_law_left", "_law_word", "_law_found", "_law_low", "_law_high", "_law_number", "_law_inner"]
theorem sc_law_walk_thing : FnScope N_law_walk_thing ["_law_plans", "_law_thing", "_law_names", "_law_left"] (defScope s_law_walk_thing) := ⟨rfl, rfl, rfl, by decide +kernel, rfl, by decide +kernel, by decide +kernel⟩
abbrev s_law_walk_body : Stmt := topS 36
abbrev N_law_walk_body : List Str := ["_law_plans", "_law_body", "_law_names", "_law_left", "_law_found", "_law_thing"]
theorem sc_law_walk_body : FnScope N_law_walk_body ["_law_plans", "_law_body", "_law_names", "_law_left"] (defScope s_law_walk_body) := ⟨rfl, rfl, rfl, by decide +kernel, rfl, by decide +kernel, by decide +kernel⟩
abbrev s_law_walk : Stmt := topS 37
abbrev N_law_walk : List Str := ["_law_plans", "_law_name", "_law_size", "_law_left", "_law_again", "_law_found", "_law_many"]
theorem sc_law_walk : FnScope N_law_walk ["_law_plans", "_law_name", "_law_size", "_law_left"] (defScope s_law_walk) := ⟨rfl, rfl, rfl, by decide +kernel, rfl, by decide +kernel, by decide +kernel⟩
abbrev s_Walk_visit : Stmt := inClass (topS 10) 1
abbrev N_Walk_visit : List Str := ["self"]
theorem sc_Walk_visit : FnScope N_Walk_visit ["self"] (defScope s_Walk_visit) := ⟨rfl, rfl, rfl, by decide +kernel, rfl, by decide +kernel, by decide +kernel⟩
abbrev s_Walk_rounds : Stmt := inClass (topS 10) 4
abbrev N_Walk_rounds : List Str := ["self", "many", "things", "names", "found", "turn"]
theorem sc_Walk_rounds : FnScope N_Walk_rounds ["self", "many", "things", "names"] (defScope s_Walk_rounds) := ⟨rfl, rfl, rfl, by decide +kernel, rfl, by decide +kernel, by decide +kernel⟩
abbrev s_end_worth : Stmt := topS 9
abbrev N_end_worth : List Str := ["end", "names", "name", "more"]
theorem sc_end_worth : FnScope N_end_worth ["end", "names"] (defScope s_end_worth) := ⟨rfl, rfl, rfl, by decide +kernel, rfl, by decide +kernel, by decide +kernel⟩
abbrev s_Walk_thing : Stmt := inClass (topS 10) 3
abbrev N_Walk_thing : List Str := ["self", "thing", "names", "word", "rest", "within", "found", "at", "inner"]
theorem sc_Walk_thing : FnScope N_Walk_thing ["self", "thing", "names"] (defScope s_Walk_thing) := ⟨rfl, rfl, rfl, by decide +kernel, rfl, by decide +kernel, by decide +kernel⟩
abbrev s_Walk_body : Stmt := inClass (topS 10) 2
abbrev N_Walk_body : List Str := ["self", "things", "names", "found", "thing"]
theorem sc_Walk_body : FnScope N_Walk_body ["self", "things", "names"] (defScope s_Walk_body) := ⟨rfl, rfl, rfl, by decide +kernel, rfl, by decide +kernel, by decide +kernel⟩
abbrev s_way_of : Stmt := topS 7
abbrev N_way_of : List Str := ["plan", "thing"]
theorem sc_way_of : FnScope N_way_of ["plan"] (defScope s_way_of) := ⟨rfl, rfl, rfl, by decide +kernel, rfl, by decide +kernel, by decide +kernel⟩
abbrev s_Walk_plan : Stmt := inClass (topS 10) 5
abbrev N_Walk_plan : List Str := ["self", "name", "size", "plan", "way", "found", "times"]
theorem sc_Walk_plan : FnScope N_Walk_plan ["self", "name", "size"] (defScope s_Walk_plan) := ⟨rfl, rfl, rfl, by decide +kernel, rfl, by decide +kernel, by decide +kernel⟩
abbrev s_Walk_init : Stmt := inClass (topS 10) 0
abbrev N_Walk_init : List Str := ["self", "plans", "left"]
theorem sc_Walk_init : FnScope N_Walk_init ["self", "plans", "left"] (defScope s_Walk_init) := ⟨rfl, rfl, rfl, by decide +kernel, rfl, by decide +kernel, by decide +kernel⟩
abbrev s_walked : Stmt := topS 11
abbrev N_walked : List Str := ["plans", "name", "size", "most"]
theorem sc_walked : FnScope N_walked ["plans", "name", "size", "most"] (defScope s_walked) := ⟨rfl, rfl, rfl, by decide +kernel, rfl, by decide +kernel, by decide +kernel⟩
abbrev s_law_same : Stmt := topS 38
abbrev N_law_same : List Str := ["_law_found", "_law_due", "_law_one", "_law_other"]
theorem sc_law_same : FnScope N_law_same ["_law_found", "_law_due"] (defScope s_law_same) := ⟨rfl, rfl, rfl, by decide +kernel, rfl, by decide +kernel, by decide +kernel⟩
abbrev s_law : Stmt := topS 39
abbrev N_law : List Str := ["_law_script", "_law_draw", "_law_plans", "_law_name", "_law_text", "_law_size", "_law_left", "_law_due", "_law_found"]
theorem sc_law : FnScope N_law ["_law_script"] (defScope s_law) := ⟨rfl, rfl, rfl, by decide +kernel, rfl, by decide +kernel, by decide +kernel⟩
structure Txt (K : PySem.W.Frag) (mg : Str → Option Value) : Type where
  a_law_begin : Addr
  d_law_begin : FuncData
  F_law_begin : Fun K "_law_begin" "_law_begin" s_law_begin a_law_begin d_law_begin
  b_law_begin : Binds K d_law_begin ["_law_script"] []
  g_law_begin : mg "_law_begin" = some (.ref a_law_begin)
  a_law_take : Addr
  d_law_take : FuncData
  F_law_take : Fun K "_law_take" "_law_take" s_law_take a_law_take d_law_take
  b_law_take : Binds K d_law_take ["_law_draw", "_law_sides"] []
  g_law_take : mg "_law_take" = some (.ref a_law_take)
  a_law_pick : Addr
  d_law_pick : FuncData
  F_law_pick : Fun K "_law_pick" "_law_pick" s_law_pick a_law_pick d_law_pick
  b_law_pick : Binds K d_law_pick ["_law_draw", "_law_row"] []
  g_law_pick : mg "_law_pick" = some (.ref a_law_pick)
  a_law_kept_words : Addr
  d_law_kept_words : FuncData
  F_law_kept_words : Fun K "_law_kept_words" "_law_kept_words" s_law_kept_words a_law_kept_words d_law_kept_words
  b_law_kept_words : Binds K d_law_kept_words [] []
  g_law_kept_words : mg "_law_kept_words" = some (.ref a_law_kept_words)
  a_law_fresh : Addr
  d_law_fresh : FuncData
  F_law_fresh : Fun K "_law_fresh" "_law_fresh" s_law_fresh a_law_fresh d_law_fresh
  b_law_fresh : Binds K d_law_fresh ["_law_draw", "_law_taken"] []
  g_law_fresh : mg "_law_fresh" = some (.ref a_law_fresh)
  a_law_some_end : Addr
  d_law_some_end : FuncData
  F_law_some_end : Fun K "_law_some_end" "_law_some_end" s_law_some_end a_law_some_end d_law_some_end
  b_law_some_end : Binds K d_law_some_end ["_law_draw", "_law_scope", "_law_wide"] []
  g_law_some_end : mg "_law_some_end" = some (.ref a_law_some_end)
  a_law_leaf : Addr
  d_law_leaf : FuncData
  F_law_leaf : Fun K "_law_leaf" "_law_leaf" s_law_leaf a_law_leaf d_law_leaf
  b_law_leaf : Binds K d_law_leaf ["_law_draw", "_law_kit", "_law_scope", "_law_deep"] []
  g_law_leaf : mg "_law_leaf" = some (.ref a_law_leaf)
  a_law_drawn_thing : Addr
  d_law_drawn_thing : FuncData
  F_law_drawn_thing : Fun K "_law_drawn_thing" "_law_drawn_thing" s_law_drawn_thing a_law_drawn_thing d_law_drawn_thing
  b_law_drawn_thing : Binds K d_law_drawn_thing ["_law_draw", "_law_kit", "_law_scope", "_law_deep"] []
  g_law_drawn_thing : mg "_law_drawn_thing" = some (.ref a_law_drawn_thing)
  a_law_drawn_body : Addr
  d_law_drawn_body : FuncData
  F_law_drawn_body : Fun K "_law_drawn_body" "_law_drawn_body" s_law_drawn_body a_law_drawn_body d_law_drawn_body
  b_law_drawn_body : Binds K d_law_drawn_body ["_law_draw", "_law_kit", "_law_scope", "_law_deep"] []
  g_law_drawn_body : mg "_law_drawn_body" = some (.ref a_law_drawn_body)
  a_law_way : Addr
  d_law_way : FuncData
  F_law_way : Fun K "_law_way" "_law_way" s_law_way a_law_way d_law_way
  b_law_way : Binds K d_law_way ["_law_plan"] []
  g_law_way : mg "_law_way" = some (.ref a_law_way)
  a_law_plain : Addr
  d_law_plain : FuncData
  F_law_plain : Fun K "_law_plain" "_law_plain" s_law_plain a_law_plain d_law_plain
  b_law_plain : Binds K d_law_plain ["_law_plan"] []
  g_law_plain : mg "_law_plain" = some (.ref a_law_plain)
  a_law_bodies : Addr
  d_law_bodies : FuncData
  F_law_bodies : Fun K "_law_bodies" "_law_bodies" s_law_bodies a_law_bodies d_law_bodies
  b_law_bodies : Binds K d_law_bodies ["_law_thing"] []
  g_law_bodies : mg "_law_bodies" = some (.ref a_law_bodies)
  a_law_every : Addr
  d_law_every : FuncData
  F_law_every : Fun K "_law_every" "_law_every" s_law_every a_law_every d_law_every
  b_law_every : Binds K d_law_every ["_law_plan"] []
  g_law_every : mg "_law_every" = some (.ref a_law_every)
  a_law_figured : Addr
  d_law_figured : FuncData
  F_law_figured : Fun K "_law_figured" "_law_figured" s_law_figured a_law_figured d_law_figured
  b_law_figured : Binds K d_law_figured ["_law_plan", "_law_plans"] []
  g_law_figured : mg "_law_figured" = some (.ref a_law_figured)
  a_law_weight_in : Addr
  d_law_weight_in : FuncData
  F_law_weight_in : Fun K "_law_weight_in" "_law_weight_in" s_law_weight_in a_law_weight_in d_law_weight_in
  b_law_weight_in : Binds K d_law_weight_in ["_law_plan", "_law_plans"] []
  g_law_weight_in : mg "_law_weight_in" = some (.ref a_law_weight_in)
  a_law_weight : Addr
  d_law_weight : FuncData
  F_law_weight : Fun K "_law_weight" "_law_weight" s_law_weight a_law_weight d_law_weight
  b_law_weight : Binds K d_law_weight ["_law_plan", "_law_plans"] []
  g_law_weight : mg "_law_weight" = some (.ref a_law_weight)
  a_law_calls : Addr
  d_law_calls : FuncData
  F_law_calls : Fun K "_law_calls" "_law_calls" s_law_calls a_law_calls d_law_calls
  b_law_calls : Binds K d_law_calls ["_law_plan"] []
  g_law_calls : mg "_law_calls" = some (.ref a_law_calls)
  a_law_chain : Addr
  d_law_chain : FuncData
  F_law_chain : Fun K "_law_chain" "_law_chain" s_law_chain a_law_chain d_law_chain
  b_law_chain : Binds K d_law_chain ["_law_plan", "_law_plans"] []
  g_law_chain : mg "_law_chain" = some (.ref a_law_chain)
  a_law_more_plan : Addr
  d_law_more_plan : FuncData
  F_law_more_plan : Fun K "_law_more_plan" "_law_more_plan" s_law_more_plan a_law_more_plan d_law_more_plan
  b_law_more_plan : Binds K d_law_more_plan ["_law_draw", "_law_plans", "_law_room", "_law_figures", "_law_wide"] []
  g_law_more_plan : mg "_law_more_plan" = some (.ref a_law_more_plan)
  a_law_drawn_plans : Addr
  d_law_drawn_plans : FuncData
  F_law_drawn_plans : Fun K "_law_drawn_plans" "_law_drawn_plans" s_law_drawn_plans a_law_drawn_plans d_law_drawn_plans
  b_law_drawn_plans : Binds K d_law_drawn_plans ["_law_draw", "_law_upto", "_law_figures", "_law_wide"] []
  g_law_drawn_plans : mg "_law_drawn_plans" = some (.ref a_law_drawn_plans)
  a_law_with_way : Addr
  d_law_with_way : FuncData
  F_law_with_way : Fun K "_law_with_way" "_law_with_way" s_law_with_way a_law_with_way d_law_with_way
  b_law_with_way : Binds K d_law_with_way ["_law_draw", "_law_plans"] []
  g_law_with_way : mg "_law_with_way" = some (.ref a_law_with_way)
  a_law_comes : Addr
  d_law_comes : FuncData
  F_law_comes : Fun K "_law_comes" "_law_comes" s_law_comes a_law_comes d_law_comes
  b_law_comes : Binds K d_law_comes ["_law_end", "_law_names"] []
  g_law_comes : mg "_law_comes" = some (.ref a_law_comes)
  a_law_walk_thing : Addr
  d_law_walk_thing : FuncData
  F_law_walk_thing : Fun K "_law_walk_thing" "_law_walk_thing" s_law_walk_thing a_law_walk_thing d_law_walk_thing
  b_law_walk_thing : Binds K d_law_walk_thing ["_law_plans", "_law_thing", "_law_names", "_law_left"] []
  g_law_walk_thing : mg "_law_walk_thing" = some (.ref a_law_walk_thing)
  a_law_walk_body : Addr
  d_law_walk_body : FuncData
  F_law_walk_body : Fun K "_law_walk_body" "_law_walk_body" s_law_walk_body a_law_walk_body d_law_walk_body
  b_law_walk_body : Binds K d_law_walk_body ["_law_plans", "_law_body", "_law_names", "_law_left"] []
  g_law_walk_body : mg "_law_walk_body" = some (.ref a_law_walk_body)
  a_law_walk : Addr
  d_law_walk : FuncData
  F_law_walk : Fun K "_law_walk" "_law_walk" s_law_walk a_law_walk d_law_walk
  b_law_walk : Binds K d_law_walk ["_law_plans", "_law_name", "_law_size", "_law_left"] []
  g_law_walk : mg "_law_walk" = some (.ref a_law_walk)
  a_Walk_visit : Addr
  d_Walk_visit : FuncData
  F_Walk_visit : Fun K "visit" "Walk.visit" s_Walk_visit a_Walk_visit d_Walk_visit
  b_Walk_visit : Binds K d_Walk_visit ["self"] []
  a_Walk_rounds : Addr
  d_Walk_rounds : FuncData
  F_Walk_rounds : Fun K "rounds" "Walk.rounds" s_Walk_rounds a_Walk_rounds d_Walk_rounds
  b_Walk_rounds : Binds K d_Walk_rounds ["self", "many", "things", "names"] []
  a_end_worth : Addr
  d_end_worth : FuncData
  F_end_worth : Fun K "end_worth" "end_worth" s_end_worth a_end_worth d_end_worth
  b_end_worth : Binds K d_end_worth ["end", "names"] []
  g_end_worth : mg "end_worth" = some (.ref a_end_worth)
  a_Walk_thing : Addr
  d_Walk_thing : FuncData
  F_Walk_thing : Fun K "thing" "Walk.thing" s_Walk_thing a_Walk_thing d_Walk_thing
  b_Walk_thing : Binds K d_Walk_thing ["self", "thing", "names"] []
  a_Walk_body : Addr
  d_Walk_body : FuncData
  F_Walk_body : Fun K "body" "Walk.body" s_Walk_body a_Walk_body d_Walk_body
  b_Walk_body : Binds K d_Walk_body ["self", "things", "names"] []
  a_way_of : Addr
  d_way_of : FuncData
  F_way_of : Fun K "way_of" "way_of" s_way_of a_way_of d_way_of
  b_way_of : Binds K d_way_of ["plan"] []
  g_way_of : mg "way_of" = some (.ref a_way_of)
  a_Walk_plan : Addr
  d_Walk_plan : FuncData
  F_Walk_plan : Fun K "plan" "Walk.plan" s_Walk_plan a_Walk_plan d_Walk_plan
  b_Walk_plan : Binds K d_Walk_plan ["self", "name", "size"] []
  a_Walk_init : Addr
  d_Walk_init : FuncData
  F_Walk_init : Fun K "__init__" "Walk.__init__" s_Walk_init a_Walk_init d_Walk_init
  b_Walk_init : Binds K d_Walk_init ["self", "plans", "left"] []
  a_walked : Addr
  d_walked : FuncData
  F_walked : Fun K "walked" "walked" s_walked a_walked d_walked
  ds_walked : List Value
  dv_walked : Vals [V.int 10000] ds_walked
  b_walked : Binds K d_walked ["plans", "name", "size", "most"] ds_walked
  kg_walked : List Value → List Value → List Value
  kb_walked : KBn K d_walked ["plans", "name", "size", "most"] 3 ["most"] kg_walked (fun vs zs => vs ++ zs)
  g_walked : mg "walked" = some (.ref a_walked)
  a_law_same : Addr
  d_law_same : FuncData
  F_law_same : Fun K "_law_same" "_law_same" s_law_same a_law_same d_law_same
  b_law_same : Binds K d_law_same ["_law_found", "_law_due"] []
  g_law_same : mg "_law_same" = some (.ref a_law_same)
  a_law : Addr
  d_law : FuncData
  F_law : Fun K "law" "law" s_law a_law d_law
  b_law : Binds K d_law ["_law_script"] []
  g_law : mg "law" = some (.ref a_law)
  c_Walk : Addr
  cl_Walk : Cls K c_Walk
  gc_Walk : mg "Walk" = some (.ref c_Walk)
  me_Walk_visit : Meth K c_Walk "visit" a_Walk_visit
  me_Walk_rounds : Meth K c_Walk "rounds" a_Walk_rounds
  me_Walk_thing : Meth K c_Walk "thing" a_Walk_thing
  me_Walk_body : Meth K c_Walk "body" a_Walk_body
  me_Walk_plan : Meth K c_Walk "plan" a_Walk_plan
  mk_Walk : Mk K c_Walk a_Walk_init
  na_Walk_plans : NoAttr K c_Walk "plans"
  na_Walk_left : NoAttr K c_Walk "left"
  z_abs : mg "abs" = none
  z_all : mg "all" = none
  z_bool : mg "bool" = none
  z_dict : mg "dict" = none
  z_int : mg "int" = none
  z_isinstance : mg "isinstance" = none
  z_len : mg "len" = none
  z_list : mg "list" = none
  z_max : mg "max" = none
  z_range : mg "range" = none
  z_repr : mg "repr" = none
  z_sorted : mg "sorted" = none
  z_str : mg "str" = none
  z_tuple : mg "tuple" = none
  z_zip : mg "zip" = none
  u_MOST_VISITS : Value
  m_MOST_VISITS : mg "MOST_VISITS" = some u_MOST_VISITS
  r_MOST_VISITS : RelV (.int 10000) u_MOST_VISITS
  u_SIZE : Value
  m_SIZE : mg "SIZE" = some u_SIZE
  r_SIZE : RelV (.str "n") u_SIZE
section
variable {P : Program} {w : World} {K : PySem.W.Frag} {mg : Str → Option Value} {base : Heap}
/-- a fresh draw -/
def spBegin (K : PySem.W.Frag) : Sp := fun vs H Q _ => ∃ (a : Addr) (ns : List Int), vs = [.ref a] ∧ SqL K H a (ns.map V.int) ∧ ns.length ≤ 63 ∧
  ∀ d l H', H d = none → H l = none → Same H H' → DrawAt H' d l → Q (.ref d) H'
theorem ok_law_begin (T : Txt K mg) : FnOk P w K mg base CX0 1 T.a_law_begin T.d_law_begin ["_law_script"] (spBegin K) := by
  refine T.F_law_begin.ok sc_law_begin (fun vs H Q E h => ?_) (fun cdv A outer s H vs Q E hr h => ?_)
  · obtain ⟨a, ns, rfl, _⟩ := h
    rfl
  obtain ⟨a, ns, rfl, hS, hl, k⟩ := h
  refine ⟨_, (pss_one (ps_ret (pe_lst (pa_cons (pe_callTy call_list_of (by rfl) T.z_list (by decide +kernel) (pa_cons (pe_slice sl_list (pv 0) po_none (po_some pe_int)) pa_nil)) (pa_cons pe_int (pa_cons pe_int (pa_cons pe_int pa_nil))))))), ?_⟩
  refine ⟨.ref a, rfl, 63, rfl, a, _, rfl, hS, fun p hp => ?_⟩
  refine ⟨p, _, rfl, .inl (SqL.of upd_same), fun l hl2 => ?_⟩
  refine ⟨by show 4 ≤ sizeLine; decide, fun d hd => ?_⟩
  have s1 : Same H _ := (same_upd (o := .lst (cutV (ns.map V.int) none (some 63))) hp)
  have s2 := s1.trans (same_upd (o := .lst (cutV (ns.map V.int) none (some 63))) hl2)
  have s3 := s2.trans (same_upd (o := .lst [.ref l, .int 0, .int 0, .int 37]) hd)
  have nld : l ≠ d := fun e => by
    rw [← e, upd_same] at hd
    cases hd
  refine k d l _ (s2.free hd) (s1.free hl2) s3 ⟨⟨ns.take 63, 0, 0, 37, upd_same, ?_, by decide, by decide, by decide, by decide, ?_⟩⟩
  · rw [upd_ne nld, upd_same]
    have e : cutV (ns.map V.int) none (some 63) = (ns.take 63).map V.int := by
      unfold cutV
      rw [HT.sIx_none, show HT.sIx (ns.map V.int).length (ns.map V.int).length (some 63) = min 63 (ns.map V.int).length from HT.sIx_nat _ _ 63, List.drop_zero, Nat.sub_zero]
      rw [List.map_take, List.length_map, List.take_eq_take_iff]
      simp
    rw [e]
  · rw [List.length_take]
    omega
/-- a draw below n -/
def spTake : Sp := fun vs H Q _ => ∃ (d l : Addr) (n : Int), vs = [.ref d, .int n] ∧ DrawAt H d l ∧ 0 < n ∧ n < 2 ^ 200 ∧
  ∀ (r : Int) H', 0 ≤ r → r < n → DrawAt H' d l → But (Only1 d) H H' → Q (.int r) H'
theorem ok_law_take (T : Txt K mg) : FnOk P w K mg base CX0 1 T.a_law_take T.d_law_take ["_law_draw", "_law_sides"] spTake := by
  refine T.F_law_take.ok sc_law_take (fun vs H Q E h => ?_) (fun cdv A outer s H vs Q E hr h => ?_)
  · obtain ⟨d, l, n, rfl, _⟩ := h
    rfl
  obtain ⟨d, l, n, rfl, D, hn0, hn, k⟩ := h
  refine ⟨_, (C8.pss_cut (ps_if (PW.pt (pw_and (pt_cmpR op_lt (pe_ix ix_list (pv 0) pe_int (fun _ _ => rfl)) (pv 1) (nomark _)) (pw_and1 (pt_cmpR op_lt (pe_ix ix_list (pv 0) pe_int (fun _ _ => rfl)) (pe_callB call_len_seq (by rfl) T.z_len (by decide +kernel) (pa_cons (pe_ix ix_list (pv 0) pe_int (fun _ _ => rfl)) pa_nil)) (nomark _))))) (pss_cons (ps_set (i := 2) sc_law_take.nd rfl (Or.inl rfl) (pe_ix ix_list (pe_ix ix_list (pv 0) pe_int (fun _ _ => rfl)) (pe_ix ix_list (pv 0) pe_int (fun _ _ => rfl)) (fun _ _ => rfl)))
      (pss_cons (ps_asg (pe_op op_add (pe_ix ix_list (pv 0) pe_int (fun _ _ => rfl)) pe_int) (pg_sub (pv 0) pe_int set_list))
      (pss_cons (ps_asg pe_int (pg_sub (pv 0) pe_int set_list))
      (pss_one (ps_if (pt_cmpR op_ge (pe_callB call_abs (by rfl) T.z_abs (by decide +kernel) (pa_cons (pv 2) pa_nil)) (pe_op op_pow pe_int pe_int) (nomark _)) (pss_one (ps_asg (pe_callB call_abs (by rfl) T.z_abs (by decide +kernel) (pa_cons (pv 2) pa_nil)) (pg_sub (pv 0) pe_int set_list))) (pss_one (ps_asg (pe_op op_mod (pe_op op_add (pe_op op_add (pe_op op_mul (pe_ix ix_list (pv 0) pe_int (fun _ _ => rfl)) pe_int) (pe_op op_mul (pe_op op_mod (pv 2) pe_int) pe_int)) pe_int) pe_int) (pg_sub (pv 0) pe_int set_list)))))))) pss_nil)
      (pss_cons (ps_if (pt_cmpR op_ge (pe_ix ix_list (pv 0) pe_int (fun _ _ => rfl)) (pv 1) (nomark _)) (pss_cons (ps_set (i := 3) sc_law_take.nd rfl (Or.inl rfl) (pe_op op_mod (pe_ix ix_list (pv 0) pe_int (fun _ _ => rfl)) (pv 1)))
      (pss_cons (ps_asg (pe_op op_fdivW (pe_ix ix_list (pv 0) pe_int (fun _ _ => rfl)) (pv 1)) (pg_sub (pv 0) pe_int set_list))
      (pss_one (ps_ret (pv 3))))) pss_nil)
      (pss_cons (ps_asg (pe_op op_mod (pe_op op_add (pe_op op_add (pe_op op_mul (pe_op op_mod (pe_op op_mul (pe_ix ix_list (pv 0) pe_int (fun _ _ => rfl)) (pe_ix ix_list (pv 0) pe_int (fun _ _ => rfl))) pe_int) pe_int) (pe_op op_mul (pe_ix ix_list (pv 0) pe_int (fun _ _ => rfl)) pe_int)) pe_int) pe_int) (pg_sub (pv 0) pe_int set_list))
      (pss_one (ps_ret (pe_op op_mod (pe_op op_add (pe_op op_fdivW (pe_ix ix_list (pv 0) pe_int (fun _ _ => rfl)) pe_int) (pe_op op_mul (pe_op op_mod (pe_ix ix_list (pv 0) pe_int (fun _ _ => rfl)) pe_int) pe_int)) (pv 1))))))), ?_⟩
  obtain ⟨ns, p, g, s, e1, e2, p0, g0, s0, s1, hl⟩ := D.ex
  have nld : l ≠ d := fun e => by
    rw [e, e1] at e2
    cases ns with
    | nil => cases e2
    | cons x r => cases e2
  have cw : CDivW 0 n := log_small hn0 hn (by decide) (by decide)
  refine ⟨fun σ' H' => ∃ c p g s, σ' = [some (.ref d), some (.int n), c, none] ∧ H' d = some (.lst [.ref l, .int p, .int g, .int s]) ∧ H' l = some (.lst (ns.map V.int)) ∧ 0 ≤ p ∧ 0 ≤ g ∧ 0 ≤ s ∧ s < 2147483647 ∧ But (Only1 d) H H', ?_, ?_⟩
  · refine ⟨_, rfl, d, _, 2, .int g, rfl, rfl, SqL.of e1, rfl, _, rfl, g, n, rfl, rfl, _, rfl, ?_⟩
    refine ite2 (fun c1 => ?_) (fun _ => ⟨_, p, g, s, rfl, e1, e2, p0, g0, s0, s1, But.refl _ _⟩)
    refine ⟨_, rfl, d, _, 1, .int p, rfl, rfl, SqL.of e1, rfl, _, rfl, d, _, 0, .ref l, rfl, rfl, SqL.of e1, rfl, l, _, rfl, .inl (SqL.of e2), p, _, rfl, rfl, _, rfl, ?_⟩
    refine ite2 (fun c2 => ?_) (fun _ => ⟨_, p, g, s, rfl, e1, e2, p0, g0, s0, s1, But.refl _ _⟩)
    have c2' : p < (((ns.map V.int).length : Nat) : Int) := of_decide_eq_true c2
    rw [List.length_map] at c2'
    obtain ⟨j, ej⟩ : ∃ j : Nat, p = (j : Int) := ⟨p.toNat, by omega⟩
    have hj : j < ns.length := by omega
    have ha : atI (ns.map V.int) p = some (.int ns[j]) := by
      rw [ej]
      exact atI_nat (by rw [List.getElem?_map, List.getElem?_eq_getElem hj]; rfl)
    -- cell = draw[0][draw[1]]
    refine ⟨_, rfl, d, _, 0, .ref l, rfl, rfl, SqL.of e1, rfl, _, rfl, d, _, 1, .int p, rfl, rfl, SqL.of e1, rfl, l, _, p, _, rfl, rfl, SqL.of e2, ha, ?_⟩
    generalize ns[j] = x
    -- draw[1] = draw[1] + 1; draw[2] = 0
    refine ⟨_, rfl, d, _, 1, .int p, rfl, rfl, SqL.of e1, rfl, p, 1, rfl, rfl, _, rfl, d, _, 1, 1, rfl, rfl, e1, rfl, ?_⟩
    refine ⟨_, rfl, d, _, 2, 2, rfl, rfl, upd_same, rfl, ?_⟩
    have b2 : ∀ o, But (Only1 d) H (upd (upd H d (.lst [.ref l, .int (p + 1), .int g, .int s])) d o) := fun o => ((But.refl _ _).put only1).put only1
    have e2' : ∀ o o', upd (upd H d o) d o' l = some (.lst (ns.map V.int)) := fun o o' => by
      rw [upd_ne nld, upd_ne nld]
      exact e2
    -- abs(cell) >= 10 ** 18
    refine ⟨_, rfl, x, rfl, 10, 18, rfl, rfl, ⟨by decide, by decide, by decide⟩, _, _, rfl, rfl, _, rfl, ?_⟩
    refine ite2 (fun _ => ?_) (fun _ => ?_)
    · refine ⟨_, rfl, x, rfl, _, rfl, d, _, 2, 2, rfl, rfl, upd_same, rfl, ?_⟩
      refine ⟨_, p + 1, _, s, rfl, upd_same, ?_, by omega, ?_, s0, s1, ((b2 _).put only1)⟩
      · rw [upd_ne nld]
        exact e2' _ _
      · split <;> omega
    · refine ⟨_, rfl, d, _, 3, .int s, rfl, rfl, SqL.of upd_same, rfl, s, 48271, rfl, rfl, .inr ⟨by decide, by decide⟩, _, rfl, x, 2147483629, rfl, rfl, (by show (0 : Int) < 2147483629; decide), _, 69621, rfl, rfl, .inr ⟨by decide, by decide⟩, _, _, rfl, rfl, _, 12345, rfl, rfl, _, 2147483647, rfl, rfl, (by show (0 : Int) < 2147483647; decide), _, rfl, d, _, 3, 3, rfl, rfl, upd_same, rfl, ?_⟩
      refine ⟨_, p + 1, 0, _, rfl, upd_same, ?_, by omega, by omega, Int.emod_nonneg _ (by decide), Int.emod_lt_of_pos _ (by decide), ((b2 _).put only1)⟩
      rw [upd_ne nld]
      exact e2' _ _
  · rintro σ' H1 ⟨c, p, g, s, rfl, e1, e2, p0, g0, s0, s1, b⟩
    refine ⟨_, rfl, d, _, 2, .int g, rfl, rfl, SqL.of e1, rfl, _, rfl, g, n, rfl, rfl, _, rfl, ?_⟩
    refine ite2 (fun c1 => ?_) (fun _ => ?_)
    · refine ⟨_, rfl, d, _, 2, .int g, rfl, rfl, SqL.of e1, rfl, _, rfl, g, n, rfl, rfl, hn0, ?_⟩
      refine ⟨_, rfl, d, _, 2, .int g, rfl, rfl, SqL.of e1, rfl, _, rfl, g, n, rfl, rfl, cw, _, rfl, d, _, 2, 2, rfl, rfl, e1, rfl, ?_⟩
      refine ⟨_, rfl, k _ _ (Int.emod_nonneg _ (by omega)) (Int.emod_lt_of_pos _ hn0) ⟨⟨ns, p, _, s, upd_same, by rw [upd_ne nld]; exact e2, p0, Int.ediv_nonneg g0 (by omega), s0, s1, hl⟩⟩ (b.put only1)⟩
    · refine ⟨_, rfl, d, _, 3, .int s, rfl, rfl, SqL.of e1, rfl, _, rfl, d, _, 3, .int s, rfl, rfl, SqL.of e1, rfl, s, s, rfl, rfl, .inl ⟨by omega, by omega⟩, _, 2147483629, rfl, rfl, (by show (0 : Int) < 2147483629; decide), _, 5, rfl, rfl, .inr ⟨by decide, by decide⟩, _, rfl, d, _, 3, .int s, rfl, rfl, SqL.of e1, rfl, s, 16811, rfl, rfl, .inr ⟨by decide, by decide⟩, _, _, rfl, rfl, _, 2531011, rfl, rfl, _, 2147483647, rfl, rfl, (by show (0 : Int) < 2147483647; decide), _, rfl, d, _, 3, 3, rfl, rfl, e1, rfl, ?_⟩
      have z0 : ∀ x : Int, 0 ≤ x % 2147483647 := fun x => Int.emod_nonneg _ (by decide)
      have z1 : ∀ x : Int, x % 2147483647 < 2147483647 := fun x => Int.emod_lt_of_pos _ (by decide)
      refine ⟨_, rfl, d, _, 3, _, rfl, rfl, SqL.of upd_same, rfl, _, 61, rfl, rfl, log_small (k := 10) (by decide) (by decide) (by decide) (by decide), _, rfl, d, _, 3, _, rfl, rfl, SqL.of upd_same, rfl, _, 8191, rfl, rfl, (by show (0 : Int) < 8191; decide), _, 31, rfl, rfl, .inr ⟨by decide, by decide⟩, _, _, rfl, rfl, _, rfl, _, n, rfl, rfl, hn0, ?_⟩
      exact k _ _ (Int.emod_nonneg _ (by omega)) (Int.emod_lt_of_pos _ hn0) ⟨⟨ns, p, g, _, upd_same, by rw [upd_ne nld]; exact e2, p0, g0, z0 _, z1 _, hl⟩⟩ (b.put only1)
/-- one of a row: a text's sign, a list's or tuple's item -/
def spPick (K : PySem.W.Frag) : Sp := fun vs H Q _ => ∃ (d l : Addr) (x : V), vs = [.ref d, x] ∧ DrawAt H d l ∧
  ((∃ z : Str, x = .str z ∧ 0 < z.length ∧ z.length ≤ 100000 ∧ ∀ (c : Nat) H', c ∈ z.cps.toList → DrawAt H' d l → But (Only1 d) H H' → Q (.str ⟨#[c]⟩) H') ∨
   ∃ (a : Addr) (xs : List V), x = .ref a ∧ a ≠ d ∧ (SqL K H a xs ∨ SqT K H a xs) ∧ 0 < xs.length ∧ xs.length ≤ 100000 ∧ ∀ (v : V) H', v ∈ xs → DrawAt H' d l → But (Only1 d) H H' → Q v H')
theorem ok_law_pick (T : Txt K mg) : FnOk P w K mg base CX0 2 T.a_law_pick T.d_law_pick ["_law_draw", "_law_row"] (spPick K) := by
  refine T.F_law_pick.ok sc_law_pick (fun vs H Q E h => ?_) (fun cdv A outer s H vs Q E hr h => ?_)
  · obtain ⟨d, l, x, rfl, _⟩ := h
    rfl
  obtain ⟨d, l, x, rfl, D, h⟩ := h
  refine ⟨_, (pss_one (ps_ret (pe_ix ix_seq (pv 1) (pe_call (ok_law_take T) (hr.mono (by decide)) (by rfl) T.g_law_take T.F_law_take.kp T.b_law_take .nil pass0 (pa_cons (pv 0) (pa_cons (pe_callB call_len (by rfl) T.z_len (by decide +kernel) (pa_cons (pv 1) pa_nil)) pa_nil))) (fun _ _ => rfl)))), ?_⟩
  have big : (100000 : Int) < 2 ^ 200 := by decide
  rcases h with ⟨z, rfl, h0, h1, k⟩ | ⟨a, xs, rfl, na, hs, h0, h1, k⟩
  · refine ⟨_, rfl, _, rfl, _, rfl, _, z.length, rfl, ⟨Nat.le_trans h1 (by decide), rfl⟩, d, l, _, rfl, D, by omega, by omega, fun r H' r0 r1 D' b => ?_⟩
    obtain ⟨j, rfl⟩ : ∃ j : Nat, r = (j : Int) := ⟨r.toNat, by omega⟩
    have hj : j < z.cps.toList.length := by
      rw [Array.length_toList]
      show j < z.length
      omega
    exact .inr (.inr ⟨z, _, _, rfl, rfl, Nat.le_trans h1 (by decide), atI_nat (List.getElem?_eq_getElem hj), k _ H' (List.getElem_mem hj) D' b⟩)
  · have hl : LenV K (.ref a) H xs.length := by
      rcases hs with hs | hs
      · exact .inl ⟨xs, hs, rfl⟩
      · exact .inr ⟨xs, hs, rfl⟩
    refine ⟨_, rfl, _, rfl, _, rfl, _, xs.length, rfl, hl, d, l, _, rfl, D, by omega, by omega, fun r H' r0 r1 D' b => ?_⟩
    obtain ⟨j, rfl⟩ : ∃ j : Nat, r = (j : Int) := ⟨r.toNat, by omega⟩
    have hj : j < xs.length := by omega
    rcases hs with hs | hs
    · exact .inl ⟨a, xs, _, _, rfl, rfl, but_l b na hs, atI_nat (List.getElem?_eq_getElem hj), k _ H' (List.getElem_mem hj) D' b⟩
    · exact .inr (.inl ⟨a, xs, _, _, rfl, rfl, but_t b na hs, atI_nat (List.getElem?_eq_getElem hj), k _ H' (List.getElem_mem hj) D' b⟩)
theorem kept_split : Txt.split "step for from to if else double call with again on halves thirds less n" " " = keptL := by decide +kernel
/-- the kept words, a new list -/
def spKept : Sp := fun vs H Q _ => vs = [] ∧ ∀ p, H p = none → Q (.ref p) (upd H p (.lst (keptL.map V.str)))
theorem ok_law_kept_words (T : Txt K mg) : FnOk P w K mg base CX0 1 T.a_law_kept_words T.d_law_kept_words [] spKept := by
  refine T.F_law_kept_words.ok sc_law_kept_words (fun vs H Q E h => ?_) (fun cdv A outer s H vs Q E hr h => ?_)
  · obtain ⟨rfl, _⟩ := h
    rfl
  obtain ⟨rfl, k⟩ := h
  refine ⟨_, (pss_one (ps_ret (pe_split pe_str pe_str))), ?_⟩
  refine ⟨⟨_, rfl⟩, _, _, rfl, rfl, by decide +kernel, by decide +kernel, fun p hp => ?_⟩
  rw [kept_split]
  exact k p hp
/-- a name that is free -/
def spFresh (K : PySem.W.Frag) : Sp := fun vs H Q _ => ∃ (d l ta : Addr) (taken : List Str), vs = [.ref d, .ref ta] ∧ DrawAt H d l ∧ H ta = some (.lst (taken.map V.str)) ∧ taken.length ≤ 25 ∧
  ∀ (nm : Str) (H' : Hp), But (Only1 d) H H' → DrawAt H' d l → NameOk nm → nm ∉ taken → Q (.str nm) H'
theorem signs_sum : ∀ cs : List Nat, ((cs.map fun c => (⟨#[c]⟩ : Str)).map (·.length)).sum = cs.length
  | [] => rfl
  | c :: r => by
    rw [List.map_cons, List.map_cons, List.sum_cons, signs_sum r, List.length_cons]
    show 1 + _ = _
    omega
theorem ok_law_fresh (T : Txt K mg) : FnOk P w K mg base CX0 3 T.a_law_fresh T.d_law_fresh ["_law_draw", "_law_taken"] (spFresh K) := by
  refine T.F_law_fresh.ok sc_law_fresh (fun vs H Q E h => ?_) (fun cdv A outer s H vs Q E hr h => ?_)
  · obtain ⟨d, l, ta, taken, rfl, _⟩ := h
    rfl
  obtain ⟨d, l, ta, taken, rfl, D, et, tl, k⟩ := h
  refine ⟨_, (pss_cons (ps_set (i := 2) sc_law_fresh.nd rfl (Or.inl rfl) (pe_ix ix_list (pe_lst (pa_cons pe_int (pa_cons pe_int (pa_cons pe_int (pa_cons pe_int (pa_cons pe_int (pa_cons (pe_op op_add pe_int (pe_call (ok_law_take T) (hr.mono (by decide)) (by rfl) T.g_law_take T.F_law_take.kp T.b_law_take .nil pass0 (pa_cons (pv 0) (pa_cons pe_int pa_nil)))) pa_nil))))))) (pe_call (ok_law_take T) (hr.mono (by decide)) (by rfl) T.g_law_take T.F_law_take.kp T.b_law_take .nil pass0 (pa_cons (pv 0) (pa_cons pe_int pa_nil))) (fun _ _ => rfl)))
      (pss_cons (ps_set (i := 3) sc_law_fresh.nd rfl (Or.inl rfl) (pe_join pe_str (pe_lc (own := [("_law_k", 6)]) (g := gName 6) (tt := tYes) rfl sc_law_fresh.nd (pi_range1 (by rfl) T.z_range (pa_cons (pv 2) pa_nil)) (blkOk_by (N := N_law_fresh) (sc := defScope s_law_fresh) (by decide +kernel)) (fun _ _ _ _ _ => (pg_name (i := 6) sc_law_fresh.nd rfl (Or.inl rfl))) (fun _ _ _ _ _ => pts_nil) (fun _ _ _ _ _ => (pe_call (ok_law_pick T) (hr.mono (by decide)) (by rfl) T.g_law_pick T.F_law_pick.kp T.b_law_pick .nil pass0 (pa_cons (pv 0) (pa_cons pe_str pa_nil)))))))
      (C8.pss_cut (ps_if (PW.pt (pw_and (pt_cmpR op_notIn_seq (pv 3) (pv 1) (by rfl)) (pw_and1 (pt_cmpR op_notIn_seq (pv 3) (pe_call0 (ok_law_kept_words T) (hr.mono (by decide)) (by rfl) T.g_law_kept_words T.F_law_kept_words.kp T.b_law_kept_words .nil pass0) (by rfl))))) (pss_one (ps_ret (pv 3))) pss_nil)
      (pss_cons (ps_setLc (i := 4) (own := [("_law_sign", 5)]) (g := gName 5) (tt := tYes) rfl sc_law_fresh.nd rfl rfl (sw_true rfl rfl rfl (by decide +kernel)) (pi_str pe_str) (blkOk_by (N := N_law_fresh) (sc := defScope s_law_fresh) (by decide +kernel)) (fun _ _ _ _ _ => (pg_name (i := 5) sc_law_fresh.nd rfl (Or.inl rfl))) (fun _ _ _ _ _ => pts_nil) (fun _ _ _ _ _ => (pe_op op_repS (pv 5) pe_int)))
      (pss_one (ps_ret (pe_ix ix_list (pe_lc (own := [("_law_one", 7)]) (g := gName 7) (tt := _) rfl sc_law_fresh.nd (pi_list (pv 4)) (blkOk_by (N := N_law_fresh) (sc := defScope s_law_fresh) (by decide +kernel)) (fun _ _ _ _ _ => (pg_name (i := 7) sc_law_fresh.nd rfl (Or.inl rfl))) (fun _ _ _ _ _ => (pts_one (pt_cmpR (r := rIn K true) op_notIn_seq (pv 7) (pv 1) (by rfl)))) (fun _ _ _ _ _ => (pv 7))) pe_int (fun _ _ => rfl)))))))), ?_⟩
  have ntd : ta ≠ d := by
    rintro rfl
    obtain ⟨ns, p, z, s, e, _⟩ := D.ex
    rw [et] at e
    cases taken with
    | nil => cases e
    | cons x r => cases e
  refine ⟨_, rfl, d, l, 8, rfl, D, by decide, by decide, fun m1 H1 a0 a1 D1 b1 => ?_⟩
  refine ⟨_, _, rfl, rfl, by show 6 ≤ sizeLine; decide, fun L1 hL1 => ?_⟩
  have D2 := D1.upd (o := .lst [.int 1, .int 1, .int 2, .int 3, .int 8, .int (1 + m1)]) hL1
  refine ⟨_, rfl, d, l, 6, rfl, D2, by decide, by decide, fun j H3 j0 j1 D3 b3 => ?_⟩
  obtain ⟨m, hm, hm0, hm1⟩ : ∃ m : Nat, atI [V.int 1, .int 1, .int 2, .int 3, .int 8, .int (1 + m1)] j = some (.int (m : Nat)) ∧ 1 ≤ m ∧ m ≤ 8 := by
    obtain ⟨n, rfl⟩ : ∃ n : Nat, j = (n : Int) := ⟨j.toNat, by omega⟩
    match n, j1 with
    | 0, _ => exact ⟨1, rfl, by decide, by decide⟩
    | 1, _ => exact ⟨1, rfl, by decide, by decide⟩
    | 2, _ => exact ⟨2, rfl, by decide, by decide⟩
    | 3, _ => exact ⟨3, rfl, by decide, by decide⟩
    | 4, _ => exact ⟨8, rfl, by decide, by decide⟩
    | 5, _ => exact ⟨(1 + m1).toNat, by rw [show (((1 + m1).toNat : Nat) : Int) = 1 + m1 by omega]; rfl, by omega, by omega⟩
    | n + 6, e => omega
  have b03 : But (Only1 d) H H3 := (b1.trans (But.new hL1)).trans b3
  refine ⟨L1, _, _, _, rfl, rfl, SqL.of (b3 _ _ upd_same (D1.ned hL1)), hm, ?_⟩
  refine ⟨⟨_, rfl⟩, ?_⟩
  refine ⟨_, rfl, (m : Int), rfl, by omega, by omega, fun R hR => ?_⟩
  have nRd := D3.ned hR
  refine lc_it walk_range (fun i H' => But (Only1 d) H3 H' ∧ DrawAt H' d l ∧ ∃ cs : List Nat, cs.length = i ∧ (∀ c ∈ cs, 97 ≤ c ∧ c ≤ 122) ∧ H' R = some (.lst (cs.map fun c => V.str ⟨#[c]⟩))) ⟨But.new hR, D3.upd hR, [], rfl, (fun _ h => nomatch h), upd_same⟩ (fun _ _ _ _ => trivial) ?_ ?_
  · rintro i x H5 H6 hi ⟨b5, D5, cs, lc, cl, eR⟩ ⟨rfl, rfl⟩
    have hi : i < m := by
      have hi : i < ((m : Int) - 0).toNat := hi
      omega
    refine ⟨rfl, ?_⟩
    refine ⟨_, rfl, d, l, _, rfl, D5, .inl ⟨letters, rfl, by decide +kernel, by decide +kernel, fun c H7 hc D7 b7 => ?_⟩⟩
    have eR7 := b7 _ _ eR nRd
    refine ⟨_, eR7, by rw [List.length_map, lc]; exact Nat.lt_of_lt_of_le hi (Nat.le_trans hm1 (by decide)), ?_⟩
    refine ⟨(b5.trans b7).put0 hR, D7.put nRd (D3.nel hR), cs ++ [c], by rw [List.length_append, lc]; rfl, fun c' h => ?_, by rw [upd_same, List.map_append]; rfl⟩
    rcases List.mem_append.mp h with h | h
    · exact cl c' h
    · rw [List.mem_singleton.mp h]
      exact letters_ok c hc
  rintro H5 ⟨b5, D5, cs, lc, cl, eR⟩
  have lc : cs.length = m := by
    have lc : cs.length = ((m : Int) - 0).toNat := lc
    omega
  refine ⟨_, R, cs.map fun c => (⟨#[c]⟩ : Str), rfl, rfl, .inl (SqL.of (by rw [eR, List.map_map]; rfl)), ?_, ?_⟩
  · rw [List.length_map, signs_sum]
    have e0 : (Str.ofString "").length = 0 := by decide
    rw [e0]
    omega
  rw [join_signs]
  have b05 := b03.trans b5
  have et5 := b05 _ _ et ntd
  have nl : (⟨cs.toArray⟩ : Str).length = m := by
    show cs.toArray.size = m
    rw [List.size_toArray]
    exact lc
  have kn : ∀ H8, But (Only1 d) H H8 → DrawAt H8 d l → ¬ (⟨cs.toArray⟩ : Str) ∈ taken → ¬ (⟨cs.toArray⟩ : Str) ∈ keptL → Q (.str ⟨cs.toArray⟩) H8 := fun H8 b8 D8 h1 h2 =>
    k _ H8 b8 D8 ⟨by rw [nl]; exact hm0, by rw [nl]; exact hm1, cl, h2⟩ h1
  refine ⟨fun σ H' => But (Only1 d) H H' ∧ DrawAt H' d l ∧ ∃ v2 v3 v4 v5 v6 v7, σ = [some (.ref d), some (.ref ta), v2, v3, v4, v5, v6, v7], ?_, ?_⟩
  · refine ⟨_, rfl, _, rfl, ta, _, rfl, .inl (SqL.of et5), rfl, flat_strs _, _, rfl, ?_⟩
    rw [show (if true = true then !inV (V.str ⟨cs.toArray⟩) (taken.map V.str) else inV (V.str ⟨cs.toArray⟩) (taken.map V.str)) = !decide ((⟨cs.toArray⟩ : Str) ∈ taken) by rw [if_pos rfl, inV_strs]]
    refine ite2 (fun c1 => ?_) (fun c1 => ?_)
    · have c1' : ¬ (⟨cs.toArray⟩ : Str) ∈ taken := by simpa using c1
      refine ⟨_, rfl, rfl, fun p hp => ⟨p, _, rfl, .inl (SqL.of upd_same), rfl, flat_strs _, _, rfl, ?_⟩⟩
      rw [show (if true = true then !inV (V.str ⟨cs.toArray⟩) (keptL.map V.str) else inV (V.str ⟨cs.toArray⟩) (keptL.map V.str)) = !decide ((⟨cs.toArray⟩ : Str) ∈ keptL) by rw [if_pos rfl, inV_strs]]
      have b6 := b05.trans (But.new (o := .lst (keptL.map V.str)) hp)
      have D6 := D5.upd (o := .lst (keptL.map V.str)) hp
      refine ite2 (fun c2 => ?_) (fun c2 => ?_)
      · have c2' : ¬ (⟨cs.toArray⟩ : Str) ∈ keptL := by simpa using c2
        exact ⟨_, rfl, kn _ b6 D6 c1' c2'⟩
      · exact ⟨b6, D6, _, _, _, _, _, _, rfl⟩
    · exact iteF ⟨b05, D5, _, _, _, _, _, _, rfl⟩
  · rintro σ H6 ⟨b6, D6, v2, v3, v4, v5, v6, v7, rfl⟩
    refine ⟨letters, rfl, fun S hS => ?_⟩
    have n26 : letters.cps.size = 26 := by decide +kernel
    have sp26 : spares.length = 26 := spares_len
    have rep_ok : ∀ c : Nat, (repS (⟨#[c]⟩ : Str) 2).length = 2 := fun c => rfl
    refine lc_pure walk_str (fun j => .str (spares.getD j Str.empty)) (by rw [n26]; decide) hS (fun _ _ => trivial) ?_ ?_
    · rintro j x H7 H8 Q' hj s7 ⟨rfl, c, hc, rfl⟩ kq
      have e : spares.getD j Str.empty = repS (⟨#[c]⟩ : Str) 2 := by
        refine getD_of' ?_
        unfold spares
        rw [List.getElem?_map, Array.getElem?_toList, hc]
        rfl
      refine ⟨rfl, ?_⟩
      refine ⟨_, rfl, _, 2, rfl, rfl, by decide, by decide, (by show 0 < 1; decide), (by show 1 * 2 ≤ 2 ^ 20; decide), (by show 2 ≤ sizeLine; decide), ?_⟩
      have q := kq _ (Same.refl _)
      rw [e] at q
      exact q
    intro H7 s7 eS
    have eS : H7 S = some (.lst (spares.map V.str)) := by
      rw [eS, n26, ← sp26]
      show some (HO.lst ((List.range _).map (V.str ∘ fun j => spares.getD j Str.empty))) = _
      rw [← List.map_map, range_getD]
    have b7 := b6.trans (same_but s7)
    have et7 := b7 _ _ et ntd
    refine ⟨_, rfl, S, rfl, ⟨_, SqL.of eS⟩, fun R2 hR2 => ?_⟩
    refine lc_it (walk_list (xs := spares.map V.str)) (fun i H' => Same H7 H' ∧ H' R2 = some (.lst (((spares.take i).filter fun x => !decide (x ∈ taken)).map V.str))) ⟨same_upd hR2, upd_same⟩ (fun i H' _ p => SqL.of (p.1 _ _ eS)) ?_ ?_
    · rintro i x H8 H9 hi ⟨s8, eR2⟩ ⟨rfl, hx⟩
      rw [List.getElem?_map] at hx
      obtain ⟨y, hy, rfl⟩ : ∃ y, spares[i]? = some y ∧ x = .str y := by
        cases h : spares[i]? with
        | none => rw [h] at hx; cases hx
        | some y => rw [h] at hx; exact ⟨y, rfl, (Option.some.inj hx).symm⟩
      refine ⟨rfl, ?_⟩
      refine ⟨_, rfl, _, rfl, ta, _, rfl, .inl (SqL.of (s8 _ _ et7)), rfl, flat_strs _, _, rfl, ?_⟩
      rw [show (if true = true then !inV (V.str y) (taken.map V.str) else inV (V.str y) (taken.map V.str)) = !decide (y ∈ taken) by rw [if_pos rfl, inV_strs]]
      have e : (spares.take (i + 1)).filter (fun x => !decide (x ∈ taken)) = (spares.take i).filter (fun x => !decide (x ∈ taken)) ++ (if (!decide (y ∈ taken)) = true then [y] else []) := by
        rw [take_snoc hy, List.filter_append, List.filter_cons, List.filter_nil]
      refine ite2 (fun c => ?_) (fun c => ?_)
      · rw [if_pos c] at e
        refine ⟨_, rfl, _, eR2, ?_, same_put s8 hR2, ?_⟩
        · rw [List.length_map]
          refine Nat.lt_of_le_of_lt (List.length_filter_le ..) ?_
          rw [List.length_take, sp26]
          exact Nat.lt_of_le_of_lt (Nat.min_le_right ..) (by decide)
        · rw [upd_same, e, List.map_append]
          rfl
      · rw [if_neg c, List.append_nil] at e
        rw [e]
        exact ⟨s8, eR2⟩
    rintro H8 ⟨s8, eR2⟩
    have ef : (spares.take (spares.map V.str).length).filter (fun x => !decide (x ∈ taken)) = spares.filter fun x => !decide (x ∈ taken) := by
      rw [List.length_map, List.take_length]
    rw [ef] at eR2
    obtain ⟨x, hx1, hx2⟩ := spare_free tl
    cases hz : spares.filter (fun x => !decide (x ∈ taken)) with
    | nil =>
      have : x ∈ spares.filter (fun x => !decide (x ∈ taken)) := List.mem_filter.mpr ⟨hx1, by simpa using hx2⟩
      rw [hz] at this
      cases this
    | cons y r =>
      rw [hz] at eR2
      have hy : y ∈ spares.filter (fun x => !decide (x ∈ taken)) := by rw [hz]; exact List.mem_cons_self ..
      obtain ⟨hy1, hy2⟩ := List.mem_filter.mp hy
      obtain ⟨o1, o2, o3⟩ := spares_ok y hy1
      refine ⟨R2, _, _, _, rfl, rfl, SqL.of eR2, atI_nat (j := 0) (xs := V.str y :: r.map V.str) rfl, ?_⟩
      exact k y _ (b7.trans (same_but s8)) ((D6.mono s7).mono s8) ⟨by omega, by omega, o2, o3⟩ (by simpa using hy2)
/-- an end, frozen -/
def spSomeEnd (K : PySem.W.Frag) : Sp := fun vs H Q _ => ∃ (d l sa : Addr) (sc : List Str) (wide : Bool) (G : Hp), vs = [.ref d, .ref sa, .bl wide] ∧ Same G H ∧ G d = none ∧ DrawAt H d l ∧ G sa = some (.lst (sc.map V.str)) ∧ sc ≠ [] ∧ sc.length ≤ 1000 ∧
  ∀ (v : V) (e : En) (G' H' : Hp), Grow (Only1 d) G H G' H' → DrawAt H' d l → Dp K G' v (endD e) → EndOk wide sc e → Q v H'
theorem ok_law_some_end (T : Txt K mg) : FnOk P w K mg base CX0 3 T.a_law_some_end T.d_law_some_end ["_law_draw", "_law_scope", "_law_wide"] (spSomeEnd K) := by
  refine T.F_law_some_end.ok sc_law_some_end (fun vs H Q E h => ?_) (fun cdv A outer s H vs Q E hr h => ?_)
  · obtain ⟨d, l, sa, sc, wide, G, rfl, _⟩ := h
    rfl
  obtain ⟨d, l, sa, sc, wide, G, rfl, sg, gd, D, es, sne, sl, k⟩ := h
  refine ⟨_, (pss_cons (ps_set (i := 3) sc_law_some_end.nd rfl (Or.inl rfl) (pe_ix ix_list (pe_lst (pa_cons pe_int (pa_cons (pe_call (ok_law_take T) (hr.mono (by decide)) (by rfl) T.g_law_take T.F_law_take.kp T.b_law_take .nil pass0 (pa_cons (pv 0) (pa_cons pe_int pa_nil))) (pa_cons (pe_call (ok_law_take T) (hr.mono (by decide)) (by rfl) T.g_law_take T.F_law_take.kp T.b_law_take .nil pass0 (pa_cons (pv 0) (pa_cons (pe_ix ix_list (pe_lst (pa_cons pe_int (pa_cons pe_int pa_nil))) (pe_callTy call_int1 (by rfl) T.z_int (by decide +kernel) (pa_cons (pv 2) pa_nil)) (fun _ _ => rfl)) pa_nil))) pa_nil)))) (pe_call (ok_law_take T) (hr.mono (by decide)) (by rfl) T.g_law_take T.F_law_take.kp T.b_law_take .nil pass0 (pa_cons (pv 0) (pa_cons pe_int pa_nil))) (fun _ _ => rfl)))
      (pss_cons (ps_if (pt_cmpR op_eq (pe_call (ok_law_take T) (hr.mono (by decide)) (by rfl) T.g_law_take T.F_law_take.kp T.b_law_take .nil pass0 (pa_cons (pv 0) (pa_cons pe_int pa_nil))) pe_int (nomark _)) (pss_one (ps_ret (pe_tup (pa_cons pe_str (pa_cons (pv 3) pa_nil))))) pss_nil)
      (pss_one (ps_ret (pe_tup (pa_cons (pe_call (ok_law_pick T) (hr.mono (by decide)) (by rfl) T.g_law_pick T.F_law_pick.kp T.b_law_pick .nil pass0 (pa_cons (pv 0) (pa_cons (pv 1) pa_nil))) (pa_cons (pe_op op_mul (pv 3) (pe_ix ix_list (pe_lst (pa_cons pe_int (pa_cons (pe_un un_neg pe_int) pa_nil))) (pe_call (ok_law_take T) (hr.mono (by decide)) (by rfl) T.g_law_take T.F_law_take.kp T.b_law_take .nil pass0 (pa_cons (pv 0) (pa_cons pe_int pa_nil))) (fun _ _ => rfl))) pa_nil))))))), ?_⟩
  have nsd : sa ≠ d := fun e => by rw [e, gd] at es; cases es
  have gr0 : Grow (Only1 d) G H G H := Grow.refl sg
  refine ⟨_, rfl, d, l, 5, rfl, D, by decide, by decide, fun m1 H1 a0 a1 D1 b1 => ?_⟩
  have gr1 := gr0.trans (Grow.draw gr0.gh gd b1) D.some'
  refine ⟨_, rfl, by show 2 ≤ sizeLine; decide, fun L1 hL1 => ?_⟩
  have gr2 := gr1.cell (o := .lst [.int 5, .int 100]) hL1
  have D2 := D1.upd (o := .lst [.int 5, .int 100]) hL1
  have at5 : atI [V.int 5, V.int 100] (if wide then 1 else 0) = some (.int (if wide then 100 else 5)) := by cases wide <;> rfl
  have w5 : (0 : Int) < (if wide then 100 else 5) ∧ (if wide then (100 : Int) else 5) ≤ 100 := by cases wide <;> decide
  have w6 : (5 : Int) ≤ (if wide then 100 else 5) := by cases wide <;> decide
  refine ⟨_, rfl, .inr ⟨wide, rfl, ?_⟩⟩
  refine ⟨L1, _, _, _, rfl, rfl, SqL.of upd_same, at5, d, l, _, rfl, D2, w5.1, Int.lt_of_le_of_lt w5.2 (by decide), fun m2 H3 c0 c1 D3 b3 => ?_⟩
  have gr3 := gr2.trans (Grow.draw gr2.gh gd b3) D2.some'
  refine ⟨by show 3 ≤ sizeLine; decide, fun L2 hL2 => ?_⟩
  have gr4 := gr3.cell (o := .lst [.int 0, .int m1, .int m2]) hL2
  have D4 := D3.upd (o := .lst [.int 0, .int m1, .int m2]) hL2
  refine ⟨_, rfl, d, l, 3, rfl, D4, by decide, by decide, fun j H5 j0 j1 D5 b5 => ?_⟩
  have gr5 := gr4.trans (Grow.draw gr4.gh gd b5) D4.some'
  obtain ⟨m, hm, hm0, hm1⟩ : ∃ m : Int, atI [V.int 0, V.int m1, V.int m2] j = some (.int m) ∧ 0 ≤ m ∧ m < (if wide then 100 else 5) := by
    obtain ⟨n, rfl⟩ : ∃ n : Nat, j = (n : Int) := ⟨j.toNat, by omega⟩
    match n, j1 with
    | 0, _ => exact ⟨0, rfl, by decide, w5.1⟩
    | 1, _ => exact ⟨m1, rfl, a0, by omega⟩
    | 2, _ => exact ⟨m2, rfl, c0, c1⟩
    | n + 3, e => omega
  refine ⟨L2, _, _, _, rfl, rfl, SqL.of (b5 _ _ upd_same (D3.ned hL2)), hm, ?_⟩
  have hmn : m.natAbs < (if wide then 100 else 5) := by cases wide <;> simp at hm1 ⊢ <;> omega
  refine ⟨_, rfl, d, l, 3, rfl, D5, by decide, by decide, fun q H6 q0 q1 D6 b6 => ?_⟩
  have gr6 := gr5.trans (Grow.draw gr5.gh gd b6) D5.some'
  have tupOk : ∀ (H7 : Hp) (x : Str) (i : Int) (p : Addr), Grow (Only1 d) G H G H7 → DrawAt H7 d l → H7 p = none → EndOk wide sc (x, i) → Q (.ref p) (upd H7 p (.tup [.str x, .int i])) := fun H7 x i p g7 D7 hp eo => by
    have g8 := g7.new (o := .tup [.str x, .int i]) hp D7.some'
    exact k _ (x, i) _ _ g8 (D7.upd hp) (.tup (xs := [.str x, .int i]) (SqT.of upd_same) (.cons (.str _) (.cons (.int _) .nil))) eo
  refine ⟨rfl, _, rfl, ite2 (fun _ => ?_) (fun _ => ?_)⟩
  · refine ⟨_, rfl, by show 2 ≤ sizeLine; decide, fun p hp => ?_⟩
    exact tupOk _ "" m p gr6 D6 hp ⟨hmn, .inl ⟨rfl, hm0⟩⟩
  · have es6 : H6 sa = some (.lst (sc.map V.str)) := gr6.gh _ _ es
    have sp : 0 < sc.length := List.length_pos_iff.mpr sne
    refine ⟨_, rfl, _, rfl, d, l, _, rfl, D6, .inr ⟨sa, _, rfl, nsd, .inl (SqL.of es6), by rw [List.length_map]; exact sp, by rw [List.length_map]; omega, fun v H7 hv D7 b7 => ?_⟩⟩
    obtain ⟨x, hx, rfl⟩ := List.mem_map.mp hv
    have gr7 := gr6.trans (Grow.draw gr6.gh gd b7) D6.some'
    refine ⟨_, rfl, _, rfl, by show 2 ≤ sizeLine; decide, fun L3 hL3 => ?_⟩
    have gr8 := gr7.cell (o := .lst [.int 1, .int (-1)]) hL3
    have D8 := D7.upd (o := .lst [.int 1, .int (-1)]) hL3
    refine ⟨_, rfl, d, l, 2, rfl, D8, by decide, by decide, fun z H9 z0 z1 D9 b9 => ?_⟩
    have gr9 := gr8.trans (Grow.draw gr8.gh gd b9) D8.some'
    obtain ⟨y, hy, hy2⟩ : ∃ y : Int, atI [V.int 1, V.int (-1)] z = some (.int y) ∧ (y = 1 ∨ y = -1) := by
      obtain ⟨n, rfl⟩ : ∃ n : Nat, z = (n : Int) := ⟨z.toNat, by omega⟩
      match n, z1 with
      | 0, _ => exact ⟨1, rfl, .inl rfl⟩
      | 1, _ => exact ⟨-1, rfl, .inr rfl⟩
      | n + 2, e => omega
    have yn : (m * y).natAbs < (if wide then 100 else 5) := by
      rcases hy2 with rfl | rfl
      · rw [Int.mul_one]; exact hmn
      · rw [Int.mul_neg, Int.mul_one, Int.natAbs_neg]; exact hmn
    refine ⟨L3, _, _, _, rfl, rfl, SqL.of (b9 _ _ upd_same (D7.ned hL3)), hy, _, _, rfl, rfl, .inr (by rcases hy2 with rfl | rfl <;> decide), by show 2 ≤ sizeLine; decide, fun p hp => ?_⟩
    exact tupOk _ x (m * y) p gr9 D9 hp ⟨yn, .inr hx⟩
def spLeaf (K : PySem.W.Frag) : Sp := fun vs H Q _ => ∃ (d l kc dk sa : Addr) (sc : List Str) (k : Kit) (r : Int) (deep : Nat) (G : Hp), vs = [.ref d, .ref kc, .ref sa, .int (deep : Nat)] ∧ Same G H ∧ G d = none ∧ DrawAt H d l ∧ KitAt H kc dk r k ∧ KnAt G dk k.kn ∧
  G sa = some (.lst (sc.map V.str)) ∧ (Str.ofString "n") ∈ sc ∧ sc.length ≤ 25 ∧
  ∀ (v : V) (t : Thing) (G' H' : Hp), Grow (Only1 d) G H G' H' → DrawAt H' d l → Dp K G' v (thingD t) → ThOk k t sc deep → thingC t = 1 → Q v H'
theorem ok_law_leaf (T : Txt K mg) : FnOk P w K mg base CX0 4 T.a_law_leaf T.d_law_leaf ["_law_draw", "_law_kit", "_law_scope", "_law_deep"] (spLeaf K) := by
  refine T.F_law_leaf.ok sc_law_leaf (fun vs H Q E h => ?_) (fun cdv A outer s H vs Q E hr h => ?_)
  · obtain ⟨d, l, kc, dk, sa, sc, k, r, deep, G, rfl, _⟩ := h
    rfl
  obtain ⟨d, l, kc, dk, sa, sc, k, r, deep, G, rfl, sg, gd, D, kit, kn, es, hn, sl, q⟩ := h
  refine ⟨_, (pss_cons (ps_setLc (i := 5) (own := [("_law_name", 4)]) (g := gName 4) (tt := _) rfl sc_law_leaf.nd rfl rfl (sw_true rfl rfl rfl (by decide +kernel)) (pi_list (pe_callB (call_sortedD rfl) (by rfl) T.z_sorted (by decide +kernel) (pa_cons (pe_ix ix_list (pv 1) pe_int (fun _ _ => rfl)) pa_nil))) (blkOk_by (N := N_law_leaf) (sc := defScope s_law_leaf) (by decide +kernel)) (fun _ _ _ _ _ => (pg_name (i := 4) sc_law_leaf.nd rfl (Or.inl rfl))) (fun _ _ _ _ _ => (pts_one (PW.pt (pw_and (pt_cmpR op_lt (pe_op op_add (pe_ix (r := rIxT K) ix_tup (pe_dget (hu_of hr) (pe_ix (r := rIxL K) ix_list (pv 1) pe_int (fun _ _ => rfl)) (pv 4) (fun _ _ => rfl)) pe_int (fun _ _ => rfl)) (pv 3)) pe_int (nomark _)) (pw_and1 (pt_cmpR op_lt (pe_ix (r := rIxT K) ix_tup (pe_dget (hu_of hr) (pe_ix (r := rIxL K) ix_list (pv 1) pe_int (fun _ _ => rfl)) (pv 4) (fun _ _ => rfl)) pe_int (fun _ _ => rfl)) pe_int (nomark _))))))) (fun _ _ _ _ _ => (pv 4)))
      (C8.pss_cut (ps_if (PW.pt (pw_and (pt_cmpR (op_neD hr.units) (pv 5) (pe_lst pa_nil) (nomark _)) (pw_and1 (pt_cmpR op_eq (pe_call (ok_law_take T) (hr.mono (by decide)) (by rfl) T.g_law_take T.F_law_take.kp T.b_law_take .nil pass0 (pa_cons (pv 0) (pa_cons pe_int pa_nil))) pe_int (nomark _))))) (pss_cons (ps_set (i := 4) sc_law_leaf.nd rfl (Or.inl rfl) (pe_call (ok_law_pick T) (hr.mono (by decide)) (by rfl) T.g_law_pick T.F_law_pick.kp T.b_law_pick .nil pass0 (pa_cons (pv 0) (pa_cons (pv 5) pa_nil))))
      (pss_cons (ps_set (i := 6) sc_law_leaf.nd rfl (Or.inl rfl) (pe_call (ok_law_some_end T) (hr.mono (by decide)) (by rfl) T.g_law_some_end T.F_law_some_end.kp T.b_law_some_end .nil pass0 (pa_cons (pv 0) (pa_cons (pv 2) (pa_cons (pe_ix ix_list (pv 1) pe_int (fun _ _ => rfl)) pa_nil)))))
      (pss_one (ps_ret (pe_tup (pa_cons pe_str (pa_cons (pv 4) (pa_cons (pe_ifExp (PW.pt (pw_and (pt_val (pe_ix ix_tup (pe_dget (hu_of hr) (pe_ix ix_list (pv 1) pe_int (fun _ _ => rfl)) (pv 4) (fun _ _ => rfl)) pe_int (fun _ _ => rfl))) (pw_and1 (pt_cmpR op_ne (pe_ix ix_tup (pv 6) pe_int (fun _ _ => rfl)) pe_str (nomark _))))) (pe_tup (pa_cons pe_str (pa_cons pe_int pa_nil))) (pv 6)) pa_nil)))))))) pss_nil)
      (pss_one (ps_ret (pe_tup (pa_cons pe_str (pa_cons (pe_ix ix_list (pe_lst (pa_cons (pe_call (ok_law_take T) (hr.mono (by decide)) (by rfl) T.g_law_take T.F_law_take.kp T.b_law_take .nil pass0 (pa_cons (pv 0) (pa_cons pe_int pa_nil))) (pa_cons (pe_call (ok_law_take T) (hr.mono (by decide)) (by rfl) T.g_law_take T.F_law_take.kp T.b_law_take .nil pass0 (pa_cons (pv 0) (pa_cons pe_int pa_nil))) pa_nil))) (pe_call (ok_law_take T) (hr.mono (by decide)) (by rfl) T.g_law_take T.F_law_take.kp T.b_law_take .nil pass0 (pa_cons (pv 0) (pa_cons pe_int pa_nil))) (fun _ _ => rfl)) pa_nil))))))), ?_⟩
  obtain ⟨kvs, e1, e2, e3⟩ := kn.ex
  have ki : ∀ {H'}, Same H H' → SqL K H' kc [.int r, .ref dk, .bl k.fig, .bl k.wide] := fun s => SqL.of (s _ _ kit)
  refine ⟨_, rfl, kc, _, _, _, rfl, rfl, SqL.of kit, (rfl : atI [V.int r, .ref dk, .bl k.fig, .bl k.wide] 1 = some (.ref dk)), dk, kvs, k.kn.map (·.1), rfl, .inl (sg _ _ e1), e2, by rw [List.length_map]; have := kn.len; omega, fun ys p hperm _ hp => ?_⟩
  have s1 : Same H _ := same_upd (o := .lst (ys.map V.str)) hp
  refine ⟨p, rfl, ⟨_, SqL.of upd_same⟩, fun R hR => ?_⟩
  have yl : ys.length < 60 := by
    rw [hperm.length_eq, List.length_map]
    exact kn.len
  let ok1 : Str → Prop := fun x => ∃ en : Bool × Int × Int, ((x, en) ∈ k.kn ∧ en.2.1 + deep < 9 ∧ en.2.2 < 4) ∧ ∃ p, valV kvs (Sum.inr x) = some (.ref p) ∧ G p = some (.tup [.bl en.1, .int en.2.1, .int en.2.2])
  refine lc_it (walk_list (xs := ys.map V.str)) (fun i H' => Same (upd H p (.lst (ys.map V.str))) H' ∧ ∃ fs : List Str, fs.length ≤ i ∧ (∀ x ∈ fs, ok1 x) ∧ H' R = some (.lst (fs.map V.str))) ⟨same_upd hR, [], Nat.le_refl _, (fun _ h => nomatch h), upd_same⟩ (fun i H' _ p => SqL.of (p.1 _ _ upd_same)) ?_ ?_
  · rintro i x H1 H2 hi ⟨sm, fs, fl, fo, eR⟩ ⟨rfl, hx⟩
    have hi : i < ys.length := by simpa using hi
    rw [List.getElem?_map] at hx
    obtain ⟨y, hy, rfl⟩ : ∃ y, ys[i]? = some y ∧ x = .str y := by
      cases h : ys[i]? with
      | none => rw [h] at hx; cases hx
      | some y => rw [h] at hx; exact ⟨y, rfl, (Option.some.inj hx).symm⟩
    have ym : y ∈ k.kn.map (·.1) := hperm.mem_iff.mp (List.mem_of_getElem? hy)
    obtain ⟨en, p2, q1, q2, q3⟩ := e3 y ym
    have s2 := s1.trans sm
    have dg : DGet H2 dk (.str y) (some (.ref p2)) := by
      have := DGet.k (k := Sum.inr y) (s2 _ _ (sg _ _ e1))
      rw [q2] at this
      exact this
    have st : SqT K H2 p2 [.bl en.1, .int en.2.1, .int en.2.2] := SqT.of (s2 _ _ (sg _ _ q3))
    have ak : ∀ {H' : Hp} (s : Same H H'), SqL K H' kc [.int r, .ref dk, .bl k.fig, .bl k.wide] := fun s => ki s
    refine ⟨rfl, ?_⟩
    refine ⟨_, rfl, kc, _, _, _, rfl, rfl, ki s2, (rfl : atI [V.int r, .ref dk, .bl k.fig, .bl k.wide] 1 = some (.ref dk)), _, rfl, dk, _, rfl, dg, p2, _, _, _, rfl, rfl, st, (rfl : atI [V.bl en.1, .int en.2.1, .int en.2.2] 1 = some (.int en.2.1)), _, rfl, _, _, rfl, rfl, _, _, rfl, rfl, _, rfl, ?_⟩
    refine ite2 (fun c1 => ?_) (fun c1 => ?_)
    · have c1' : en.2.1 + deep < 9 := of_decide_eq_true c1
      refine ⟨_, rfl, kc, _, _, _, rfl, rfl, ki s2, (rfl : atI [V.int r, .ref dk, .bl k.fig, .bl k.wide] 1 = some (.ref dk)), _, rfl, dk, _, rfl, dg, p2, _, _, _, rfl, rfl, st, (rfl : atI [V.bl en.1, .int en.2.1, .int en.2.2] 2 = some (.int en.2.2)), _, _, rfl, rfl, _, rfl, ?_⟩
      refine ite2 (fun c2 => ?_) (fun c2 => ?_)
      · have c2' : en.2.2 < 4 := of_decide_eq_true c2
        refine ⟨_, rfl, _, eR, ?_, same_put sm hR, fs ++ [y], ?_, ?_, ?_⟩
        · rw [List.length_map]
          exact small1000 (by omega)
        · rw [List.length_append, List.length_singleton]
          omega
        · intro z hz
          rcases List.mem_append.mp hz with hz | hz
          · exact fo z hz
          · rw [List.mem_singleton.mp hz]
            exact ⟨en, ⟨q1, c1', c2'⟩, p2, q2, q3⟩
        · rw [upd_same, List.map_append]
          rfl
      · exact ⟨sm, fs, by omega, fo, eR⟩
    · exact iteF ⟨sm, fs, by omega, fo, eR⟩
  rintro H1 ⟨sm, fs, fl, fo, eR⟩
  have fl : fs.length < 60 := by
    have : fs.length ≤ (ys.map V.str).length := fl
    rw [List.length_map] at this
    omega
  have s2 := s1.trans sm
  have gr1 : Grow (Only1 d) G H G H1 := ⟨Same.refl _, sg.trans s2, same_but s2, fun _ _ => rfl⟩
  have D1 := (D.mono s1).mono sm
  have dF : ∀ {H' : Hp} {l : List Str}, DpAll K H' (l.map V.str) (l.map PyData.str) := fun {H' l} => by
    induction l with
    | nil => exact .nil
    | cons x l ih => exact .cons (.str _) ih
  have nmOk : ∀ x, ok1 x → NameOk x := fun x ⟨en, h, _⟩ => kn.ok _ h.1
  have stepP : ∀ (H5 : Hp), Grow (Only1 d) G H G H5 → DrawAt H5 d l → ∀ (n : Int), 0 ≤ n → n < 100 → ∀ p, H5 p = none → Q (.ref p) (upd H5 p (.tup [.str "step", .int n])) := fun H5 g5 D5 n h0 h1 p hp => by
    have g6 := g5.new (o := .tup [.str "step", .int n]) hp D5.some'
    refine q _ (.step n) _ _ g6 (D5.upd hp) ?_ ?_ ?_
    · rw [thingD]
      exact .tup (xs := [.str "step", .int n]) (SqT.of upd_same) (.cons (.str _) (.cons (.int _) .nil))
    · rw [ThOk]
      exact ⟨h0, h1⟩
    · simp [thingC]
  refine ⟨fun σ H' => Grow (Only1 d) G H G H' ∧ DrawAt H' d l ∧ ∃ v4 v5 v6, σ = [some (.ref d), some (.ref kc), some (.ref sa), some (.int (deep : Nat)), v4, v5, v6], ?_, ?_⟩
  · refine ⟨_, rfl, by show 0 ≤ sizeLine; decide, fun N hN => ?_⟩
    have sN := same_upd (o := .lst []) hN
    have gr2 := gr1.cell (o := .lst []) hN
    have D2 := D1.upd (o := .lst []) hN
    refine ⟨.list (fs.map PyData.str), .list [], .lst (SqL.of (sN _ _ eR)) dF, .lst (SqL.of upd_same) .nil, shaped_list fun x hx => ⟨strOk_name (nmOk x (fo x hx)), Nat.zero_le _⟩, shaped_nil, _, rfl, ?_⟩
    rw [eqv_nil]
    refine ite2 (fun c1 => ?_) (fun c1 => iteF ⟨gr2, D2, _, _, _, rfl⟩)
    have fne : fs ≠ [] := by
      rintro rfl
      exact absurd c1 (by decide)
    refine ⟨_, rfl, d, l, 2, rfl, D2, by decide, by decide, fun z H3 z0 z1 D3 b3 => ?_⟩
    have gr3 := gr2.trans (Grow.draw gr2.gh gd b3) D2.some'
    refine ⟨rfl, _, rfl, ite2 (fun c2 => ?_) (fun c2 => ⟨gr3, D3, _, _, _, rfl⟩)⟩
    have nRd : R ≠ d := (D.mono s1).ned hR
    have eR3 := b3 _ _ (sN _ _ eR) nRd
    refine ⟨_, rfl, _, rfl, d, l, _, rfl, D3, .inr ⟨R, _, rfl, nRd, .inl (SqL.of eR3), ?_, ?_, fun v H4 hv D4 b4 => ?_⟩⟩
    · rw [List.length_map]
      exact List.length_pos_iff.mpr fne
    · rw [List.length_map]
      omega
    obtain ⟨nm, hnm, rfl⟩ := List.mem_map.mp hv
    have gr4 := gr3.trans (Grow.draw gr3.gh gd b4) D3.some'
    have nkd := kit.ne D
    have kit4 : KitAt H4 kc dk r k := gr4.h _ _ kit nkd
    have sg4 := gr4.gh
    refine ⟨_, rfl, _, rfl, _, rfl, kc, _, _, _, rfl, rfl, SqL.of kit4, (rfl : atI [V.int r, .ref dk, .bl k.fig, .bl k.wide] 3 = some (.bl k.wide)), ?_⟩
    refine ⟨d, l, sa, sc, k.wide, G, rfl, sg4, gd, D4, es, List.ne_nil_of_mem hn, by omega, fun v e G5 H5 g5 D5 de eo => ?_⟩
    have gr5 := gr4.trans g5 D4.some'
    obtain ⟨pe, x, y, rfl, he, hx, hy⟩ := de.tup2
    cases hx.str'
    cases hy.int'
    obtain ⟨en, ⟨hen, hw, hc⟩, p2, q2, q3⟩ := fo nm hnm
    have sg5 := gr5.gh
    have kit5 : KitAt H5 kc dk r k := gr5.h _ _ kit nkd
    have dg : DGet H5 dk (.str nm) (some (.ref p2)) := by
      have := DGet.k (k := Sum.inr nm) (sg5 _ _ (gr5.g _ _ e1))
      rw [q2] at this
      exact this
    have st : SqT K H5 p2 [.bl en.1, .int en.2.1, .int en.2.2] := SqT.of (sg5 _ _ (gr5.g _ _ q3))
    have he5 : SqT K H5 pe [.str e.1, .int e.2] := same_t sg5 he
    have fin : ∀ (H6 : Hp) (G6 : Hp) (e' : En) (v : V) (p : Addr), Grow (Only1 d) G H G6 H6 → DrawAt H6 d l → Dp K G6 v (endD e') → EndOk k.wide sc e' → (en.1 = true → e'.1 = "" ∨ e' = ((Str.ofString "n", 0) : En)) → H6 p = none → Q (.ref p) (upd H6 p (.tup [.str "call", .str nm, v])) := fun H6 G6 e' v p g6 D6 dv eo ef hp => by
      have g7 := g6.new (o := .tup [.str "call", .str nm, v]) hp D6.some'
      have s7 : Same G6 _ := same_upd (o := .tup [.str "call", .str nm, v]) (g6.gh.free hp)
      refine q _ (.call nm e') _ _ g7 (D6.upd hp) ?_ ?_ ?_
      · rw [thingD]
        exact .tup (xs := [.str "call", .str nm, v]) (SqT.of upd_same) (.cons (.str _) (.cons (.str _) (.cons (dv.mono s7) .nil)))
      · rw [ThOk]
        exact ⟨en, hen, hw, hc, eo, ef⟩
      · simp [thingC]
    have dE : Dp K G5 (.ref pe) (endD e) := .tup he (.cons (.str _) (.cons (.int _) .nil))
    refine ⟨_, rfl, ?_⟩
    refine ⟨_, rfl, kc, _, _, _, rfl, rfl, SqL.of kit5, (rfl : atI [V.int r, .ref dk, .bl k.fig, .bl k.wide] 1 = some (.ref dk)), _, rfl, dk, _, rfl, dg, p2, _, _, _, rfl, rfl, st, (rfl : atI [V.bl en.1, .int en.2.1, .int en.2.2] 0 = some (.bl en.1)), _, rfl, ?_⟩
    have useE : (en.1 = true → e.1 = "" ∨ e = ((Str.ofString "n", 0) : En)) → ∃ v, [some (V.ref d), some (V.ref kc), some (V.ref sa), some (V.int (deep : Nat)), some (V.str nm), some (V.ref R), some (V.ref pe)][6]? = some (some v) ∧ 3 ≤ sizeLine ∧ ∀ p, H5 p = none → Q (.ref p) (upd H5 p (.tup [.str "call", .str nm, v])) := fun hf =>
      ⟨_, rfl, by decide, fun p hp => fin H5 G5 e _ p gr5 D5 dE eo hf hp⟩
    refine ite2 (fun c3 => ?_) (fun c3 => iteF (useE (fun h => absurd h c3)))
    refine ⟨_, rfl, pe, _, _, _, rfl, rfl, he5, (rfl : atI [V.str e.1, .int e.2] 0 = some (.str e.1)), rfl, _, rfl, ?_⟩
    refine ite2 (fun c4 => ?_) (fun c4 => useE (fun _ => .inl ?_))
    · refine ⟨by show 2 ≤ sizeLine; decide, fun p hp => ?_⟩
      have g6 := gr5.new (o := .tup [.str "n", .int 0]) hp D5.some'
      refine ⟨by show 3 ≤ sizeLine; decide, fun p' hp' => ?_⟩
      exact fin _ _ ("n", 0) _ p' g6 (D5.upd hp) (.tup (xs := [.str "n", .int 0]) (SqT.of upd_same) (.cons (.str _) (.cons (.int _) .nil))) ⟨by show (0 : Int).natAbs < _; split <;> decide, .inr hn⟩ (fun _ => .inr rfl) hp'
    · have : ¬ (!decide (V.str e.1 = V.str "")) = true := c4
      simp at this
      exact this
  · rintro σ H3 ⟨gr3, D3, v4, v5, v6, rfl⟩
    refine ⟨_, rfl, d, l, 5, rfl, D3, by decide, by decide, fun x1 H4 a0 a1 D4 b4 => ?_⟩
    have gr4 := gr3.trans (Grow.draw gr3.gh gd b4) D3.some'
    refine ⟨_, rfl, d, l, 100, rfl, D4, by decide, by decide, fun x2 H5 c0 c1 D5 b5 => ?_⟩
    have gr5 := gr4.trans (Grow.draw gr4.gh gd b5) D4.some'
    refine ⟨by show 2 ≤ sizeLine; decide, fun L hL => ?_⟩
    have gr6 := gr5.cell (o := .lst [.int x1, .int x2]) hL
    have D6 := D5.upd (o := .lst [.int x1, .int x2]) hL
    refine ⟨_, rfl, d, l, 2, rfl, D6, by decide, by decide, fun x3 H7 e0 e1 D7 b7 => ?_⟩
    have gr7 := gr6.trans (Grow.draw gr6.gh gd b7) D6.some'
    obtain ⟨n, hn, n0, n1⟩ : ∃ n : Int, atI [V.int x1, V.int x2] x3 = some (.int n) ∧ 0 ≤ n ∧ n < 100 := by
      obtain ⟨j, rfl⟩ : ∃ j : Nat, x3 = (j : Int) := ⟨x3.toNat, by omega⟩
      match j, e1 with
      | 0, _ => exact ⟨x1, rfl, a0, by omega⟩
      | 1, _ => exact ⟨x2, rfl, c0, c1⟩
      | j + 2, e => omega
    refine ⟨L, _, _, _, rfl, rfl, SqL.of (b7 _ _ upd_same (D5.ned hL)), hn, by show 2 ≤ sizeLine; decide, fun p hp => ?_⟩
    exact stepP _ gr7 D7 n n0 n1 p hp
theorem thing_step (T : Txt K mg) (f : Nat) (G_law_drawn_body : FnOk P w K mg base CX0 (2 * f + 11) T.a_law_drawn_body T.d_law_drawn_body ["_law_draw", "_law_kit", "_law_scope", "_law_deep"] (spBody K f)) :
    FnOk P w K mg base CX0 (2 * f + 12) T.a_law_drawn_thing T.d_law_drawn_thing ["_law_draw", "_law_kit", "_law_scope", "_law_deep"] (spThing K (f + 1)) := by
  refine T.F_law_drawn_thing.ok sc_law_drawn_thing (fun vs H Q E h => ?_) (fun cdv A outer s H vs Q E hr h => ?_)
  · obtain ⟨d, l, kc, dk, sa, sc, k, r, deep, G, rfl, _⟩ := h
    rfl
  obtain ⟨d, l, kc, dk, sa, sc, k, r, deep, G, rfl, sg, gd, gk, D, kit, kn, es, hn, sl, r1, dp4, hf, q⟩ := h
  refine ⟨_, (pss_cons (ps_asg (pe_op op_sub (pe_ix ix_list (pv 1) pe_int (fun _ _ => rfl)) pe_int) (pg_sub (pv 1) pe_int set_list))
      (pss_cons (ps_set (i := 4) sc_law_drawn_thing.nd rfl (Or.inl rfl) (pe_call (ok_law_take T) (hr.mono (by omega)) (by rfl) T.g_law_take T.F_law_take.kp T.b_law_take .nil pass0 (pa_cons (pv 0) (pa_cons pe_int pa_nil))))
      (C8.pss_cut (ps_if (PW.pt (pw_or (pt_cmpR op_lt (pe_ix ix_list (pv 1) pe_int (fun _ _ => rfl)) pe_int (nomark _)) (pw_or (pt_cmpR op_gt (pv 3) pe_int (nomark _)) (pw_or1 (pt_cmpR op_lt (pv 4) pe_int (nomark _)))))) (pss_one (ps_ret (pe_call (ok_law_leaf T) (hr.mono (by omega)) (by rfl) T.g_law_leaf T.F_law_leaf.kp T.b_law_leaf .nil pass0 (pa_cons (pv 0) (pa_cons (pv 1) (pa_cons (pv 2) (pa_cons (pv 3) pa_nil))))))) pss_nil)
      (C8.pss_cut (ps_if (PW.pt (pw_and (pt_cmpR op_eq (pv 4) pe_int (nomark _)) (pw_and1 (pt_val (pe_ix ix_list (pv 1) pe_int (fun _ _ => rfl)))))) (pss_one (ps_ret (pe_tup (pa_cons pe_str (pa_cons (pe_call G_law_drawn_body (hr.mono (by omega)) (by rfl) T.g_law_drawn_body T.F_law_drawn_body.kp T.b_law_drawn_body .nil pass0 (pa_cons (pv 0) (pa_cons (pv 1) (pa_cons (pv 2) (pa_cons (pe_op op_add (pv 3) pe_int) pa_nil))))) pa_nil))))) pss_nil)
      (pss_cons (ps_par (i := 5) (j := 6) (by rfl) sc_law_drawn_thing.nd rfl rfl (by decide) rfl rfl (pa_cons (pe_call (ok_law_some_end T) (hr.mono (by omega)) (by rfl) T.g_law_some_end T.F_law_some_end.kp T.b_law_some_end .nil pass0 (pa_cons (pv 0) (pa_cons (pv 2) (pa_cons (pe_ix ix_list (pv 1) pe_int (fun _ _ => rfl)) pa_nil)))) (pa_cons (pe_call (ok_law_some_end T) (hr.mono (by omega)) (by rfl) T.g_law_some_end T.F_law_some_end.kp T.b_law_some_end .nil pass0 (pa_cons (pv 0) (pa_cons (pv 2) (pa_cons (pe_ix ix_list (pv 1) pe_int (fun _ _ => rfl)) pa_nil)))) pa_nil)) (by rfl))
      (pss_cons (ps_if (pt_cmpR op_lt (pv 4) pe_int (nomark _)) (pss_cons (ps_set (i := 7) sc_law_drawn_thing.nd rfl (Or.inl rfl) (pe_call (ok_law_fresh T) (hr.mono (by omega)) (by rfl) T.g_law_fresh T.F_law_fresh.kp T.b_law_fresh .nil pass0 (pa_cons (pv 0) (pa_cons (pv 2) pa_nil))))
      (pss_one (ps_ret (pe_tup (pa_cons pe_str (pa_cons (pv 7) (pa_cons (pv 5) (pa_cons (pv 6) (pa_cons (pe_call G_law_drawn_body (hr.mono (by omega)) (by rfl) T.g_law_drawn_body T.F_law_drawn_body.kp T.b_law_drawn_body .nil pass0 (pa_cons (pv 0) (pa_cons (pv 1) (pa_cons (pe_op op_cat (pv 2) (pe_lst (pa_cons (pv 7) pa_nil))) (pa_cons (pe_op op_add (pv 3) pe_int) pa_nil))))) pa_nil))))))))) pss_nil)
      (pss_cons (ps_asg (pe_op op_sub (pe_ix ix_list (pv 1) pe_int (fun _ _ => rfl)) pe_int) (pg_sub (pv 1) pe_int set_list))
      (pss_cons (ps_set (i := 8) sc_law_drawn_thing.nd rfl (Or.inl rfl) (pe_call G_law_drawn_body (hr.mono (by omega)) (by rfl) T.g_law_drawn_body T.F_law_drawn_body.kp T.b_law_drawn_body .nil pass0 (pa_cons (pv 0) (pa_cons (pv 1) (pa_cons (pv 2) (pa_cons (pe_op op_add (pv 3) pe_int) pa_nil))))))
      (pss_cons (ps_asg (pe_op op_add (pe_ix ix_list (pv 1) pe_int (fun _ _ => rfl)) pe_int) (pg_sub (pv 1) pe_int set_list))
      (pss_cons (ps_set (i := 9) sc_law_drawn_thing.nd rfl (Or.inl rfl) (pe_ifExp (pt_cmpR op_eq (pe_call (ok_law_take T) (hr.mono (by omega)) (by rfl) T.g_law_take T.F_law_take.kp T.b_law_take .nil pass0 (pa_cons (pv 0) (pa_cons pe_int pa_nil))) pe_int (nomark _)) (pe_tup pa_nil) (pe_call G_law_drawn_body (hr.mono (by omega)) (by rfl) T.g_law_drawn_body T.F_law_drawn_body.kp T.b_law_drawn_body .nil pass0 (pa_cons (pv 0) (pa_cons (pv 1) (pa_cons (pv 2) (pa_cons (pe_op op_add (pv 3) pe_int) pa_nil)))))))
      (pss_one (ps_ret (pe_tup (pa_cons pe_str (pa_cons (pv 5) (pa_cons (pv 6) (pa_cons (pv 8) (pa_cons (pv 9) pa_nil)))))))))))))))))), ?_⟩
  have nkd := kit.ne D
  have nkl := kit.nel D
  refine ⟨_, rfl, kc, _, 0, .int r, rfl, rfl, SqL.of kit, rfl, r, 1, rfl, rfl, _, rfl, kc, _, 0, 0, rfl, rfl, kit, rfl, ?_⟩
  have kit1 : KitAt (upd H kc (.lst [.int (r - 1), .ref dk, .bl k.fig, .bl k.wide])) kc dk (r - 1) k := upd_same
  have D1 : DrawAt (upd H kc (.lst [.int (r - 1), .ref dk, .bl k.fig, .bl k.wide])) d l := D.put nkd nkl
  have g1 : Grow (Two d kc) G H G (upd H kc (.lst [.int (r - 1), .ref dk, .bl k.fig, .bl k.wide])) := (Grow.refl sg).put gk (.inr (.inr rfl))
  refine ⟨_, rfl, d, l, 9, rfl, D1, by decide, by decide, fun fk H2 f0 f1 D2 b2 => ?_⟩
  have g2 := g1.trans (Grow.one (Grow.draw g1.gh gd b2)) (two_cell D1 kit1)
  have kit2 := kit1.but nkd b2
  clear b2 g1 D1 kit1
  -- a leaf?
  have lf : ∀ Q' : VK, (∀ v H', Q v H' → Q' v H') → spLeaf K [.ref d, .ref kc, .ref sa, .int (deep : Nat)] H2 Q' E0 := fun Q' hq =>
    ⟨d, l, kc, dk, sa, sc, k, _, deep, G, rfl, g2.gh, gd, D2, kit2, kn, es, hn, by omega, fun v t G3 H3 g3 D3 dv ok c1 => hq _ _ (q v t G3 H3 (g2.trans (Grow.one g3) (two_cell D2 kit2)) D3 (by rw [c1]; exact g3.h _ _ kit2 nkd) (by rw [c1]; exact r1) dv ok)⟩
  refine ⟨fun σ H' => H2 = H' ∧ 2 ≤ r - 1 ∧ deep ≤ 3 ∧ σ = [some (.ref d), some (.ref kc), some (.ref sa), some (.int (deep : Nat)), some (.int fk), none, none, none, none, none], ?_, ?_⟩
  · refine ⟨_, rfl, kc, _, 0, .int (r - 1), rfl, rfl, SqL.of kit2, rfl, _, _, rfl, rfl, _, rfl, ?_⟩
    refine ite2 (fun _ => ⟨_, rfl, _, rfl, _, rfl, _, rfl, lf _ (fun _ _ h => h)⟩) (fun c1 => ?_)
    have c1' : ¬ (r - 1 < 2) := fun e => c1 (decide_eq_true e)
    refine ⟨_, rfl, _, _, rfl, rfl, _, rfl, ?_⟩
    refine ite2 (fun _ => ⟨_, rfl, _, rfl, _, rfl, _, rfl, lf _ (fun _ _ h => h)⟩) (fun c2 => ?_)
    have c2' : ¬ ((deep : Int) > 3) := fun e => c2 (decide_eq_true e)
    refine ⟨_, rfl, _, _, rfl, rfl, _, rfl, ?_⟩
    refine ite2 (fun _ => ⟨_, rfl, _, rfl, _, rfl, _, rfl, lf _ (fun _ _ h => h)⟩) (fun c3 => ?_)
    exact ⟨rfl, by omega, by omega, rfl⟩
  rintro σ H' ⟨rfl, r3, d3, rfl⟩
  clear lf
  -- a body below
  have bd : ∀ (G3 H3 : Hp) (sb : Addr) (sc' : List Str) (r' : Int) (Q' : VK), Grow (Two d kc) G H G3 H3 → DrawAt H3 d l → KitAt H3 kc dk r' k → G3 sb = some (.lst (sc'.map V.str)) → (Str.ofString "n") ∈ sc' → sc'.length ≤ deep + 11 → 1 ≤ r' →
      (∀ (v : V) (b : List Thing) (G4 H4 : Hp), Grow (Two d kc) G H G4 H4 → Same G3 G4 → DrawAt H4 d l → KitAt H4 kc dk (r' - thingsC b) k → (thingsC b : Int) ≤ r' → Dp K G4 v (planD b) → BdOk k b sc' (deep + 1) → 1 ≤ b.length → b.length ≤ 3 → Q' v H4) →
      spBody K f [.ref d, .ref kc, .ref sb, .int ((deep : Int) + 1)] H3 Q' E0 := fun G3 H3 sb sc' r' Q' g3 D3 kit3 es' hn' sl' hr' hq => by
    refine ⟨d, l, kc, dk, sb, sc', k, r', deep + 1, G3, rfl, g3.gh, g3.none gd D.cell, g3.none gk (cell_lst kit), D3, kit3, kn.mono g3.g, es', hn', by omega, hr', by omega, by omega, fun v b G4 H4 g4 D4 kit4 cb dv ok l1 l2 => ?_⟩
    exact hq v b G4 H4 (g3.trans g4 (two_cell D3 kit3)) g4.g D4 kit4 cb dv ok l1 l2
  have fin : ∀ (G6 H6 : Hp) (xs : List V) (t : Thing) (ds : List PyData) (p : Addr), Grow (Two d kc) G H G6 H6 → DrawAt H6 d l → KitAt H6 kc dk (r - thingC t) k → (thingC t : Int) ≤ r → thingD t = .tuple ds → DpAll K G6 xs ds → ThOk k t sc deep → H6 p = none → Q (.ref p) (upd H6 p (.tup xs)) := fun G6 H6 xs t ds p g6 D6 kit6 hc ht hd ho hp => by
    have g7 := g6.new (o := .tup xs) hp (two_cell D6 kit6)
    have s7 : Same G6 _ := same_upd (o := .tup xs) (g6.gh.free hp)
    refine q _ t _ _ g7 (D6.upd hp) ((same_upd hp) _ _ kit6) hc ?_ ho
    rw [ht]
    exact .tup (SqT.of upd_same) (hd.mono s7)
  refine ⟨fun σ H' => H2 = H' ∧ σ = [some (.ref d), some (.ref kc), some (.ref sa), some (.int (deep : Nat)), some (.int fk), none, none, none, none, none], ?_, ?_⟩
  · refine ⟨_, rfl, rfl, _, rfl, ?_⟩
    refine ite2 (fun _ => ?_) (fun _ => iteF ⟨rfl, rfl⟩)
    refine ⟨_, rfl, kc, _, 2, .bl k.fig, rfl, rfl, SqL.of kit2, rfl, _, rfl, ?_⟩
    refine ite2 (fun c => ?_) (fun _ => ⟨rfl, rfl⟩)
    refine ⟨_, rfl, _, rfl, _, rfl, _, rfl, _, _, rfl, rfl, ?_⟩
    refine bd G H2 sa sc (r - 1) _ g2 D2 kit2 es hn (by omega) (by omega) fun v b G4 H4 g4 _ D4 kit4 cb dv ok l1 l2 => ?_
    refine ⟨by show 2 ≤ sizeLine; decide, fun p hp => ?_⟩
    refine fin G4 H4 [.str "double", v] (.double b) [.str "double", planD b] p g4 D4 ?_ ?_ (by rw [thingD]; rfl) (.cons (.str _) (.cons dv .nil)) ?_ hp
    · rw [thingC]
      rw [show r - ((thingsC b + 1 : Nat) : Int) = r - 1 - thingsC b by omega]
      exact kit4
    · rw [thingC]
      omega
    · rw [ThOk]
      exact ⟨d3, c, l1, l2, ok⟩
  rintro σ H' ⟨rfl, rfl⟩
  -- the two ends
  refine ⟨_, rfl, _, rfl, _, rfl, kc, _, 3, .bl k.wide, rfl, rfl, SqL.of kit2, rfl, ?_⟩
  refine ⟨d, l, sa, sc, k.wide, G, rfl, g2.gh, gd, D2, es, List.ne_nil_of_mem hn, by omega, fun v1 e1 G3 H3 g3 D3 dv1 eo1 => ?_⟩
  have g23 := g2.trans (Grow.one g3) (two_cell D2 kit2)
  have kit3 := kit2.but nkd g3.h
  refine ⟨_, rfl, _, rfl, _, rfl, kc, _, 3, .bl k.wide, rfl, rfl, SqL.of kit3, rfl, ?_⟩
  refine ⟨d, l, sa, sc, k.wide, G3, rfl, g23.gh, g23.none gd D.cell, D3, g23.g _ _ es, List.ne_nil_of_mem hn, by omega, fun v2 e2 G4 H4 g4 D4 dv2 eo2 => ?_⟩
  have g24 := g23.trans (Grow.one g4) (two_cell D3 kit3)
  have kit4 := kit3.but nkd g4.h
  have dv1' := dv1.mono g4.g
  try unfold tNil
  refine ⟨_, _, rfl, _, rfl, _, _, rfl, rfl, _, rfl, ?_⟩
  have lm : ((sc ++ [(Str.ofString "")]).map V.str).length ≤ 1000 := by
    rw [List.length_map, List.length_append, List.length_singleton]
    omega
  refine ite2 (fun _ => ?_) (fun _ => ?_)
  · refine ⟨_, rfl, _, rfl, d, l, sa, sc, rfl, D4, g24.gh _ _ (g24.g _ _ es), by omega, fun nm H5 b5 D5 no ns => ?_⟩
    have g5 := g24.trans (Grow.one (Grow.draw g24.gh (g24.none gd D.cell) b5)) (two_cell D4 kit4)
    have kit5 := kit4.but nkd b5
    refine ⟨_, rfl, _, rfl, _, rfl, _, rfl, _, rfl, _, rfl, _, rfl, by show 1 ≤ sizeLine; decide, fun L hL => ?_⟩
    have g6 := g5.cell (o := .lst [.str nm]) hL
    have D6 := D5.upd (o := .lst [.str nm]) hL
    have kit6 : KitAt (upd H5 L (.lst [.str nm])) kc dk (r - 1) k := (same_upd hL) _ _ kit5
    have es6 : (upd H5 L (.lst [.str nm])) sa = some (.lst (sc.map V.str)) := g6.gh _ _ (g5.g _ _ es)
    refine ⟨sa, L, _, _, rfl, rfl, es6, upd_same, ?_, fun S hS => ?_⟩
    · rw [List.length_map, List.length_singleton]
      exact Nat.le_trans (m := 1000) (by omega) (by decide)
    have g7 := g6.new (o := .lst (sc.map V.str ++ [.str nm])) hS (two_cell D6 kit6)
    have s7 : Same G4 _ := same_upd (o := .lst (sc.map V.str ++ [.str nm])) (g6.gh.free hS)
    refine ⟨_, rfl, _, _, rfl, rfl, ?_⟩
    refine bd _ _ S (sc ++ [nm]) (r - 1) _ g7 (D6.upd hS) ((same_upd hS) _ _ kit6) (by rw [upd_same, List.map_append]; rfl) (List.mem_append_left _ hn) (by rw [List.length_append, List.length_singleton]; omega) (by omega) fun v b G8 H8 g8 s8 D8 kit8 cb dv ok l1 l2 => ?_
    refine ⟨by show 5 ≤ sizeLine; decide, fun p hp => ?_⟩
    have s48 := s7.trans s8
    refine fin G8 H8 [.str "for", .str nm, v1, v2, v] (.loop nm e1 e2 b) [.str "for", .str nm, endD e1, endD e2, planD b] p g8 D8 ?_ ?_ (by rw [thingD]; rfl) (.cons (.str _) (.cons (.str _) (.cons (dv1'.mono s48) (.cons (dv2.mono s48) (.cons dv .nil))))) ?_ hp
    · rw [thingC]
      rw [show r - ((thingsC b + 1 : Nat) : Int) = r - 1 - thingsC b by omega]
      exact kit8
    · rw [thingC]
      omega
    · rw [ThOk]
      exact ⟨d3, no, ns, eo1, eo2, l1, l2, ok⟩
  · -- a test
    refine ⟨_, rfl, kc, _, 0, .int (r - 1), rfl, rfl, SqL.of kit4, rfl, _, 1, rfl, rfl, _, rfl, kc, _, 0, 0, rfl, rfl, kit4, rfl, ?_⟩
    have kit5 : KitAt (upd H4 kc (.lst [.int (r - 1 - 1), .ref dk, .bl k.fig, .bl k.wide])) kc dk (r - 1 - 1) k := upd_same
    have D5 : DrawAt (upd H4 kc (.lst [.int (r - 1 - 1), .ref dk, .bl k.fig, .bl k.wide])) d l := D4.put nkd (kit4.nel D4)
    have gk4 := g24.none gk (cell_lst kit)
    have g5 : Grow (Two d kc) G H G4 (upd H4 kc (.lst [.int (r - 1 - 1), .ref dk, .bl k.fig, .bl k.wide])) := g24.put gk4 (.inr (.inr rfl))
    refine ⟨_, rfl, _, rfl, _, rfl, _, rfl, _, _, rfl, rfl, ?_⟩
    refine bd _ _ sa sc (r - 1 - 1) _ g5 D5 kit5 (g24.g _ _ es) hn (by omega) (by omega) fun v3 b3 G6 H6 g6 s6 D6 kit6 cb3 dv3 ok3 l31 l32 => ?_
    have gk6 := g6.none gk (cell_lst kit)
    refine ⟨_, rfl, kc, _, 0, .int (r - 1 - 1 - thingsC b3), rfl, rfl, SqL.of kit6, rfl, _, 1, rfl, rfl, _, rfl, kc, _, 0, 0, rfl, rfl, kit6, rfl, ?_⟩
    have kit7 : KitAt (upd H6 kc (.lst [.int (r - 1 - 1 - thingsC b3 + 1), .ref dk, .bl k.fig, .bl k.wide])) kc dk (r - 1 - 1 - thingsC b3 + 1) k := upd_same
    have D7 : DrawAt (upd H6 kc (.lst [.int (r - 1 - 1 - thingsC b3 + 1), .ref dk, .bl k.fig, .bl k.wide])) d l := D6.put nkd (kit6.nel D6)
    have g7 : Grow (Two d kc) G H G6 (upd H6 kc (.lst [.int (r - 1 - 1 - thingsC b3 + 1), .ref dk, .bl k.fig, .bl k.wide])) := g6.put gk6 (.inr (.inr rfl))
    refine ⟨_, rfl, d, l, 2, rfl, D7, by decide, by decide, fun z H8 z0 z1 D8 b8 => ?_⟩
    have g8 := g7.trans (Grow.one (Grow.draw g7.gh (g7.none gd D.cell) b8)) (two_cell D7 kit7)
    have kit8 := kit7.but nkd b8
    refine ⟨rfl, _, rfl, ite2 (fun _ => ?_) (fun _ => ?_)⟩
    · refine ⟨by show 0 ≤ sizeLine; decide, fun R hR => ?_⟩
      have g9 := g8.new (o := .tup []) hR (two_cell D8 kit8)
      have s9 : Same G6 _ := same_upd (o := .tup []) (g8.gh.free hR)
      refine ⟨_, rfl, _, rfl, _, rfl, _, rfl, by show 5 ≤ sizeLine; decide, fun p hp => ?_⟩
      have s49 := s6.trans s9
      refine fin _ _ [.str "if", v1, v2, v3, .ref R] (.test e1 e2 b3 []) [.str "if", endD e1, endD e2, planD b3, planD []] p g9 (D8.upd hR) ?_ ?_ (by rw [thingD]; rfl) (.cons (.str _) (.cons (dv1'.mono s49) (.cons (dv2.mono s49) (.cons (dv3.mono s9) (.cons ?_ .nil))))) ?_ hp
      · rw [thingC, thingsC]
        rw [show r - ((thingsC b3 + 0 + 1 : Nat) : Int) = r - 1 - 1 - thingsC b3 + 1 by omega]
        exact (same_upd hR) _ _ kit8
      · rw [thingC, thingsC]
        omega
      · unfold planD thingsD
        exact .tup (xs := []) (SqT.of upd_same) .nil
      · rw [ThOk]
        exact ⟨d3, eo1, eo2, l31, l32, by decide, ok3, .nil⟩
    · refine ⟨_, rfl, _, rfl, _, rfl, _, rfl, _, _, rfl, rfl, ?_⟩
      refine bd _ _ sa sc _ _ g8 D8 kit8 (s6 _ _ (g24.g _ _ es)) hn (by omega) (by omega) fun v4 b4 G9 H9 g9 s9 D9 kit9 cb4 dv4 ok4 l41 l42 => ?_
      refine ⟨_, rfl, _, rfl, _, rfl, _, rfl, by show 5 ≤ sizeLine; decide, fun p hp => ?_⟩
      have s49 := s6.trans s9
      refine fin _ _ [.str "if", v1, v2, v3, v4] (.test e1 e2 b3 b4) [.str "if", endD e1, endD e2, planD b3, planD b4] p g9 D9 ?_ ?_ (by rw [thingD]; rfl) (.cons (.str _) (.cons (dv1'.mono s49) (.cons (dv2.mono s49) (.cons (dv3.mono s9) (.cons dv4 .nil))))) ?_ hp
      · rw [thingC]
        rw [show r - ((thingsC b3 + thingsC b4 + 1 : Nat) : Int) = r - 1 - 1 - thingsC b3 + 1 - thingsC b4 by omega]
        exact kit9
      · rw [thingC]
        omega
      · rw [ThOk]
        exact ⟨d3, eo1, eo2, l31, l32, l42, ok3, ok4⟩
theorem body_step (T : Txt K mg) (f : Nat) (G_law_drawn_thing : FnOk P w K mg base CX0 (2 * f + 10) T.a_law_drawn_thing T.d_law_drawn_thing ["_law_draw", "_law_kit", "_law_scope", "_law_deep"] (spThing K f)) :
    FnOk P w K mg base CX0 (2 * f + 11) T.a_law_drawn_body T.d_law_drawn_body ["_law_draw", "_law_kit", "_law_scope", "_law_deep"] (spBody K f) := by
  refine T.F_law_drawn_body.ok sc_law_drawn_body (fun vs H Q E h => ?_) (fun cdv A outer s H vs Q E hr h => ?_)
  · obtain ⟨d, l, kc, dk, sa, sc, k, r, deep, G, rfl, _⟩ := h
    rfl
  obtain ⟨d, l, kc, dk, sa, sc, k, r, deep, G, rfl, sg, gd, gk, D, kit, kn, es, hn, sl, r1, dp4, hf, q⟩ := h
  refine ⟨_, (pss_cons (ps_set (i := 4) sc_law_drawn_body.nd rfl (Or.inl rfl) (pe_lst (pa_cons (pe_call G_law_drawn_thing (hr.mono (by omega)) (by rfl) T.g_law_drawn_thing T.F_law_drawn_thing.kp T.b_law_drawn_thing .nil pass0 (pa_cons (pv 0) (pa_cons (pv 1) (pa_cons (pv 2) (pa_cons (pv 3) pa_nil))))) pa_nil)))
      (pss_cons (ps_for PassesOwn.never rfl (pi_range1 (by rfl) T.z_range (pa_cons (pe_call (ok_law_take T) (hr.mono (by omega)) (by rfl) T.g_law_take T.F_law_take.kp T.b_law_take .nil pass0 (pa_cons (pv 0) (pa_cons pe_int pa_nil))) pa_nil)) (pg_name (i := 5) sc_law_drawn_body.nd rfl (Or.inl rfl)) (pss_one (ps_if (pt_cmpR op_gt (pe_ix ix_list (pv 1) pe_int (fun _ _ => rfl)) pe_int (nomark _)) (pss_one (ps_expr (pe_bm PySem.F.plainAttrs_list PySem.F.slot_list_append PySem.F.type_list_append mt_append (pv 4) (pa_cons (pe_call G_law_drawn_thing (hr.mono (by omega)) (by rfl) T.g_law_drawn_thing T.F_law_drawn_thing.kp T.b_law_drawn_thing .nil pass0 (pa_cons (pv 0) (pa_cons (pv 1) (pa_cons (pv 2) (pa_cons (pv 3) pa_nil))))) pa_nil)))) pss_nil)))
      (pss_one (ps_ret (pe_callTy call_tuple_of (by rfl) T.z_tuple (by decide +kernel) (pa_cons (pv 4) pa_nil)))))), ?_⟩
  have nkd := kit.ne D
  refine ⟨_, rfl, _, rfl, _, rfl, _, rfl, d, l, kc, dk, sa, sc, k, r, deep, G, rfl, sg, gd, gk, D, kit, kn, es, hn, sl, r1, dp4, hf, fun v t G1 H1 g1 D1 kit1 c1 dv ok => ?_⟩
  refine ⟨by show 1 ≤ sizeLine; decide, fun L hL => ?_⟩
  have g2 := g1.cell (o := .lst [v]) hL
  have D2 := D1.upd (o := .lst [v]) hL
  have kit2 : KitAt (upd H1 L (.lst [v])) kc dk (r - thingC t) k := (same_upd hL) _ _ kit1
  have nLd := D1.ned hL
  have nLk : L ≠ kc := by
    rintro rfl
    rw [kit1] at hL
    cases hL
  have hLH : H L = none := g1.h.none (two_cell D1 kit1) hL
  have gL := g1.gh.free hL
  refine ⟨_, rfl, d, l, 3, rfl, D2, by decide, by decide, fun n H3 n0 n1 D3 b3 => ?_⟩
  have g3 := g2.trans (Grow.one (Grow.draw g2.gh (g2.none gd D.cell) b3)) (two_cell D2 kit2)
  have kit3 := kit2.but nkd b3
  refine ⟨n, rfl, by omega, by omega, for_it walk_range (fun i σ H' => ∃ (vs : List V) (b : List Thing) (G' : Hp), Grow (Two d kc) G H G' H' ∧ DrawAt H' d l ∧ KitAt H' kc dk (r - thingsC b) k ∧ (thingsC b : Int) ≤ r ∧ H' L = some (.lst vs) ∧ G' L = none ∧ DpAll K G' vs (thingsD b) ∧ BdOk k b sc deep ∧ 1 ≤ b.length ∧ b.length ≤ i + 1 ∧
    ∃ v5, σ = [some (.ref d), some (.ref kc), some (.ref sa), some (.int (deep : Nat)), some (.ref L), v5]) ?_ (fun _ _ _ _ _ => trivial) ?_ ?_⟩
  · refine ⟨[v], [t], G1, g3, D3, ?_, ?_, b3 _ _ upd_same nLd, gL, ?_, ?_, Nat.le_refl _, Nat.le_refl _, _, rfl⟩
    · rw [thingsC, thingsC]
      exact kit3
    · rw [thingsC, thingsC]
      exact c1
    · rw [thingsD, thingsD]
      exact .cons dv .nil
    · rw [BdOk]
      exact ⟨ok, .nil⟩
  · rintro i x σ H4 H5 hi ⟨vs, b, G4, g4, D4, kit4, c4, eL, gL4, dvs, okb, l1, l2, v5, rfl⟩ ⟨rfl, rfl⟩
    have hi : i < n.toNat := hi
    refine ⟨_, rfl, kc, _, 0, .int (r - thingsC b), rfl, rfl, SqL.of kit4, rfl, _, 0, rfl, rfl, _, rfl, ?_⟩
    refine ite2 (fun c => ?_) (fun _ => ⟨vs, b, G4, g4, D4, kit4, c4, eL, gL4, dvs, okb, l1, by omega, _, rfl⟩)
    have c' : 0 < r - (thingsC b : Int) := of_decide_eq_true c
    refine ⟨_, rfl, .inl ⟨rfl, _, SqL.of eL⟩, ?_⟩
    refine ⟨_, rfl, _, rfl, _, rfl, _, rfl, d, l, kc, dk, sa, sc, k, r - thingsC b, deep, G4, rfl, g4.gh, g4.none gd D.cell, g4.none gk (cell_lst kit), D4, kit4, kn.mono g4.g, g4.g _ _ es, hn, sl, by omega, dp4, hf, fun v6 t6 G6 H6 g6 D6 kit6 c6 dv6 ok6 => ?_⟩
    have eL6 : H6 L = some (.lst vs) := g6.h _ _ eL (by rintro (e | e); exact nLd e; exact nLk e)
    have g46 := g4.trans g6 (two_cell D4 kit4)
    have gL6 := g6.none gL4 (cell_lst eL)
    have lv := dvs.length
    rw [thingsD_eq, List.length_map] at lv
    try unfold tNil
    refine ⟨L, _, _, rfl, rfl, eL6, small1000 (by omega), ?_⟩
    refine ⟨vs ++ [v6], b ++ [t6], G6, g46.put gL6 (.inl hLH), D6.put nLd (D1.nel hL), ?_, ?_, upd_same, gL6, ?_, okb.snoc ok6, by simp, by simp; omega, _, rfl⟩
    · unfold KitAt
      rw [upd_ne (Ne.symm nLk), thingsC_snoc, show r - ((thingsC b + thingC t6 : Nat) : Int) = r - thingsC b - thingC t6 by omega]
      exact kit6
    · rw [thingsC_snoc]
      omega
    · rw [thingsD_eq, List.map_append, ← thingsD_eq]
      exact DpAll.snoc (dvs.mono g6.g) dv6
  · rintro σ H4 ⟨vs, b, G4, g4, D4, kit4, c4, eL, gL4, dvs, okb, l1, l2, v5, rfl⟩
    have l2 : b.length ≤ n.toNat + 1 := l2
    refine ⟨_, rfl, L, vs, rfl, .inl ⟨SqL.of eL, fun p hp => ?_⟩⟩
    have g5 := g4.new (o := .tup vs) hp (two_cell D4 kit4)
    have s5 : Same G4 _ := same_upd (o := .tup vs) (g4.gh.free hp)
    refine q _ b _ _ g5 (D4.upd hp) ((same_upd hp) _ _ kit4) c4 ?_ okb l1 (by omega)
    exact .tup (SqT.of upd_same) (dvs.mono s5)
theorem thing_all (T : Txt K mg) : ∀ f : Nat, FnOk P w K mg base CX0 (2 * f + 10) T.a_law_drawn_thing T.d_law_drawn_thing ["_law_draw", "_law_kit", "_law_scope", "_law_deep"] (spThing K f)
  | 0 => by
    have no : ∀ vs H Q E, ¬ spThing K 0 vs H Q E := fun vs H Q E h => by
      obtain ⟨d, l, kc, dk, sa, sc, k, r, deep, G, _, _, _, _, _, _, _, _, _, _, _, h1, h2, _⟩ := h
      omega
    exact ⟨fun vs H Q E h => absurd h (no vs H Q E), fun A outer s H args us vs Q E _ _ _ _ h => absurd h (no vs H Q E)⟩
  | f + 1 => thing_step T f (body_step T f (thing_all T f))
theorem ok_law_drawn_body (T : Txt K mg) : FnOk P w K mg base CX0 21 T.a_law_drawn_body T.d_law_drawn_body ["_law_draw", "_law_kit", "_law_scope", "_law_deep"] (spBody K 5) := body_step T 5 (thing_all T 5)
theorem ok_law_way (T : Txt K mg) : FnOk P w K mg base CX0 1 T.a_law_way T.d_law_way ["_law_plan"] (spWay K) := by
  refine T.F_law_way.ok sc_law_way (fun vs H Q E h => ?_) (fun cdv A outer s H vs Q E hr h => ?_)
  · obtain ⟨v, b, G, rfl, _⟩ := h
    rfl
  obtain ⟨v, b, G, rfl, sg, db, ag, bl, k⟩ := h
  refine ⟨_, (pss_cons (ps_setLc (i := 1) (own := [("_law_thing", 2)]) (g := gName 2) (tt := _) rfl sc_law_way.nd rfl rfl (sw_true rfl rfl rfl (by decide +kernel)) (pi_tup (pv 0)) (blkOk_by (N := N_law_way) (sc := defScope s_law_way) (by decide +kernel)) (fun _ _ _ _ _ => (pg_name (i := 2) sc_law_way.nd rfl (Or.inl rfl))) (fun _ _ _ _ _ => (pts_one (pt_cmpR op_eq (pe_ix (r := rIxT K) ix_tup (pv 2) pe_int (fun _ _ => rfl)) pe_str (nomark _)))) (fun _ _ _ _ _ => (pv 2)))
      (pss_one (ps_ret (pe_ifExp (pt_cmpR (op_neD hr.units) (pv 1) (pe_lst pa_nil) (nomark _)) (pe_ix ix_list (pv 1) pe_int (fun _ _ => rfl)) pe_non)))), ?_⟩
  obtain ⟨a, us, rfl, hs, hd⟩ := db.tup'
  rw [thingsD_eq] at hd
  have lu : us.length = b.length := by
    have := hd.length
    rw [List.length_map] at this
    exact this
  refine ⟨_, rfl, a, rfl, ⟨_, same_t sg hs⟩, fun R hR => ?_⟩
  refine lc_it (walk_tup (xs := us)) (fun i H' => Same H H' ∧ ∃ vs : List V, vs.length ≤ i ∧ DpAll K G vs (((b.take i).filter isAgain).map thingD) ∧ H' R = some (.lst vs)) ⟨same_upd hR, [], Nat.le_refl _, .nil, upd_same⟩ (fun i H' _ p => same_t (sg.trans p.1) hs) ?_ ?_
  · rintro i x H1 H2 hi ⟨s2, vs, vl, dv, eR⟩ ⟨rfl, hx⟩
    obtain ⟨t, ht, dt⟩ := DpAll.at_ hd hx
    have e : (b.take (i + 1)).filter isAgain = (b.take i).filter isAgain ++ (if isAgain t = true then [t] else []) := by
      rw [take_snoc ht, List.filter_append, List.filter_cons, List.filter_nil]
    obtain ⟨c, r, rfl, hc⟩ := thing_head dt
    refine ⟨rfl, ?_⟩
    refine ⟨_, rfl, c, _, _, _, rfl, rfl, same_t (sg.trans s2) hc, atI_nat (j := 0) rfl, rfl, _, rfl, ?_⟩
    rw [word_again]
    refine ite2 (fun c1 => ?_) (fun c1 => ?_)
    · rw [if_pos c1] at e
      refine ⟨_, rfl, _, eR, small1000 (by omega), same_put s2 hR, vs ++ [.ref c], by rw [List.length_append]; show _ + 1 ≤ _; omega, ?_, upd_same⟩
      rw [e, List.map_append]
      exact DpAll.snoc dv dt
    · rw [if_neg c1, List.append_nil] at e
      rw [e]
      exact ⟨s2, vs, by omega, dv, eR⟩
  rintro H1 ⟨s1, vs, vl, dv, eR⟩
  rw [lu, List.take_length] at dv
  refine ⟨_, rfl, by show 0 ≤ sizeLine; decide, fun N hN => ?_⟩
  have sN := s1.trans (same_upd (o := .lst []) hN)
  have eR2 := (same_upd (o := .lst []) hN) _ _ eR
  refine ⟨.list ((b.filter isAgain).map thingD), .list [], .lst (SqL.of eR2) (DpAll.mono (sg.trans sN) dv), .lst (SqL.of upd_same) .nil, shaped_things ag.s (by have := agC b; omega), shaped_nil, _, rfl, ?_⟩
  rw [eqv_things]
  rcases wayP_eq b with ⟨e1, e2⟩ | ⟨n, y, r, e1, e2⟩
  · rw [e1]
    refine iteF ?_
    exact k .non _ sN (by rw [e2]; rfl)
  · rw [e1] at dv ⊢
    obtain ⟨u, r', rfl, du, _⟩ := dv.c
    refine iteT ⟨_, rfl, R, _, _, _, rfl, rfl, SqL.of eR2, atI_nat (j := 0) rfl, ?_⟩
    exact k u _ sN (by rw [e2]; exact du)
theorem ok_law_plain (T : Txt K mg) : FnOk P w K mg base CX0 2 T.a_law_plain T.d_law_plain ["_law_plan"] (spSomeB K) := by
  refine T.F_law_plain.ok sc_law_plain (fun vs H Q E h => ?_) (fun cdv A outer s H vs Q E hr h => ?_)
  · obtain ⟨v, b, G, rfl, _⟩ := h
    rfl
  obtain ⟨v, b, G, rfl, sg, db, ag, bl, k⟩ := h
  refine ⟨_, (pss_cons (ps_set (i := 1) sc_law_plain.nd rfl (Or.inl rfl) (pe_call (ok_law_way T) (hr.mono (by decide)) (by rfl) T.g_law_way T.F_law_way.kp T.b_law_way .nil pass0 (pa_cons (pv 0) pa_nil)))
      (pss_one (ps_ret (pe_or (pe_cmpR op_isN (pv 1) pe_non (nomark _)) (pe_one (pe_cmpR op_eq (pe_ix ix_tup (pv 1) pe_int (fun _ _ => rfl)) pe_str (nomark _))))))), ?_⟩
  refine ⟨_, rfl, v, b, G, rfl, sg, db, ag, bl, fun u H1 s1 hu => ?_⟩
  cases e : wayP b with
  | none =>
    rw [e] at hu
    cases (show u = .non from hu)
    exact ⟨_, rfl, rfl, _, rfl, iteT (k _ _ s1)⟩
  | some p =>
    rw [e] at hu
    obtain ⟨a, rfl, hs⟩ := again_at hu
    have hs := same_t (sg.trans s1) hs
    exact ⟨_, rfl, rfl, _, rfl, iteF ⟨_, rfl, a, _, _, _, rfl, rfl, hs, (rfl : atI [V.str "again", .int p.1, .str p.2] 2 = some (.str p.2)), rfl, k _ _ s1⟩⟩
theorem ok_law_bodies (T : Txt K mg) : FnOk P w K mg base CX0 1 T.a_law_bodies T.d_law_bodies ["_law_thing"] (spBodies K) := by
  refine T.F_law_bodies.ok sc_law_bodies (fun vs H Q E h => ?_) (fun cdv A outer s H vs Q E hr h => ?_)
  · obtain ⟨v, t, G, rfl, _⟩ := h
    rfl
  obtain ⟨v, t, G, rfl, sg, dt, k⟩ := h
  refine ⟨_, (pss_cons (ps_if (pt_cmpR op_eq (pe_ix ix_tup (pv 0) pe_int (fun _ _ => rfl)) pe_str (nomark _)) (pss_one (ps_ret (pe_lst (pa_cons (pe_ix ix_tup (pv 0) pe_int (fun _ _ => rfl)) (pa_cons (pe_ix ix_tup (pv 0) pe_int (fun _ _ => rfl)) pa_nil))))) pss_nil)
      (pss_one (ps_ret (pe_dget2 (hu_of hr) (pe_disp (pps_cons pe_str (pe_lst (pa_cons (pe_ix ix_tup (pv 0) (pe_un un_neg pe_int) (fun _ _ => rfl)) pa_nil)) (pps_cons pe_str (pe_lst (pa_cons (pe_ix ix_tup (pv 0) (pe_un un_neg pe_int) (fun _ _ => rfl)) pa_nil)) pps_nil)) (by rfl) (by rfl) (by simp) (by decide)) (pe_ix ix_tup (pv 0) pe_int (fun _ _ => rfl)) (pe_lst pa_nil) ⟨rfl, rfl, rfl, rfl⟩)))), ?_⟩
  cases t with
  | step n =>
    rw [thingD] at dt
    obtain ⟨a, xs, rfl, hs, hd⟩ := dt.tup'
    obtain ⟨x0, r0, rfl, h0, hd⟩ := hd.c
    obtain ⟨x1, r1, rfl, h1, hd⟩ := hd.c
    cases hd.n
    have hs := same_t sg hs
    cases h0.str'
    cases h1.int'
    refine ⟨_, rfl, a, _, _, _, rfl, rfl, hs, (rfl : atI [V.str "step", V.int n] 0 = some (V.str "step")), rfl, _, rfl, ?_⟩
    rw [dec_ff (by decide)]
    refine iteF ?_
    intro D hD
    have s1 := same_upd (o := .dK []) hD
    refine ⟨_, rfl, _, rfl, a, _, _, _, rfl, rfl, same_t s1 hs, (rfl : atI [V.str "step", V.int n] (-1) = some (V.int n)), by show 1 ≤ sizeLine; decide, fun L1 hL1 => ?_⟩
    have s2 := s1.trans (same_upd (o := .lst [(V.int n)]) hL1)
    refine ⟨_, rfl, _, rfl, a, _, _, _, rfl, rfl, same_t s2 hs, (rfl : atI [V.str "step", V.int n] (-1) = some (V.int n)), by show 1 ≤ sizeLine; decide, fun L2 hL2 => ?_⟩
    have s3 := s2.trans (same_upd (o := .lst [(V.int n)]) hL2)
    have eD : _ = some (HO.dK []) := (same_upd (o := .lst [(V.int n)]) hL2) _ _ ((same_upd (o := .lst [(V.int n)]) hL1) _ _ (upd_same (H := H) (a := D) (o := .dK [])))
    have nD1 : L1 ≠ D := fun z => by rw [z, upd_same] at hL1; cases hL1
    have nD2 : L2 ≠ D := fun z => by
      rw [z, upd_ne (Ne.symm nD1), upd_same] at hL2
      cases hL2
    refine ⟨eD, [(Sum.inr (Str.ofString "for"), .ref L1), (Sum.inr (Str.ofString "double"), .ref L2)], rfl, (by show 2 ≤ 15; decide), ?_⟩
    have s4 := same_put (o := .dK (mergeK [] [(Sum.inr (Str.ofString "for"), .ref L1), (Sum.inr (Str.ofString "double"), .ref L2)])) s3 hD
    refine ⟨D, rfl, .inl ⟨_, .inl upd_same⟩, ?_⟩
    refine ⟨_, rfl, a, _, _, _, rfl, rfl, same_t s4 hs, (rfl : atI [V.str "step", V.int n] 0 = some (V.str "step")), by show 0 ≤ sizeLine; decide, fun L3 hL3 => ?_⟩
    have s5 := same_upd (o := .lst []) hL3
    have dg := DGet.k (k := Sum.inr (Str.ofString "step")) (s5 _ _ (upd_same (a := D) (o := .dK (mergeK [] [(Sum.inr (Str.ofString "for"), V.ref L1), (Sum.inr (Str.ofString "double"), .ref L2)]))))
    exact ⟨_, dg, k L3 _ _ (s4.trans s5) (same_none s4 hL3) upd_same .nil⟩
  | call nm e =>
    rw [thingD] at dt
    obtain ⟨a, xs, rfl, hs, hd⟩ := dt.tup'
    obtain ⟨x0, r0, rfl, h0, hd⟩ := hd.c
    obtain ⟨x1, r1, rfl, h1, hd⟩ := hd.c
    obtain ⟨x2, r2, rfl, h2, hd⟩ := hd.c
    cases hd.n
    have hs := same_t sg hs
    cases h0.str'
    cases h1.str'
    refine ⟨_, rfl, a, _, _, _, rfl, rfl, hs, (rfl : atI [V.str "call", V.str nm, x2] 0 = some (V.str "call")), rfl, _, rfl, ?_⟩
    rw [dec_ff (by decide)]
    refine iteF ?_
    intro D hD
    have s1 := same_upd (o := .dK []) hD
    refine ⟨_, rfl, _, rfl, a, _, _, _, rfl, rfl, same_t s1 hs, (rfl : atI [V.str "call", V.str nm, x2] (-1) = some x2), by show 1 ≤ sizeLine; decide, fun L1 hL1 => ?_⟩
    have s2 := s1.trans (same_upd (o := .lst [x2]) hL1)
    refine ⟨_, rfl, _, rfl, a, _, _, _, rfl, rfl, same_t s2 hs, (rfl : atI [V.str "call", V.str nm, x2] (-1) = some x2), by show 1 ≤ sizeLine; decide, fun L2 hL2 => ?_⟩
    have s3 := s2.trans (same_upd (o := .lst [x2]) hL2)
    have eD : _ = some (HO.dK []) := (same_upd (o := .lst [x2]) hL2) _ _ ((same_upd (o := .lst [x2]) hL1) _ _ (upd_same (H := H) (a := D) (o := .dK [])))
    have nD1 : L1 ≠ D := fun z => by rw [z, upd_same] at hL1; cases hL1
    have nD2 : L2 ≠ D := fun z => by
      rw [z, upd_ne (Ne.symm nD1), upd_same] at hL2
      cases hL2
    refine ⟨eD, [(Sum.inr (Str.ofString "for"), .ref L1), (Sum.inr (Str.ofString "double"), .ref L2)], rfl, (by show 2 ≤ 15; decide), ?_⟩
    have s4 := same_put (o := .dK (mergeK [] [(Sum.inr (Str.ofString "for"), .ref L1), (Sum.inr (Str.ofString "double"), .ref L2)])) s3 hD
    refine ⟨D, rfl, .inl ⟨_, .inl upd_same⟩, ?_⟩
    refine ⟨_, rfl, a, _, _, _, rfl, rfl, same_t s4 hs, (rfl : atI [V.str "call", V.str nm, x2] 0 = some (V.str "call")), by show 0 ≤ sizeLine; decide, fun L3 hL3 => ?_⟩
    have s5 := same_upd (o := .lst []) hL3
    have dg := DGet.k (k := Sum.inr (Str.ofString "call")) (s5 _ _ (upd_same (a := D) (o := .dK (mergeK [] [(Sum.inr (Str.ofString "for"), V.ref L1), (Sum.inr (Str.ofString "double"), .ref L2)]))))
    exact ⟨_, dg, k L3 _ _ (s4.trans s5) (same_none s4 hL3) upd_same .nil⟩
  | double b =>
    rw [thingD] at dt
    obtain ⟨a, xs, rfl, hs, hd⟩ := dt.tup'
    obtain ⟨x0, r0, rfl, h0, hd⟩ := hd.c
    obtain ⟨x1, r1, rfl, h1, hd⟩ := hd.c
    cases hd.n
    have hs := same_t sg hs
    cases h0.str'
    refine ⟨_, rfl, a, _, _, _, rfl, rfl, hs, (rfl : atI [V.str "double", x1] 0 = some (V.str "double")), rfl, _, rfl, ?_⟩
    rw [dec_ff (by decide)]
    refine iteF ?_
    intro D hD
    have s1 := same_upd (o := .dK []) hD
    refine ⟨_, rfl, _, rfl, a, _, _, _, rfl, rfl, same_t s1 hs, (rfl : atI [V.str "double", x1] (-1) = some x1), by show 1 ≤ sizeLine; decide, fun L1 hL1 => ?_⟩
    have s2 := s1.trans (same_upd (o := .lst [x1]) hL1)
    refine ⟨_, rfl, _, rfl, a, _, _, _, rfl, rfl, same_t s2 hs, (rfl : atI [V.str "double", x1] (-1) = some x1), by show 1 ≤ sizeLine; decide, fun L2 hL2 => ?_⟩
    have s3 := s2.trans (same_upd (o := .lst [x1]) hL2)
    have eD : _ = some (HO.dK []) := (same_upd (o := .lst [x1]) hL2) _ _ ((same_upd (o := .lst [x1]) hL1) _ _ (upd_same (H := H) (a := D) (o := .dK [])))
    have nD1 : L1 ≠ D := fun z => by rw [z, upd_same] at hL1; cases hL1
    have nD2 : L2 ≠ D := fun z => by
      rw [z, upd_ne (Ne.symm nD1), upd_same] at hL2
      cases hL2
    refine ⟨eD, [(Sum.inr (Str.ofString "for"), .ref L1), (Sum.inr (Str.ofString "double"), .ref L2)], rfl, (by show 2 ≤ 15; decide), ?_⟩
    have s4 := same_put (o := .dK (mergeK [] [(Sum.inr (Str.ofString "for"), .ref L1), (Sum.inr (Str.ofString "double"), .ref L2)])) s3 hD
    refine ⟨D, rfl, .inl ⟨_, .inl upd_same⟩, ?_⟩
    refine ⟨_, rfl, a, _, _, _, rfl, rfl, same_t s4 hs, (rfl : atI [V.str "double", x1] 0 = some (V.str "double")), by show 0 ≤ sizeLine; decide, fun L3 hL3 => ?_⟩
    have s5 := same_upd (o := .lst []) hL3
    have dg := DGet.k (k := Sum.inr (Str.ofString "double")) (s5 _ _ (upd_same (a := D) (o := .dK (mergeK [] [(Sum.inr (Str.ofString "for"), V.ref L1), (Sum.inr (Str.ofString "double"), .ref L2)]))))
    refine ⟨_, dg, k L2 _ _ (s4.trans s5) (same_none s2 hL2) (s5 _ _ (by rw [upd_ne nD2]; exact upd_same)) (.cons h1 .nil)⟩
  | loop nm e1 e2 b =>
    rw [thingD] at dt
    obtain ⟨a, xs, rfl, hs, hd⟩ := dt.tup'
    obtain ⟨x0, r0, rfl, h0, hd⟩ := hd.c
    obtain ⟨x1, r1, rfl, h1, hd⟩ := hd.c
    obtain ⟨x2, r2, rfl, h2, hd⟩ := hd.c
    obtain ⟨x3, r3, rfl, h3, hd⟩ := hd.c
    obtain ⟨x4, r4, rfl, h4, hd⟩ := hd.c
    cases hd.n
    have hs := same_t sg hs
    cases h0.str'
    cases h1.str'
    refine ⟨_, rfl, a, _, _, _, rfl, rfl, hs, (rfl : atI [V.str "for", V.str nm, x2, x3, x4] 0 = some (V.str "for")), rfl, _, rfl, ?_⟩
    rw [dec_ff (by decide)]
    refine iteF ?_
    intro D hD
    have s1 := same_upd (o := .dK []) hD
    refine ⟨_, rfl, _, rfl, a, _, _, _, rfl, rfl, same_t s1 hs, (rfl : atI [V.str "for", V.str nm, x2, x3, x4] (-1) = some x4), by show 1 ≤ sizeLine; decide, fun L1 hL1 => ?_⟩
    have s2 := s1.trans (same_upd (o := .lst [x4]) hL1)
    refine ⟨_, rfl, _, rfl, a, _, _, _, rfl, rfl, same_t s2 hs, (rfl : atI [V.str "for", V.str nm, x2, x3, x4] (-1) = some x4), by show 1 ≤ sizeLine; decide, fun L2 hL2 => ?_⟩
    have s3 := s2.trans (same_upd (o := .lst [x4]) hL2)
    have eD : _ = some (HO.dK []) := (same_upd (o := .lst [x4]) hL2) _ _ ((same_upd (o := .lst [x4]) hL1) _ _ (upd_same (H := H) (a := D) (o := .dK [])))
    have nD1 : L1 ≠ D := fun z => by rw [z, upd_same] at hL1; cases hL1
    have nD2 : L2 ≠ D := fun z => by
      rw [z, upd_ne (Ne.symm nD1), upd_same] at hL2
      cases hL2
    refine ⟨eD, [(Sum.inr (Str.ofString "for"), .ref L1), (Sum.inr (Str.ofString "double"), .ref L2)], rfl, (by show 2 ≤ 15; decide), ?_⟩
    have s4 := same_put (o := .dK (mergeK [] [(Sum.inr (Str.ofString "for"), .ref L1), (Sum.inr (Str.ofString "double"), .ref L2)])) s3 hD
    refine ⟨D, rfl, .inl ⟨_, .inl upd_same⟩, ?_⟩
    refine ⟨_, rfl, a, _, _, _, rfl, rfl, same_t s4 hs, (rfl : atI [V.str "for", V.str nm, x2, x3, x4] 0 = some (V.str "for")), by show 0 ≤ sizeLine; decide, fun L3 hL3 => ?_⟩
    have s5 := same_upd (o := .lst []) hL3
    have dg := DGet.k (k := Sum.inr (Str.ofString "for")) (s5 _ _ (upd_same (a := D) (o := .dK (mergeK [] [(Sum.inr (Str.ofString "for"), V.ref L1), (Sum.inr (Str.ofString "double"), .ref L2)]))))
    refine ⟨_, dg, k L1 _ _ (s4.trans s5) (same_none s1 hL1) (s5 _ _ (by rw [upd_ne nD1]; exact (same_upd hL2) _ _ upd_same)) (.cons h4 .nil)⟩
  | test e1 e2 b1 b2 =>
    rw [thingD] at dt
    obtain ⟨a, xs, rfl, hs, hd⟩ := dt.tup'
    obtain ⟨x0, r0, rfl, h0, hd⟩ := hd.c
    obtain ⟨x1, r1, rfl, h1, hd⟩ := hd.c
    obtain ⟨x2, r2, rfl, h2, hd⟩ := hd.c
    obtain ⟨x3, r3, rfl, h3, hd⟩ := hd.c
    obtain ⟨x4, r4, rfl, h4, hd⟩ := hd.c
    cases hd.n
    have hs := same_t sg hs
    cases h0.str'
    refine ⟨_, rfl, a, _, _, _, rfl, rfl, hs, (rfl : atI [V.str "if", x1, x2, x3, x4] 0 = some (V.str "if")), rfl, _, rfl, ?_⟩
    rw [dec_tt]
    refine iteT ?_
    exact ⟨_, rfl, a, _, _, _, rfl, rfl, hs, (rfl : atI [V.str "if", x1, x2, x3, x4] 3 = some x3), _, rfl, a, _, _, _, rfl, rfl, hs, (rfl : atI [V.str "if", x1, x2, x3, x4] 4 = some x4), by show 2 ≤ sizeLine; decide, fun L hL => k L _ _ (same_upd hL) hL upd_same (.cons h3 (.cons h4 .nil))⟩
  | again n z =>
    rw [thingD] at dt
    obtain ⟨a, xs, rfl, hs, hd⟩ := dt.tup'
    obtain ⟨x0, r0, rfl, h0, hd⟩ := hd.c
    obtain ⟨x1, r1, rfl, h1, hd⟩ := hd.c
    obtain ⟨x2, r2, rfl, h2, hd⟩ := hd.c
    cases hd.n
    have hs := same_t sg hs
    cases h0.str'
    cases h2.str'
    cases h1.int'
    refine ⟨_, rfl, a, _, _, _, rfl, rfl, hs, (rfl : atI [V.str "again", V.int n, V.str z] 0 = some (V.str "again")), rfl, _, rfl, ?_⟩
    rw [dec_ff (by decide)]
    refine iteF ?_
    intro D hD
    have s1 := same_upd (o := .dK []) hD
    refine ⟨_, rfl, _, rfl, a, _, _, _, rfl, rfl, same_t s1 hs, (rfl : atI [V.str "again", V.int n, V.str z] (-1) = some (V.str z)), by show 1 ≤ sizeLine; decide, fun L1 hL1 => ?_⟩
    have s2 := s1.trans (same_upd (o := .lst [(V.str z)]) hL1)
    refine ⟨_, rfl, _, rfl, a, _, _, _, rfl, rfl, same_t s2 hs, (rfl : atI [V.str "again", V.int n, V.str z] (-1) = some (V.str z)), by show 1 ≤ sizeLine; decide, fun L2 hL2 => ?_⟩
    have s3 := s2.trans (same_upd (o := .lst [(V.str z)]) hL2)
    have eD : _ = some (HO.dK []) := (same_upd (o := .lst [(V.str z)]) hL2) _ _ ((same_upd (o := .lst [(V.str z)]) hL1) _ _ (upd_same (H := H) (a := D) (o := .dK [])))
    have nD1 : L1 ≠ D := fun z => by rw [z, upd_same] at hL1; cases hL1
    have nD2 : L2 ≠ D := fun z => by
      rw [z, upd_ne (Ne.symm nD1), upd_same] at hL2
      cases hL2
    refine ⟨eD, [(Sum.inr (Str.ofString "for"), .ref L1), (Sum.inr (Str.ofString "double"), .ref L2)], rfl, (by show 2 ≤ 15; decide), ?_⟩
    have s4 := same_put (o := .dK (mergeK [] [(Sum.inr (Str.ofString "for"), .ref L1), (Sum.inr (Str.ofString "double"), .ref L2)])) s3 hD
    refine ⟨D, rfl, .inl ⟨_, .inl upd_same⟩, ?_⟩
    refine ⟨_, rfl, a, _, _, _, rfl, rfl, same_t s4 hs, (rfl : atI [V.str "again", V.int n, V.str z] 0 = some (V.str "again")), by show 0 ≤ sizeLine; decide, fun L3 hL3 => ?_⟩
    have s5 := same_upd (o := .lst []) hL3
    have dg := DGet.k (k := Sum.inr (Str.ofString "again")) (s5 _ _ (upd_same (a := D) (o := .dK (mergeK [] [(Sum.inr (Str.ofString "for"), V.ref L1), (Sum.inr (Str.ofString "double"), .ref L2)]))))
    exact ⟨_, dg, k L3 _ _ (s4.trans s5) (same_none s4 hL3) upd_same .nil⟩
theorem law_every_step (T : Txt K mg) (f : Nat) (G_law_every : FnOk P w K mg base CX0 (f + 1) T.a_law_every T.d_law_every ["_law_plan"] (spEvery K f)) :
    FnOk P w K mg base CX0 (f + 2) T.a_law_every T.d_law_every ["_law_plan"] (spEvery K (f + 1)) := by
  refine T.F_law_every.ok sc_law_every (fun vs H Q E h => ?_) (fun cdv A outer s H vs Q E hr h => ?_)
  · obtain ⟨v, b, G, rfl, _⟩ := h
    rfl
  obtain ⟨v, b, G, rfl, sg, db, hf, hc, k⟩ := h
  refine ⟨_, (pss_cons (ps_set (i := 1) sc_law_every.nd rfl (Or.inl rfl) (pe_lst pa_nil))
      (pss_cons (ps_for PassesOwn.never rfl (pi_tup (pv 0)) (pg_name (i := 2) sc_law_every.nd rfl (Or.inl rfl)) (pss_cons (ps_expr (pe_bm PySem.F.plainAttrs_list PySem.F.slot_list_append PySem.F.type_list_append mt_append (pv 1) (pa_cons (pv 2) pa_nil)))
      (pss_one (ps_for PassesOwn.never rfl (pi_list (pe_call (ok_law_bodies T) (hr.mono (by omega)) (by rfl) T.g_law_bodies T.F_law_bodies.kp T.b_law_bodies .nil pass0 (pa_cons (pv 2) pa_nil))) (pg_name (i := 3) sc_law_every.nd rfl (Or.inl rfl)) (pss_one (ps_set (i := 1) sc_law_every.nd rfl (Or.inl rfl) (pe_op op_cat (pv 1) (pe_call G_law_every (hr.mono (by omega)) (by rfl) T.g_law_every T.F_law_every.kp T.b_law_every .nil pass0 (pa_cons (pv 3) pa_nil)))))))))
      (pss_one (ps_ret (pv 1))))), ?_⟩
  obtain ⟨a, us, rfl, hs, hd⟩ := db.tup'
  rw [thingsD_eq] at hd
  have lu : us.length = b.length := by
    have := hd.length
    rw [List.length_map] at this
    exact this
  have small : ∀ {vs : List V} {i j : Nat} {t : Thing}, t ∈ b → DpAll K G vs ((everyP b i t j).map thingD) → vs.length ≤ 62 := fun {vs i j t} ht hv => by
    have h1 := hv.length
    rw [List.length_map] at h1
    have h2 := everyP_len i j ht
    omega
  refine ⟨by show 0 ≤ sizeLine; decide, fun L hL => ?_⟩
  refine ⟨_, rfl, a, rfl, ⟨_, same_t (sg.trans (same_upd hL)) hs⟩, for_it (walk_tup (xs := us)) (fun i σ H' => Same H H' ∧ ∃ (L : Addr) (vs : List V), H L = none ∧ H' L = some (.lst vs) ∧ DpAll K G vs ((everyL (b.take i)).map thingD) ∧ ∃ v2 v3, σ = [some (.ref a), some (.ref L), v2, v3]) ⟨same_upd hL, L, [], hL, upd_same, by simp [everyL]; exact .nil, _, _, rfl⟩ (fun i σ H _ p => same_t (sg.trans p.1) hs) ?_ ?_⟩
  · rintro i x σ H5 H6 hi ⟨s6, L, vs, hL, eL, dvs, v2, v3, rfl⟩ ⟨rfl, hx⟩
    obtain ⟨t, ht, dt⟩ := DpAll.at_ hd hx
    have tm := List.mem_of_getElem? ht
    have lv := dvs.length
    have l1 := take_C b i
    rw [List.length_map, everyL_len] at lv
    refine ⟨_, rfl, .inl ⟨rfl, _, SqL.of eL⟩, _, rfl, L, _, _, rfl, rfl, eL, small1000 (by omega), ?_⟩
    have s7 := same_put (o := .lst (vs ++ [x])) s6 hL
    have d7 : DpAll K G (vs ++ [x]) ((everyP b i t 0).map thingD) := by
      rw [everyP_zero, List.map_append]
      exact DpAll.snoc dvs dt
    refine ⟨_, rfl, x, t, G, rfl, sg.trans s7, dt, fun p ws H8 s8 np ep dw => ?_⟩
    have nLp : L ≠ p := fun z => by rw [← z, upd_same] at np; cases np
    have lw : ws.length = (bodiesL t).length := by
      have := dw.length
      rw [List.length_map] at this
      exact this
    have hp : H p = none := same_none s7 np
    refine ⟨p, rfl, ⟨_, SqL.of ep⟩, for_it (walk_list (xs := ws)) (fun j σ H' => Same H H' ∧ H' p = some (.lst ws) ∧ ∃ (L : Addr) (vs : List V), H L = none ∧ H' L = some (.lst vs) ∧ DpAll K G vs ((everyP b i t j).map thingD) ∧ ∃ v3, σ = [some (.ref a), some (.ref L), some x, v3]) ⟨s7.trans s8, ep, L, _, hL, s8 _ _ upd_same, d7, _, rfl⟩ (fun j σ H _ p => SqL.of p.2.1) ?_ ?_⟩
    · rintro j y σ H9 H10 hj ⟨s10, ep10, L, vs10, hL, eL10, d10, v3, rfl⟩ ⟨rfl, hy⟩
      obtain ⟨c, hcj, dc⟩ := DpAll.at_ dw hy
      have clt := bodies_lt (List.mem_of_getElem? hcj)
      have tle := thingC_mem tm
      refine ⟨_, rfl, _, rfl, y, c, G, rfl, sg.trans s10, dc, by omega, by omega, fun p3 us3 H11 s11 n3 e3 d3 => ?_⟩
      have eL11 := s11 _ _ eL10
      have l3 := d3.length
      rw [List.length_map, everyL_len] at l3
      have l10 := small tm d10
      try unfold tNil
      refine ⟨L, p3, _, _, rfl, rfl, eL11, e3, Nat.le_trans (m := 1000) (by omega) (by decide), fun p4 h4 => ?_⟩
      have s12 := s10.trans s11
      refine ⟨s12.trans (same_upd h4), by rw [upd_ne (fun z => by rw [← z, s11 _ _ ep10] at h4; cases h4)]; exact s11 _ _ ep10, p4, _, same_none s12 h4, upd_same, ?_, _, rfl⟩
      rw [everyP_succ hcj, List.map_append]
      exact DpAll_app d10 d3
    · rintro σ H9 ⟨s9, ep9, L, vs9, hL, eL9, d9, v3, rfl⟩
      have e : everyP b i t ws.length = everyL (b.take (i + 1)) := by
        rw [lw]
        exact everyP_end ht
      rw [e] at d9
      exact ⟨s9, L, vs9, hL, eL9, d9, _, _, rfl⟩
  · rintro σ H5 ⟨s5, L, vs, hL, eL, dvs, v2, v3, rfl⟩
    have e : b.take us.length = b := by rw [lu, List.take_length]
    rw [e] at dvs
    exact ⟨_, rfl, k L vs _ s5 hL eL dvs⟩
theorem law_every_all (T : Txt K mg) : ∀ f : Nat, FnOk P w K mg base CX0 (f + 1) T.a_law_every T.d_law_every ["_law_plan"] (spEvery K f)
  | 0 => by
    have no : ∀ vs H Q E, ¬ spEvery K 0 vs H Q E := fun vs H Q E h => by
      obtain ⟨v, b, G, _, _, _, h1, _⟩ := h
      omega
    exact ⟨fun vs H Q E h => absurd h (no vs H Q E), fun A outer s H args us vs Q E _ _ _ _ h => absurd h (no vs H Q E)⟩
  | f + 1 => law_every_step T f (law_every_all T f)
theorem ok_law_every (T : Txt K mg) : FnOk P w K mg base CX0 16 T.a_law_every T.d_law_every ["_law_plan"] (spEvery K 15) := law_every_all T 15
theorem law_figured_step (T : Txt K mg) (f : Nat) (G_law_figured : FnOk P w K mg base CX0 (f + 18) T.a_law_figured T.d_law_figured ["_law_plan", "_law_plans"] (fun vs H Q E => ∃ g, f = g + 1 ∧ spFig K g vs H Q E)) :
    FnOk P w K mg base CX0 (f + 19) T.a_law_figured T.d_law_figured ["_law_plan", "_law_plans"] (spFig K f) := by
  refine T.F_law_figured.ok sc_law_figured (fun vs H Q E h => ?_) (fun cdv A outer s H vs Q E hr h => ?_)
  · obtain ⟨v, dk, b, ps, i, G, rfl, _⟩ := h
    rfl
  obtain ⟨v, dk, b, ps, i, G, rfl, ask, hi, k⟩ := h
  refine ⟨_, (pss_cons (ps_for PassesOwn.never rfl (pi_list (pe_call (ok_law_every T) (hr.mono (by omega)) (by rfl) T.g_law_every T.F_law_every.kp T.b_law_every .nil pass0 (pa_cons (pv 0) pa_nil))) (pg_name (i := 2) sc_law_figured.nd rfl (Or.inl rfl)) (pss_cons (ps_if (pt_cmpR op_eq (pe_ix ix_tup (pv 2) pe_int (fun _ _ => rfl)) pe_str (nomark _)) (pss_one (ps_ret pe_bl)) pss_nil)
      (pss_one (ps_if (PW.pt (pw_and (pt_cmpR op_eq (pe_ix ix_tup (pv 2) pe_int (fun _ _ => rfl)) pe_str (nomark _)) (pw_and (pt_cmpR (op_eqD hr.units) (pe_ix ix_tup (pv 2) pe_int (fun _ _ => rfl)) (pe_tup (pa_cons pe_str (pa_cons pe_int pa_nil))) (nomark _)) (pw_and1 (pt_val (pe_call G_law_figured (hr.mono (by omega)) (by rfl) T.g_law_figured T.F_law_figured.kp T.b_law_figured .nil pass0 (pa_cons (pe_dget (hu_of hr) (pv 1) (pe_ix ix_tup (pv 2) pe_int (fun _ _ => rfl)) (fun _ _ => rfl)) (pa_cons (pv 1) pa_nil)))))))) (pss_one (ps_ret pe_bl)) pss_nil))))
      (pss_one (ps_ret pe_bl))), ?_⟩
  refine ⟨_, rfl, v, b, G, rfl, ask.sg, ask.db, by have := ask.size; omega, by have := ask.size; omega, fun p us H2 s2 np ep du => ?_⟩
  refine ⟨p, rfl, ⟨_, SqL.of ep⟩, for_it (walk_list (xs := us)) (fun i σ H' => Same H2 H' ∧ ∃ v2, σ = [some v, some (.ref dk), v2]) ⟨Same.refl _, _, rfl⟩ (fun i σ H _ p => SqL.of (p.1 _ _ ep)) ?_ ?_⟩
  · rintro i x σ H5 H6 hj ⟨s6, v2, rfl⟩ ⟨rfl, hx⟩
    obtain ⟨t, ht, dt⟩ := DpAll.at_ du hx
    have s06 := s2.trans s6
    have sg6 := ask.sg.trans s06
    obtain ⟨a, r, rfl, hs⟩ := thing_head dt
    have hs := same_t sg6 hs
    refine ⟨_, rfl, a, _, _, _, rfl, rfl, hs, atI_nat (j := 0) rfl, rfl, _, rfl, ?_⟩
    refine ite2 (fun c1 => k true _ s06) (fun c1 => ?_)
    by_cases hcall : ∃ nm e, t = .call nm e
    · obtain ⟨nm, e, rfl⟩ := hcall
      obtain ⟨a', y, ea, h3, dy⟩ := thing_call dt
      cases ea
      have h3 := same_t sg6 h3
      refine ⟨_, rfl, a, _, _, _, rfl, rfl, h3, (rfl : atI [V.str "call", .str nm, y] 0 = some (.str "call")), rfl, _, rfl, ?_⟩
      rw [dec_tt]
      refine iteT ?_
      refine ⟨_, rfl, a, _, _, _, rfl, rfl, h3, (rfl : atI [V.str "call", .str nm, y] 2 = some y), by show 2 ≤ sizeLine; decide, fun p2 hp2 => ?_⟩
      have s7 := same_upd (o := .tup [.str "n", .int 0]) hp2
      have mem := List.mem_of_getElem? ht
      have es : EnS e := by
        have z := bdS_every ask.bds mem
        rw [ThS] at z
        exact z.2
      refine ⟨endD e, endD ("n", 0), dy.mono (sg6.trans s7), .tup (SqT.of upd_same) (.cons (.str _) (.cons (.int _) .nil)), shaped_end es, shaped_end ⟨nmS_n, by decide⟩, _, rfl, ?_⟩
      refine ite2 (fun c2 => ?_) (fun c2 => ?_)
      · have s07 := s06.trans s7
        obtain ⟨u, j, g1, g2, ask2⟩ := (ask.mono s07).callee (wkB_calls ask.wk mem)
        refine ⟨_, rfl, _, rfl, a, _, _, _, rfl, rfl, same_t s7 h3, (rfl : atI [V.str "call", .str nm, y] 1 = some (.str nm)), dk, _, rfl, g1, _, rfl, f - 1, by omega, u, dk, planOf ps nm, ps, j, G, rfl, ask2, by omega, fun x H8 s8 => ?_⟩
        refine ⟨_, rfl, ?_⟩
        cases x with
        | true => exact k true _ (s07.trans s8)
        | false => exact ⟨s6.trans (s7.trans s8), _, rfl⟩
      · exact iteF ⟨s6.trans s7, _, rfl⟩
    · obtain ⟨w1, w2⟩ := word_no_call (t := t) (fun nm e q => hcall ⟨nm, e, q⟩)
      refine ⟨_, rfl, a, _, _, _, rfl, rfl, hs, atI_nat (j := 0) rfl, rfl, _, rfl, ?_⟩
      rw [dec_ff w1]
      exact iteF (iteF ⟨s6, _, rfl⟩)
  · rintro σ H5 ⟨s5, v2, rfl⟩
    exact k false _ (s2.trans s5)
theorem law_figured_all (T : Txt K mg) : ∀ f : Nat, FnOk P w K mg base CX0 (f + 19) T.a_law_figured T.d_law_figured ["_law_plan", "_law_plans"] (spFig K f)
  | 0 => law_figured_step T 0 ⟨fun vs H Q E h => by obtain ⟨g, h, _⟩ := h; omega, fun A outer s H args us vs Q E _ _ _ _ h => by obtain ⟨g, h, _⟩ := h; omega⟩
  | f + 1 => law_figured_step T (f + 1) ((law_figured_all T f).imp fun vs H Q E h => by obtain ⟨g, e, h⟩ := h; cases e; exact h)
theorem ok_law_figured (T : Txt K mg) : FnOk P w K mg base CX0 24 T.a_law_figured T.d_law_figured ["_law_plan", "_law_plans"] (spFig K 5) := law_figured_all T 5
theorem law_weight_in_step (T : Txt K mg) (f : Nat) (G_law_weight_in : FnOk P w K mg base CX0 (f + 20) T.a_law_weight_in T.d_law_weight_in ["_law_plan", "_law_plans"] (spWeightIn K f)) (G_law_weight : FnOk P w K mg base CX0 (f + 20) T.a_law_weight T.d_law_weight ["_law_plan", "_law_plans"] (spWeight K f)) :
    FnOk P w K mg base CX0 (f + 21) T.a_law_weight_in T.d_law_weight_in ["_law_plan", "_law_plans"] (spWeightIn K (f + 1)) := by
  refine T.F_law_weight_in.ok sc_law_weight_in (fun vs H Q E h => ?_) (fun cdv A outer s H vs Q E hr h => ?_)
  · obtain ⟨v, dk, b, ps, i, deep, sc, G, rfl, _⟩ := h
    rfl
  obtain ⟨v, dk, b, ps, i, deep, sc, G, rfl, sg, db, pl, ok, wk, sz, hd, hf, k⟩ := h
  refine ⟨_, (pss_cons (ps_set (i := 2) sc_law_weight_in.nd rfl (Or.inl rfl) pe_int)
      (pss_cons (ps_for PassesOwn.never rfl (pi_tup (pv 0)) (pg_name (i := 3) sc_law_weight_in.nd rfl (Or.inl rfl)) (pss_cons (ps_setLc (i := 4) (own := [("_law_body", 5)]) (g := gName 5) (tt := tYes) rfl sc_law_weight_in.nd rfl rfl (sw_true rfl rfl rfl (by decide +kernel)) (pi_list (pe_call (ok_law_bodies T) (hr.mono (by omega)) (by rfl) T.g_law_bodies T.F_law_bodies.kp T.b_law_bodies .nil pass0 (pa_cons (pv 3) pa_nil))) (blkOk_by (N := N_law_weight_in) (sc := defScope s_law_weight_in) (by decide +kernel)) (fun _ _ _ _ _ => (pg_name (i := 5) sc_law_weight_in.nd rfl (Or.inl rfl))) (fun _ _ _ _ _ => pts_nil) (fun _ _ _ _ _ => (pe_call G_law_weight_in (hr.mono (by omega)) (by rfl) T.g_law_weight_in T.F_law_weight_in.kp T.b_law_weight_in .nil pass0 (pa_cons (pv 5) (pa_cons (pv 1) pa_nil)))))
      (pss_cons (ps_set (i := 4) sc_law_weight_in.nd rfl (Or.inl rfl) (pe_op op_add (pe_callB (cr_max rfl) (by rfl) T.z_max (by decide +kernel) (pa_cons (pe_op op_cat (pe_lst (pa_cons pe_int pa_nil)) (pv 4)) pa_nil)) (pe_callTy call_int1 (by rfl) T.z_int (by decide +kernel) (pa_cons (pe_cmpR op_in_seq (pe_ix ix_tup (pv 3) pe_int (fun _ _ => rfl)) (pe_lst (pa_cons pe_str (pa_cons pe_str pa_nil))) (by rfl)) pa_nil))))
      (pss_cons (ps_if (pt_cmpR op_eq (pe_ix ix_tup (pv 3) pe_int (fun _ _ => rfl)) pe_str (nomark _)) (pss_one (ps_set (i := 4) sc_law_weight_in.nd rfl (Or.inl rfl) (pe_call G_law_weight (hr.mono (by omega)) (by rfl) T.g_law_weight T.F_law_weight.kp T.b_law_weight .nil pass0 (pa_cons (pe_dget (hu_of hr) (pv 1) (pe_ix ix_tup (pv 3) pe_int (fun _ _ => rfl)) (fun _ _ => rfl)) (pa_cons (pv 1) pa_nil))))) pss_nil)
      (pss_one (ps_set (i := 2) sc_law_weight_in.nd rfl (Or.inl rfl) (pe_callB (call_max2 rfl) (by rfl) T.z_max (by decide +kernel) (pa_cons (pv 2) (pa_cons (pv 4) pa_nil)))))))))
      (pss_one (ps_ret (pv 2))))), ?_⟩
  obtain ⟨a, us, rfl, hs, hu⟩ := db.tup'
  rw [thingsD_eq] at hu
  have lu : us.length = b.length := by
    have := hu.length
    rw [List.length_map] at this
    exact this
  refine ⟨_, rfl, a, rfl, ⟨_, same_t sg hs⟩, for_it (walk_tup (xs := us)) (fun j σ H' => Same H H' ∧ ∃ (x : Int) (v3 v4 v5 : Option V), σ = [some (.ref a), some (.ref dk), some (.int x), v3, v4, v5]) ⟨Same.refl _, _, _, _, _, rfl⟩ (fun i σ H _ p => same_t (sg.trans p.1) hs) ?_ ?_⟩
  · rintro j y σ H1 H2 hj ⟨s2, x, v3, v4, v5, rfl⟩ ⟨rfl, hy⟩
    obtain ⟨t, ht, dt⟩ := DpAll.at_ hu hy
    obtain ⟨c, r, rfl, hc⟩ := thing_head dt
    have wt := wk.mem (List.mem_of_getElem? ht)
    have ct := thingC_mem (List.mem_of_getElem? ht)
    refine ⟨_, rfl, _, t, G, rfl, sg.trans s2, dt, fun p ws H3 s3 np ep dw => ?_⟩
    have s03 := s2.trans s3
    have lw' : ws.length = (bodiesL t).length := by
      have := dw.length
      rw [List.length_map] at this
      exact this
    have lw2 : ws.length ≤ 2 := by
      rw [lw']
      cases t <;> simp [bodiesL]
    refine ⟨p, rfl, ⟨_, SqL.of ep⟩, fun R hR => ?_⟩
    have npR : p ≠ R := fun z => by rw [← z, ep] at hR; cases hR
    have hRH : H R = none := same_none s03 hR
    refine lc_it (walk_list (xs := ws)) (fun i H' => Same H H' ∧ H' p = some (.lst ws) ∧ ∃ ns : List Int, ns.length = i ∧ H' R = some (.lst (ns.map V.int))) ⟨s03.trans (same_upd hR), (same_upd hR) _ _ ep, [], rfl, upd_same⟩ (fun i H' _ p => SqL.of p.2.1) ?_ ?_
    · rintro j2 y2 H5 H6 hj2 ⟨s6, ep6, ns, ln, eR⟩ ⟨rfl, hy2⟩
      refine ⟨rfl, ?_⟩
      obtain ⟨c2, hc2, dc2⟩ := DpAll.at_ dw hy2
      obtain ⟨dle, sc', wk'⟩ := wk_bodies wt (List.mem_of_getElem? hc2)
      have clt := bodies_lt (List.mem_of_getElem? hc2)
      refine ⟨_, rfl, _, rfl, y2, dk, c2, ps, i, deep + 1, sc', G, rfl, sg.trans s6, dc2, pl.mono (Same.refl _) s6, ok, wk', by omega, by omega, by omega, fun x8 H8 s8 => ?_⟩
      have s68 := s6.trans s8
      refine ⟨_, s8 _ _ eR, small1000 (by rw [List.length_map]; omega), same_put s68 hRH, ?_, ns ++ [x8], by rw [List.length_append, ln]; rfl, by rw [upd_same, List.map_append]; rfl⟩
      rw [upd_ne npR]
      exact s8 _ _ ep6
    rintro H5 ⟨s5, ep5, ns, ln, eR⟩
    have ln : ns.length = ws.length := ln
    refine ⟨by show 1 ≤ sizeLine; decide, fun Z hZ => ?_⟩
    have sZ := s5.trans (same_upd (o := .lst [.int 0]) hZ)
    refine ⟨_, rfl, Z, R, _, _, rfl, rfl, upd_same, (same_upd hZ) _ _ eR, Nat.le_trans (m := 1000) (by rw [List.length_map]; show 1 + _ ≤ _; omega) (by decide), fun p4 h4 => ?_⟩
    have s4 := sZ.trans (same_upd (o := .lst ([.int 0] ++ ns.map V.int)) h4)
    try unfold tNil
    refine ⟨p4, 0 :: ns, rfl, SqL.of upd_same, by simp, fun m hm hle => ?_⟩
    have hc4 := same_t (sg.trans s4) hc
    refine ⟨_, rfl, c, _, _, _, rfl, rfl, hc4, atI_nat (j := 0) rfl, by show 2 ≤ sizeLine; decide, fun W hW => ?_⟩
    have sW := s4.trans (same_upd (o := .lst [.str "for", .str "double"]) hW)
    refine ⟨W, _, rfl, .inl (SqL.of upd_same), rfl, flat_strs [Str.ofString "for", Str.ofString "double"], .inr ⟨_, rfl, _, _, rfl, rfl, ?_⟩⟩
    have hcW := same_t (sg.trans sW) hc
    by_cases hcall : ∃ nm e, t = .call nm e
    · obtain ⟨nm, e, rfl⟩ := hcall
      obtain ⟨c', y', ec, h3, dy⟩ := thing_call dt
      cases ec
      have h3 := same_t (sg.trans sW) h3
      rw [WkT] at wt
      refine ⟨_, rfl, c, _, _, _, rfl, rfl, h3, (rfl : atI [V.str "call", .str nm, y'] 0 = some (.str "call")), rfl, _, rfl, ?_⟩
      rw [dec_tt]
      refine iteT ?_
      obtain ⟨u, dg, du⟩ := (pl.mono (Same.refl _) sW).get (mem_take wt.1)
      obtain ⟨j', b', q1, q2, q3, q4, q5⟩ := pls_find ok wt.1
      rw [q3] at du
      have ask2 : AskAt K G _ u dk b' ps j' := ⟨sg.trans sW, du, pl.mono (Same.refl _) sW, ok, q4.wk, q4.bds, q4.size⟩
      refine ⟨_, rfl, _, rfl, c, _, _, _, rfl, rfl, h3, (rfl : atI [V.str "call", .str nm, y'] 1 = some (.str nm)), dk, _, rfl, dg, _, rfl, u, dk, b', ps, j', G, rfl, ask2, by omega, fun x8 H8 s8 => ?_⟩
      refine ⟨_, rfl, _, rfl, _, _, rfl, ?_⟩
      exact ⟨sW.trans s8, _, _, _, _, rfl⟩
    · obtain ⟨w1, w2⟩ := word_no_call (t := t) (fun nm e q => hcall ⟨nm, e, q⟩)
      refine ⟨_, rfl, c, _, _, _, rfl, rfl, hcW, atI_nat (j := 0) rfl, rfl, _, rfl, ?_⟩
      rw [dec_ff w1]
      refine iteF ?_
      refine ⟨_, rfl, _, rfl, _, _, rfl, ?_⟩
      exact ⟨sW, _, _, _, _, rfl⟩
  · rintro σ H1 ⟨s1, x, v3, v4, v5, rfl⟩
    exact ⟨_, rfl, k _ _ s1⟩
theorem law_weight_step (T : Txt K mg) (f : Nat) (G_law_weight_in : FnOk P w K mg base CX0 (f + 20) T.a_law_weight_in T.d_law_weight_in ["_law_plan", "_law_plans"] (spWeightIn K f)) :
    FnOk P w K mg base CX0 (f + 21) T.a_law_weight T.d_law_weight ["_law_plan", "_law_plans"] (spWeight K (f + 1)) := by
  refine T.F_law_weight.ok sc_law_weight (fun vs H Q E h => ?_) (fun cdv A outer s H vs Q E hr h => ?_)
  · obtain ⟨v, dk, b, ps, i, G, rfl, _⟩ := h
    rfl
  obtain ⟨v, dk, b, ps, i, G, rfl, ask, hf, k⟩ := h
  refine ⟨_, (pss_cons (ps_set (i := 2) sc_law_weight.nd rfl (Or.inl rfl) (pe_call (ok_law_way T) (hr.mono (by omega)) (by rfl) T.g_law_way T.F_law_way.kp T.b_law_way .nil pass0 (pa_cons (pv 0) pa_nil)))
      (pss_one (ps_ret (pe_op op_add (pe_call G_law_weight_in (hr.mono (by omega)) (by rfl) T.g_law_weight_in T.F_law_weight_in.kp T.b_law_weight_in .nil pass0 (pa_cons (pv 0) (pa_cons (pv 1) pa_nil))) (pe_callTy call_int1 (by rfl) T.z_int (by decide +kernel) (pa_cons (pe_and (pe_cmpR op_notN (pv 2) pe_non (nomark _)) (pe_one (pe_cmpR op_eq (pe_ix ix_tup (pv 2) pe_int (fun _ _ => rfl)) pe_str (nomark _)))) pa_nil)))))), ?_⟩
  have lb := thingsC_len b
  have sz := ask.size
  refine ⟨_, rfl, v, b, G, rfl, ask.sg, ask.db, wkB_ag ask.wk, by omega, fun u H1 s1 hu => ?_⟩
  have ask1 := ask.mono s1
  refine ⟨_, rfl, _, rfl, v, dk, b, ps, i, 0, _, G, rfl, ask1.sg, ask1.db, ask1.pls, ask1.ok, ask1.wk, ask1.size, by omega, by omega, fun x H2 s2 => ?_⟩
  have s02 := s1.trans s2
  cases e : wayP b with
  | none =>
    rw [e] at hu
    cases (show u = .non from hu)
    exact ⟨_, rfl, rfl, _, rfl, iteF (.inr ⟨_, rfl, _, _, rfl, rfl, k _ _ s02⟩)⟩
  | some p =>
    rw [e] at hu
    obtain ⟨a, rfl, hs⟩ := again_at hu
    have hs := same_t (ask.sg.trans s02) hs
    exact ⟨_, rfl, rfl, _, rfl, iteT ⟨_, rfl, a, _, _, _, rfl, rfl, hs, (rfl : atI [V.str "again", .int p.1, .str p.2] 2 = some (.str p.2)), rfl, .inr ⟨_, rfl, _, _, rfl, rfl, k _ _ s02⟩⟩⟩
theorem law_weight_all (T : Txt K mg) : ∀ f : Nat, FnOk P w K mg base CX0 (f + 20) T.a_law_weight_in T.d_law_weight_in ["_law_plan", "_law_plans"] (spWeightIn K f) ∧ FnOk P w K mg base CX0 (f + 20) T.a_law_weight T.d_law_weight ["_law_plan", "_law_plans"] (spWeight K f)
  | 0 => by
    have n1 : ∀ vs H Q E, ¬ spWeightIn K 0 vs H Q E := fun vs H Q E h => by
      obtain ⟨v, dk, b, ps, i, deep, sc, G, _, _, _, _, _, _, _, h1, h2, _⟩ := h
      omega
    have n2 : ∀ vs H Q E, ¬ spWeight K 0 vs H Q E := fun vs H Q E h => by
      obtain ⟨v, dk, b, ps, i, G, _, _, h2, _⟩ := h
      omega
    exact ⟨⟨fun vs H Q E h => absurd h (n1 vs H Q E), fun A outer s H args us vs Q E _ _ _ _ h => absurd h (n1 vs H Q E)⟩, ⟨fun vs H Q E h => absurd h (n2 vs H Q E), fun A outer s H args us vs Q E _ _ _ _ h => absurd h (n2 vs H Q E)⟩⟩
  | f + 1 => ⟨law_weight_in_step T f (law_weight_all T f).1 (law_weight_all T f).2, law_weight_step T f (law_weight_all T f).1⟩
theorem ok_law_weight (T : Txt K mg) : FnOk P w K mg base CX0 50 T.a_law_weight T.d_law_weight ["_law_plan", "_law_plans"] (spWeight K 30) := (law_weight_all T 30).2
theorem ok_law_calls (T : Txt K mg) : FnOk P w K mg base CX0 17 T.a_law_calls T.d_law_calls ["_law_plan"] (spCalls K) := by
  refine T.F_law_calls.ok sc_law_calls (fun vs H Q E h => ?_) (fun cdv A outer s H vs Q E hr h => ?_)
  · obtain ⟨v, b, G, rfl, _⟩ := h
    rfl
  obtain ⟨v, b, G, rfl, sg, db, hc, k⟩ := h
  refine ⟨_, (pss_cons (ps_set (i := 1) sc_law_calls.nd rfl (Or.inl rfl) (pe_lst pa_nil))
      (pss_cons (ps_for PassesOwn.never rfl (pi_list (pe_call (ok_law_every T) (hr.mono (by decide)) (by rfl) T.g_law_every T.F_law_every.kp T.b_law_every .nil pass0 (pa_cons (pv 0) pa_nil))) (pg_name (i := 2) sc_law_calls.nd rfl (Or.inl rfl)) (pss_one (ps_if (PW.pt (pw_and (pt_cmpR op_eq (pe_ix ix_tup (pv 2) pe_int (fun _ _ => rfl)) pe_str (nomark _)) (pw_and1 (pt_cmpR op_notIn_seq (pe_ix ix_tup (pv 2) pe_int (fun _ _ => rfl)) (pv 1) (by rfl))))) (pss_one (ps_expr (pe_bm PySem.F.plainAttrs_list PySem.F.slot_list_append PySem.F.type_list_append mt_append (pv 1) (pa_cons (pe_ix ix_tup (pv 2) pe_int (fun _ _ => rfl)) pa_nil)))) pss_nil)))
      (pss_one (ps_ret (pv 1))))), ?_⟩
  refine ⟨by show 0 ≤ sizeLine; decide, fun L hL => ?_⟩
  have s1 := same_upd (o := .lst []) hL
  refine ⟨_, rfl, v, b, G, rfl, sg.trans s1, db, hc, by omega, fun p us H2 s2 np ep du => ?_⟩
  have nLp : L ≠ p := fun z => by rw [← z, upd_same] at np; cases np
  have lu : us.length = (everyL b).length := by
    have := du.length
    rw [List.length_map] at this
    exact this
  have le : (everyL b).length < 15 := by rw [everyL_len]; exact hc
  refine ⟨p, rfl, ⟨_, SqL.of ep⟩, for_it (walk_list (xs := us)) (fun i σ H' => Same H H' ∧ H' p = some (.lst us) ∧ H' L = some (.lst ((((everyL b).take i).foldl callStep []).map V.str)) ∧ ∃ v2, σ = [some v, some (.ref L), v2]) ⟨s1.trans s2, ep, s2 _ _ upd_same, _, rfl⟩ (fun i σ H _ p => SqL.of p.2.1) ?_ ?_⟩
  · rintro i x σ H5 H6 hi ⟨s6, ep6, eL, v2, rfl⟩ ⟨rfl, hx⟩
    obtain ⟨t, ht, dt⟩ := DpAll.at_ du hx
    rw [take_snoc ht, List.foldl_append]
    show _
    have len : ((((everyL b).take i).foldl callStep []).map V.str).length ≤ 1000 := by
      have := calls_len ((everyL b).take i) []
      rw [List.length_map]
      rw [List.length_take] at this
      simp at this
      omega
    generalize ((everyL b).take i).foldl callStep [] = acc at eL len ⊢
    show _
    by_cases hcall : ∃ nm e, t = .call nm e
    · obtain ⟨nm, e, rfl⟩ := hcall
      obtain ⟨a, y, rfl, hs, _⟩ := thing_call dt
      have hs := same_t (sg.trans s6) hs
      refine ⟨_, rfl, a, _, _, _, rfl, rfl, hs, (rfl : atI [V.str "call", .str nm, y] 0 = some (.str "call")), rfl, _, rfl, ?_⟩
      rw [dec_tt]
      refine iteT ?_
      refine ⟨_, rfl, a, _, _, _, rfl, rfl, hs, (rfl : atI [V.str "call", .str nm, y] 1 = some (.str nm)), _, rfl, L, _, rfl, .inl (SqL.of eL), rfl, flat_strs _, _, rfl, ?_⟩
      rw [show (if true = true then !inV (V.str nm) (acc.map V.str) else inV (V.str nm) (acc.map V.str)) = !decide (nm ∈ acc) by rw [if_pos rfl, inV_strs]]
      refine ite2 (fun c => ?_) (fun c => ?_)
      · have c' : ¬ nm ∈ acc := by simpa using c
        refine ⟨_, rfl, .inl ⟨rfl, _, SqL.of eL⟩, _, rfl, a, _, _, _, rfl, rfl, hs, (rfl : atI [V.str "call", .str nm, y] 1 = some (.str nm)), L, _, _, rfl, rfl, eL, small1000 len, ?_⟩
        refine ⟨same_put s6 hL, by rw [upd_ne (Ne.symm nLp)]; exact ep6, ?_, _, rfl⟩
        rw [upd_same]
        show _ = some (HO.lst ((callStep acc (.call nm e)).map V.str))
        simp only [callStep]
        rw [if_neg c', List.map_append]
        rfl
      · have c' : nm ∈ acc := by simpa using c
        refine ⟨s6, ep6, ?_, _, rfl⟩
        rw [eL]
        show _ = some (HO.lst ((callStep acc (.call nm e)).map V.str))
        simp only [callStep]
        rw [if_pos c']
    · obtain ⟨w1, w2⟩ := word_no_call (t := t) (fun nm e q => hcall ⟨nm, e, q⟩)
      obtain ⟨a, r, rfl, hs⟩ := thing_head dt
      have hs := same_t (sg.trans s6) hs
      refine ⟨_, rfl, a, _, _, _, rfl, rfl, hs, atI_nat (j := 0) rfl, rfl, _, rfl, ?_⟩
      rw [dec_ff w1]
      refine iteF (iteF ⟨s6, ep6, ?_, _, rfl⟩)
      rw [eL]
      show _ = some (HO.lst ((callStep acc t).map V.str))
      rw [w2]
  · rintro σ H5 ⟨s5, ep5, eL, v2, rfl⟩
    have e : (everyL b).take us.length = everyL b := by rw [lu, List.take_length]
    rw [e] at eL
    exact ⟨_, rfl, k L _ s5 hL eL⟩
theorem law_chain_step (T : Txt K mg) (f : Nat) (G_law_chain : FnOk P w K mg base CX0 (f + 19) T.a_law_chain T.d_law_chain ["_law_plan", "_law_plans"] (fun vs H Q E => ∃ g, f = g + 1 ∧ spChain K g vs H Q E)) :
    FnOk P w K mg base CX0 (f + 20) T.a_law_chain T.d_law_chain ["_law_plan", "_law_plans"] (spChain K f) := by
  refine T.F_law_chain.ok sc_law_chain (fun vs H Q E h => ?_) (fun cdv A outer s H vs Q E hr h => ?_)
  · obtain ⟨v, dk, b, ps, i, G, rfl, _⟩ := h
    rfl
  obtain ⟨v, dk, b, ps, i, G, rfl, ask, hi, k⟩ := h
  refine ⟨_, (pss_one (ps_ret (pe_op op_add pe_int (pe_callB (cr_max rfl) (by rfl) T.z_max (by decide +kernel) (pa_cons (pe_op op_cat (pe_lst (pa_cons pe_int pa_nil)) (pe_lc (own := [("_law_name", 2)]) (g := gName 2) (tt := tYes) rfl sc_law_chain.nd (pi_list (pe_call (ok_law_calls T) (hr.mono (by omega)) (by rfl) T.g_law_calls T.F_law_calls.kp T.b_law_calls .nil pass0 (pa_cons (pv 0) pa_nil))) (blkOk_by (N := N_law_chain) (sc := defScope s_law_chain) (by decide +kernel)) (fun _ _ _ _ _ => (pg_name (i := 2) sc_law_chain.nd rfl (Or.inl rfl))) (fun _ _ _ _ _ => pts_nil) (fun _ _ _ _ _ => (pe_call G_law_chain (hr.mono (by omega)) (by rfl) T.g_law_chain T.F_law_chain.kp T.b_law_chain .nil pass0 (pa_cons (pe_dget (hu_of hr) (pv 1) (pv 2) (fun _ _ => rfl)) (pa_cons (pv 1) pa_nil)))))) pa_nil))))), ?_⟩
  refine ⟨by show 1 ≤ sizeLine; decide, fun Z hZ => ?_⟩
  have s1 := same_upd (o := .lst [.int 0]) hZ
  refine ⟨_, rfl, v, b, G, rfl, ask.sg.trans s1, ask.db, by have := ask.size; omega, fun p H2 s2 np ep => ?_⟩
  refine ⟨p, rfl, ⟨_, SqL.of ep⟩, fun R hR => ?_⟩
  have s3 := s1.trans (s2.trans (same_upd (o := .lst []) hR))
  have clen := calls_len (everyL b) []
  rw [everyL_len] at clen
  have clen2 : (callsL b).length ≤ 13 := by
    have := ask.size
    unfold callsL
    simp at clen
    omega
  have npR : p ≠ R := fun z => by rw [← z, ep] at hR; cases hR
  have nZR : Z ≠ R := fun z => by rw [← z, s2 _ _ upd_same] at hR; cases hR
  have hRH : H R = none := same_none (s1.trans s2) hR
  refine lc_it (walk_list (xs := (callsL b).map V.str)) (fun i H' => Same H H' ∧ H' p = some (.lst ((callsL b).map V.str)) ∧ H' Z = some (.lst [.int 0]) ∧ ∃ ns : List Int, ns.length = i ∧ H' R = some (.lst (ns.map V.int))) ⟨s3, (same_upd hR) _ _ ep, (same_upd hR) _ _ (s2 _ _ upd_same), [], rfl, upd_same⟩ (fun i H' _ p => SqL.of p.2.1) ?_ ?_
  · rintro j x H5 H6 hj ⟨s6, ep6, eZ, ns, ln, eR⟩ ⟨rfl, hx⟩
    have hj : j < ((callsL b).map V.str).length := hj
    rw [List.length_map] at hj
    refine ⟨rfl, ?_⟩
    rw [List.getElem?_map] at hx
    obtain ⟨nm, hnm, rfl⟩ : ∃ nm, (callsL b)[j]? = some nm ∧ .str nm = x := by
      cases e : (callsL b)[j]? with
      | none => rw [e] at hx; cases hx
      | some nm => rw [e] at hx; exact ⟨nm, rfl, Option.some.inj hx⟩
    have mem : nm ∈ (ps.take i).map (·.1) := by
      rcases mem_calls (everyL b) [] (List.mem_of_getElem? hnm) with z | ⟨e, z⟩
      · cases z
      · exact wkB_calls ask.wk z
    have i0 : 1 ≤ i := by
      cases i with
      | zero => simp at mem
      | succ i => omega
    obtain ⟨u, j', g1, g2, ask2⟩ := (ask.mono s6).callee mem
    refine ⟨_, rfl, _, rfl, dk, _, rfl, g1, _, rfl, f - 1, by omega, u, dk, planOf ps nm, ps, j', G, rfl, ask2, by omega, fun x H8 s8 => ?_⟩
    have s68 := s6.trans s8
    refine ⟨_, s8 _ _ eR, small1000 (by rw [List.length_map]; omega), same_put s68 hRH, ?_, ?_, ns ++ [x], by rw [List.length_append, ln]; rfl, by rw [upd_same, List.map_append]; rfl⟩
    · rw [upd_ne npR]
      exact s8 _ _ ep6
    · rw [upd_ne nZR]
      exact s8 _ _ eZ
  · rintro H5 ⟨s5, ep5, eZ, ns, ln, eR⟩
    have ln : ns.length = ((callsL b).map V.str).length := ln
    rw [List.length_map] at ln
    refine ⟨Z, R, _, _, rfl, rfl, eZ, eR, Nat.le_trans (m := 1000) (by rw [List.length_map]; show 1 + _ ≤ _; omega) (by decide), fun p4 h4 => ?_⟩
    try unfold tNil
    refine ⟨p4, 0 :: ns, rfl, SqL.of upd_same, by simp, fun m hm hle => ?_⟩
    refine ⟨_, _, rfl, rfl, ?_⟩
    exact k _ _ (s5.trans (same_upd h4))
theorem law_chain_all (T : Txt K mg) : ∀ f : Nat, FnOk P w K mg base CX0 (f + 20) T.a_law_chain T.d_law_chain ["_law_plan", "_law_plans"] (spChain K f)
  | 0 => law_chain_step T 0 ⟨fun vs H Q E h => by obtain ⟨g, h, _⟩ := h; omega, fun A outer s H args us vs Q E _ _ _ _ h => by obtain ⟨g, h, _⟩ := h; omega⟩
  | f + 1 => law_chain_step T (f + 1) ((law_chain_all T f).imp fun vs H Q E h => by obtain ⟨g, e, h⟩ := h; cases e; exact h)
theorem ok_law_chain (T : Txt K mg) : FnOk P w K mg base CX0 25 T.a_law_chain T.d_law_chain ["_law_plan", "_law_plans"] (spChain K 5) := law_chain_all T 5
theorem ok_law_more_plan (T : Txt K mg) : FnOk P w K mg base CX0 60 T.a_law_more_plan T.d_law_more_plan ["_law_draw", "_law_plans", "_law_room", "_law_figures", "_law_wide"] (spMore K) := by
  refine T.F_law_more_plan.ok sc_law_more_plan (fun vs H Q E h => ?_) (fun cdv A outer s H vs Q E hr h => ?_)
  · obtain ⟨d, l, dk, kvs, ps, r, fig, wide, G, rfl, _⟩ := h
    rfl
  obtain ⟨d, l, dk, kvs, ps, r, fig, wide, G, rfl, sg, gd, gk, D, edk, kv, ok, lp, r1, k⟩ := h
  refine ⟨_, (pss_cons (ps_set (i := 5) sc_law_more_plan.nd rfl (Or.inl rfl) pe_dnewK)
      (pss_cons (ps_lock (ps_for PassesOwn.never rfl (pi_keys (pv 1)) (pg_name (i := 6) sc_law_more_plan.nd rfl (Or.inl rfl)) (pss_one (ps_if (pt_val (pe_call (ok_law_plain T) (hr.mono (by decide)) (by rfl) T.g_law_plain T.F_law_plain.kp T.b_law_plain .nil pass0 (pa_cons (pe_dget (hu_of hr) (pv 1) (pv 6) (fun _ _ => rfl)) pa_nil))) (pss_cons (ps_set (i := 7) sc_law_more_plan.nd rfl (Or.inl rfl) (pe_dget (hu_of hr) (pv 1) (pv 6) (fun _ _ => rfl)))
      (pss_one (ps_dput (hu_of hr) (pv 5) (pv 6) (pe_tup (pa_cons (pe_call (ok_law_figured T) (hr.mono (by decide)) (by rfl) T.g_law_figured T.F_law_figured.kp T.b_law_figured .nil pass0 (pa_cons (pv 7) (pa_cons (pv 1) pa_nil))) (pa_cons (pe_call (ok_law_weight T) (hr.mono (by decide)) (by rfl) T.g_law_weight T.F_law_weight.kp T.b_law_weight .nil pass0 (pa_cons (pv 7) (pa_cons (pv 1) pa_nil))) (pa_cons (pe_call (ok_law_chain T) (hr.mono (by decide)) (by rfl) T.g_law_chain T.F_law_chain.kp T.b_law_chain .nil pass0 (pa_cons (pv 7) (pa_cons (pv 1) pa_nil))) pa_nil)))) rfl))) pss_nil))))
      (pss_one (ps_ret (pe_call (ok_law_drawn_body T) (hr.mono (by decide)) (by rfl) T.g_law_drawn_body T.F_law_drawn_body.kp T.b_law_drawn_body .nil pass0 (pa_cons (pv 0) (pa_cons (pe_lst (pa_cons (pv 2) (pa_cons (pv 5) (pa_cons (pv 3) (pa_cons (pv 4) pa_nil))))) (pa_cons (pe_lst (pa_cons pe_str pa_nil)) (pa_cons pe_int pa_nil))))))))), ?_⟩
  have ndd : dk ≠ d := by
    rintro rfl
    obtain ⟨ns, p, z, s, e, _⟩ := D.ex
    rw [edk] at e
    cases e
  have ag : ∀ j nm b, ps[j]? = some (nm, b) → AgOk b ∧ b.length ≤ 16 := fun j nm b e => by
    obtain ⟨p1, _, _⟩ := ok j nm b e
    have := thingsC_len b
    have := p1.size
    exact ⟨wkB_ag p1.wk, by omega⟩
  refine fun m hm => ?_
  have nmd : dk ≠ m := fun z => by rw [← z, edk] at hm; cases hm
  have gm : G m = none := by
    cases e : G m with
    | none => rfl
    | some o => rw [sg _ _ e] at hm; cases hm
  refine ⟨dk, .dK kvs, (same_upd hm) _ _ edk, trivial, fun od => ?_⟩
  generalize eHL : upd (upd H m (.dK [])) dk (.frz od (.dK kvs)) = HL
  have hLdk : HL dk = some (.frz od (.dK kvs)) := by rw [← eHL, upd_same]
  have hLm : HL m = some (.dK []) := by rw [← eHL, upd_ne (Ne.symm nmd), upd_same]
  have hLo : ∀ b o, H b = some o → b ≠ dk → HL b = some o := fun b o e n => by
    rw [← eHL, upd_ne n, upd_ne (fun z => by rw [z, hm] at e; cases e)]
    exact e
  have sGL : ∀ H', But (Only1 m) HL H' → Same G H' := fun H' b' b o e => b' b o (hLo b o (sg b o e) (fun z => by rw [z, gk] at e; cases e)) (fun z => by rw [show b = m from z, gm] at e; cases e)
  have plL : ∀ H', But (Only1 m) HL H' → PlsAt K G H' dk ps := fun H' b' => ⟨kvs, .inr ⟨od, b' dk _ hLdk nmd⟩, kv⟩
  have newL : ∀ H' p, But (Only1 m) HL H' → H' p = none → H p = none := fun H' p b' e => by
    cases q : H p with
    | none => rfl
    | some o =>
      by_cases z : p = dk
      · rw [z, b' dk _ hLdk nmd] at e
        cases e
      · rw [b' p _ (hLo p o q z) (fun y => by rw [show p = m from y, hm] at q; cases q)] at e
        cases e
  refine ⟨_, rfl, dk, od, rfl, .inl ⟨kvs, hLdk, ?_⟩⟩
  refine for_it walk_keys (fun i σ H' => But (Only1 m) HL H' ∧ ∃ (kk : List (L2.Key × V)) (kn : List (Str × (Bool × Int × Int))), H' m = some (.dK kk) ∧ KnC (NewH H H') kk kn ∧ (∀ e ∈ kn, e.1 ∈ (ps.take i).map (·.1)) ∧ kn.length ≤ i ∧
    ∃ v6 v7, σ = [some (.ref d), some (.ref dk), some (.int r), some (.bl fig), some (.bl wide), some (.ref m), v6, v7]) ⟨But.refl _ _, [], [], hLm, .nil, (fun _ h => nomatch h), Nat.le_refl _, _, _, rfl⟩ (fun i σ H' _ p => p.1 dk _ hLdk nmd) ?_ ?_
  · rintro j x σ H1 H2 hj ⟨b2, kk, kn, em, kc, kin, kl, v6, v7, rfl⟩ ⟨rfl, key, vv, hkv, rfl⟩
    obtain ⟨nm, b, rfl, hb, dv⟩ := kv.at_ hkv
    obtain ⟨p1, p2, p3⟩ := ok j nm b hb
    have eb := planOf_at hb p2
    have hjl := (List.getElem?_eq_some_iff.mp hb).1
    have nmem : nm ∈ ps.map (·.1) := List.mem_map.mpr ⟨_, List.mem_of_getElem? hb, rfl⟩
    have kg : ∀ H', But (Only1 m) HL H' → ∃ u, DGet H' dk (.str nm) (some u) ∧ AskAt K G H' u dk b ps j := fun H' b' => by
      obtain ⟨u, dg, du⟩ := (plL H' b').get nmem
      rw [eb] at du
      exact ⟨u, dg, sGL H' b', du, plL H' b', ok, p1.wk, p1.bds, p1.size⟩
    obtain ⟨u, dg, ask⟩ := kg _ b2
    refine ⟨_, rfl, _, rfl, dk, _, rfl, dg, u, b, G, rfl, ask.sg, ask.db, (ag j nm b hb).1, (ag j nm b hb).2, fun x H3 s3 => ⟨_, rfl, ?_⟩⟩
    have b3 := b2.trans (same_but (M := Only1 m) s3)
    have tl : (ps.take (j + 1)).map (·.1) = (ps.take j).map (·.1) ++ [nm] := by
      rw [take_snoc hb, List.map_append]
      rfl
    cases x with
    | false =>
      refine iteF ⟨b3, kk, kn, s3 _ _ em, kc.mono (fun p xs q => ?_), fun e he => by rw [tl]; exact List.mem_append_left _ (kin e he), by omega, _, _, rfl⟩
      obtain ⟨q1, q2⟩ := newH_at q
      exact newH_of q1 (s3 _ _ q2)
    | true =>
      refine iteT ?_
      obtain ⟨u3, dg3, ask3⟩ := kg _ b3
      refine ⟨_, rfl, _, rfl, dk, _, rfl, dg3, ?_⟩
      refine ⟨_, rfl, _, rfl, u3, dk, b, ps, j, G, rfl, ask3, by omega, fun x1 H4 s4 => ?_⟩
      have ask4 := ask3.mono s4
      refine ⟨_, rfl, _, rfl, u3, dk, b, ps, j, G, rfl, ask4, by omega, fun x2 H5 s5 => ?_⟩
      have ask5 := ask4.mono s5
      refine ⟨_, rfl, _, rfl, u3, dk, b, ps, j, G, rfl, ask5, by omega, fun x3 H6 s6 => ?_⟩
      have s36 := s3.trans (s4.trans (s5.trans s6))
      have b6 := b2.trans (same_but (M := Only1 m) s36)
      refine ⟨by show 3 ≤ sizeLine; decide, fun p hp => ?_⟩
      have hpH := newL _ _ b6 hp
      have em6 := s36 _ _ em
      have nmp : m ≠ p := fun z => by rw [← z, em6] at hp; cases hp
      have em7 := (same_upd (o := .tup [.bl x1, .int x2, .int x3]) hp) _ _ em6
      refine ⟨_, rfl, _, rfl, m, _, rfl, DPut.k (k := Sum.inr nm) em7 (by rw [kc.length]; exact small1000 (by omega)), ?_⟩
      have hn : nm ∉ kn.map (·.1) := fun z => by
        obtain ⟨e, he, rfl⟩ := List.mem_map.mp z
        exact p2 (kin e he)
      refine ⟨(b6.trans (But.new hp)).put rfl, _, kn ++ [(nm, (x1, x2, x3))], upd_same, ?_, ?_, by rw [List.length_append]; show _ + 1 ≤ _; omega, _, _, rfl⟩
      · refine KnC.put (kc.mono fun c xs q => ?_) hn ?_
        · obtain ⟨q1, q2⟩ := newH_at q
          refine newH_of q1 ?_
          have q6 := s36 _ _ q2
          rw [upd_ne (fun z => by rw [z, em6] at q6; cases q6), upd_ne (fun z => by rw [z, hp] at q6; cases q6)]
          exact q6
        · refine newH_of hpH ?_
          rw [upd_ne (Ne.symm nmp), upd_same]
      · intro e he
        rw [tl]
        rcases List.mem_append.mp he with he | he
        · exact List.mem_append_left _ (kin e he)
        · rw [List.mem_singleton.mp he]
          exact List.mem_append_right _ (List.mem_singleton.mpr rfl)
  · rintro σ H1 ⟨b1, kk, kn, em, kc, kin, kl, v6, v7, rfl⟩
    refine ⟨b1 dk _ hLdk nmd, ?_⟩
    generalize eH7 : upd H1 dk (.dK kvs) = H7
    have s7 : Same H H7 := fun b o e => by
      rw [← eH7]
      by_cases z : b = dk
      · rw [z, edk] at e
        rw [z, upd_same, e]
      · rw [upd_ne z]
        exact b1 b o (hLo b o e z) (fun y => by rw [show b = m from y, hm] at e; cases e)
    have em7 : H7 m = some (.dK kk) := by
      rw [← eH7, upd_ne (Ne.symm nmd)]
      exact em
    have g1 : Grow (Only1 d) G H (pubA G H H7) H7 := Grow.all sg (same_but s7) (fun c hc => by rw [show c = d from hc]; exact gd)
    have D1 := D.mono s7
    refine ⟨_, rfl, _, rfl, _, rfl, _, rfl, _, rfl, by show 4 ≤ sizeLine; decide, fun kc' hkc => ⟨by show 1 ≤ sizeLine; decide, fun sa hsa => ?_⟩⟩
    have hk : H kc' = none := by
      cases e : H kc' with
      | none => rfl
      | some o => rw [s7 _ _ e] at hkc; cases hkc
    have g2 := g1.cell (o := .lst [.int r, .ref m, .bl fig, .bl wide]) hkc
    have D2 := D1.upd (o := .lst [.int r, .ref m, .bl fig, .bl wide]) hkc
    have g3 := g2.new (o := .lst [.str "n"]) hsa D2.some'
    have D3 := D2.upd (o := .lst [.str "n"]) hsa
    have s3 : Same (pubA G H H7) _ := same_upd (o := .lst [.str "n"]) (g2.gh.free hsa)
    have gk3 : (upd (pubA G H H7) sa (.lst [.str "n"])) kc' = none := by
      have n1 : kc' ≠ sa := fun z => by rw [← z, upd_same] at hsa; cases hsa
      rw [upd_ne n1]
      exact g1.gh.free hkc
    have knA : KnAt (upd (pubA G H H7) sa (.lst [.str "n"])) m kn := by
      have hkn : KnC (upd (pubA G H H7) sa (.lst [.str "n"])) kk kn := kc.mono fun c xs q => by
        obtain ⟨q1, q2⟩ := newH_at q
        refine s3 _ _ ?_
        rw [pubA_new q1, ← eH7, upd_ne (fun z => by rw [z, b1 dk _ hLdk nmd] at q2; cases q2)]
        exact q2
      refine ⟨by have := kv.length; omega, fun e he => ?_, kk, s3 _ _ (by rw [pubA_new hm]; exact em7), hkn.keys, fun nm hn => hkn.get hn⟩
      obtain ⟨q, hq, hq2⟩ := List.mem_map.mp (kin e he)
      obtain ⟨j, hj, hj2⟩ := List.getElem_of_mem (List.mem_of_mem_take hq)
      have := (ok j q.1 q.2 (by rw [List.getElem?_eq_getElem hj, hj2])).1.name
      rw [← hq2]
      exact this
    refine ⟨d, l, kc', m, sa, [Str.ofString "n"], ⟨kn, fig, wide⟩, r, 0, _, rfl, g3.gh, g3.none gd D.cell, gk3, D3, (same_upd hsa) _ _ upd_same, knA, upd_same, by decide, by decide, r1, by decide, by decide, fun v b G4 H4 g4 D4 _ c4 dv ok4 l1 l2 => ?_⟩
    refine k v b kn G4 H4 (grow_drop' g3 g4 hk D3.some') D4 dv (fun e he => ?_) ok4 l1 l2 c4
    obtain ⟨q, hq, hq2⟩ := List.mem_map.mp (kin e he)
    exact List.mem_map.mpr ⟨q, List.mem_of_mem_take hq, hq2⟩
theorem ok_law_drawn_plans (T : Txt K mg) : FnOk P w K mg base CX0 61 T.a_law_drawn_plans T.d_law_drawn_plans ["_law_draw", "_law_upto", "_law_figures", "_law_wide"] (spPlans K) := by
  refine T.F_law_drawn_plans.ok sc_law_drawn_plans (fun vs H Q E h => ?_) (fun cdv A outer s H vs Q E hr h => ?_)
  · obtain ⟨d, l, up, fig, wide, G, rfl, _⟩ := h
    rfl
  obtain ⟨d, l, up, fig, wide, G, rfl, sg, gd, D, u1, u5, k⟩ := h
  refine ⟨_, (pss_cons (ps_set (i := 4) sc_law_drawn_plans.nd rfl (Or.inl rfl) pe_dnewK)
      (pss_cons (ps_for PassesOwn.never rfl (pi_range1 (by rfl) T.z_range (pa_cons (pe_op op_add pe_int (pe_call (ok_law_take T) (hr.mono (by decide)) (by rfl) T.g_law_take T.F_law_take.kp T.b_law_take .nil pass0 (pa_cons (pv 0) (pa_cons (pv 1) pa_nil)))) pa_nil)) (pg_name (i := 5) sc_law_drawn_plans.nd rfl (Or.inl rfl)) (pss_cons (ps_set (i := 6) sc_law_drawn_plans.nd rfl (Or.inl rfl) (pe_call (ok_law_fresh T) (hr.mono (by decide)) (by rfl) T.g_law_fresh T.F_law_fresh.kp T.b_law_fresh .nil pass0 (pa_cons (pv 0) (pa_cons (pe_callTy (call_listD rfl) (by rfl) T.z_list (by decide +kernel) (pa_cons (pv 4) pa_nil)) pa_nil))))
      (pss_one (ps_dput (hu_of hr) (pv 4) (pv 6) (pe_call (ok_law_more_plan T) (hr.mono (by decide)) (by rfl) T.g_law_more_plan T.F_law_more_plan.kp T.b_law_more_plan .nil pass0 (pa_cons (pv 0) (pa_cons (pv 4) (pa_cons (pe_op op_add pe_int (pe_call (ok_law_take T) (hr.mono (by decide)) (by rfl) T.g_law_take T.F_law_take.kp T.b_law_take .nil pass0 (pa_cons (pv 0) (pa_cons pe_int pa_nil)))) (pa_cons (pv 2) (pa_cons (pv 3) pa_nil)))))) rfl))))
      (pss_one (ps_ret (pv 4))))), ?_⟩
  refine fun dk hdk => ?_
  have D1 := D.upd (o := .dK []) hdk
  have g1 := (Grow.refl (M := Only1 d) sg).cell (o := .dK []) hdk
  have gdk : G dk = none := by
    cases e : G dk with
    | none => rfl
    | some o => rw [sg _ _ e] at hdk; cases hdk
  refine ⟨_, rfl, _, rfl, d, l, up, rfl, D1, by omega, by omega, fun n H2 n0 n1 D2 b2 => ?_⟩
  have g2 := g1.trans (Grow.draw g1.gh gd b2) D1.some'
  refine ⟨_, _, rfl, rfl, 1 + n, rfl, by omega, by omega, ?_⟩
  refine for_it walk_range (fun i σ H' => ∃ (kvs : List (L2.Key × V)) (ps : Plans) (G' : Hp), Grow (Only1 d) G H G' H' ∧ DrawAt H' d l ∧ G' dk = none ∧ H' dk = some (.dK kvs) ∧ KvOk K G' kvs ps ∧ PlsOk ps ∧ ps.length = i ∧
    (∀ (i : Nat) (nm : Str) (b : List Thing), ps[i]? = some (nm, b) → wayP b = none ∧ thingsC b ≤ 9 ∧ b.length ≤ 3) ∧ ∃ v5 v6, σ = [some (.ref d), some (.int up), some (.bl fig), some (.bl wide), some (.ref dk), v5, v6]) ⟨[], [], G, g2, D2, gdk, b2 _ _ upd_same (D.ned hdk), .nil, (fun i nm b e => by cases e), rfl, (fun i nm b e => by cases e), _, _, rfl⟩ (fun _ _ _ _ _ => trivial) ?_ ?_
  · rintro i x σ H3 H4 hi ⟨kvs, ps, G', g3, D3, gk3, ek3, kv3, ok3, lp3, w3, v5, v6, rfl⟩ ⟨rfl, rfl⟩
    have hi : i < (1 + n).toNat := hi
    have ndd : dk ≠ d := D.ned hdk
    refine ⟨_, rfl, _, rfl, dk, kvs, rfl, .inl ek3, fun p hp => ?_⟩
    try unfold tNil
    have g4 := g3.cell (o := .lst (kvs.map fun kv => kV kv.1)) hp
    have D4 := D3.upd (o := .lst (kvs.map fun kv => kV kv.1)) hp
    have gd3 := g3.none gd D.cell
    refine ⟨d, l, p, ps.map (·.1), rfl, D4, by rw [upd_same, kv3.keys], by rw [List.length_map]; omega, fun nm H5 b5 D5 nok nin => ?_⟩
    have g5 := g4.trans (Grow.draw g4.gh gd3 b5) D4.some'
    refine ⟨_, rfl, _, rfl, _, rfl, d, l, 7, rfl, D5, by decide, by decide, fun m H6 m0 m1 D6 b6 => ?_⟩
    have g6 := g5.trans (Grow.draw g5.gh gd3 b6) D5.some'
    have ek6 : H6 dk = some (.dK kvs) := b6 _ _ (b5 _ _ ((same_upd hp) _ _ ek3) ndd) ndd
    refine ⟨_, _, rfl, rfl, _, rfl, _, rfl, d, l, dk, kvs, ps, 3 + m, fig, wide, G', rfl, g6.gh, gd3, gk3, D6, ek6, kv3, ok3, by omega, by omega, fun v b kn G7 H7 g7 D7 dv hin okb q1 q2 cb => ?_⟩
    have ek7 : H7 dk = some (.dK kvs) := g7.h _ _ ek6 ndd
    have g67 := g6.trans g7 D6.some'
    have gk7 := g7.none gk3 (cell_dK ek6)
    refine ⟨_, rfl, _, rfl, dk, _, rfl, DPut.k (k := Sum.inr nm) ek7 (by rw [kv3.length]; exact small1000 (by omega)), ?_⟩
    have kok : ∀ e ∈ kn, NameOk e.1 := fun e he => by
      obtain ⟨q, hq, hq2⟩ := List.mem_map.mp (hin e he)
      obtain ⟨j, hj, hj2⟩ := List.getElem_of_mem hq
      have := (ok3 j q.1 q.2 (by rw [List.getElem?_eq_getElem hj, hj2])).1.name
      rw [← hq2]
      exact this
    have po : PlOk (ps.map (·.1)) nm b := ⟨nok, wkB_of hin okb, bdS_of kok (fun x hx => by rw [List.mem_singleton.mp hx]; exact nmS_n) okb, by omega⟩
    refine ⟨_, ps ++ [(nm, b)], G7, g67.put gk7 (.inl hdk), D7.put ndd (D.nel hdk), gk7, upd_same, (kv3.mono g7.g).put_new nin dv, ok3.snoc (fun i x c e => (w3 i x c e).1) po nin, by rw [List.length_append, lp3]; rfl, fun j x c e => ?_, _, _, rfl⟩
    rw [List.getElem?_append] at e
    split at e
    · exact w3 j x c e
    · cases hz : j - ps.length with
      | zero =>
        rw [hz] at e
        cases Option.some.inj e
        exact ⟨wayP_of okb, by omega, q2⟩
      | succ z =>
        rw [hz] at e
        cases e
  · rintro σ H3 ⟨kvs, ps, G', g3, D3, gk3, ek3, kv3, ok3, lp3, w3, v5, v6, rfl⟩
    exact ⟨_, rfl, k dk kvs ps G' H3 g3 D3 hdk gk3 ek3 kv3 ok3 (by omega) (by omega) w3⟩
theorem ok_law_with_way (T : Txt K mg) : FnOk P w K mg base CX0 61 T.a_law_with_way T.d_law_with_way ["_law_draw", "_law_plans"] (spWithWay K) := by
  refine T.F_law_with_way.ok sc_law_with_way (fun vs H Q E h => ?_) (fun cdv A outer s H vs Q E hr h => ?_)
  · obtain ⟨d, l, dk, kvs, ps, nm, b, G, rfl, _⟩ := h
    rfl
  obtain ⟨d, l, dk, kvs, ps, nm, b, G, rfl, sg, gd, gk, D, edk, kv, ok, lp, w0, c9, l3, k⟩ := h
  refine ⟨_, (pss_cons (ps_set (i := 2) sc_law_with_way.nd rfl (Or.inl rfl) (pe_ix ix_list (pe_callTy (call_listD rfl) (by rfl) T.z_list (by decide +kernel) (pa_cons (pv 1) pa_nil)) (pe_un un_neg pe_int) (fun _ _ => rfl)))
      (pss_cons (ps_set (i := 3) sc_law_with_way.nd rfl (Or.inl rfl) (pe_dget (hu_of hr) (pv 1) (pv 2) (fun _ _ => rfl)))
      (pss_cons (ps_set (i := 4) sc_law_with_way.nd rfl (Or.inl rfl) (pe_lst (pa_cons (pe_tup (pa_cons pe_str (pa_cons (pe_op op_add pe_int (pe_call (ok_law_take T) (hr.mono (by decide)) (by rfl) T.g_law_take T.F_law_take.kp T.b_law_take .nil pass0 (pa_cons (pv 0) (pa_cons pe_int pa_nil)))) (pa_cons pe_str pa_nil)))) (pa_cons (pe_tup (pa_cons pe_str (pa_cons (pe_op op_add pe_int (pe_call (ok_law_take T) (hr.mono (by decide)) (by rfl) T.g_law_take T.F_law_take.kp T.b_law_take .nil pass0 (pa_cons (pv 0) (pa_cons pe_int pa_nil)))) (pa_cons pe_str pa_nil)))) pa_nil))))
      (C8.pss_cut (ps_if (pt_not (pt_val (pe_call (ok_law_figured T) (hr.mono (by decide)) (by rfl) T.g_law_figured T.F_law_figured.kp T.b_law_figured .nil pass0 (pa_cons (pv 3) (pa_cons (pv 1) pa_nil))))) (pss_one (ps_expr (pe_bm PySem.F.plainAttrs_list PySem.F.slot_list_append PySem.F.type_list_append mt_append (pv 4) (pa_cons (pe_tup (pa_cons pe_str (pa_cons pe_int (pa_cons pe_str pa_nil)))) pa_nil)))) pss_nil)
      (pss_cons (ps_set (i := 5) sc_law_with_way.nd rfl (Or.inl rfl) (pe_call (ok_law_take T) (hr.mono (by decide)) (by rfl) T.g_law_take T.F_law_take.kp T.b_law_take .nil pass0 (pa_cons (pv 0) (pa_cons (pe_op op_add (pe_callB call_len_seq (by rfl) T.z_len (by decide +kernel) (pa_cons (pv 3) pa_nil)) pe_int) pa_nil))))
      (pss_cons (ps_dput (hu_of hr) (pv 1) (pv 2) (pe_op op_catA (pe_op op_catA (pe_slice sl_tupA (pv 3) po_none (po_some (pv 5))) (pe_tup (pa_cons (pe_call (ok_law_pick T) (hr.mono (by decide)) (by rfl) T.g_law_pick T.F_law_pick.kp T.b_law_pick .nil pass0 (pa_cons (pv 0) (pa_cons (pv 4) pa_nil))) pa_nil))) (pe_slice sl_tupA (pv 3) (po_some (pv 5)) po_none)) rfl)
      (pss_one (ps_ret (pv 2))))))))), ?_⟩
  have ndd : dk ≠ d := by
    rintro rfl
    obtain ⟨ns, p, z, s, e, _⟩ := D.ex
    rw [edk] at e
    cases e
  obtain ⟨elast, eb, po, nin⟩ := ok.at_last
  have nmem : nm ∈ (ps ++ [(nm, b)]).map (·.1) := List.mem_map.mpr ⟨_, List.mem_of_getElem? elast, rfl⟩
  refine ⟨_, rfl, dk, kvs, rfl, .inl edk, fun p hp => ?_⟩
  have hat : atI (kvs.map fun kv => kV kv.1) (-1) = some (.str nm) := by
    rw [kv.keys, List.map_append, List.map_append]
    exact atI_last _ _
  refine ⟨1, rfl, p, _, _, _, rfl, rfl, SqL.of upd_same, hat, ?_⟩
  have g1 := (Grow.refl (M := Only1 d) sg).cell (o := .lst (kvs.map fun kv => kV kv.1)) hp
  have D1 := D.upd (o := .lst (kvs.map fun kv => kV kv.1)) hp
  have ed1 := (same_upd (o := .lst (kvs.map fun kv => kV kv.1)) hp) _ _ edk
  have pl1 : PlsAt K G _ dk (ps ++ [(nm, b)]) := ⟨kvs, .inl ed1, kv⟩
  obtain ⟨u, dg, du⟩ := pl1.get nmem
  rw [eb] at du
  refine ⟨_, rfl, _, rfl, dk, _, rfl, dg, ?_⟩
  refine ⟨_, rfl, d, l, 9, rfl, D1, by decide, by decide, fun m1 H2 m0 m9 D2 b2 => ?_⟩
  have g2 := g1.trans (Grow.draw g1.gh gd b2) D1.some'
  refine ⟨_, _, rfl, rfl, by show 3 ≤ sizeLine; decide, fun t1 ht1 => ?_⟩
  have g3 := g2.new (o := .tup [.str "again", .int (1 + m1), .str "halves"]) ht1 D2.some'
  have D3 := D2.upd (o := .tup [.str "again", .int (1 + m1), .str "halves"]) ht1
  refine ⟨_, rfl, d, l, 9, rfl, D3, by decide, by decide, fun m2 H4 k0 k9 D4 b4 => ?_⟩
  have g4 := g3.trans (Grow.draw g3.gh (g3.none gd D.cell) b4) D3.some'
  refine ⟨_, _, rfl, rfl, by show 3 ≤ sizeLine; decide, fun t2 ht2 => ?_⟩
  have g5 := g4.new (o := .tup [.str "again", .int (1 + m2), .str "thirds"]) ht2 D4.some'
  have D5 := D4.upd (o := .tup [.str "again", .int (1 + m2), .str "thirds"]) ht2
  have s5 := same_upd (o := .tup [.str "again", .int (1 + m2), .str "thirds"]) (g4.gh.free ht2)
  have dt1 := again_dp (K := K) (SqT.of (s5 _ _ (upd_same (H := G) (a := t1) (o := .tup [.str "again", .int (1 + m1), .str "halves"]))))
  have dt2 := again_dp (K := K) (SqT.of (upd_same (H := upd G t1 (.tup [.str "again", .int (1 + m1), .str "halves"])) (a := t2) (o := .tup [.str "again", .int (1 + m2), .str "thirds"])))
  refine ⟨by show 2 ≤ sizeLine; decide, fun L hL => ?_⟩
  have g6 := g5.cell (o := .lst [.ref t1, .ref t2]) hL
  have D6 := D5.upd (o := .lst [.ref t1, .ref t2]) hL
  have nLd := D5.ned hL
  have nLl := D5.nel hL
  have gL := g5.gh.free hL
  have hLH : H L = none := g5.h.none D5.some' hL
  have eL6 : (upd (upd H4 t2 (.tup [.str "again", .int (1 + m2), .str "thirds"])) L (.lst [.ref t1, .ref t2])) L = some (.lst [.ref t1, .ref t2]) := upd_same
  have hm : ∀ (G' H' : Hp), Grow (Only1 d) G H G' H' → H' dk = some (.dK kvs) := fun G' H' g => g.h _ _ edk ndd
  generalize upd (upd H4 t2 (.tup [.str "again", .int (1 + m2), .str "thirds"])) L (.lst [.ref t1, .ref t2]) = H6 at g6 D6 eL6 ⊢
  generalize upd (upd G t1 (.tup [.str "again", .int (1 + m1), .str "halves"])) t2 (.tup [.str "again", .int (1 + m2), .str "thirds"]) = G6 at g6 gL dt1 dt2
  have a1 : AgT (.again (1 + m1) "halves") := ⟨_, _, rfl, by omega, by omega, .inl rfl⟩
  have a2 : AgT (.again (1 + m2) "thirds") := ⟨_, _, rfl, by omega, by omega, .inr (.inl rfl)⟩
  let Md : L2.St → Hp → Prop := fun σ H' => ∃ (G' : Hp) (xs : List V) (ws : List Thing), Grow (Only1 d) G H G' H' ∧ DrawAt H' d l ∧ H' L = some (.lst xs) ∧ G' L = none ∧ DpAll K G' xs (ws.map thingD) ∧ 1 ≤ ws.length ∧ ws.length ≤ 3 ∧ (∀ t ∈ ws, AgT t) ∧
    σ = [some (.ref d), some (.ref dk), some (.str nm), some u, some (.ref L), none]
  refine ⟨Md, ?_, ?_⟩
  · have ask : AskAt K G H6 u dk b (ps ++ [(nm, b)]) ps.length := ⟨g6.g.trans g6.gh, du, ⟨kvs, .inl (hm _ _ g6), kv⟩, ok, by rw [List.take_left]; exact po.wk, po.bds, po.size⟩
    refine ⟨_, rfl, _, rfl, u, dk, b, _, ps.length, G, rfl, ask, by omega, fun x H7 s7 => ⟨_, rfl, ?_⟩⟩
    have g7 : Grow (Only1 d) G H G6 H7 := ⟨g6.g, g6.gh.trans s7, g6.h.trans (same_but s7), g6.old⟩
    have D7 := D6.mono s7
    have eL7 := s7 _ _ eL6
    cases x with
    | true => exact iteF ⟨G6, _, [.again (1 + m1) "halves", .again (1 + m2) "thirds"], g7, D7, eL7, gL, .cons dt1 (.cons dt2 .nil), by simp, by simp, fun t ht => by
        rcases List.mem_cons.mp ht with rfl | ht
        · exact a1
        · rw [List.mem_singleton.mp ht]
          exact a2, rfl⟩
    | false =>
      refine iteT ?_
      refine ⟨_, rfl, .inl ⟨rfl, _, SqL.of eL7⟩, by show 3 ≤ sizeLine; decide, fun t3 ht3 => ?_⟩
      have g8 := g7.new (o := .tup [.str "again", .int 1, .str "less"]) ht3 D7.some'
      have s8 := same_upd (o := .tup [.str "again", .int 1, .str "less"]) (g7.gh.free ht3)
      have eL8 := (same_upd (o := .tup [.str "again", .int 1, .str "less"]) ht3) _ _ eL7
      have nL3 : L ≠ t3 := fun z => by rw [← z, eL7] at ht3; cases ht3
      have gL8 : (upd G6 t3 (.tup [.str "again", .int 1, .str "less"])) L = none := by rw [upd_ne nL3]; exact gL
      refine ⟨L, _, _, rfl, rfl, eL8, small1000 (by simp), ?_⟩
      refine ⟨_, _, [.again (1 + m1) "halves", .again (1 + m2) "thirds", .again 1 "less"], g8.put gL8 (.inl hLH), (D7.upd ht3).put nLd nLl, upd_same, gL8, .cons (dt1.mono s8) (.cons (dt2.mono s8) (.cons (again_dp (SqT.of upd_same)) .nil)), by simp, by simp, fun t ht => ?_, rfl⟩
      rcases List.mem_cons.mp ht with rfl | ht
      · exact a1
      · rcases List.mem_cons.mp ht with rfl | ht
        · exact a2
        · rw [List.mem_singleton.mp ht]
          exact ⟨_, _, rfl, by decide, by decide, .inr (.inr ⟨rfl, rfl⟩)⟩
  rintro σ H7 ⟨G7, xs, ws, g7, D7, eL7, gL7, dws, w1, w3, wag, rfl⟩
  obtain ⟨a, us, rfl, hus, hds⟩ := du.tup'
  rw [thingsD_eq] at hds
  have lu : us.length = b.length := by
    have := hds.length
    rw [List.length_map] at this
    exact this
  have lx : xs.length = ws.length := by
    have := dws.length
    rw [List.length_map] at this
    exact this
  refine ⟨_, rfl, _, rfl, a, us, rfl, .inr (same_t (g7.g.trans g7.gh) hus), _, _, rfl, rfl, ?_⟩
  refine ⟨d, l, _, rfl, D7, by omega, by omega, fun at' H8 q0 q1 D8 b8 => ?_⟩
  have g8 := g7.trans (Grow.draw g7.gh (g7.none gd D.cell) b8) D7.some'
  obtain ⟨n, rfl⟩ : ∃ n : Nat, at' = (n : Int) := ⟨at'.toNat, by omega⟩
  have eL8 := b8 _ _ eL7 nLd
  have cl := thingsC_len b
  refine ⟨_, rfl, _, rfl, _, rfl, ?_⟩
  refine sl_take n g8.gh (same_t g7.g hus) fun p1 G9 H9 g9 hp1 => ?_
  have D9 := D8.mono g9.h.same
  have e9 := g8.trans (g9.mono fun _ h => h.elim) D8.some'
  refine ⟨_, rfl, _, rfl, d, l, .ref L, rfl, D9, .inr ⟨L, xs, rfl, nLd, .inl (SqL.of (g9.h.same _ _ eL8)), by omega, by omega, fun q H10 hq D10 b10 => ?_⟩⟩
  have g10 := e9.trans (Grow.draw e9.gh (e9.none gd D.cell) b10) D9.some'
  obtain ⟨j, hj, ej⟩ := List.getElem_of_mem hq
  obtain ⟨t, ht, dt⟩ := DpAll.at_ dws (by rw [List.getElem?_eq_getElem hj, ej])
  have hag := wag t (List.mem_of_getElem? ht)
  try unfold tNil
  refine ⟨by show 1 ≤ sizeLine; decide, fun p2 hp2 => ?_⟩
  have g11 := g10.new (o := .tup [q]) hp2 D10.some'
  have D11 := D10.upd (o := .tup [q]) hp2
  have s11 := same_upd (o := .tup [q]) (g10.gh.free hp2)
  refine cat_G g11.gh (same_t s11 hp1) (SqT.of upd_same) (by rw [List.length_take]; show _ + 1 ≤ _; omega) fun p3 G12 H12 g12 hp3 => ?_
  have D12 := D11.mono g12.h.same
  have e12 := g11.trans (g12.mono fun _ h => h.elim) D11.some'
  refine ⟨_, rfl, _, rfl, _, rfl, ?_⟩
  try unfold tNoPart
  refine sl_drop n e12.gh (same_t e12.g hus) fun p4 G13 H13 g13 hp4 => ?_
  have D13 := D12.mono g13.h.same
  have e13 := e12.trans (g13.mono fun _ h => h.elim) D12.some'
  refine cat_G e13.gh (same_t g13.g hp3) hp4 (by rw [List.length_append, List.length_take, List.length_drop]; show _ + 1 + _ ≤ _; omega) fun p5 G14 H14 g14 hp5 => ?_
  have D14 := D13.mono g14.h.same
  have e14 := e13.trans (g14.mono fun _ h => h.elim) D13.some'
  have ek14 := hm _ _ e14
  refine ⟨_, rfl, _, rfl, dk, _, rfl, DPut.k (k := Sum.inr nm) ek14 (by rw [kv.length, List.length_append]; exact small1000 (by show _ + 1 ≤ _; omega)), _, rfl, ?_⟩
  have ndl : dk ≠ l := by
    rintro rfl
    obtain ⟨ns, p, z, s, _, e, _⟩ := D.ex
    rw [edk] at e
    cases e
  have gk14 := e14.none gk (cell_dK edk)
  have dv : Dp K G14 (.ref p5) (planD (b.take n ++ [t] ++ b.drop n)) := by
    unfold planD
    rw [thingsD_eq, List.map_append, List.map_append, List.map_take, List.map_drop]
    exact .tup hp5 (DpAll_app (DpAll_app (DpAll_take n (hds.mono e14.g)) (.cons (dt.mono (g9.g.trans (s11.trans (g12.g.trans (g13.g.trans g14.g))))) .nil)) (DpAll_drop n (hds.mono e14.g)))
  exact k _ _ G14 _ ((e14.mono fun _ h => .inl h).put gk14 (.inr (.inr rfl))) (D14.put ndd ndl) upd_same ((kv.mono e14.g).put_last nin dv) (ok.last (agT_ok n po c9 hag))
theorem ok_law_comes (T : Txt K mg) : FnOk P w K mg base CX0 1 T.a_law_comes T.d_law_comes ["_law_end", "_law_names"] (spComes K) := by
  refine T.F_law_comes.ok sc_law_comes (fun vs H Q E h => ?_) (fun cdv A outer s H vs Q E hr h => ?_)
  · obtain ⟨v, dk, e, env, rfl, _⟩ := h
    rfl
  obtain ⟨v, dk, e, env, rfl, de, hd, we, eo, k⟩ := h
  obtain ⟨a, x, y, rfl, hs, dx, dy⟩ := de.tup2
  cases dx.str'
  cases dy.int'
  refine ⟨_, (pss_one (ps_ret (pe_ifExp (pt_cmpR op_eq (pe_ix ix_tup (pv 0) pe_int (fun _ _ => rfl)) pe_str (nomark _)) (pe_ix ix_tup (pv 0) pe_int (fun _ _ => rfl)) (pe_op op_add (pe_dget (hu_of hr) (pv 1) (pe_ix ix_tup (pv 0) pe_int (fun _ _ => rfl)) (fun _ _ => rfl)) (pe_ix ix_tup (pv 0) pe_int (fun _ _ => rfl)))))), ?_⟩
  refine ⟨_, rfl, a, _, _, _, rfl, rfl, hs, (rfl : atI [V.str e.1, .int e.2] 0 = some (.str e.1)), rfl, _, rfl, ?_⟩
  unfold endW at k
  refine ite2 (fun c => ?_) (fun c => ?_)
  · have c' : e.1 = "" := V.str.inj (of_decide_eq_true c)
    rw [if_pos c'] at k
    exact ⟨_, rfl, a, _, _, _, rfl, rfl, hs, (rfl : atI [V.str e.1, .int e.2] 1 = some (.int e.2)), k⟩
  have c' : ¬ e.1 = "" := fun z => c (decide_eq_true (congrArg V.str z))
  rw [if_neg c'] at k
  have hx : e.1 ∈ env.map (·.1) := by
    rcases we.2 with z | z
    · exact absurd z c'
    · exact z
  refine ⟨_, rfl, _, rfl, a, _, _, _, rfl, rfl, hs, (rfl : atI [V.str e.1, .int e.2] 0 = some (.str e.1)), dk, _, rfl, env_get hd hx, _, rfl, a, _, _, _, rfl, rfl, hs, (rfl : atI [V.str e.1, .int e.2] 1 = some (.int e.2)), _, _, rfl, rfl, ?_⟩
  exact k
theorem law_walk_thing_step (T : Txt K mg) (f : Nat) (G_law_walk : FnOk P w K mg base CX0 (f + 20) T.a_law_walk T.d_law_walk ["_law_plans", "_law_name", "_law_size", "_law_left"] (spLW K f)) (G_law_walk_body : FnOk P w K mg base CX0 (f + 20) T.a_law_walk_body T.d_law_walk_body ["_law_plans", "_law_body", "_law_names", "_law_left"] (spLB K f)) :
    FnOk P w K mg base CX0 (f + 21) T.a_law_walk_thing T.d_law_walk_thing ["_law_plans", "_law_thing", "_law_names", "_law_left"] (spLT K (f + 1)) := by
  refine T.F_law_walk_thing.ok sc_law_walk_thing (fun vs H Q E h => ?_) (fun cdv A outer s H vs Q E hr h => ?_)
  · obtain ⟨dk, en, lc, v, t, ps, env, i, g, deep, l, rfl, _⟩ := h
    rfl
  obtain ⟨dk, en, lc, v, t, ps, env, i, g, deep, l, rfl, lw, ll, dt, li, wk, na, hi, hg, hd, hf, l0, l1, k⟩ := h
  refine ⟨_, (pss_cons (ps_set (i := 4) sc_law_walk_thing.nd rfl (Or.inl rfl) (pe_ix ix_tup (pv 1) pe_int (fun _ _ => rfl)))
      (pss_cons (ps_if (pt_cmpR op_eq (pv 4) pe_str (nomark _)) (pss_one (ps_ret (pe_ix ix_tup (pv 1) pe_int (fun _ _ => rfl)))) pss_nil)
      (pss_cons (ps_if (pt_cmpR op_eq (pv 4) pe_str (nomark _)) (pss_one (ps_ret (pe_call G_law_walk (hr.mono (by omega)) (by rfl) T.g_law_walk T.F_law_walk.kp T.b_law_walk .nil pass0 (pa_cons (pv 0) (pa_cons (pe_ix ix_tup (pv 1) pe_int (fun _ _ => rfl)) (pa_cons (pe_callB (call_max2 rfl) (by rfl) T.z_max (by decide +kernel) (pa_cons pe_int (pa_cons (pe_call (ok_law_comes T) (hr.mono (by omega)) (by rfl) T.g_law_comes T.F_law_comes.kp T.b_law_comes .nil pass0 (pa_cons (pe_ix ix_tup (pv 1) pe_int (fun _ _ => rfl)) (pa_cons (pv 2) pa_nil))) pa_nil))) (pa_cons (pv 3) pa_nil))))))) pss_nil)
      (pss_cons (ps_if (pt_cmpR op_eq (pv 4) pe_str (nomark _)) (pss_one (ps_ret (pe_call G_law_walk_body (hr.mono (by omega)) (by rfl) T.g_law_walk_body T.F_law_walk_body.kp T.b_law_walk_body .nil pass0 (pa_cons (pv 0) (pa_cons (pe_ix ix_tup (pv 1) (pe_op op_add pe_int (pe_callTy call_int1 (by rfl) T.z_int (by decide +kernel) (pa_cons (pe_cmpR op_gt (pe_call (ok_law_comes T) (hr.mono (by omega)) (by rfl) T.g_law_comes T.F_law_comes.kp T.b_law_comes .nil pass0 (pa_cons (pe_ix ix_tup (pv 1) pe_int (fun _ _ => rfl)) (pa_cons (pv 2) pa_nil))) (pe_call (ok_law_comes T) (hr.mono (by omega)) (by rfl) T.g_law_comes T.F_law_comes.kp T.b_law_comes .nil pass0 (pa_cons (pe_ix ix_tup (pv 1) pe_int (fun _ _ => rfl)) (pa_cons (pv 2) pa_nil))) (nomark _)) pa_nil))) (fun _ _ => rfl)) (pa_cons (pv 2) (pa_cons (pv 3) pa_nil))))))) pss_nil)
      (pss_cons (ps_set (i := 5) sc_law_walk_thing.nd rfl (Or.inl rfl) pe_int)
      (pss_cons (ps_asg (pe_ifExp (pt_cmpR op_eq (pv 4) pe_str (nomark _)) (pe_tup (pa_cons pe_int (pa_cons (pe_bits (pe_dget (hu_of hr) (pv 2) pe_str (fun _ _ => rfl))) pa_nil))) (pe_tup (pa_cons (pe_call (ok_law_comes T) (hr.mono (by omega)) (by rfl) T.g_law_comes T.F_law_comes.kp T.b_law_comes .nil pass0 (pa_cons (pe_ix ix_tup (pv 1) pe_int (fun _ _ => rfl)) (pa_cons (pv 2) pa_nil))) (pa_cons (pe_call (ok_law_comes T) (hr.mono (by omega)) (by rfl) T.g_law_comes T.F_law_comes.kp T.b_law_comes .nil pass0 (pa_cons (pe_ix ix_tup (pv 1) pe_int (fun _ _ => rfl)) (pa_cons (pv 2) pa_nil))) pa_nil)))) (pg_tup rfl (pgs_cons (pg_name (i := 6) sc_law_walk_thing.nd rfl (Or.inl rfl)) (pgs_cons (pg_name (i := 7) sc_law_walk_thing.nd rfl (Or.inl rfl)) pgs_nil))))
      (pss_cons (ps_for PassesOwn.never rfl (pi_range2 (by rfl) T.z_range (pa_cons (pv 6) (pa_cons (pe_op op_add (pv 7) pe_int) pa_nil))) (pg_name (i := 8) sc_law_walk_thing.nd rfl (Or.inl rfl)) (pss_cons (ps_if (pt_cmpR op_lt (pe_ix ix_list (pv 3) pe_int (fun _ _ => rfl)) pe_int (nomark _)) (pss_one (ps_ret (pv 5))) pss_nil)
      (pss_cons (ps_asg (pe_op op_sub (pe_ix ix_list (pv 3) pe_int (fun _ _ => rfl)) pe_int) (pg_sub (pv 3) pe_int set_list))
      (pss_cons (ps_set (i := 9) sc_law_walk_thing.nd rfl (Or.inl rfl) (pe_callTy call_dictD (by rfl) T.z_dict (by decide +kernel) (pa_cons (pv 2) pa_nil)))
      (pss_cons (ps_if (pt_cmpR op_eq (pv 4) pe_str (nomark _)) (pss_one (ps_dput (hu_of hr) (pv 9) (pe_ix ix_tup (pv 1) pe_int (fun _ _ => rfl)) (pv 8) rfl)) pss_nil)
      (pss_one (ps_set (i := 5) sc_law_walk_thing.nd rfl (Or.inl rfl) (pe_op op_add (pv 5) (pe_call G_law_walk_body (hr.mono (by omega)) (by rfl) T.g_law_walk_body T.F_law_walk_body.kp T.b_law_walk_body .nil pass0 (pa_cons (pv 0) (pa_cons (pe_ix ix_tup (pv 1) (pe_un un_neg pe_int) (fun _ _ => rfl)) (pa_cons (pv 9) (pa_cons (pv 3) pa_nil)))))))))))))
      (pss_one (ps_ret (pv 5)))))))))), ?_⟩
  have eo := li.ok (by omega)
  have f0 := li.f0
  cases t with
  | step n =>
    obtain ⟨c, rfl, hc⟩ := thing_step' dt
    have hc := same_t off_same hc
    refine ⟨_, rfl, c, _, _, _, rfl, rfl, hc, atI_nat (j := 0) rfl, ?_⟩
    refine ⟨_, rfl, rfl, _, rfl, ?_⟩
    rw [dec_tt]
    refine iteT ⟨_, rfl, c, _, _, _, rfl, rfl, hc, (rfl : atI [V.str "step", .int n] 1 = some (.int n)), ?_⟩
    simp only [lT] at k
    exact k _ (But.refl _ _) ll
  | call nm e =>
    obtain ⟨c, x, rfl, hc, dx⟩ := thing_call dt
    have hc := same_t off_same hc
    rw [WkT] at wk
    simp only [lT] at k
    refine ⟨_, rfl, c, _, _, _, rfl, rfl, hc, atI_nat (j := 0) rfl, ?_⟩
    refine ⟨_, rfl, rfl, _, rfl, ?_⟩
    rw [dec_ff (by decide)]
    refine iteF ?_
    refine ⟨_, rfl, rfl, _, rfl, ?_⟩
    rw [dec_tt]
    refine iteT ⟨_, rfl, _, rfl, c, _, _, _, rfl, rfl, hc, (rfl : atI [V.str "call", .str nm, x] 1 = some (.str nm)), ?_⟩
    refine ⟨_, rfl, c, _, _, _, rfl, rfl, hc, (rfl : atI [V.str "call", .str nm, x] 2 = some x), _, rfl, x, en, e, env, rfl, dx.mono off_same, same_rd off_same li.rd, wk.2, eo, ?_⟩
    refine ⟨_, _, rfl, ?_⟩
    obtain ⟨j, b, q1, q2, q3, q4, q5⟩ := pls_find lw.ok wk.1
    have hb := li.b.fin f0 wk.2
    obtain ⟨g', rfl⟩ : ∃ g', g = g' + 1 := ⟨g - 1, by omega⟩
    rw [max_if]
    refine ⟨_, rfl, dk, lc, nm, b, ps, max 0 (endW env e), l, j, g', rfl, lw, ll, q2, by omega, by omega, .inl (q5 (by omega)), by omega, by omega, l0, l1, fun H' b' ll' => ?_⟩
    have et : topL g' ps nm (max 0 (endW env e)) l = lCallee (g' + 1) ps nm (max 0 (endW env e)) l := by
      unfold topL lCallee
      rw [q3, q5 (by omega)]
    rw [et] at ll' ⊢
    exact k H' b' ll'
  | test e1 e2 b1 b2 =>
    obtain ⟨c, x, y, z, u, rfl, hc, d1, d2, d3, d4⟩ := thing_test dt
    have hc := same_t off_same hc
    rw [WkT] at wk
    simp only [lT] at k
    refine ⟨_, rfl, c, _, _, _, rfl, rfl, hc, atI_nat (j := 0) rfl, ?_⟩
    refine ⟨_, rfl, rfl, _, rfl, ?_⟩
    rw [dec_ff (by decide)]
    refine iteF ?_
    refine ⟨_, rfl, rfl, _, rfl, ?_⟩
    rw [dec_ff (by decide)]
    refine iteF ?_
    refine ⟨_, rfl, rfl, _, rfl, ?_⟩
    rw [dec_tt]
    refine iteT ⟨_, rfl, _, rfl, ?_⟩
    refine ⟨_, rfl, c, _, _, _, rfl, rfl, hc, (rfl : atI [V.str "if", x, y, z, u] 1 = some x), _, rfl, x, en, e1, env, rfl, d1.mono off_same, same_rd off_same li.rd, wk.2.1, eo, ?_⟩
    refine ⟨_, rfl, c, _, _, _, rfl, rfl, hc, (rfl : atI [V.str "if", x, y, z, u] 2 = some y), _, rfl, y, en, e2, env, rfl, d2.mono off_same, same_rd off_same li.rd, wk.2.2.1, eo, ?_⟩
    refine ⟨_, _, rfl, rfl, ?_⟩
    try unfold tNil
    refine .inr ⟨_, rfl, _, _, rfl, rfl, ?_⟩
    by_cases cc : endW env e1 ≤ endW env e2
    · rw [if_pos cc] at k
      have ei : atI [V.str "if", x, y, z, u] (3 + if decide (endW env e2 < endW env e1) = true then 1 else 0) = some z := by
        rw [if_neg (by simpa using cc)]
        rfl
      refine ⟨c, _, _, _, rfl, rfl, hc, ei, _, rfl, _, rfl, ?_⟩
      exact ⟨dk, en, lc, z, b1, ps, env, i, g, deep + 1, l, rfl, lw, ll, d3, (li.mono (But.refl _ _) (Nat.le_succ f)).deep (Nat.le_succ _), wk.2.2.2.1, hi, hg, by omega, by omega, l0, l1, k⟩
    · rw [if_neg cc] at k
      have ei : atI [V.str "if", x, y, z, u] (3 + if decide (endW env e2 < endW env e1) = true then 1 else 0) = some u := by
        rw [if_pos (by simpa using cc)]
        rfl
      refine ⟨c, _, _, _, rfl, rfl, hc, ei, _, rfl, _, rfl, ?_⟩
      exact ⟨dk, en, lc, u, b2, ps, env, i, g, deep + 1, l, rfl, lw, ll, d4, (li.mono (But.refl _ _) (Nat.le_succ f)).deep (Nat.le_succ _), wk.2.2.2.2, hi, hg, by omega, by omega, l0, l1, k⟩
  | double b =>
    obtain ⟨c, x, rfl, hc0, dx⟩ := thing_double dt
    have hc := hc0
    have hc := same_t off_same hc
    rw [WkT] at wk
    simp only [lT] at k
    refine ⟨_, rfl, c, _, _, _, rfl, rfl, hc, atI_nat (j := 0) rfl, ?_⟩
    refine ⟨_, rfl, rfl, _, rfl, ?_⟩
    rw [dec_ff (by decide)]
    refine iteF ?_
    refine ⟨_, rfl, rfl, _, rfl, ?_⟩
    rw [dec_ff (by decide)]
    refine iteF ?_
    refine ⟨_, rfl, rfl, _, rfl, ?_⟩
    rw [dec_ff (by decide)]
    refine iteF ?_
    refine ⟨_, rfl, rfl, _, rfl, ?_⟩
    rw [dec_tt]
    refine iteT ?_
    refine ⟨_, rfl, en, _, rfl, env_get (same_rd off_same li.rd) li.n, _, rfl, ?_⟩
    have hb := bitsN_le (i := lookE env "n") (by have := li.b.look f0 "n"; omega)
    have r1 := rng_ok (i := 1) (by decide)
    have r2 := rng_ok (i := (bitsN (lookE env "n") : Int) + 1) (by omega)
    refine ⟨by show 2 ≤ sizeLine; decide, fun p hp => ?_⟩
    refine ⟨p, _, rfl, SqT.of upd_same, rfl, _, _, rfl, _, _, rfl, rfl, ?_⟩
    refine ⟨_, rfl, _, rfl, _, _, rfl, rfl, 1, (bitsN (lookE env "n") : Int) + 1, rfl, ⟨r1.1, r1.2, r2.1, r2.2⟩, ?_⟩
    have b1 : But (Only1 lc) H (upd H p (.tup [.int 1, .int (bitsN (lookE env "n") : Int)])) := But.new hp
    have nlc : lc ≠ p := fun q => by
      unfold LeftAt at ll
      rw [← q, ll] at hp
      cases hp
    have eN : ((bitsN (lookE env "n") : Int) + 1 - 1).toNat = (bitsN (lookE env "n")) := by omega
    rw [eN]
    refine for_it walk_range (fun j σ H' => But (Only1 lc) H H' ∧ ∃ s m, LeftAt H' lc m ∧ -1 ≤ m ∧ m ≤ l ∧ lRounds (bitsN (lookE env "n")) 0 (fun i l => lB (lCallee g ps) b env l) l = (s + (lRounds ((bitsN (lookE env "n")) - j) j (fun i l => lB (lCallee g ps) b env l) m).1, (lRounds ((bitsN (lookE env "n")) - j) j (fun i l => lB (lCallee g ps) b env l) m).2) ∧ ∃ v8 v9, σ = [some (.ref dk), some (.ref c), some (.ref en), some (.ref lc), some (.str "double"), some (.int s), some (.int 1), some (.int (bitsN (lookE env "n") : Int)), v8, v9]) ⟨b1, 0, l, (upd_ne nlc).trans ll, l0, Int.le_refl _, by rw [Int.zero_add, Nat.sub_zero], _, _, rfl⟩ (fun _ _ _ _ _ => trivial) ?_ ?_
    · rintro j w σ H1 H2 hj ⟨b2, s, m, lm, m0, m1, em, v8, v9, rfl⟩ ⟨rfl, rfl⟩
      refine ⟨_, rfl, lc, _, 0, .int m, rfl, rfl, SqL.of lm, rfl, _, 0, rfl, rfl, _, rfl, ?_⟩
      refine ite2 (fun c1 => ?_) (fun c1 => ?_)
      · have c1' : m < 0 := of_decide_eq_true c1
        rw [lRounds_neg c1', Int.add_zero] at em
        rw [em] at k
        exact ⟨_, rfl, k _ b2 lm⟩
      have c1' : ¬ m < 0 := fun z => c1 (decide_eq_true z)
      obtain ⟨n', en'⟩ : ∃ n', (bitsN (lookE env "n")) - j = n' + 1 := ⟨(bitsN (lookE env "n")) - j - 1, by omega⟩
      have en2 : (bitsN (lookE env "n")) - (j + 1) = n' := by omega
      rw [en', lRounds_succ c1'] at em
      refine ⟨_, rfl, lc, _, 0, .int m, rfl, rfl, SqL.of lm, rfl, m, 1, rfl, rfl, _, rfl, lc, _, 0, 0, rfl, rfl, lm, rfl, ?_⟩
      have b3 := b2.put (p := lc) (o := .lst [.int (m - 1)]) rfl
      have lw3 := lw.mono b3
      have o3 := off_but b3
      have li3 := li.mono b3 (Nat.le_succ f)
      refine ⟨_, rfl, en, _, rfl, same_rd off_same li3.rd, fun q hq => ?_⟩
      have nlq : lc ≠ q := fun z => by
        rw [← z] at hq
        have hq : upd H2 lc (.lst [.int (m - 1)]) lc = none := hq
        rw [upd_same] at hq
        cases hq
      have b4 : But (Only1 lc) _ _ := b3.trans (But.new (M := Only1 lc) (o := .dK (envD env)) hq)
      have l4 : LeftAt (upd (upd H2 lc (.lst [.int (m - 1)])) q (.dK (envD env))) lc (m - 1) := (upd_ne nlq).trans upd_same
      refine ⟨_, rfl, rfl, _, rfl, ?_⟩
      rw [dec_ff (by decide)]
      refine iteF ?_
      refine ⟨_, rfl, _, rfl, _, rfl, 1, rfl, c, _, _, _, rfl, rfl, same_t (off_but' b4) hc0, (rfl : atI [V.str "double", x] (-1) = some x), _, rfl, _, rfl, ?_⟩
      refine ⟨dk, q, lc, x, b, ps, env, i, g, deep + 1, m - 1, rfl, lw.mono b4, l4, dx.mono (off_but b4), ⟨off_rd upd_same (Ne.symm nlq), by have := li.len; omega, li.b.mono (Nat.le_succ f), li.n⟩, wk.2, hi, hg, by omega, by omega, by omega, by omega, fun H5 b5 l5 => ?_⟩
      obtain ⟨z0, z1, z2, z3⟩ := lB_ok (fun nm sz l h => callee_ok lw.ok g nm sz l h) env (m - 1) wk.2 (by omega)
      refine ⟨_, _, rfl, rfl, ?_⟩
      refine ⟨b4.trans b5, _, _, l5, z3, by omega, ?_, _, _, rfl⟩
      rw [em, en2]
      show (_ + (_ + _), _) = _
      rw [Int.add_assoc]
    · rintro σ H1 ⟨b2, s, m, lm, m0, m1, em, v8, v9, rfl⟩
      rw [Nat.sub_self, lRounds_zero] at em
      dsimp only at em
      rw [Int.add_zero] at em
      rw [em] at k
      exact ⟨_, rfl, k _ b2 lm⟩
  | loop nm e1 e2 b =>
    obtain ⟨c, x, y, z, rfl, hc0, d1, d2, d3⟩ := thing_loop dt
    have hc := hc0
    have hc := same_t off_same hc
    rw [WkT] at wk
    simp only [lT] at k
    refine ⟨_, rfl, c, _, _, _, rfl, rfl, hc, atI_nat (j := 0) rfl, ?_⟩
    refine ⟨_, rfl, rfl, _, rfl, ?_⟩
    rw [dec_ff (by decide)]
    refine iteF ?_
    refine ⟨_, rfl, rfl, _, rfl, ?_⟩
    rw [dec_ff (by decide)]
    refine iteF ?_
    refine ⟨_, rfl, rfl, _, rfl, ?_⟩
    rw [dec_ff (by decide)]
    refine iteF ?_
    refine ⟨_, rfl, rfl, _, rfl, ?_⟩
    rw [dec_ff (by decide)]
    refine iteF ?_
    refine ⟨_, rfl, c, _, _, _, rfl, rfl, hc, (rfl : atI [V.str "for", .str nm, x, y, z] 2 = some x), _, rfl, x, en, e1, env, rfl, d1.mono off_same, same_rd off_same li.rd, wk.2.2.1, eo, ?_⟩
    refine ⟨_, rfl, c, _, _, _, rfl, rfl, hc, (rfl : atI [V.str "for", .str nm, x, y, z] 3 = some y), _, rfl, y, en, e2, env, rfl, d2.mono off_same, same_rd off_same li.rd, wk.2.2.2.1, eo, ?_⟩
    have h1 := li.b.fin f0 wk.2.2.1
    have h2 := li.b.fin f0 wk.2.2.2.1
    have r1 := rng_ok (i := endW env e1) (by omega)
    have r2 := rng_ok (i := endW env e2 + 1) (by omega)
    refine ⟨by show 2 ≤ sizeLine; decide, fun p hp => ?_⟩
    refine ⟨p, _, rfl, SqT.of upd_same, rfl, _, _, rfl, _, _, rfl, rfl, ?_⟩
    refine ⟨_, rfl, _, rfl, _, _, rfl, rfl, (endW env e1), (endW env e2) + 1, rfl, ⟨r1.1, r1.2, r2.1, r2.2⟩, ?_⟩
    have b1 : But (Only1 lc) H (upd H p (.tup [.int (endW env e1), .int (endW env e2)])) := But.new hp
    have nlc : lc ≠ p := fun q => by
      unfold LeftAt at ll
      rw [← q, ll] at hp
      cases hp
    have eN : ((endW env e2) + 1 - (endW env e1)).toNat = (endW env e2 + 1 - endW env e1).toNat := rfl
    rw [eN]
    refine for_it walk_range (fun j σ H' => But (Only1 lc) H H' ∧ ∃ s m, LeftAt H' lc m ∧ -1 ≤ m ∧ m ≤ l ∧ lRounds (endW env e2 + 1 - endW env e1).toNat 0 (fun i l => lB (lCallee g ps) b (env ++ [(nm, endW env e1 + (i : Nat))]) l) l = (s + (lRounds ((endW env e2 + 1 - endW env e1).toNat - j) j (fun i l => lB (lCallee g ps) b (env ++ [(nm, endW env e1 + (i : Nat))]) l) m).1, (lRounds ((endW env e2 + 1 - endW env e1).toNat - j) j (fun i l => lB (lCallee g ps) b (env ++ [(nm, endW env e1 + (i : Nat))]) l) m).2) ∧ ∃ v8 v9, σ = [some (.ref dk), some (.ref c), some (.ref en), some (.ref lc), some (.str "for"), some (.int s), some (.int (endW env e1)), some (.int (endW env e2)), v8, v9]) ⟨b1, 0, l, (upd_ne nlc).trans ll, l0, Int.le_refl _, by rw [Int.zero_add, Nat.sub_zero], _, _, rfl⟩ (fun _ _ _ _ _ => trivial) ?_ ?_
    · rintro j w σ H1 H2 hj ⟨b2, s, m, lm, m0, m1, em, v8, v9, rfl⟩ ⟨rfl, rfl⟩
      refine ⟨_, rfl, lc, _, 0, .int m, rfl, rfl, SqL.of lm, rfl, _, 0, rfl, rfl, _, rfl, ?_⟩
      refine ite2 (fun c1 => ?_) (fun c1 => ?_)
      · have c1' : m < 0 := of_decide_eq_true c1
        rw [lRounds_neg c1', Int.add_zero] at em
        rw [em] at k
        exact ⟨_, rfl, k _ b2 lm⟩
      have c1' : ¬ m < 0 := fun z => c1 (decide_eq_true z)
      obtain ⟨n', en'⟩ : ∃ n', (endW env e2 + 1 - endW env e1).toNat - j = n' + 1 := ⟨(endW env e2 + 1 - endW env e1).toNat - j - 1, by omega⟩
      have en2 : (endW env e2 + 1 - endW env e1).toNat - (j + 1) = n' := by omega
      rw [en', lRounds_succ c1'] at em
      refine ⟨_, rfl, lc, _, 0, .int m, rfl, rfl, SqL.of lm, rfl, m, 1, rfl, rfl, _, rfl, lc, _, 0, 0, rfl, rfl, lm, rfl, ?_⟩
      have b3 := b2.put (p := lc) (o := .lst [.int (m - 1)]) rfl
      have lw3 := lw.mono b3
      have o3 := off_but b3
      have li3 := li.mono b3 (Nat.le_succ f)
      refine ⟨_, rfl, en, _, rfl, same_rd off_same li3.rd, fun q hq => ?_⟩
      have nlq : lc ≠ q := fun z => by
        rw [← z] at hq
        have hq : upd H2 lc (.lst [.int (m - 1)]) lc = none := hq
        rw [upd_same] at hq
        cases hq
      have b4 : But (Only1 lc) _ _ := b3.trans (But.new (M := Only1 lc) (o := .dK (envD env)) hq)
      have l4 : LeftAt (upd (upd H2 lc (.lst [.int (m - 1)])) q (.dK (envD env))) lc (m - 1) := (upd_ne nlq).trans upd_same
      refine ⟨_, rfl, rfl, _, rfl, ?_⟩
      rw [dec_tt]
      refine iteT ?_
      refine ⟨_, rfl, _, rfl, _, rfl, c, _, _, _, rfl, rfl, same_t (off_but' b4) hc0, (rfl : atI [V.str "for", .str nm, x, y, z] 1 = some (.str nm)), ?_⟩
      refine ⟨q, _, rfl, DPut.k (k := Sum.inr nm) upd_same (by rw [envD_len]; exact small1000 (by have := li.len; omega)), ?_⟩
      rw [env_put wk.2.1, upd_upd]
      have hj : j < (endW env e2 + 1 - endW env e1).toNat := hj
      have b5 : But (Only1 lc) _ _ := b3.trans (But.new (M := Only1 lc) (o := .dK (envD (env ++ [(nm, endW env e1 + (j : Nat))]))) hq)
      have l5 : LeftAt (upd (upd H2 lc (.lst [.int (m - 1)])) q (.dK (envD (env ++ [(nm, endW env e1 + (j : Nat))])))) lc (m - 1) := (upd_ne nlq).trans upd_same
      refine ⟨_, rfl, _, rfl, _, rfl, 1, rfl, c, _, _, _, rfl, rfl, same_t (off_but' b5) hc0, (rfl : atI [V.str "for", .str nm, x, y, z] (-1) = some z), _, rfl, _, rfl, ?_⟩
      have en5 : (env ++ [(nm, endW env e1 + (j : Nat))]).map (·.1) = env.map (·.1) ++ [nm] := by rw [List.map_append]; rfl
      have wk5 : WkB ((ps.take i).map (·.1)) b ((env ++ [(nm, endW env e1 + (j : Nat))]).map (·.1)) (deep + 1) := by rw [en5]; exact wk.2.2.2.2
      refine ⟨dk, q, lc, z, b, ps, env ++ [(nm, endW env e1 + (j : Nat))], i, g, deep + 1, m - 1, rfl, lw.mono b5, l5, d3.mono (off_but b5), ⟨off_rd upd_same (Ne.symm nlq), by have := li.len; simp; omega, li.b.snoc (by omega), by rw [en5]; exact List.mem_append_left _ li.n⟩, wk5, hi, hg, by omega, by omega, by omega, by omega, fun H5 b6 l6 => ?_⟩
      obtain ⟨z0, z1, z2, z3⟩ := lB_ok (fun nm sz l h => callee_ok lw.ok g nm sz l h) (env ++ [(nm, endW env e1 + (j : Nat))]) (m - 1) wk5 (by omega)
      refine ⟨_, _, rfl, rfl, ?_⟩
      refine ⟨b5.trans b6, _, _, l6, z3, by omega, ?_, _, _, rfl⟩
      rw [em, en2]
      show (_ + (_ + _), _) = _
      rw [Int.add_assoc]
    · rintro σ H1 ⟨b2, s, m, lm, m0, m1, em, v8, v9, rfl⟩
      rw [Nat.sub_self, lRounds_zero] at em
      dsimp only at em
      rw [Int.add_zero] at em
      rw [em] at k
      exact ⟨_, rfl, k _ b2 lm⟩
  | again n y => cases na
theorem law_walk_body_step (T : Txt K mg) (f : Nat) (G_law_walk_thing : FnOk P w K mg base CX0 (f + 20) T.a_law_walk_thing T.d_law_walk_thing ["_law_plans", "_law_thing", "_law_names", "_law_left"] (spLT K f)) :
    FnOk P w K mg base CX0 (f + 21) T.a_law_walk_body T.d_law_walk_body ["_law_plans", "_law_body", "_law_names", "_law_left"] (spLB K (f + 1)) := by
  refine T.F_law_walk_body.ok sc_law_walk_body (fun vs H Q E h => ?_) (fun cdv A outer s H vs Q E hr h => ?_)
  · obtain ⟨dk, en, lc, v, b, ps, env, i, g, deep, l, rfl, _⟩ := h
    rfl
  obtain ⟨dk, en, lc, v, b, ps, env, i, g, deep, l, rfl, lw, ll, db, li, wk, hi, hg, hd, hf, l0, l1, k⟩ := h
  refine ⟨_, (pss_cons (ps_set (i := 4) sc_law_walk_body.nd rfl (Or.inl rfl) pe_int)
      (pss_cons (ps_for PassesOwn.never rfl (pi_tup (pv 1)) (pg_name (i := 5) sc_law_walk_body.nd rfl (Or.inl rfl)) (pss_one (ps_if (PW.pt (pw_and (pt_cmpR op_ne (pe_ix ix_tup (pv 5) pe_int (fun _ _ => rfl)) pe_str (nomark _)) (pw_and1 (pt_cmpR op_ge (pe_ix ix_list (pv 3) pe_int (fun _ _ => rfl)) pe_int (nomark _))))) (pss_cons (ps_asg (pe_op op_sub (pe_ix ix_list (pv 3) pe_int (fun _ _ => rfl)) pe_int) (pg_sub (pv 3) pe_int set_list))
      (pss_one (ps_set (i := 4) sc_law_walk_body.nd rfl (Or.inl rfl) (pe_op op_add (pv 4) (pe_call G_law_walk_thing (hr.mono (by omega)) (by rfl) T.g_law_walk_thing T.F_law_walk_thing.kp T.b_law_walk_thing .nil pass0 (pa_cons (pv 0) (pa_cons (pv 5) (pa_cons (pv 2) (pa_cons (pv 3) pa_nil))))))))) pss_nil)))
      (pss_one (ps_ret (pv 4))))), ?_⟩
  obtain ⟨a, us, rfl, hs, hu⟩ := db.tup'
  rw [thingsD_eq] at hu
  have lu : us.length = b.length := by
    have := hu.length
    rw [List.length_map] at this
    exact this
  refine ⟨_, rfl, a, rfl, ⟨_, same_t off_same hs⟩, for_it (walk_tup (xs := us)) (fun j σ H' => But (Only1 lc) H H' ∧ ∃ (s m : Int), LeftAt H' lc m ∧ -1 ≤ m ∧ m ≤ l ∧ lB (lCallee g ps) b env l = (s + (lB (lCallee g ps) (b.drop j) env m).1, (lB (lCallee g ps) (b.drop j) env m).2) ∧ ∃ v5, σ = [some (.ref dk), some (.ref a), some (.ref en), some (.ref lc), some (.int s), v5]) ⟨But.refl _ _, 0, l, ll, l0, Int.le_refl _, by rw [List.drop_zero, Int.zero_add], _, rfl⟩ (fun i σ H _ p => same_t (off_but' p.1) hs) ?_ ?_⟩
  · rintro j x σ H1 H2 hj ⟨b2, s, m, lm, m0, m1, em, v5, rfl⟩ ⟨rfl, hx⟩
    obtain ⟨t, ht, dt⟩ := DpAll.at_ hu hx
    obtain ⟨c, r, rfl, hc⟩ := thing_head dt
    have wt := wk.mem (List.mem_of_getElem? ht)
    rw [lB_drop ht] at em
    refine ⟨_, rfl, c, _, _, _, rfl, rfl, same_t (off_but' b2) hc, atI_nat (j := 0) rfl, rfl, _, rfl, ?_⟩
    rw [word_again]
    cases hag : isAgain t with
    | true =>
      rw [hag, if_pos (.inl rfl)] at em
      exact iteF ⟨b2, s, m, lm, m0, m1, em, _, rfl⟩
    | false =>
      rw [hag] at em
      refine iteT ?_
      refine ⟨_, rfl, lc, _, 0, .int m, rfl, rfl, SqL.of lm, rfl, _, 0, rfl, rfl, _, rfl, ?_⟩
      refine ite2 (fun c1 => ?_) (fun c1 => ?_)
      · have c1' : 0 ≤ m := of_decide_eq_true c1
        rw [if_neg (by rintro (z | z); cases z; omega)] at em
        refine ⟨_, rfl, lc, _, 0, .int m, rfl, rfl, SqL.of lm, rfl, m, 1, rfl, rfl, _, rfl, lc, _, 0, 0, rfl, rfl, lm, rfl, ?_⟩
        have b3 := b2.put (p := lc) (o := .lst [.int (m - 1)]) rfl
        have lw3 := lw.mono b3
        have li3 := li.mono b3 (Nat.le_succ f)
        have o3 := off_but b3
        refine ⟨_, rfl, _, rfl, _, rfl, _, rfl, _, rfl, dk, en, lc, _, t, ps, env, i, g, deep, m - 1, rfl, lw3, upd_same, dt.mono o3, li3, wt, hag, hi, hg, hd, by omega, by omega, by omega, fun H4 b4 l4 => ?_⟩
        obtain ⟨z0, z1, z2, z3⟩ := lT_ok (fun nm sz l h => callee_ok lw.ok g nm sz l h) env (m - 1) wt (by omega)
        refine ⟨_, _, rfl, rfl, ?_⟩
        refine ⟨b3.trans b4, _, _, l4, z3, by omega, ?_, _, rfl⟩
        rw [em]
        show (_ + (_ + _), _) = _
        rw [Int.add_assoc]
      · have c1' : m < 0 := by
          have : ¬ 0 ≤ m := fun z => c1 (decide_eq_true z)
          omega
        rw [if_pos (.inr c1')] at em
        exact ⟨b2, s, m, lm, m0, m1, em, _, rfl⟩
  · rintro σ H1 ⟨b1, s, m, lm, m0, m1, em, v5, rfl⟩
    rw [lu, lB_end] at em
    rw [em] at k
    refine ⟨_, rfl, ?_⟩
    have k := k H1 b1 lm
    rw [Int.add_zero] at k
    exact k
theorem law_walk_step (T : Txt K mg) (f : Nat) (G_law_walk_body : FnOk P w K mg base CX0 (f + 20) T.a_law_walk_body T.d_law_walk_body ["_law_plans", "_law_body", "_law_names", "_law_left"] (spLB K f)) :
    FnOk P w K mg base CX0 (f + 21) T.a_law_walk T.d_law_walk ["_law_plans", "_law_name", "_law_size", "_law_left"] (spLW K (f + 1)) := by
  refine T.F_law_walk.ok sc_law_walk (fun vs H Q E h => ?_) (fun cdv A outer s H vs Q E hr h => ?_)
  · obtain ⟨dk, lc, nm, b, ps, sz, l, i, g, rfl, _⟩ := h
    rfl
  obtain ⟨dk, lc, nm, b, ps, sz, l, i, g, rfl, lw, ll, hb, hg, hf, zw, z0, zb, l0, l1, k⟩ := h
  refine ⟨_, (pss_cons (ps_set (i := 4) sc_law_walk.nd rfl (Or.inl rfl) (pe_call (ok_law_way T) (hr.mono (by omega)) (by rfl) T.g_law_way T.F_law_way.kp T.b_law_way .nil pass0 (pa_cons (pe_dget (hu_of hr) (pv 0) (pv 1) (fun _ _ => rfl)) pa_nil)))
      (pss_cons (ps_set (i := 5) sc_law_walk.nd rfl (Or.inl rfl) (pe_call G_law_walk_body (hr.mono (by omega)) (by rfl) T.g_law_walk_body T.F_law_walk_body.kp T.b_law_walk_body .nil pass0 (pa_cons (pv 0) (pa_cons (pe_dget (hu_of hr) (pv 0) (pv 1) (fun _ _ => rfl)) (pa_cons (pe_disp (pps_cons pe_str (pv 2) pps_nil) (by rfl) (by rfl) (by simp) (by decide)) (pa_cons (pv 3) pa_nil))))))
      (pss_cons (ps_set (i := 6) sc_law_walk.nd rfl (Or.inl rfl) pe_int)
      (pss_cons (ps_while PassesOwn.never (PW.pt (pw_and (pt_cmpR op_notN (pv 4) pe_non (nomark _)) (pw_and (pt_cmpR op_gt (pv 2) pe_int (nomark _)) (pw_and1 (pt_cmpR op_ge (pe_ix ix_list (pv 3) pe_int (fun _ _ => rfl)) pe_int (nomark _)))))) (pss_cons (ps_asg (pe_op op_sub (pe_ix ix_list (pv 3) pe_int (fun _ _ => rfl)) pe_int) (pg_sub (pv 3) pe_int set_list))
      (pss_cons (ps_set (i := 6) sc_law_walk.nd rfl (Or.inl rfl) (pe_op op_mulW (pv 6) (pe_ix ix_tup (pv 4) pe_int (fun _ _ => rfl))))
      (pss_cons (ps_set (i := 2) sc_law_walk.nd rfl (Or.inl rfl) (pe_dget (hu_of hr) (pe_disp (pps_cons pe_str (pe_op op_fdivW (pv 2) pe_int) (pps_cons pe_str (pe_op op_fdivW (pv 2) pe_int) (pps_cons pe_str (pe_op op_sub (pv 2) pe_int) pps_nil))) (by rfl) (by rfl) (by simp) (by decide)) (pe_ix ix_tup (pv 4) pe_int (fun _ _ => rfl)) (fun _ _ => rfl)))
      (pss_one (ps_set (i := 5) sc_law_walk.nd rfl (Or.inl rfl) (pe_op op_add (pv 5) (pe_op op_mulW (pv 6) (pe_call G_law_walk_body (hr.mono (by omega)) (by rfl) T.g_law_walk_body T.F_law_walk_body.kp T.b_law_walk_body .nil pass0 (pa_cons (pv 0) (pa_cons (pe_dget (hu_of hr) (pv 0) (pv 1) (fun _ _ => rfl)) (pa_cons (pe_disp (pps_cons pe_str (pv 2) pps_nil) (by rfl) (by rfl) (by simp) (by decide)) (pa_cons (pv 3) pa_nil)))))))))))))
      (pss_one (ps_ret (pv 5))))))), ?_⟩
  obtain ⟨p1, p2, p3⟩ := lw.ok i nm b hb
  have eb := planOf_at hb p2
  have lb := thingsC_len b
  have sz0 := p1.size
  have hi := (List.getElem?_eq_some_iff.mp hb).1
  have nmem : nm ∈ ps.map (·.1) := List.mem_map.mpr ⟨_, List.mem_of_getElem? hb, rfl⟩
  have kg : ∀ H', But (Only1 lc) H H' → ∃ u, DGet H' dk (.str nm) (some u) ∧ Dp K (Off lc H') u (planD b) := fun H' b' => by
    obtain ⟨u, dg, du⟩ := (lw.mono b').pls.get nmem
    rw [eb] at du
    exact ⟨u, dget_mono off_same dg, du⟩
  obtain ⟨u, dg, du⟩ := kg H (But.refl _ _)
  refine ⟨_, rfl, _, rfl, dk, _, rfl, dg, u, b, Off lc H, rfl, off_same, du, wkB_ag p1.wk, by omega, fun y H1 s1 hy => ?_⟩
  have b1 : But (Only1 lc) H H1 := same_but s1
  have ll1 : LeftAt H1 lc l := s1 _ _ ll
  have hB : ∀ sz l, -1 ≤ l → LOk l (lB (lCallee g ps) b [(Str.ofString "n", sz)] l) := fun sz l h => lB_ok (fun nm sz l h => callee_ok lw.ok g nm sz l h) _ l p1.wk h
  -- the body once
  have one : ∀ (H2 : Hp) (u2 : V) (p : Addr) (m s2 : Int) (Q' : VK), But (Only1 lc) H H2 → LeftAt H2 lc m → Dp K (Off lc H2) u2 (planD b) → H2 p = none → -1 ≤ m → m ≤ l → 0 ≤ s2 → s2 ≤ sz → (∀ H3, But (Only1 lc) H H3 → LeftAt H3 lc (lB (lCallee g ps) b [(Str.ofString "n", s2)] m).2 → Q' (.int (lB (lCallee g ps) b [(Str.ofString "n", s2)] m).1) H3) →
      spLB K f [.ref dk, u2, .ref p, .ref lc] (upd (upd H2 p (.dK [])) p (.dK (mergeK [] [(Sum.inr (Str.ofString "n"), .int s2)]))) Q' E0 := fun H2 u2 p m s2 Q' b2 l2 d2 hp m0 m1 s20 s21 hq => by
    rw [upd_upd]
    have e1 : mergeK [] [((Sum.inr (Str.ofString "n") : L2.Key), V.int s2)] = envD [(Str.ofString "n", s2)] := rfl
    rw [e1]
    have b3 : But (Only1 lc) H2 (upd H2 p (.dK (envD [(Str.ofString "n", s2)]))) := But.new hp
    have nlp : lc ≠ p := fun z => by
      unfold LeftAt at l2
      rw [← z, l2] at hp
      cases hp
    refine ⟨dk, p, lc, u2, b, ps, [(Str.ofString "n", s2)], i, g, 0, m, rfl, lw.mono (b2.trans b3), (upd_ne nlp).trans l2, d2.mono (off_but b3), ⟨off_rd upd_same (Ne.symm nlp), Nat.le_refl 1, fun q hq => ?_, List.mem_singleton.mpr rfl⟩, p1.wk, hi, hg, by omega, by omega, m0, by omega, fun H3 b4 l3 => hq H3 ((b2.trans b3).trans b4) l3⟩
    rw [List.mem_singleton.mp hq]
    show s2.natAbs + _ ≤ _
    omega
  obtain ⟨u1, dg1, du1⟩ := kg H1 b1
  refine ⟨_, rfl, _, rfl, _, rfl, dk, _, rfl, dg1, fun p hp => ⟨_, rfl, upd_same, [(Sum.inr (Str.ofString "n"), .int sz)], rfl, (by show 1 ≤ 15; decide), _, rfl, ?_⟩⟩
  try unfold tNil
  refine one H1 u1 p l sz _ b1 ll1 du1 hp l0 (Int.le_refl _) z0 (Int.le_refl _) fun H2 b2 l2 => ?_
  obtain ⟨v0, v1, v2, v3⟩ := hB sz l l0
  cases hw : wayP b with
  | none =>
    rw [hw] at hy
    cases (show y = .non from hy)
    have et : topL g ps nm sz l = lB (lCallee g ps) b [(Str.ofString "n", sz)] l := by
      unfold topL
      rw [eb, hw]
    rw [et] at k
    refine while_by (fun σ H' => H' = H2 ∧ σ = [some (.ref dk), some (.str nm), some (.int sz), some (.ref lc), some .non, some (.int (lB (lCallee g ps) b [(Str.ofString "n", sz)] l).1), some (.int 1)]) (fun _ _ => 0) ⟨rfl, rfl⟩ ?_ ?_
    · rintro σ H3 ⟨rfl, rfl⟩
      refine ⟨_, rfl, rfl, _, rfl, ?_⟩
      exact iteF (iteF ⟨_, rfl, k _ b2 l2⟩)
    · refine mono_and ?_ (mono_and ?_ ?_)
      · rintro σ H Q Q' hQ ⟨v, e1, e2, x, e3, q⟩
        exact ⟨v, e1, e2, x, e3, hQ _ _ q⟩
      · rintro σ H Q Q' hQ ⟨v, e1, i, j, e3, e4, kk, e5, q⟩
        exact ⟨v, e1, i, j, e3, e4, kk, e5, hQ _ _ q⟩
      · rintro σ H Q Q' hQ ⟨v, e1, p, xs, i, v2, e2, e3, e4, e5, i2, j2, e6, e7, kk, e8, q⟩
        exact ⟨v, e1, p, xs, i, v2, e2, e3, e4, e5, i2, j2, e6, e7, kk, e8, hQ _ _ q⟩
  | some nw =>
    obtain ⟨n, w⟩ := nw
    rw [hw] at hy
    obtain ⟨a, rfl, hs⟩ := again_at hy
    have hs : SqT K (Off lc H) a [V.str (Str.ofString "again"), V.int n, V.str w] := hs
    obtain ⟨n1, n9, w3⟩ := wkB_ag p1.wk n w (wayP_mem hw)
    have w3 : w = "halves" ∨ w = "thirds" ∨ w = "less" := by
      rcases w3 with z | z | ⟨z, _⟩
      · exact .inl z
      · exact .inr (.inl z)
      · exact .inr (.inr z)
    have zk : sz ≤ 1000 := by
      rcases zw with z | z
      · rw [hw] at z
        cases z
      · exact z
    have et : topL g ps nm sz l = ((lB (lCallee g ps) b [(Str.ofString "n", sz)] l).1 + (agL sz.toNat n w (fun sz l => lB (lCallee g ps) b [(Str.ofString "n", sz)] l) sz 1 (lB (lCallee g ps) b [(Str.ofString "n", sz)] l).2).1, (agL sz.toNat n w (fun sz l => lB (lCallee g ps) b [(Str.ofString "n", sz)] l) sz 1 (lB (lCallee g ps) b [(Str.ofString "n", sz)] l).2).2) := by
      unfold topL
      rw [eb, hw]
    refine while_by (fun σ H' => But (Only1 lc) H H' ∧ ∃ (s m sz' many : Int) (g0 q : Nat), LeftAt H' lc m ∧ -1 ≤ m ∧ m ≤ l ∧ 0 ≤ sz' ∧ sz' ≤ sz ∧ sz'.toNat ≤ g0 ∧ q + sz'.toNat ≤ 1000 ∧ many.natAbs < 2 ^ (4 * q + 1) ∧ topL g ps nm sz l = (s + (agL g0 n w (fun sz l => lB (lCallee g ps) b [(Str.ofString "n", sz)] l) sz' many m).1, (agL g0 n w (fun sz l => lB (lCallee g ps) b [(Str.ofString "n", sz)] l) sz' many m).2) ∧
      σ = [some (.ref dk), some (.str nm), some (.int sz'), some (.ref lc), some (.ref a), some (.int s), some (.int many)]) (fun σ _ => match σ with | _ :: _ :: some (.int m) :: _ => m.toNat | _ => 0) ⟨b2, _, _, sz, 1, sz.toNat, 0, l2, v3, v2, z0, Int.le_refl _, Nat.le_refl _, by omega, by decide, et, rfl⟩ ?_ ?_
    · rintro σ H3 ⟨b3, s, m, sz', many, g0, q, lm, m0, m1, y0, y1, hg0, hq, hmany, em, rfl⟩
      refine ⟨_, rfl, rfl, _, rfl, iteT ?_⟩
      refine ⟨_, rfl, _, _, rfl, rfl, _, rfl, ?_⟩
      have stop : (sz' ≤ 0 ∨ m < 0) → Q (.int s) H3 := fun hst => by
        rw [agL_stop hst hg0] at em
        dsimp only at em
        rw [Int.add_zero] at em
        rw [em] at k
        exact k _ b3 lm
      refine ite2 (fun c1 => ?_) (fun c1 => iteF ⟨_, rfl, stop (.inl (by have : ¬ (0 < sz') := fun z => c1 (decide_eq_true z); omega))⟩)
      have c1' : 0 < sz' := of_decide_eq_true c1
      refine ⟨_, rfl, lc, _, 0, .int m, rfl, rfl, SqL.of lm, rfl, _, 0, rfl, rfl, _, rfl, ?_⟩
      refine ite2 (fun c2 => ?_) (fun c2 => ⟨_, rfl, stop (.inr (by have : ¬ (0 ≤ m) := fun z => c2 (decide_eq_true z); omega))⟩)
      have c2' : 0 ≤ m := of_decide_eq_true c2
      obtain ⟨g1, rfl, ea⟩ := agL_go (n := n) (w := w) (F := fun sz l => lB (lCallee g ps) b [(Str.ofString "n", sz)] l) (many := many) c1' c2' hg0
      rw [ea] at em
      obtain ⟨y2, y3⟩ := nextSz_lt w3 c1'
      refine ⟨_, rfl, lc, _, 0, .int m, rfl, rfl, SqL.of lm, rfl, m, 1, rfl, rfl, _, rfl, lc, _, 0, 0, rfl, rfl, lm, rfl, ?_⟩
      have b4 := b3.put (p := lc) (o := .lst [.int (m - 1)]) rfl
      have n4 : n.natAbs < 2 ^ 4 := by
        have : (2 : Nat) ^ 4 = 16 := by decide
        omega
      have cm := wide_mul hmany n4 (by omega) (by decide) (by omega)
      refine ⟨_, rfl, _, rfl, a, _, _, _, rfl, rfl, same_t (off_but' b4) hs, (rfl : atI [V.str (Str.ofString "again"), .int n, .str w] 1 = some (.int n)), _, _, rfl, rfl, cm, ?_⟩
      have hmany2 : (many * n).natAbs < 2 ^ (4 * (q + 1) + 1) := by
        have := wide_lt hmany n4
        rw [show 4 * (q + 1) + 1 = 4 * q + 1 + 4 by omega]
        exact this
      have sz30 : sz'.natAbs < 2 ^ 30 := by
        have : (2 : Nat) ^ 30 = 1073741824 := by decide
        omega
      have div : ∀ j : Int, 0 < j → j.natAbs < 2 ^ 4 → CDivW sz' j := fun j h1 h2 => wide_div h1 h2 (by decide) (by decide)
      refine fun p hp => ⟨_, rfl, _, _, rfl, rfl, div 2 (by decide) (by decide), _, rfl, _, _, rfl, rfl, div 3 (by decide) (by decide), _, rfl, _, _, rfl, rfl, upd_same, [(Sum.inr (Str.ofString "halves"), .int (sz' / 2)), (Sum.inr (Str.ofString "thirds"), .int (sz' / 3)), (Sum.inr (Str.ofString "less"), .int (sz' - 1))], rfl, (by show 3 ≤ 15; decide), ?_⟩
      rw [upd_upd]
      have b5 := b4.trans (But.new (M := Only1 lc) (o := .dK (mergeK [] [(Sum.inr (Str.ofString "halves"), .int (sz' / 2)), (Sum.inr (Str.ofString "thirds"), .int (sz' / 3)), (Sum.inr (Str.ofString "less"), .int (sz' - 1))])) hp)
      have nlp : lc ≠ p := fun z => by
        rw [← z] at hp
        have hp : upd H3 lc (.lst [.int (m - 1)]) lc = none := hp
        rw [upd_same] at hp
        cases hp
      have l5 : LeftAt (upd (upd H3 lc (.lst [.int (m - 1)])) p (.dK (mergeK [] [(Sum.inr (Str.ofString "halves"), .int (sz' / 2)), (Sum.inr (Str.ofString "thirds"), .int (sz' / 3)), (Sum.inr (Str.ofString "less"), .int (sz' - 1))]))) lc (m - 1) := (upd_ne nlp).trans upd_same
      refine ⟨_, rfl, a, _, _, _, rfl, rfl, same_t (off_but' b5) hs, (rfl : atI [V.str (Str.ofString "again"), .int n, .str w] 2 = some (.str w)), p, _, rfl, .inl ⟨_, Sum.inr w, .inl upd_same, rfl, pick_next w3⟩, ?_⟩
      obtain ⟨u5, dg5, du5⟩ := kg _ b5
      refine ⟨_, rfl, _, rfl, _, rfl, _, rfl, _, rfl, dk, _, rfl, dg5, fun p2 hp2 => ⟨_, rfl, upd_same, [(Sum.inr (Str.ofString "n"), .int (nextSz w sz'))], rfl, (by show 1 ≤ 15; decide), _, rfl, ?_⟩⟩
      refine one _ u5 p2 (m - 1) (nextSz w sz') _ b5 l5 du5 hp2 (by omega) (by omega) y2 (by omega) fun H6 b6 l6 => ?_
      obtain ⟨v4, v5, v6, v7⟩ := hB (nextSz w sz') (m - 1) (by omega)
      have cm2 : CMulW (many * n) (lB (lCallee g ps) b [(Str.ofString "n", nextSz w sz')] (m - 1)).1 := wide_mul hmany2 (nat_lt (k := 30) (N := 1000000) v4 (by omega) (by decide)) (by omega) (by decide) (by omega)
      refine ⟨_, _, rfl, rfl, cm2, _, _, rfl, rfl, ?_⟩
      refine ⟨⟨b6, _, _, nextSz w sz', many * n, g1, q + 1, l6, v7, by omega, y2, by omega, by omega, by omega, hmany2, ?_, rfl⟩, ?_⟩
      · rw [em]
        show (_ + (_ + _), _) = _
        rw [Int.add_assoc]
      · show (nextSz w sz').toNat < sz'.toNat
        omega
    · refine mono_and ?_ (mono_and ?_ ?_)
      · rintro σ H Q Q' hQ ⟨v, e1, e2, x, e3, q⟩
        exact ⟨v, e1, e2, x, e3, hQ _ _ q⟩
      · rintro σ H Q Q' hQ ⟨v, e1, i, j, e3, e4, kk, e5, q⟩
        exact ⟨v, e1, i, j, e3, e4, kk, e5, hQ _ _ q⟩
      · rintro σ H Q Q' hQ ⟨v, e1, p, xs, i, v2, e2, e3, e4, e5, i2, j2, e6, e7, kk, e8, q⟩
        exact ⟨v, e1, p, xs, i, v2, e2, e3, e4, e5, i2, j2, e6, e7, kk, e8, hQ _ _ q⟩
theorem law_walk_all (T : Txt K mg) : ∀ f : Nat, FnOk P w K mg base CX0 (f + 20) T.a_law_walk_thing T.d_law_walk_thing ["_law_plans", "_law_thing", "_law_names", "_law_left"] (spLT K f) ∧ FnOk P w K mg base CX0 (f + 20) T.a_law_walk_body T.d_law_walk_body ["_law_plans", "_law_body", "_law_names", "_law_left"] (spLB K f) ∧ FnOk P w K mg base CX0 (f + 20) T.a_law_walk T.d_law_walk ["_law_plans", "_law_name", "_law_size", "_law_left"] (spLW K f)
  | 0 => by
    have n1 : ∀ vs H Q E, ¬ spLT K 0 vs H Q E := fun vs H Q E h => by
      obtain ⟨dk, en, lc, v, t, ps, env, i, g, deep, l, rfl, lw, ll, dt, li, wk, na, hi, hg, hd, hf, _⟩ := h
      omega
    have n2 : ∀ vs H Q E, ¬ spLB K 0 vs H Q E := fun vs H Q E h => by
      obtain ⟨dk, en, lc, v, b, ps, env, i, g, deep, l, rfl, lw, ll, db, li, wk, hi, hg, hd, hf, _⟩ := h
      omega
    have n3 : ∀ vs H Q E, ¬ spLW K 0 vs H Q E := fun vs H Q E h => by
      obtain ⟨dk, lc, nm, b, ps, sz, l, i, g, rfl, lw, ll, hb, hg, hf, _⟩ := h
      omega
    exact ⟨⟨fun vs H Q E h => absurd h (n1 vs H Q E), fun A outer s H args us vs Q E _ _ _ _ h => absurd h (n1 vs H Q E)⟩, ⟨fun vs H Q E h => absurd h (n2 vs H Q E), fun A outer s H args us vs Q E _ _ _ _ h => absurd h (n2 vs H Q E)⟩, ⟨fun vs H Q E h => absurd h (n3 vs H Q E), fun A outer s H args us vs Q E _ _ _ _ h => absurd h (n3 vs H Q E)⟩⟩
  | f + 1 => ⟨law_walk_thing_step T f (law_walk_all T f).2.2 (law_walk_all T f).2.1, law_walk_body_step T f (law_walk_all T f).1, law_walk_step T f (law_walk_all T f).2.1⟩
theorem ok_law_walk (T : Txt K mg) : FnOk P w K mg base CX0 80 T.a_law_walk T.d_law_walk ["_law_plans", "_law_name", "_law_size", "_law_left"] (spLW K 60) := (law_walk_all T 60).2.2
theorem ok_Walk_visit (T : Txt K mg) : FnOk P w K mg base CX0 1 T.a_Walk_visit T.d_Walk_visit ["self"] (spVisit T.c_Walk) := by
  refine T.F_Walk_visit.ok sc_Walk_visit (fun vs H Q E h => ?_) (fun cdv A outer s H vs Q E hr h => ?_)
  · obtain ⟨o, dk, l, rfl, _⟩ := h
    rfl
  obtain ⟨o, dk, l, rfl, ob, l1, k⟩ := h
  refine ⟨_, (pss_cons (ps_if (pt_cmpR op_eq (pe_fld (pv 0) rfl) pe_int (nomark _)) (pss_one ps_never) pss_nil)
      (pss_one (ps_fldaug (pv 0) pe_int in_sub))), ?_⟩
  obtain ⟨dx, ob⟩ := ob
  refine ⟨_, rfl, o, _, dx, _, _, rfl, ob, T.cl_Walk, T.na_Walk_left, rfl, rfl, _, rfl, ?_⟩
  have c1 : decide (V.int l = V.int 0) = false := decide_eq_false (by intro e; have := V.int.inj e; omega)
  rw [c1]
  refine iteF ?_
  refine ⟨_, rfl, o, _, dx, _, _, rfl, ob, T.cl_Walk, T.na_Walk_left, rfl, _, _, rfl, rfl, dx, _, ob, by show 2 < 1000; decide, ?_⟩
  rw [wkF_put]
  exact k _ ((But.refl _ _).put rfl) ⟨dx, upd_same⟩
theorem Walk_rounds_step (T : Txt K mg) (f : Nat) (G_Walk_body : FnOk P w K mg base CX0 (f + 20) T.a_Walk_body T.d_Walk_body ["self", "things", "names"] (spPB K T.c_Walk f)) :
    FnOk P w K mg base CX0 (f + 21) T.a_Walk_rounds T.d_Walk_rounds ["self", "many", "things", "names"] (spPR K T.c_Walk (f + 1)) := by
  refine T.F_Walk_rounds.ok sc_Walk_rounds (fun vs H Q E h => ?_) (fun cdv A outer s H vs Q E hr h => ?_)
  · obtain ⟨o, dk, en, v, n, b, ps, env, i, g, deep, l, rfl, _⟩ := h
    rfl
  obtain ⟨o, dk, en, v, n, b, ps, env, i, g, deep, l, rfl, hn, lw, ob, db, li, wk, hi, hg, hd, hf, l0, l1, k⟩ := h
  refine ⟨_, (pss_cons (ps_set (i := 4) sc_Walk_rounds.nd rfl (Or.inl rfl) pe_int)
      (pss_cons (ps_for PassesOwn.never rfl (pi_range1 (by rfl) T.z_range (pa_cons (pv 1) pa_nil)) (pg_name (i := 5) sc_Walk_rounds.nd rfl (Or.inl rfl)) (pss_cons (ps_expr (pe_meth0 (pv 0) T.cl_Walk T.me_Walk_visit (ok_Walk_visit T) (hr.mono (by omega)) T.b_Walk_visit .nil pass0))
      (pss_one (ps_aug (i := 4) sc_Walk_rounds.nd rfl (Or.inl rfl) (pe_meth (pv 0) T.cl_Walk T.me_Walk_body G_Walk_body (hr.mono (by omega)) T.b_Walk_body .nil pass0 (pa_cons (pv 2) (pa_cons (pv 3) pa_nil))) ip_add))))
      (pss_one (ps_ret (pv 4))))), ?_⟩
  have r1 := rng_ok (i := (n : Int)) (by omega)
  refine ⟨_, rfl, n, rfl, r1.1, r1.2, ?_⟩
  rw [Int.toNat_natCast]
  refine for_it walk_range (fun j σ H' => But (Only1 o) H H' ∧ ∃ (s m : Int), WkObj H' o T.c_Walk dk m ∧ m ≤ l ∧ (rounds n 0 fun _ => stB (callee g ps) b env).1 = s + (rounds (n - j) j fun _ => stB (callee g ps) b env).1 ∧ l - (rounds n 0 fun _ => stB (callee g ps) b env).2 = m - (rounds (n - j) j fun _ => stB (callee g ps) b env).2 ∧ ∃ v5, σ = [some (.ref o), some (.int n), some v, some (.ref en), some (.int s), v5]) ⟨But.refl _ _, 0, l, ob, Int.le_refl _, by rw [Nat.sub_zero, Int.zero_add], by rw [Nat.sub_zero], _, rfl⟩ (fun _ _ _ _ _ => trivial) ?_ ?_
  · rintro j x σ H1 H2 hj ⟨b2, s, m, om, m1, e1, e2, v4, rfl⟩ ⟨rfl, rfl⟩
    obtain ⟨n', en'⟩ : ∃ n', n - j = n' + 1 := ⟨n - j - 1, by omega⟩
    have en2 : n - (j + 1) = n' := by omega
    rw [en', rounds_succ] at e1 e2
    have z2 := rounds_nn (F := fun _ => stB (callee g ps) b env) (fun _ => stB_nn ps g b env) n' (j + 1)
    have z1 := stB_nn ps g b env
    have e1 : (rounds n 0 fun _ => stB (callee g ps) b env).1 = s + ((stB (callee g ps) b env).1 + (rounds n' (j + 1) fun _ => stB (callee g ps) b env).1) := e1
    have e2 : l - (rounds n 0 fun _ => stB (callee g ps) b env).2 = m - ((stB (callee g ps) b env).2 + 1 + (rounds n' (j + 1) fun _ => stB (callee g ps) b env).2) := e2
    obtain ⟨dx, oe⟩ := om
    refine ⟨_, rfl, o, dx, _, rfl, oe, rfl, o, dk, m, rfl, ⟨dx, oe⟩, by omega, fun H3 b3 om3 => ?_⟩
    obtain ⟨dx3, oe3⟩ := om3
    have b4 := b2.trans b3
    refine ⟨_, rfl, _, rfl, o, dx3, _, rfl, oe3, rfl, _, rfl, _, rfl, o, dk, en, _, b, ps, env, i, g, deep, m - 1, rfl, lw.mono b4, ⟨dx3, oe3⟩, db.mono (off_but b4), li.mono b4 (Nat.le_succ f), wk, hi, hg, hd, by omega, by omega, by omega, fun H5 b5 om5 => ?_⟩
    refine ⟨_, _, rfl, rfl, ?_⟩
    exact ⟨b4.trans b5, _, _, om5, by omega, by rw [en2, e1, Int.add_assoc], by rw [en2]; omega, _, rfl⟩
  · rintro σ H1 ⟨b1, s, m, om, m1, e1, e2, v4, rfl⟩
    rw [Nat.sub_self, rounds_zero] at e1 e2
    have e1 : (rounds n 0 fun _ => stB (callee g ps) b env).1 = s + 0 := e1
    have e2 : l - (rounds n 0 fun _ => stB (callee g ps) b env).2 = m - 0 := e2
    rw [e1, e2, Int.add_zero, Int.sub_zero] at k
    exact ⟨_, rfl, k H1 b1 om⟩
theorem ok_end_worth (T : Txt K mg) : FnOk P w K mg base CX0 1 T.a_end_worth T.d_end_worth ["end", "names"] (spComes K) := by
  refine T.F_end_worth.ok sc_end_worth (fun vs H Q E h => ?_) (fun cdv A outer s H vs Q E hr h => ?_)
  · obtain ⟨v, dk, e, env, rfl, _⟩ := h
    rfl
  obtain ⟨v, dk, e, env, rfl, de, hd, we, eo, k⟩ := h
  obtain ⟨a, x, y, rfl, hs, dx, dy⟩ := de.tup2
  cases dx.str'
  cases dy.int'
  refine ⟨_, (pss_cons (ps_asg (pv 0) (pg_tup rfl (pgs_cons (pg_name (i := 2) sc_end_worth.nd rfl (Or.inl rfl)) (pgs_cons (pg_name (i := 3) sc_end_worth.nd rfl (Or.inl rfl)) pgs_nil))))
      (pss_one (ps_ret (pe_ifExp (pt_cmpR op_eq (pv 2) pe_str (nomark _)) (pv 3) (pe_op op_add (pe_dget (hu_of hr) (pv 1) (pv 2) (fun _ _ => rfl)) (pv 3)))))), ?_⟩
  refine ⟨_, rfl, a, _, rfl, hs, rfl, _, _, rfl, _, _, rfl, rfl, _, rfl, rfl, _, rfl, ?_⟩
  unfold endW at k
  refine ite2 (fun c => ?_) (fun c => ?_)
  · have c' : e.1 = "" := V.str.inj (of_decide_eq_true c)
    rw [if_pos c'] at k
    exact ⟨_, rfl, k⟩
  have c' : ¬ e.1 = "" := fun z => c (decide_eq_true (congrArg V.str z))
  rw [if_neg c'] at k
  have hx : e.1 ∈ env.map (·.1) := by
    rcases we.2 with z | z
    · exact absurd z c'
    · exact z
  exact ⟨_, rfl, _, rfl, dk, _, rfl, env_get hd hx, _, rfl, _, _, rfl, rfl, k⟩
theorem Walk_thing_step (T : Txt K mg) (f : Nat) (G_Walk_plan : FnOk P w K mg base CX0 (f + 20) T.a_Walk_plan T.d_Walk_plan ["self", "name", "size"] (spPP K T.c_Walk f)) (G_Walk_body : FnOk P w K mg base CX0 (f + 20) T.a_Walk_body T.d_Walk_body ["self", "things", "names"] (spPB K T.c_Walk f))
    (G_Walk_rounds : FnOk P w K mg base CX0 (f + 20) T.a_Walk_rounds T.d_Walk_rounds ["self", "many", "things", "names"] (spPR K T.c_Walk f)) :
    FnOk P w K mg base CX0 (f + 21) T.a_Walk_thing T.d_Walk_thing ["self", "thing", "names"] (spPT K T.c_Walk (f + 1)) := by
  refine T.F_Walk_thing.ok sc_Walk_thing (fun vs H Q E h => ?_) (fun cdv A outer s H vs Q E hr h => ?_)
  · obtain ⟨o, dk, en, v, t, ps, env, i, g, deep, l, rfl, _⟩ := h
    rfl
  obtain ⟨o, dk, en, v, t, ps, env, i, g, deep, l, rfl, lw, ob, dt, li, wk, na, hi, hg, hd, hf, l0, l1, k⟩ := h
  refine ⟨_, (pss_cons (ps_asg (pv 1) (pg_star rfl (pg_name (i := 3) sc_Walk_thing.nd rfl (Or.inl rfl)) (pg_name (i := 4) sc_Walk_thing.nd rfl (Or.inl rfl))))
      (pss_cons (ps_if (pt_cmpR op_eq (pv 3) pe_str (nomark _)) (pss_one (ps_ret (pe_ix ix_list (pv 4) pe_int (fun _ _ => rfl)))) pss_nil)
      (pss_cons (ps_if (pt_cmpR op_eq (pv 3) pe_str (nomark _)) (pss_one (ps_ret (pe_meth (pv 0) T.cl_Walk T.me_Walk_plan G_Walk_plan (hr.mono (by omega)) T.b_Walk_plan .nil pass0 (pa_cons (pe_ix ix_list (pv 4) pe_int (fun _ _ => rfl)) (pa_cons (pe_callB (call_max2 rfl) (by rfl) T.z_max (by decide +kernel) (pa_cons pe_int (pa_cons (pe_call (ok_end_worth T) (hr.mono (by omega)) (by rfl) T.g_end_worth T.F_end_worth.kp T.b_end_worth .nil pass0 (pa_cons (pe_ix ix_list (pv 4) pe_int (fun _ _ => rfl)) (pa_cons (pv 2) pa_nil))) pa_nil))) pa_nil))))) pss_nil)
      (pss_cons (ps_if (pt_cmpR op_eq (pv 3) pe_str (nomark _)) (pss_cons (ps_set (i := 5) sc_Walk_thing.nd rfl (Or.inl rfl) (pe_cmpR op_le (pe_call (ok_end_worth T) (hr.mono (by omega)) (by rfl) T.g_end_worth T.F_end_worth.kp T.b_end_worth .nil pass0 (pa_cons (pe_ix ix_list (pv 4) pe_int (fun _ _ => rfl)) (pa_cons (pv 2) pa_nil))) (pe_call (ok_end_worth T) (hr.mono (by omega)) (by rfl) T.g_end_worth T.F_end_worth.kp T.b_end_worth .nil pass0 (pa_cons (pe_ix ix_list (pv 4) pe_int (fun _ _ => rfl)) (pa_cons (pv 2) pa_nil))) (nomark _)))
      (pss_one (ps_ret (pe_meth (pv 0) T.cl_Walk T.me_Walk_body G_Walk_body (hr.mono (by omega)) T.b_Walk_body .nil pass0 (pa_cons (pe_ifExp (pt_val (pv 5)) (pe_ix ix_list (pv 4) pe_int (fun _ _ => rfl)) (pe_ix ix_list (pv 4) pe_int (fun _ _ => rfl))) (pa_cons (pv 2) pa_nil)))))) pss_nil)
      (pss_cons (ps_if (pt_cmpR op_eq (pv 3) pe_str (nomark _)) (pss_one (ps_ret (pe_meth (pv 0) T.cl_Walk T.me_Walk_rounds G_Walk_rounds (hr.mono (by omega)) T.b_Walk_rounds .nil pass0 (pa_cons (pe_bits (pe_dget (hu_of hr) (pv 2) (pe_glob rfl T.m_SIZE T.r_SIZE) (fun _ _ => rfl))) (pa_cons (pe_ix ix_list (pv 4) pe_int (fun _ _ => rfl)) (pa_cons (pv 2) pa_nil)))))) pss_nil)
      (pss_cons (ps_set (i := 6) sc_Walk_thing.nd rfl (Or.inl rfl) pe_int)
      (pss_cons (ps_for PassesOwn.never rfl (pi_range2 (by rfl) T.z_range (pa_cons (pe_call (ok_end_worth T) (hr.mono (by omega)) (by rfl) T.g_end_worth T.F_end_worth.kp T.b_end_worth .nil pass0 (pa_cons (pe_ix ix_list (pv 4) pe_int (fun _ _ => rfl)) (pa_cons (pv 2) pa_nil))) (pa_cons (pe_op op_add (pe_call (ok_end_worth T) (hr.mono (by omega)) (by rfl) T.g_end_worth T.F_end_worth.kp T.b_end_worth .nil pass0 (pa_cons (pe_ix ix_list (pv 4) pe_int (fun _ _ => rfl)) (pa_cons (pv 2) pa_nil))) pe_int) pa_nil))) (pg_name (i := 7) sc_Walk_thing.nd rfl (Or.inl rfl)) (pss_cons (ps_expr (pe_meth0 (pv 0) T.cl_Walk T.me_Walk_visit (ok_Walk_visit T) (hr.mono (by omega)) T.b_Walk_visit .nil pass0))
      (pss_cons (ps_set (i := 8) sc_Walk_thing.nd rfl (Or.inl rfl) (pe_callTy call_dictD (by rfl) T.z_dict (by decide +kernel) (pa_cons (pv 2) pa_nil)))
      (pss_cons (ps_dput (hu_of hr) (pv 8) (pe_ix ix_list (pv 4) pe_int (fun _ _ => rfl)) (pv 7) rfl)
      (pss_one (ps_aug (i := 6) sc_Walk_thing.nd rfl (Or.inl rfl) (pe_meth (pv 0) T.cl_Walk T.me_Walk_body G_Walk_body (hr.mono (by omega)) T.b_Walk_body .nil pass0 (pa_cons (pe_ix ix_list (pv 4) pe_int (fun _ _ => rfl)) (pa_cons (pv 8) pa_nil))) ip_add))))))
      (pss_one (ps_ret (pv 6)))))))))), ?_⟩
  have eo := li.ok (by omega)
  have f0 := li.f0
  have wr : ∀ (H2 : Hp) (L : Addr) (xs : List V), H2 L = some (.lst xs) → Rd H2 L (.lst xs) := fun H2 L xs e => .inl e
  cases t with
  | step n =>
    obtain ⟨c, rfl, hc⟩ := thing_step' dt
    have hc := same_t off_same hc
    refine ⟨_, rfl, c, _, _, rfl, hc, fun L hL => ?_⟩
    have eL : (upd H L (.lst [V.int n])) L = some (.lst [V.int n]) := upd_same
    have ob2 : WkObj (upd H L (.lst [V.int n])) o T.c_Walk dk l := by
      obtain ⟨dx, e⟩ := ob
      exact ⟨dx, (same_upd hL) _ _ e⟩
    refine ⟨_, rfl, rfl, _, rfl, ?_⟩
    rw [dec_tt]
    refine iteT ⟨_, rfl, L, _, _, _, rfl, rfl, SqL.of eL, (rfl : atI [V.int n] 0 = some (.int n)), ?_⟩
    simp only [stT] at k
    exact k _ (But.new hL) (by rw [Int.sub_zero]; exact ob2)
  | call nm e =>
    obtain ⟨c, x, rfl, hc, dx'⟩ := thing_call dt
    have hc := same_t off_same hc
    rw [WkT] at wk
    simp only [stT] at k l0
    refine ⟨_, rfl, c, _, _, rfl, hc, fun L hL => ?_⟩
    have eL : (upd H L (.lst [V.str nm, x])) L = some (.lst [V.str nm, x]) := upd_same
    have b1 : But (Only1 o) H (upd H L (.lst [V.str nm, x])) := But.new hL
    have li1 := li.mono b1 (Nat.le_succ f)
    obtain ⟨dx, oe⟩ := ob
    have oe1 := (same_upd (o := .lst [V.str nm, x]) hL) _ _ oe
    refine ⟨_, rfl, rfl, _, rfl, ?_⟩
    rw [dec_ff (by decide)]
    refine iteF ?_
    refine ⟨_, rfl, rfl, _, rfl, ?_⟩
    rw [dec_tt]
    refine iteT ?_
    refine ⟨_, rfl, o, dx, _, rfl, oe1, rfl, _, rfl, L, _, _, _, rfl, rfl, SqL.of eL, (rfl : atI [V.str nm, x] 0 = some (.str nm)), ?_⟩
    refine ⟨_, rfl, L, _, _, _, rfl, rfl, SqL.of eL, (rfl : atI [V.str nm, x] 1 = some x), _, rfl, x, en, e, env, rfl, (dx'.mono (off_but' b1)), same_rd off_same li1.rd, wk.2, eo, ?_⟩
    refine ⟨_, _, rfl, ?_⟩
    obtain ⟨j, b, q1, q2, q3, q4, q5⟩ := pls_find lw.ok wk.1
    have hb := li.b.fin f0 wk.2
    obtain ⟨g', rfl⟩ : ∃ g', g = g' + 1 := ⟨g - 1, by omega⟩
    rw [max_if]
    have et : topE g' ps nm (max 0 (endW env e)) = callee (g' + 1) ps nm (max 0 (endW env e)) := by
      unfold topE callee
      rw [q3, q5 (by omega)]
    exact ⟨o, dk, nm, b, ps, max 0 (endW env e), l, j, g', rfl, lw.mono b1, ⟨dx, oe1⟩, q2, by omega, by omega, .inl (q5 (by omega)), by omega, by omega, by rw [et]; exact l0, l1, fun H' b' ll' => by
      rw [et] at ll' ⊢
      exact k H' (b1.trans b') ll'⟩
  | test e1 e2 b1 b2 =>
    obtain ⟨c, x, y, z, u, rfl, hc, d1, d2, d3, d4⟩ := thing_test dt
    have hc := same_t off_same hc
    rw [WkT] at wk
    simp only [stT] at k l0
    refine ⟨_, rfl, c, _, _, rfl, hc, fun L hL => ?_⟩
    have eL : (upd H L (.lst [x, y, z, u])) L = some (.lst [x, y, z, u]) := upd_same
    have bb : But (Only1 o) H (upd H L (.lst [x, y, z, u])) := But.new hL
    have li1 := li.mono bb (Nat.le_succ f)
    obtain ⟨dx, oe⟩ := ob
    have oe1 := (same_upd (o := .lst [x, y, z, u]) hL) _ _ oe
    refine ⟨_, rfl, rfl, _, rfl, ?_⟩
    rw [dec_ff (by decide)]
    refine iteF ?_
    refine ⟨_, rfl, rfl, _, rfl, ?_⟩
    rw [dec_ff (by decide)]
    refine iteF ?_
    refine ⟨_, rfl, rfl, _, rfl, ?_⟩
    rw [dec_tt]
    refine iteT ?_
    refine ⟨_, rfl, L, _, _, _, rfl, rfl, SqL.of eL, (rfl : atI [x, y, z, u] 0 = some x), _, rfl, x, en, e1, env, rfl, d1.mono (off_but' bb), same_rd off_same li1.rd, wk.2.1, eo, ?_⟩
    refine ⟨_, rfl, L, _, _, _, rfl, rfl, SqL.of eL, (rfl : atI [x, y, z, u] 1 = some y), _, rfl, y, en, e2, env, rfl, d2.mono (off_but' bb), same_rd off_same li1.rd, wk.2.2.1, eo, ?_⟩
    refine ⟨_, _, rfl, rfl, ?_⟩
    refine ⟨_, rfl, o, dx, _, rfl, oe1, rfl, _, rfl, _, rfl, ?_⟩
    refine ite2 (fun c1 => ?_) (fun c1 => ?_)
    · have cc : endW env e1 ≤ endW env e2 := of_decide_eq_true c1
      rw [if_pos cc] at k l0
      refine ⟨_, rfl, L, _, _, _, rfl, rfl, SqL.of eL, (rfl : atI [x, y, z, u] 2 = some z), _, rfl, ?_⟩
      exact ⟨o, dk, en, z, b1, ps, env, i, g, deep + 1, l, rfl, lw.mono bb, ⟨dx, oe1⟩, d3.mono (off_but bb), li1.deep (Nat.le_succ _), wk.2.2.2.1, hi, hg, by omega, by omega, l0, l1, fun H' b' ll' => k H' (bb.trans b') ll'⟩
    · have cc : ¬ endW env e1 ≤ endW env e2 := fun z => c1 (decide_eq_true z)
      rw [if_neg cc] at k l0
      refine ⟨_, rfl, L, _, _, _, rfl, rfl, SqL.of eL, (rfl : atI [x, y, z, u] 3 = some u), _, rfl, ?_⟩
      exact ⟨o, dk, en, u, b2, ps, env, i, g, deep + 1, l, rfl, lw.mono bb, ⟨dx, oe1⟩, d4.mono (off_but bb), li1.deep (Nat.le_succ _), wk.2.2.2.2, hi, hg, by omega, by omega, l0, l1, fun H' b' ll' => k H' (bb.trans b') ll'⟩
  | double b =>
    obtain ⟨c, x, rfl, hc, dx'⟩ := thing_double dt
    have hc := same_t off_same hc
    rw [WkT] at wk
    simp only [stT] at k l0
    refine ⟨_, rfl, c, _, _, rfl, hc, fun L hL => ?_⟩
    have eL : (upd H L (.lst [x])) L = some (.lst [x]) := upd_same
    have bb : But (Only1 o) H (upd H L (.lst [x])) := But.new hL
    have li1 := li.mono bb (Nat.le_succ f)
    obtain ⟨dx, oe⟩ := ob
    have oe1 := (same_upd (o := .lst [x]) hL) _ _ oe
    refine ⟨_, rfl, rfl, _, rfl, ?_⟩
    rw [dec_ff (by decide)]
    refine iteF ?_
    refine ⟨_, rfl, rfl, _, rfl, ?_⟩
    rw [dec_ff (by decide)]
    refine iteF ?_
    refine ⟨_, rfl, rfl, _, rfl, ?_⟩
    rw [dec_ff (by decide)]
    refine iteF ?_
    refine ⟨_, rfl, rfl, _, rfl, ?_⟩
    rw [dec_tt]
    refine iteT ?_
    have hb := bitsN_le (i := lookE env "n") (by have := li.b.look f0 "n"; omega)
    refine ⟨_, rfl, o, dx, _, rfl, oe1, rfl, _, rfl, en, _, rfl, env_get (same_rd off_same li1.rd) li.n, _, rfl, _, rfl, L, _, _, _, rfl, rfl, SqL.of eL, (rfl : atI [x] 0 = some x), _, rfl, ?_⟩
    exact ⟨o, dk, en, x, bitsN (lookE env "n"), b, ps, env, i, g, deep + 1, l, rfl, hb, lw.mono bb, ⟨dx, oe1⟩, dx'.mono (off_but bb), li1.deep (Nat.le_succ _), wk.2, hi, hg, by omega, by omega, l0, l1, fun H' b' ll' => k H' (bb.trans b') ll'⟩
  | loop nm e1 e2 b =>
    obtain ⟨c, x, y, z, rfl, hc, d1, d2, d3⟩ := thing_loop dt
    have hc := same_t off_same hc
    rw [WkT] at wk
    simp only [stT] at k l0
    refine ⟨_, rfl, c, _, _, rfl, hc, fun L hL => ?_⟩
    have eL : (upd H L (.lst [V.str nm, x, y, z])) L = some (.lst [V.str nm, x, y, z]) := upd_same
    have bb : But (Only1 o) H (upd H L (.lst [V.str nm, x, y, z])) := But.new hL
    have li1 := li.mono bb (Nat.le_succ f)
    obtain ⟨dx, oe⟩ := ob
    have oe1 := (same_upd (o := .lst [V.str nm, x, y, z]) hL) _ _ oe
    refine ⟨_, rfl, rfl, _, rfl, ?_⟩
    rw [dec_ff (by decide)]
    refine iteF ?_
    refine ⟨_, rfl, rfl, _, rfl, ?_⟩
    rw [dec_ff (by decide)]
    refine iteF ?_
    refine ⟨_, rfl, rfl, _, rfl, ?_⟩
    rw [dec_ff (by decide)]
    refine iteF ?_
    refine ⟨_, rfl, rfl, _, rfl, ?_⟩
    rw [dec_ff (by decide)]
    refine iteF ?_
    have h1 := li.b.fin f0 wk.2.2.1
    have h2 := li.b.fin f0 wk.2.2.2.1
    have r1 := rng_ok (i := endW env e1) (by omega)
    have r2 := rng_ok (i := endW env e2 + 1) (by omega)
    have nLo : L ≠ o := fun z => by
      rw [z, oe] at hL
      cases hL
    refine ⟨_, rfl, L, _, _, _, rfl, rfl, SqL.of eL, (rfl : atI [V.str nm, x, y, z] 1 = some x), _, rfl, x, en, e1, env, rfl, d1.mono (off_but' bb), same_rd off_same li1.rd, wk.2.2.1, eo, ?_⟩
    refine ⟨_, rfl, L, _, _, _, rfl, rfl, SqL.of eL, (rfl : atI [V.str nm, x, y, z] 2 = some y), _, rfl, y, en, e2, env, rfl, d2.mono (off_but' bb), same_rd off_same li1.rd, wk.2.2.2.1, eo, ?_⟩
    refine ⟨_, _, rfl, rfl, endW env e1, endW env e2 + 1, rfl, ⟨r1.1, r1.2, r2.1, r2.2⟩, ?_⟩
    generalize eH1 : upd H L (.lst [V.str nm, x, y, z]) = H1 at *
    generalize eF : (fun i => stB (callee g ps) b (env ++ [(nm, endW env e1 + (i : Nat))])) = F at *
    generalize eN : (endW env e2 + 1 - endW env e1).toNat = N at *
    have Fnn : ∀ i, 0 ≤ (F i).2 := fun i => by
      rw [← eF]
      exact stB_nn ps g b _
    refine for_it walk_range (fun j σ H' => But (Only1 o) H1 H' ∧ ∃ (s m : Int), WkObj H' o T.c_Walk dk m ∧ m ≤ l ∧ (rounds N 0 F).1 = s + (rounds (N - j) j F).1 ∧ l - (rounds N 0 F).2 = m - (rounds (N - j) j F).2 ∧ ∃ v5 v7 v8, σ = [some (.ref o), some (.ref c), some (.ref en), some (.str "for"), some (.ref L), v5, some (.int s), v7, v8]) ⟨But.refl _ _, 0, l, ⟨dx, oe1⟩, Int.le_refl _, by rw [Nat.sub_zero, Int.zero_add], by rw [Nat.sub_zero], _, _, _, rfl⟩ (fun _ _ _ _ _ => trivial) ?_ ?_
    · rintro j w σ H2 H3 hj ⟨b2, s, m, om, m1, e1', e2', v5, v7, v8, rfl⟩ ⟨rfl, rfl⟩
      obtain ⟨n', en'⟩ : ∃ n', N - j = n' + 1 := ⟨N - j - 1, by omega⟩
      have en2 : N - (j + 1) = n' := by omega
      rw [en', rounds_succ] at e1' e2'
      have z2 := rounds_nn Fnn n' (j + 1)
      have z1 := Fnn j
      have e1' : (rounds N 0 F).1 = s + ((F j).1 + (rounds n' (j + 1) F).1) := e1'
      have e2' : l - (rounds N 0 F).2 = m - ((F j).2 + 1 + (rounds n' (j + 1) F).2) := e2'
      obtain ⟨dx2, oe2⟩ := om
      refine ⟨_, rfl, o, dx2, _, rfl, oe2, rfl, o, dk, m, rfl, ⟨dx2, oe2⟩, by omega, fun H4 b4 om4 => ?_⟩
      have b14 := b2.trans b4
      obtain ⟨dx4, oe4⟩ := om4
      have eL4 := b14 _ _ eL nLo
      have li4 := (li1.mono b14 (Nat.le_refl f))
      refine ⟨_, rfl, en, _, rfl, same_rd off_same li4.rd, fun q hq => ?_⟩
      have noq : o ≠ q := fun z => by
        rw [← z, oe4] at hq
        cases hq
      have nLq : L ≠ q := fun z => by
        rw [← z, eL4] at hq
        cases hq
      refine ⟨_, rfl, _, rfl, _, rfl, L, _, _, _, rfl, rfl, SqL.of ((same_upd hq) _ _ eL4), (rfl : atI [V.str nm, x, y, z] 0 = some (.str nm)), ?_⟩
      refine ⟨q, _, rfl, DPut.k (k := Sum.inr nm) upd_same (by rw [envD_len]; exact small1000 (by have := li.len; omega)), ?_⟩
      rw [env_put wk.2.1, upd_upd]
      have s5 : Same H4 (upd H4 q (.dK (envD (env ++ [(nm, endW env e1 + (j : Nat))])))) := same_upd hq
      have b5 : But (Only1 o) H1 _ := b14.trans (same_but s5)
      have en5 : (env ++ [(nm, endW env e1 + (j : Nat))]).map (·.1) = env.map (·.1) ++ [nm] := by rw [List.map_append]; rfl
      have wk5 : WkB ((ps.take i).map (·.1)) b ((env ++ [(nm, endW env e1 + (j : Nat))]).map (·.1)) (deep + 1) := by rw [en5]; exact wk.2.2.2.2
      have eFj : stB (callee g ps) b (env ++ [(nm, endW env e1 + (j : Nat))]) = F j := by rw [← eF]
      refine ⟨_, rfl, _, rfl, o, dx4, _, rfl, s5 _ _ oe4, rfl, _, rfl, L, _, _, _, rfl, rfl, SqL.of (s5 _ _ eL4), (rfl : atI [V.str nm, x, y, z] 3 = some z), _, rfl, ?_⟩
      refine ⟨o, dk, q, z, b, ps, env ++ [(nm, endW env e1 + (j : Nat))], i, g, deep + 1, m - 1, rfl, (lw.mono bb).mono b5, ⟨dx4, s5 _ _ oe4⟩, d3.mono ((off_but bb).trans (off_but b5)), ⟨off_rd upd_same (Ne.symm noq), by have := li.len; simp; omega, li.b.snoc (by omega), by rw [en5]; exact List.mem_append_left _ li.n⟩, wk5, hi, hg, by omega, by omega, by rw [eFj]; omega, by omega, fun H6 b6 om6 => ?_⟩
      rw [eFj] at om6 ⊢
      refine ⟨_, _, rfl, rfl, ?_⟩
      exact ⟨b5.trans b6, _, _, om6, by omega, by rw [en2, e1', Int.add_assoc], by rw [en2]; omega, _, _, _, rfl⟩
    · rintro σ H2 ⟨b2, s, m, om, m1, e1', e2', v5, v7, v8, rfl⟩
      rw [Nat.sub_self, rounds_zero] at e1' e2'
      have e1' : (rounds N 0 F).1 = s + 0 := e1'
      have e2' : l - (rounds N 0 F).2 = m - 0 := e2'
      rw [e1', e2', Int.add_zero, Int.sub_zero] at k
      exact ⟨_, rfl, k H2 (bb.trans b2) om⟩
  | again n y => cases na
theorem Walk_body_step (T : Txt K mg) (f : Nat) (G_Walk_thing : FnOk P w K mg base CX0 (f + 20) T.a_Walk_thing T.d_Walk_thing ["self", "thing", "names"] (spPT K T.c_Walk f)) :
    FnOk P w K mg base CX0 (f + 21) T.a_Walk_body T.d_Walk_body ["self", "things", "names"] (spPB K T.c_Walk (f + 1)) := by
  refine T.F_Walk_body.ok sc_Walk_body (fun vs H Q E h => ?_) (fun cdv A outer s H vs Q E hr h => ?_)
  · obtain ⟨o, dk, en, v, b, ps, env, i, g, deep, l, rfl, _⟩ := h
    rfl
  obtain ⟨o, dk, en, v, b, ps, env, i, g, deep, l, rfl, lw, ob, db, li, wk, hi, hg, hd, hf, l0, l1, k⟩ := h
  refine ⟨_, (pss_cons (ps_set (i := 3) sc_Walk_body.nd rfl (Or.inl rfl) pe_int)
      (pss_cons (ps_for PassesOwn.never rfl (pi_tup (pv 1)) (pg_name (i := 4) sc_Walk_body.nd rfl (Or.inl rfl)) (pss_one (ps_if (pt_cmpR op_ne (pe_ix ix_tup (pv 4) pe_int (fun _ _ => rfl)) pe_str (nomark _)) (pss_cons (ps_expr (pe_meth0 (pv 0) T.cl_Walk T.me_Walk_visit (ok_Walk_visit T) (hr.mono (by omega)) T.b_Walk_visit .nil pass0))
      (pss_one (ps_aug (i := 3) sc_Walk_body.nd rfl (Or.inl rfl) (pe_meth (pv 0) T.cl_Walk T.me_Walk_thing G_Walk_thing (hr.mono (by omega)) T.b_Walk_thing .nil pass0 (pa_cons (pv 4) (pa_cons (pv 2) pa_nil))) ip_add))) pss_nil)))
      (pss_one (ps_ret (pv 3))))), ?_⟩
  obtain ⟨a, us, rfl, hs, hu⟩ := db.tup'
  rw [thingsD_eq] at hu
  have lu : us.length = b.length := by
    have := hu.length
    rw [List.length_map] at this
    exact this
  refine ⟨_, rfl, a, rfl, ⟨_, same_t off_same hs⟩, for_it (walk_tup (xs := us)) (fun j σ H' => But (Only1 o) H H' ∧ ∃ (s m : Int), WkObj H' o T.c_Walk dk m ∧ m ≤ l ∧ (stB (callee g ps) b env).1 = s + (stB (callee g ps) (b.drop j) env).1 ∧ l - (stB (callee g ps) b env).2 = m - (stB (callee g ps) (b.drop j) env).2 ∧ ∃ v4, σ = [some (.ref o), some (.ref a), some (.ref en), some (.int s), v4]) ⟨But.refl _ _, 0, l, ob, Int.le_refl _, by rw [List.drop_zero, Int.zero_add], by rw [List.drop_zero], _, rfl⟩ (fun i σ H _ p => same_t (off_but' p.1) hs) ?_ ?_⟩
  · rintro j x σ H1 H2 hj ⟨b2, s, m, om, m1, e1, e2, v4, rfl⟩ ⟨rfl, hx⟩
    obtain ⟨t, ht, dt⟩ := DpAll.at_ hu hx
    obtain ⟨c, r, rfl, hc⟩ := thing_head dt
    have wt := wk.mem (List.mem_of_getElem? ht)
    rw [stB_drop ht] at e1 e2
    refine ⟨_, rfl, c, _, _, _, rfl, rfl, same_t (off_but' b2) hc, atI_nat (j := 0) rfl, rfl, _, rfl, ?_⟩
    rw [word_again]
    cases hag : isAgain t with
    | true =>
      rw [hag, if_pos rfl] at e1 e2
      exact iteF ⟨b2, s, m, om, m1, e1, e2, _, rfl⟩
    | false =>
      rw [hag, if_neg (by decide)] at e1 e2
      have z1 := stT_nn ps g t env
      have z2 := stB_nn ps g (b.drop (j + 1)) env
      have e1 : (stB (callee g ps) b env).1 = s + ((stT (callee g ps) t env).1 + (stB (callee g ps) (b.drop (j + 1)) env).1) := e1
      have e2 : l - (stB (callee g ps) b env).2 = m - ((stT (callee g ps) t env).2 + 1 + (stB (callee g ps) (b.drop (j + 1)) env).2) := e2
      refine iteT ?_
      obtain ⟨dx, oe⟩ := om
      refine ⟨_, rfl, o, dx, _, rfl, oe, rfl, o, dk, m, rfl, ⟨dx, oe⟩, by omega, fun H3 b3 om3 => ?_⟩
      obtain ⟨dx3, oe3⟩ := om3
      have b4 := b2.trans b3
      refine ⟨_, rfl, _, rfl, o, dx3, _, rfl, oe3, rfl, _, rfl, _, rfl, o, dk, en, _, t, ps, env, i, g, deep, m - 1, rfl, lw.mono b4, ⟨dx3, oe3⟩, dt.mono (off_but b4), li.mono b4 (Nat.le_succ f), wt, hag, hi, hg, hd, by omega, by omega, by omega, fun H5 b5 om5 => ?_⟩
      refine ⟨_, _, rfl, rfl, ?_⟩
      exact ⟨b4.trans b5, _, _, om5, by omega, by rw [e1, Int.add_assoc], by omega, _, rfl⟩
  · rintro σ H1 ⟨b1, s, m, om, m1, e1, e2, v4, rfl⟩
    rw [lu, stB_end] at e1 e2
    have e1 : (stB (callee g ps) b env).1 = s + 0 := e1
    have e2 : l - (stB (callee g ps) b env).2 = m - 0 := e2
    rw [e1, e2, Int.add_zero, Int.sub_zero] at k
    exact ⟨_, rfl, k H1 b1 om⟩
theorem ok_way_of (T : Txt K mg) : FnOk P w K mg base CX0 1 T.a_way_of T.d_way_of ["plan"] (spWayOf K) := by
  refine T.F_way_of.ok sc_way_of (fun vs H Q E h => ?_) (fun cdv A outer s H vs Q E hr h => ?_)
  · obtain ⟨v, b, G, rfl, _⟩ := h
    rfl
  obtain ⟨v, b, G, rfl, sg, db, ag, bl, k⟩ := h
  refine ⟨_, (pss_cons (ps_for PassesOwn.never rfl (pi_tup (pv 0)) (pg_name (i := 1) sc_way_of.nd rfl (Or.inl rfl)) (pss_one (ps_if (pt_cmpR op_eq (pe_ix ix_tup (pv 1) pe_int (fun _ _ => rfl)) pe_str (nomark _)) (pss_one (ps_ret (pe_slice sl_tupA (pv 1) (po_some pe_int) po_none))) pss_nil)))
      (pss_one (ps_ret pe_non))), ?_⟩
  obtain ⟨a, us, rfl, hs, hd⟩ := db.tup'
  rw [thingsD_eq] at hd
  have lu : us.length = b.length := by
    have := hd.length
    rw [List.length_map] at this
    exact this
  refine ⟨_, rfl, a, rfl, ⟨_, same_t sg hs⟩, for_it (walk_tup (xs := us)) (fun i σ H' => Same H H' ∧ (∀ t ∈ b.take i, isAgain t = false) ∧ ∃ v1, σ = [some (.ref a), v1]) ⟨Same.refl _, by simp, _, rfl⟩ (fun i σ H _ p => same_t (sg.trans p.1) hs) ?_ ?_⟩
  · rintro i x σ H1 H2 hi ⟨s2, na, v1, rfl⟩ ⟨rfl, hx⟩
    obtain ⟨t, ht, dt⟩ := DpAll.at_ hd hx
    obtain ⟨c, r, rfl, hc⟩ := thing_head dt
    refine ⟨_, rfl, c, _, _, _, rfl, rfl, same_t (sg.trans s2) hc, atI_nat (j := 0) rfl, rfl, _, rfl, ?_⟩
    rw [word_again]
    refine ite2 (fun c1 => ?_) (fun c1 => ?_)
    · cases t with
      | again n w =>
        obtain ⟨c', ec, hc⟩ := again_at dt
        cases ec
        refine ⟨_, rfl, ?_⟩
        unfold tNoPart
        refine ⟨1, rfl, c, _, rfl, same_t (sg.trans s2) hc, (fun z => absurd z.1 (by show ¬ HT.sIx 3 0 (some 1) = 0; decide)), fun _ p hp => ?_⟩
        exact k (.ref p) _ (s2.trans (same_upd hp)) (by rw [wayP_at na ht]; exact ⟨p, rfl, SqT.of upd_same⟩)
      | _ => cases c1
    · refine ⟨s2, fun y hy => ?_, _, rfl⟩
      rw [take_snoc ht] at hy
      rcases List.mem_append.mp hy with hy | hy
      · exact na y hy
      · rw [List.mem_singleton.mp hy]
        exact Bool.eq_false_iff.mpr c1
  · rintro σ H1 ⟨s1, na, v1, rfl⟩
    rw [lu, List.take_length] at na
    exact k .non _ s1 (by rw [wayP_all na]; rfl)
theorem Walk_plan_step (T : Txt K mg) (f : Nat) (G_Walk_body : FnOk P w K mg base CX0 (f + 20) T.a_Walk_body T.d_Walk_body ["self", "things", "names"] (spPB K T.c_Walk f)) :
    FnOk P w K mg base CX0 (f + 21) T.a_Walk_plan T.d_Walk_plan ["self", "name", "size"] (spPP K T.c_Walk (f + 1)) := by
  refine T.F_Walk_plan.ok sc_Walk_plan (fun vs H Q E h => ?_) (fun cdv A outer s H vs Q E hr h => ?_)
  · obtain ⟨o, dk, nm, b, ps, sz, l, i, g, rfl, _⟩ := h
    rfl
  obtain ⟨o, dk, nm, b, ps, sz, l, i, g, rfl, lw, ob, hb, hg, hf, zw, z0, zb, l0, l1, k⟩ := h
  refine ⟨_, (pss_cons (ps_set (i := 3) sc_Walk_plan.nd rfl (Or.inl rfl) (pe_dget (hu_of hr) (pe_fld (pv 0) rfl) (pv 1) (fun _ _ => rfl)))
      (pss_cons (ps_set (i := 4) sc_Walk_plan.nd rfl (Or.inl rfl) (pe_call (ok_way_of T) (hr.mono (by omega)) (by rfl) T.g_way_of T.F_way_of.kp T.b_way_of .nil pass0 (pa_cons (pv 3) pa_nil)))
      (pss_cons (ps_set (i := 5) sc_Walk_plan.nd rfl (Or.inl rfl) (pe_meth (pv 0) T.cl_Walk T.me_Walk_body G_Walk_body (hr.mono (by omega)) T.b_Walk_body .nil pass0 (pa_cons (pv 3) (pa_cons (pe_disp (pps_cons (pe_glob rfl T.m_SIZE T.r_SIZE) (pv 2) pps_nil) (by rfl) (by rfl) (by simp) (by decide)) pa_nil))))
      (pss_cons (ps_set (i := 6) sc_Walk_plan.nd rfl (Or.inl rfl) pe_int)
      (pss_cons (ps_while PassesOwn.never (PW.pt (pw_and (pt_cmpR op_notN (pv 4) pe_non (nomark _)) (pw_and1 (pt_cmpR op_gt (pv 2) pe_int (nomark _))))) (pss_cons (ps_expr (pe_meth0 (pv 0) T.cl_Walk T.me_Walk_visit (ok_Walk_visit T) (hr.mono (by omega)) T.b_Walk_visit .nil pass0))
      (pss_cons (ps_aug (i := 6) sc_Walk_plan.nd rfl (Or.inl rfl) (pe_ix ix_tup (pv 4) pe_int (fun _ _ => rfl)) ip_mulW)
      (pss_cons (ps_set (i := 2) sc_Walk_plan.nd rfl (Or.inl rfl) (pe_dget (hu_of hr) (pe_disp (pps_cons pe_str (pe_op op_fdivW (pv 2) pe_int) (pps_cons pe_str (pe_op op_fdivW (pv 2) pe_int) (pps_cons pe_str (pe_op op_sub (pv 2) pe_int) pps_nil))) (by rfl) (by rfl) (by simp) (by decide)) (pe_ix ix_tup (pv 4) pe_int (fun _ _ => rfl)) (fun _ _ => rfl)))
      (pss_one (ps_aug (i := 5) sc_Walk_plan.nd rfl (Or.inl rfl) (pe_op op_mulW (pv 6) (pe_meth (pv 0) T.cl_Walk T.me_Walk_body G_Walk_body (hr.mono (by omega)) T.b_Walk_body .nil pass0 (pa_cons (pv 3) (pa_cons (pe_disp (pps_cons (pe_glob rfl T.m_SIZE T.r_SIZE) (pv 2) pps_nil) (by rfl) (by rfl) (by simp) (by decide)) pa_nil)))) ip_add))))))
      (pss_one (ps_ret (pv 5)))))))), ?_⟩
  obtain ⟨p1, p2, p3⟩ := lw.ok i nm b hb
  have eb := planOf_at hb p2
  have lb := thingsC_len b
  have sz0 := p1.size
  have hi := (List.getElem?_eq_some_iff.mp hb).1
  have nmem : nm ∈ ps.map (·.1) := List.mem_map.mpr ⟨_, List.mem_of_getElem? hb, rfl⟩
  obtain ⟨u, dg, du⟩ := lw.pls.get nmem
  rw [eb] at du
  have dg := dget_mono off_same dg
  obtain ⟨dx, oe⟩ := ob
  refine ⟨_, rfl, o, _, dx, _, _, rfl, oe, T.cl_Walk, T.na_Walk_plans, rfl, _, rfl, dk, _, rfl, dg, ?_⟩
  refine ⟨_, rfl, u, b, Off o H, rfl, off_same, du, wkB_ag p1.wk, by omega, fun y H1 s1 hy => ?_⟩
  have b1 : But (Only1 o) H H1 := same_but s1
  have sN : ∀ sz, 0 ≤ (stB (callee g ps) b [(Str.ofString "n", sz)]).2 := fun sz => stB_nn ps g b _
  have sV : ∀ sz, 0 ≤ (stB (callee g ps) b [(Str.ofString "n", sz)]).1 ∧ (stB (callee g ps) b [(Str.ofString "n", sz)]).1 ≤ 99 * (stB (callee g ps) b [(Str.ofString "n", sz)]).2 := fun sz => stB_ok lw.ok g [(Str.ofString "n", sz)] p1.wk
  -- the body once
  have one : ∀ (H2 : Hp) (p dx2 : Addr) (m s2 : Int) (Q' : VK), But (Only1 o) H H2 → H2 o = some (.ins T.c_Walk dx2 (wkF dk m)) → H2 p = none → (stB (callee g ps) b [(Str.ofString "n", s2)]).2 ≤ m → m ≤ l → 0 ≤ s2 → s2 ≤ sz → (∀ H3, But (Only1 o) H2 H3 → WkObj H3 o T.c_Walk dk (m - (stB (callee g ps) b [(Str.ofString "n", s2)]).2) → Q' (.int (stB (callee g ps) b [(Str.ofString "n", s2)]).1) H3) →
      spPB K T.c_Walk f [.ref o, u, .ref p] (upd (upd H2 p (.dK [])) p (.dK (mergeK [] [(Sum.inr (Str.ofString "n"), .int s2)]))) Q' E0 := fun H2 p dx2 m s2 Q' b2 l2 hp m0 m1 s20 s21 hq => by
    rw [upd_upd]
    have e1 : mergeK [] [((Sum.inr (Str.ofString "n") : L2.Key), V.int s2)] = envD [(Str.ofString "n", s2)] := rfl
    rw [e1]
    have b3 : But (Only1 o) H2 (upd H2 p (.dK (envD [(Str.ofString "n", s2)]))) := But.new hp
    have nlp : o ≠ p := fun z => by
      rw [← z, l2] at hp
      cases hp
    refine ⟨o, dk, p, u, b, ps, [(Str.ofString "n", s2)], i, g, 0, m, rfl, lw.mono (b2.trans b3), ⟨dx2, (upd_ne nlp).trans l2⟩, du.mono (off_but (b2.trans b3)), ⟨off_rd upd_same (Ne.symm nlp), Nat.le_refl 1, fun q hq => ?_, List.mem_singleton.mpr rfl⟩, p1.wk, hi, hg, by omega, by omega, m0, by omega, fun H3 b4 l3 => hq H3 (b3.trans b4) l3⟩
    rw [List.mem_singleton.mp hq]
    show s2.natAbs + _ ≤ _
    omega
  have oe1 := s1 _ _ oe
  have big : (stB (callee g ps) b [(Str.ofString "n", sz)]).2 ≤ l := by
    refine Int.le_trans ?_ l0
    unfold topE
    rw [eb]
    cases wayP b with
    | none => exact Int.le_refl _
    | some nw =>
      have := agE_nn (n := nw.1) (w := nw.2) sN sz.toNat sz 1
      show _ ≤ (stB (callee g ps) b [(Str.ofString "n", sz)]).2 + _
      omega
  refine ⟨_, rfl, o, dx, _, rfl, oe1, rfl, _, rfl, fun p hp => ⟨_, rfl, upd_same, [(Sum.inr (Str.ofString "n"), .int sz)], rfl, (by show 1 ≤ 15; decide), ?_⟩⟩
  try unfold tNil
  refine one H1 p dx l sz _ b1 oe1 hp big (Int.le_refl _) z0 (Int.le_refl _) fun H2 b2 om2 => ?_
  cases hw : wayP b with
  | none =>
    rw [hw] at hy
    cases (show y = .non from hy)
    have et : topE g ps nm sz = stB (callee g ps) b [(Str.ofString "n", sz)] := by
      unfold topE
      rw [eb, hw]
    rw [et] at k
    refine while_by (fun σ H' => H' = H2 ∧ σ = [some (.ref o), some (.str nm), some (.int sz), some u, some .non, some (.int (stB (callee g ps) b [(Str.ofString "n", sz)]).1), some (.int 1)]) (fun _ _ => 0) ⟨rfl, rfl⟩ ?_ ?_
    · rintro σ H3 ⟨rfl, rfl⟩
      refine ⟨_, rfl, rfl, _, rfl, ?_⟩
      exact iteF (iteF ⟨_, rfl, k _ (b1.trans b2) om2⟩)
    · refine mono_and ?_ ?_
      · rintro σ H Q Q' hQ ⟨v, e1, e2, x, e3, q⟩
        exact ⟨v, e1, e2, x, e3, hQ _ _ q⟩
      · rintro σ H Q Q' hQ ⟨v, e1, i, j, e3, e4, kk, e5, q⟩
        exact ⟨v, e1, i, j, e3, e4, kk, e5, hQ _ _ q⟩
  | some nw =>
    obtain ⟨n, w⟩ := nw
    rw [hw] at hy
    obtain ⟨a, rfl, hs⟩ := hy
    have hs : SqT K H1 a [V.int n, V.str w] := hs
    have hs := sqt_off hs oe1
    obtain ⟨n1, n9, w3⟩ := wkB_ag p1.wk n w (wayP_mem hw)
    have w3 : w = "halves" ∨ w = "thirds" ∨ w = "less" := by
      rcases w3 with z | z | ⟨z, _⟩
      · exact .inl z
      · exact .inr (.inl z)
      · exact .inr (.inr z)
    have zk : sz ≤ 1000 := by
      rcases zw with z | z
      · rw [hw] at z
        cases z
      · exact z
    have et : topE g ps nm sz = ((stB (callee g ps) b [(Str.ofString "n", sz)]).1 + (agE sz.toNat n w (fun sz => stB (callee g ps) b [(Str.ofString "n", sz)]) sz 1).1, (stB (callee g ps) b [(Str.ofString "n", sz)]).2 + (agE sz.toNat n w (fun sz => stB (callee g ps) b [(Str.ofString "n", sz)]) sz 1).2) := by
      unfold topE
      rw [eb, hw]
    rw [et] at k l0
    generalize eF : (fun sz => stB (callee g ps) b [(Str.ofString "n", sz)]) = F at *
    have eFs : ∀ sz, stB (callee g ps) b [(Str.ofString "n", sz)] = F sz := fun sz => by rw [← eF]
    simp only [eFs] at k l0 sN sV om2 one big ⊢
    refine while_by (fun σ H' => But (Only1 o) H1 H' ∧ ∃ (s m sz' many : Int) (g0 q : Nat), WkObj H' o T.c_Walk dk m ∧ m ≤ l ∧ 0 ≤ sz' ∧ sz' ≤ sz ∧ sz'.toNat ≤ g0 ∧ q + sz'.toNat ≤ 1000 ∧ many.natAbs < 2 ^ (4 * q + 1) ∧ (F sz).1 + (agE sz.toNat n w F sz 1).1 = s + (agE g0 n w F sz' many).1 ∧ l - ((F sz).2 + (agE sz.toNat n w F sz 1).2) = m - (agE g0 n w F sz' many).2 ∧ (agE g0 n w F sz' many).2 ≤ m ∧
      σ = [some (.ref o), some (.str nm), some (.int sz'), some u, some (.ref a), some (.int s), some (.int many)]) (fun σ _ => match σ with | _ :: _ :: some (.int m) :: _ => m.toNat | _ => 0) ⟨b2, _, _, sz, 1, sz.toNat, 0, om2, by have := sN sz; omega, z0, Int.le_refl _, Nat.le_refl _, by omega, by decide, rfl, by omega, by omega, rfl⟩ ?_ ?_
    · rintro σ H3 ⟨b3, s, m, sz', many, g0, q, om, m1, y0, y1, hg0, hq, hmany, e1, e2, e3, rfl⟩
      refine ⟨_, rfl, rfl, _, rfl, iteT ?_⟩
      refine ⟨_, rfl, _, _, rfl, rfl, _, rfl, ?_⟩
      refine ite2 (fun c1 => ?_) (fun c1 => ?_)
      · have c1' : 0 < sz' := of_decide_eq_true c1
        obtain ⟨g1, rfl, ea⟩ := agE_go (n := n) (w := w) (F := F) (many := many) c1' hg0
        rw [ea] at e1 e2 e3
        obtain ⟨y2, y3⟩ := nextSz_lt w3 c1'
        have a1 := sN (nextSz w sz')
        have a2 := agE_nn (n := n) (w := w) sN g1 (nextSz w sz') (many * n)
        have e1 : (F sz).1 + (agE sz.toNat n w F sz 1).1 = s + (many * n * (F (nextSz w sz')).1 + (agE g1 n w F (nextSz w sz') (many * n)).1) := e1
        have e2 : l - ((F sz).2 + (agE sz.toNat n w F sz 1).2) = m - ((F (nextSz w sz')).2 + 1 + (agE g1 n w F (nextSz w sz') (many * n)).2) := e2
        have e3 : (F (nextSz w sz')).2 + 1 + (agE g1 n w F (nextSz w sz') (many * n)).2 ≤ m := e3
        obtain ⟨dx3, oe3⟩ := om
        refine ⟨_, rfl, o, dx3, _, rfl, oe3, rfl, o, dk, m, rfl, ⟨dx3, oe3⟩, by omega, fun H4 b4 om4 => ?_⟩
        obtain ⟨dx4, oe4⟩ := om4
        have b14 := b3.trans b4
        have n4 : n.natAbs < 2 ^ 4 := by
          have : (2 : Nat) ^ 4 = 16 := by decide
          omega
        have cm := wide_mul hmany n4 (by omega) (by decide) (by omega)
        refine ⟨_, rfl, _, rfl, a, _, _, _, rfl, rfl, same_t (off_but' b14) hs, (rfl : atI [V.int n, V.str w] 0 = some (.int n)), _, _, rfl, rfl, cm, ?_⟩
        have hmany2 : (many * n).natAbs < 2 ^ (4 * (q + 1) + 1) := by
          have := wide_lt hmany n4
          rw [show 4 * (q + 1) + 1 = 4 * q + 1 + 4 by omega]
          exact this
        have div : ∀ j : Int, 0 < j → j.natAbs < 2 ^ 4 → CDivW sz' j := fun j h1 h2 => wide_div h1 h2 (by decide) (by decide)
        refine fun p hp => ⟨_, rfl, _, _, rfl, rfl, div 2 (by decide) (by decide), _, rfl, _, _, rfl, rfl, div 3 (by decide) (by decide), _, rfl, _, _, rfl, rfl, upd_same, [(Sum.inr (Str.ofString "halves"), .int (sz' / 2)), (Sum.inr (Str.ofString "thirds"), .int (sz' / 3)), (Sum.inr (Str.ofString "less"), .int (sz' - 1))], rfl, (by show 3 ≤ 15; decide), ?_⟩
        rw [upd_upd]
        have s5 : Same H4 (upd H4 p (.dK (mergeK [] [(Sum.inr (Str.ofString "halves"), .int (sz' / 2)), (Sum.inr (Str.ofString "thirds"), .int (sz' / 3)), (Sum.inr (Str.ofString "less"), .int (sz' - 1))]))) := same_upd hp
        have b5 : But (Only1 o) H1 _ := b14.trans (same_but s5)
        refine ⟨_, rfl, a, _, _, _, rfl, rfl, same_t (off_but' b5) hs, (rfl : atI [V.int n, V.str w] 1 = some (.str w)), p, _, rfl, .inl ⟨_, Sum.inr w, .inl upd_same, rfl, pick_next w3⟩, ?_⟩
        refine ⟨_, rfl, _, rfl, _, rfl, o, dx4, _, rfl, s5 _ _ oe4, rfl, _, rfl, fun p2 hp2 => ⟨_, rfl, upd_same, [(Sum.inr (Str.ofString "n"), .int (nextSz w sz'))], rfl, (by show 1 ≤ 15; decide), ?_⟩⟩
        refine one _ p2 dx4 (m - 1) (nextSz w sz') _ (b1.trans b5) (s5 _ _ oe4) hp2 (by omega) (by omega) y2 (by omega) fun H6 b6 om6 => ?_
        have v4 := sV (nextSz w sz')
        have cm2 : CMulW (many * n) (F (nextSz w sz')).1 := wide_mul hmany2 (nat_lt (k := 30) (N := 1000000) v4.1 (by omega) (by decide)) (by omega) (by decide) (by omega)
        refine ⟨_, _, rfl, rfl, cm2, _, _, rfl, rfl, ?_⟩
        refine ⟨⟨b5.trans b6, _, _, nextSz w sz', many * n, g1, q + 1, om6, by omega, y2, by omega, by omega, by omega, hmany2, by rw [e1, Int.add_assoc], by omega, by omega, rfl⟩, ?_⟩
        show (nextSz w sz').toNat < sz'.toNat
        omega
      · have c1' : sz' ≤ 0 := by
          have : ¬ 0 < sz' := fun z => c1 (decide_eq_true z)
          omega
        rw [agE_stop c1'] at e1 e2
        have e1 : (F sz).1 + (agE sz.toNat n w F sz 1).1 = s + 0 := e1
        have e2 : l - ((F sz).2 + (agE sz.toNat n w F sz 1).2) = m - 0 := e2
        rw [e1, e2, Int.add_zero, Int.sub_zero] at k
        exact ⟨_, rfl, k _ (b1.trans b3) om⟩
    · refine mono_and ?_ ?_
      · rintro σ H Q Q' hQ ⟨v, e1, e2, x, e3, q⟩
        exact ⟨v, e1, e2, x, e3, hQ _ _ q⟩
      · rintro σ H Q Q' hQ ⟨v, e1, i, j, e3, e4, kk, e5, q⟩
        exact ⟨v, e1, i, j, e3, e4, kk, e5, hQ _ _ q⟩
theorem Walk_all (T : Txt K mg) : ∀ f : Nat, FnOk P w K mg base CX0 (f + 20) T.a_Walk_thing T.d_Walk_thing ["self", "thing", "names"] (spPT K T.c_Walk f) ∧ FnOk P w K mg base CX0 (f + 20) T.a_Walk_body T.d_Walk_body ["self", "things", "names"] (spPB K T.c_Walk f) ∧
    FnOk P w K mg base CX0 (f + 20) T.a_Walk_rounds T.d_Walk_rounds ["self", "many", "things", "names"] (spPR K T.c_Walk f) ∧ FnOk P w K mg base CX0 (f + 20) T.a_Walk_plan T.d_Walk_plan ["self", "name", "size"] (spPP K T.c_Walk f)
  | 0 => by
    have n1 : ∀ vs H Q E, ¬ spPT K T.c_Walk 0 vs H Q E := fun vs H Q E h => by
      obtain ⟨o, dk, en, v, t, ps, env, i, g, deep, l, rfl, lw, ob, dt, li, wk, na, hi, hg, hd, hf, _⟩ := h
      omega
    have n2 : ∀ vs H Q E, ¬ spPB K T.c_Walk 0 vs H Q E := fun vs H Q E h => by
      obtain ⟨o, dk, en, v, b, ps, env, i, g, deep, l, rfl, lw, ob, db, li, wk, hi, hg, hd, hf, _⟩ := h
      omega
    have n3 : ∀ vs H Q E, ¬ spPR K T.c_Walk 0 vs H Q E := fun vs H Q E h => by
      obtain ⟨o, dk, en, v, n, b, ps, env, i, g, deep, l, rfl, hn, lw, ob, db, li, wk, hi, hg, hd, hf, _⟩ := h
      omega
    have n4 : ∀ vs H Q E, ¬ spPP K T.c_Walk 0 vs H Q E := fun vs H Q E h => by
      obtain ⟨o, dk, nm, b, ps, sz, l, i, g, rfl, lw, ob, hb, hg, hf, _⟩ := h
      omega
    exact ⟨⟨fun vs H Q E h => absurd h (n1 vs H Q E), fun A outer s H args us vs Q E _ _ _ _ h => absurd h (n1 vs H Q E)⟩, ⟨fun vs H Q E h => absurd h (n2 vs H Q E), fun A outer s H args us vs Q E _ _ _ _ h => absurd h (n2 vs H Q E)⟩, ⟨fun vs H Q E h => absurd h (n3 vs H Q E), fun A outer s H args us vs Q E _ _ _ _ h => absurd h (n3 vs H Q E)⟩, ⟨fun vs H Q E h => absurd h (n4 vs H Q E), fun A outer s H args us vs Q E _ _ _ _ h => absurd h (n4 vs H Q E)⟩⟩
  | f + 1 => ⟨Walk_thing_step T f (Walk_all T f).2.2.2 (Walk_all T f).2.1 (Walk_all T f).2.2.1, Walk_body_step T f (Walk_all T f).1, Walk_rounds_step T f (Walk_all T f).2.1, Walk_plan_step T f (Walk_all T f).2.1⟩
theorem ok_Walk_plan (T : Txt K mg) : FnOk P w K mg base CX0 100 T.a_Walk_plan T.d_Walk_plan ["self", "name", "size"] (spPP K T.c_Walk 80) := (Walk_all T 80).2.2.2
def spWInit (C : Addr) : Sp := fun vs H Q _ => ∃ (o dx dk : Addr) (l : Int), vs = [.ref o, .ref dk, .int l] ∧ H o = some (.ins C dx []) ∧ ∀ H', But (Only1 o) H H' → WkObj H' o C dk l → Q .non H'
theorem ok_Walk_init (T : Txt K mg) : FnOk P w K mg base CX0 1 T.a_Walk_init T.d_Walk_init ["self", "plans", "left"] (spWInit T.c_Walk) := by
  refine T.F_Walk_init.ok sc_Walk_init (fun vs H Q E h => ?_) (fun cdv A outer s H vs Q E hr h => ?_)
  · obtain ⟨o, dx, dk, l, rfl, _⟩ := h
    rfl
  obtain ⟨o, dx, dk, l, rfl, ob, k⟩ := h
  refine ⟨_, (pss_cons (ps_fld (pv 0) (pv 1) rfl)
      (pss_one (ps_fld (pv 0) (pv 2) rfl))), ?_⟩
  refine ⟨_, rfl, _, rfl, o, _, dx, _, rfl, ob, T.cl_Walk, T.na_Walk_plans, by show 0 < 1000; decide, ?_⟩
  refine ⟨_, rfl, _, rfl, o, _, dx, _, rfl, upd_same, T.cl_Walk, T.na_Walk_left, by show 1 < 1000; decide, ?_⟩
  rw [upd_upd]
  exact k _ ((But.refl _ _).put rfl) ⟨dx, upd_same⟩
def spWalked (K : PySem.W.Frag) : Sp := fun vs H Q _ => ∃ (dk : Addr) (nm : Str) (b : List Thing) (ps : Plans) (sz l : Int) (i g : Nat), vs = [.ref dk, .str nm, .int sz, .int l] ∧ PlsAt K H H dk ps ∧ PlsOk ps ∧ ps[i]? = some (nm, b) ∧ i ≤ g ∧ i ≤ 3 ∧ 0 ≤ sz ∧ sz ≤ 1000 ∧ (topE g ps nm sz).2 ≤ l ∧ l ≤ 10000 ∧
  ∀ H', Same H H' → Q (.int (topE g ps nm sz).1) H'
theorem ok_walked (T : Txt K mg) : FnOk P w K mg base CX0 102 T.a_walked T.d_walked ["plans", "name", "size", "most"] (spWalked K) := by
  refine T.F_walked.ok sc_walked (fun vs H Q E h => ?_) (fun cdv A outer s H vs Q E hr h => ?_)
  · obtain ⟨dk, nm, b, ps, sz, l, i, g, rfl, _⟩ := h
    rfl
  obtain ⟨dk, nm, b, ps, sz, l, i, g, rfl, pl, ok, hb, hg, hi, z0, z1, l0, l1, k⟩ := h
  refine ⟨_, (pss_one (ps_ret (pe_meth (pe_make T.mk_Walk (ok_Walk_init T) (hr.mono (by decide)) (by rfl) T.gc_Walk T.b_Walk_init .nil pass0 (pa_cons (pv 0) (pa_cons (pv 3) pa_nil))) T.cl_Walk T.me_Walk_plan (ok_Walk_plan T) (hr.mono (by decide)) T.b_Walk_plan .nil pass0 (pa_cons (pv 1) (pa_cons (pv 2) pa_nil))))), ?_⟩
  refine ⟨_, rfl, _, rfl, fun x dx hx hdx ne => ⟨x, dx, dk, l, rfl, upd_same, fun H1 b1 ob => ⟨rfl, ?_⟩⟩⟩
  have s0 : Same H (Off x H1) := fun c o e => by
    have n1 : c ≠ x := fun z => by rw [z, hx] at e; cases e
    have n2 : c ≠ dx := fun z => by rw [z, hdx] at e; cases e
    rw [off_ne n1]
    refine b1 c o ?_ n1
    rw [upd_ne n1, upd_ne n2]
    exact e
  obtain ⟨dx1, oe⟩ := ob
  refine ⟨x, dx1, _, rfl, oe, rfl, _, rfl, _, rfl, ?_⟩
  refine ⟨x, dk, nm, b, ps, sz, l, i, g, rfl, ⟨pl.mono s0 s0, ok⟩, ⟨dx1, oe⟩, hb, hg, by omega, .inr z1, z0, by omega, l0, l1, fun H2 b2 _ => k H2 ?_⟩
  exact s0.trans (off_but' b2)
/-- alike data are the same -/
def spSame (K : PySem.W.Frag) (n : Nat) : Sp := fun vs H Q _ => ∃ (x y : V) (d : PyData), vs = [x, y] ∧ Dp K H x d ∧ Dp K H y d ∧ dep d < n ∧ wid d ≤ 100000 ∧ ∀ H', Same H H' → Q (.bl true) H'
theorem same_step (T : Txt K mg) (n : Nat) (G_law_same : FnOk P w K mg base CX0 n T.a_law_same T.d_law_same ["_law_found", "_law_due"] (spSame K n)) :
    FnOk P w K mg base CX0 (n + 1) T.a_law_same T.d_law_same ["_law_found", "_law_due"] (spSame K (n + 1)) := by
  refine T.F_law_same.ok sc_law_same (fun vs H Q E h => ?_) (fun cdv A outer s H vs Q E hr h => ?_)
  · obtain ⟨x, y, d, rfl, _⟩ := h
    rfl
  obtain ⟨x, y, d, rfl, dx, dy, hn, hw, k⟩ := h
  refine ⟨_, (pss_cons (ps_if (pt_val (pe_callB call_isiT (by rfl) T.z_isinstance (by decide +kernel) (pa_cons (pv 1) (pa_cons (pe_tup (pa_cons (pe_bltn (v := .ty "list") (by rfl) T.z_list (by decide +kernel) rfl) (pa_cons (pe_bltn (v := .ty "tuple") (by rfl) T.z_tuple (by decide +kernel) rfl) pa_nil))) pa_nil)))) (pss_cons (ps_if (PW.pt (pw_or (pt_cmpR op_ne (pe_callB call_isi (by rfl) T.z_isinstance (by decide +kernel) (pa_cons (pv 0) (pa_cons (pe_bltn (v := .ty "list") (by rfl) T.z_list (by decide +kernel) rfl) pa_nil))) (pe_callB call_isi (by rfl) T.z_isinstance (by decide +kernel) (pa_cons (pv 1) (pa_cons (pe_bltn (v := .ty "list") (by rfl) T.z_list (by decide +kernel) rfl) pa_nil))) (nomark _)) (pw_or1 (pt_not (pt_val (pe_callB call_isiT (by rfl) T.z_isinstance (by decide +kernel) (pa_cons (pv 0) (pa_cons (pe_tup (pa_cons (pe_bltn (v := .ty "list") (by rfl) T.z_list (by decide +kernel) rfl) (pa_cons (pe_bltn (v := .ty "tuple") (by rfl) T.z_tuple (by decide +kernel) rfl) pa_nil))) pa_nil)))))))) (pss_one (ps_ret pe_bl)) pss_nil)
      (pss_one (ps_ret (pe_and (pe_cmpR op_eq (pe_callB call_len (by rfl) T.z_len (by decide +kernel) (pa_cons (pv 0) pa_nil)) (pe_callB call_len (by rfl) T.z_len (by decide +kernel) (pa_cons (pv 1) pa_nil)) (nomark _)) (pe_one (pe_callB (cr_all rfl) (by rfl) T.z_all (by decide +kernel) (pa_cons (pe_lc (own := [("_law_one", 2), ("_law_other", 3)]) (g := gTup K 2 ((gCons (gName 2) (gCons (gName 3) gNil)))) (tt := tYes) rfl sc_law_same.nd (RZ.pi_zipA (by rfl) T.z_zip (pa_cons (pv 0) (pa_cons (pv 1) pa_nil))) (blkOk_by (N := N_law_same) (sc := defScope s_law_same) (by decide +kernel)) (fun _ _ _ _ _ => (pg_tup rfl (pgs_cons (pg_name (i := 2) sc_law_same.nd rfl (Or.inl rfl)) (pgs_cons (pg_name (i := 3) sc_law_same.nd rfl (Or.inl rfl)) pgs_nil)))) (fun _ _ _ _ _ => pts_nil) (fun _ _ _ _ _ => (pe_call G_law_same hr (by rfl) T.g_law_same T.F_law_same.kp T.b_law_same .nil pass0 (pa_cons (pv 2) (pa_cons (pv 3) pa_nil))))) pa_nil))))))) pss_nil)
      (pss_cons (ps_if (pt_cmpR op_isN (pv 1) pe_non (nomark _)) (pss_one (ps_ret (pe_cmpR op_isN (pv 0) pe_non (nomark _)))) pss_nil)
      (pss_cons (ps_if (PW.pt (pw_or (pt_cmpR op_ne (pe_callB call_isi (by rfl) T.z_isinstance (by decide +kernel) (pa_cons (pv 0) (pa_cons (pe_bltn (v := .ty "bool") (by rfl) T.z_bool (by decide +kernel) rfl) pa_nil))) (pe_callB call_isi (by rfl) T.z_isinstance (by decide +kernel) (pa_cons (pv 1) (pa_cons (pe_bltn (v := .ty "bool") (by rfl) T.z_bool (by decide +kernel) rfl) pa_nil))) (nomark _)) (pw_or1 (pt_cmpR op_ne (pe_callB call_isi (by rfl) T.z_isinstance (by decide +kernel) (pa_cons (pv 0) (pa_cons (pe_bltn (v := .ty "int") (by rfl) T.z_int (by decide +kernel) rfl) pa_nil))) (pe_callB call_isi (by rfl) T.z_isinstance (by decide +kernel) (pa_cons (pv 1) (pa_cons (pe_bltn (v := .ty "int") (by rfl) T.z_int (by decide +kernel) rfl) pa_nil))) (nomark _))))) (pss_one (ps_ret pe_bl)) pss_nil)
      (pss_one (ps_ret (pe_and (pe_cmpR op_eq (pe_callB call_isi (by rfl) T.z_isinstance (by decide +kernel) (pa_cons (pv 0) (pa_cons (pe_bltn (v := .ty "str") (by rfl) T.z_str (by decide +kernel) rfl) pa_nil))) (pe_callB call_isi (by rfl) T.z_isinstance (by decide +kernel) (pa_cons (pv 1) (pa_cons (pe_bltn (v := .ty "str") (by rfl) T.z_str (by decide +kernel) rfl) pa_nil))) (nomark _)) (pe_one (pe_cmpR op_eq (pv 0) (pv 1) (nomark _))))))))), ?_⟩
  have kd := fun d => kit_d (K := K) d
  -- isinstance(due, (list, tuple))
  refine ⟨_, rfl, by show 2 ≤ sizeLine; decide, fun p hp => ?_⟩
  have s1 : Same H (upd H p (.tup clsLT)) := same_upd hp
  refine ⟨y, p, clsLT, _, _, _, rfl, upd_same, pairLT, dp_ty (Dp.mono s1 dy), kit2 (kd d).1 (kd d).2.1, _, rfl, ?_⟩
  refine ite2 (fun c1 => ?_) (fun c1 => ?_)
  · -- lists, tuples
    refine ⟨_, rfl, x, _, _, _, _, rfl, .ty _, dp_ty (Dp.mono s1 dx), (kd d).1, ?_⟩
    refine ⟨_, rfl, y, _, _, _, _, rfl, .ty _, dp_ty (Dp.mono s1 dy), (kd d).1, rfl, _, rfl, ?_⟩
    refine iteNS rfl ?_
    refine ⟨_, rfl, by show 2 ≤ sizeLine; decide, fun p2 hp2 => ?_⟩
    have s2 := s1.trans (same_upd (o := .tup clsLT) hp2)
    refine ⟨x, p2, clsLT, _, _, _, rfl, upd_same, pairLT, dp_ty (Dp.mono s2 dx), kit2 (kd d).1 (kd d).2.1, _, rfl, ?_⟩
    rw [c1]
    refine iteF ?_
    generalize hH : upd (upd H p (.tup clsLT)) p2 (.tup clsLT) = H2 at s2
    have dx2 := Dp.mono s2 dx
    have dy2 := Dp.mono s2 dy
    -- the turns of the comprehension
    have turn : ∀ (D : Addr) (xs ys : List V) (ds : List PyData), H2 D = none → DpAll K H2 xs ds → DpAll K H2 ys ds → depAll ds < n → widAll ds ≤ 100000 → ds.length ≤ 100000 → ∀ (i : Nat) (z : V) (H H' : Hp), i < min xs.length ys.length →
        (Same H2 H ∧ H D = some (.lst (List.replicate i (V.bl true)))) → YPair (fun i => xs[i]?) (fun i => ys[i]?) i H z H' → ∃ T u v du, z = .ref T ∧ H' T = some (.tup [u, v]) ∧ Dp K H' u du ∧ Dp K H' v du ∧ dep du < n ∧ wid du ≤ 100000 ∧ i < 100000 ∧ Same H2 H' ∧ H' D = some (.lst (List.replicate i (V.bl true))) := by
      rintro D xs ys ds hD ax ay hdp hwd hln i z H3 H4 hi ⟨sm, eD⟩ ⟨Tt, u, v, rfl, nT, rfl, gx, gy⟩
      have lx := ax.length
      obtain ⟨du, gd, pu⟩ := ax.get gx
      obtain ⟨dv, gd', pv⟩ := ay.get gy
      rw [gd] at gd'
      cases gd'
      have sm' := sm.trans (same_upd (o := .tup [u, v]) nT)
      have := dep_get gd
      have := wid_get gd
      refine ⟨Tt, u, v, du, rfl, upd_same, Dp.mono sm' pu, Dp.mono sm' pv, by omega, by omega, by omega, sm', ?_⟩
      rw [upd_ne (ne_of_none eD nT)]
      exact eD
    have fin : ∀ (m : Nat) (H' : Hp) (D : Addr), Same H2 H' → H' D = some (.lst (List.replicate m (V.bl true))) → ∃ (a : Addr) (bs : List Bool), ([.ref D] : List V) = [V.ref a] ∧ SqL K H' a (bs.map V.bl) ∧ Q (.bl (bs.all id)) H' := by
      intro m H' D sm eD
      refine ⟨D, List.replicate m true, rfl, SqL.of (by rw [List.map_replicate]; exact eD), ?_⟩
      rw [show (List.replicate m true).all id = true by simp]
      exact k _ (s2.trans sm)
    have body : ∀ (D : Addr) (i : Nat) (u v : V) (du : PyData) (H' : Hp), H2 D = none → Dp K H' u du → Dp K H' v du → dep du < n → wid du ≤ 100000 → i < 100000 → Same H2 H' → H' D = some (.lst (List.replicate i (V.bl true))) →
        spSame K n [u, v] H' (fun y H4 => ∃ acc, H4 D = some (.lst acc) ∧ acc.length < sizeLine ∧ (Same H2 (upd H4 D (.lst (acc ++ [y]))) ∧ (upd H4 D (.lst (acc ++ [y]))) D = some (.lst (List.replicate (i + 1) (V.bl true))))) E0 := by
      intro D i u v du H' hD pu pv hdp hwd hi sm eD
      refine ⟨u, v, du, rfl, pu, pv, hdp, hwd, fun H4 sm4 => ?_⟩
      refine ⟨List.replicate i (V.bl true), sm4 _ _ eD, ?_, ?_, ?_⟩
      · rw [List.length_replicate]
        exact Nat.lt_of_lt_of_le hi (by decide)
      · intro b o e
        rw [upd_ne (ne_of_none e hD)]
        exact sm4 _ _ (sm _ _ e)
      · rw [upd_same, List.replicate_succ']
    cases dx2 with
    | @lst a xs ds hs ha =>
      cases dy2 with
      | @lst b ys _ hs' ha' =>
        have hdp : depAll ds < n := by
          rw [dep] at hn
          omega
        have hwd : widAll ds ≤ 100000 ∧ ds.length ≤ 100000 := by
          rw [wid] at hw
          omega
        have lx := ha.length
        have ly := ha'.length
        have el : decide (V.int ((xs.length : Nat) : Int) = V.int ((ys.length : Nat) : Int)) = true := by
          rw [lx, ly]
          exact decide_eq_true rfl
        refine ⟨_, rfl, _, _, rfl, .inl ⟨xs, hs, rfl⟩, _, rfl, _, _, rfl, .inl ⟨ys, hs', rfl⟩, rfl, _, rfl, ?_⟩
        rw [el]
        refine iteT ?_
        refine ⟨_, rfl, _, rfl, a, b, xs, ys, rfl, .inl ⟨hs, hs', fun D hD => ?_⟩⟩
        refine lc_it (walk_zip rfl) (fun i H => Same H2 H ∧ H D = some (.lst (List.replicate i (V.bl true)))) ⟨same_upd hD, upd_same⟩ (fun i H _ p => ⟨same_l p.1 hs, same_l p.1 hs'⟩) ?_ (fun H' p => fin _ H' D p.1 p.2)
        intro i z H3 H4 hi p y
        obtain ⟨Tt, u, v, du, rfl, eT, pu, pv, h1, h2, h3, sm, eD⟩ := turn D xs ys ds hD ha ha' hdp hwd.1 hwd.2 i z H3 H4 hi p y
        refine ⟨Tt, [u, v], rfl, SqT.of eT, rfl, u, [v], rfl, v, [], rfl, rfl, rfl, ?_⟩
        exact ⟨_, rfl, _, rfl, body D i u v du H4 hD pu pv h1 h2 h3 sm eD⟩
    | @tup a xs ds hs ha =>
      cases dy2 with
      | @tup b ys _ hs' ha' =>
        have hdp : depAll ds < n := by
          rw [dep] at hn
          omega
        have hwd : widAll ds ≤ 100000 ∧ ds.length ≤ 100000 := by
          rw [wid] at hw
          omega
        have lx := ha.length
        have ly := ha'.length
        have el : decide (V.int ((xs.length : Nat) : Int) = V.int ((ys.length : Nat) : Int)) = true := by
          rw [lx, ly]
          exact decide_eq_true rfl
        refine ⟨_, rfl, _, _, rfl, .inr ⟨xs, hs, rfl⟩, _, rfl, _, _, rfl, .inr ⟨ys, hs', rfl⟩, rfl, _, rfl, ?_⟩
        rw [el]
        refine iteT ?_
        refine ⟨_, rfl, _, rfl, a, b, xs, ys, rfl, .inr ⟨hs, hs', fun D hD => ?_⟩⟩
        refine lc_it (walk_zipT rfl) (fun i H => Same H2 H ∧ H D = some (.lst (List.replicate i (V.bl true)))) ⟨same_upd hD, upd_same⟩ (fun i H _ p => ⟨same_t p.1 hs, same_t p.1 hs'⟩) ?_ (fun H' p => fin _ H' D p.1 p.2)
        intro i z H3 H4 hi p y
        obtain ⟨Tt, u, v, du, rfl, eT, pu, pv, h1, h2, h3, sm, eD⟩ := turn D xs ys ds hD ha ha' hdp hwd.1 hwd.2 i z H3 H4 hi p y
        refine ⟨Tt, [u, v], rfl, SqT.of eT, rfl, u, [v], rfl, v, [], rfl, rfl, rfl, ?_⟩
        exact ⟨_, rfl, _, rfl, body D i u v du H4 hD pu pv h1 h2 h3 sm eD⟩
    | non => exact absurd c1 (by decide)
    | bl b => exact absurd c1 (by decide : ¬ (isTn "list" "bool" || isTn "tuple" "bool") = true)
    | int i => exact absurd c1 (by decide : ¬ (isTn "list" "int" || isTn "tuple" "int") = true)
    | str x => exact absurd c1 (by decide : ¬ (isTn "list" "str" || isTn "tuple" "str") = true)
  · generalize upd H p (.tup clsLT) = H2 at s1
    have dx2 := Dp.mono s1 dx
    have dy2 := Dp.mono s1 dy
    cases dx2 with
    | lst hs ha => exact absurd rfl c1
    | tup hs ha => exact absurd rfl c1
    | non =>
      cases dy2
      refine ⟨_, rfl, rfl, _, rfl, ?_⟩
      refine iteT ?_
      exact ⟨_, rfl, rfl, k _ s1⟩
    | bl b =>
      cases dy2
      refine ⟨_, rfl, rfl, _, rfl, ?_⟩
      refine iteF ?_
      -- isinstance(.., bool), isinstance(.., int)
      refine ⟨_, rfl, _, _, _, _, _, rfl, .ty _, .base (.bl b), (kd (.bool b)).2.2.1, _, rfl, _, _, _, _, _, rfl, .ty _, .base (.bl b), (kd (.bool b)).2.2.1, rfl, _, rfl, ?_⟩
      refine iteNS rfl ?_
      refine ⟨_, rfl, _, _, _, _, _, rfl, .ty _, .base (.bl b), (kd (.bool b)).2.2.2.1, _, rfl, _, _, _, _, _, rfl, .ty _, .base (.bl b), (kd (.bool b)).2.2.2.1, rfl, _, rfl, ?_⟩
      refine iteNS rfl ?_
      refine ⟨_, rfl, _, _, _, _, _, rfl, .ty _, .base (.bl b), (kd (.bool b)).2.2.2.2, _, rfl, _, _, _, _, _, rfl, .ty _, .base (.bl b), (kd (.bool b)).2.2.2.2, rfl, _, rfl, ?_⟩
      rw [decide_eq_true rfl]
      refine iteT ?_
      refine ⟨_, rfl, _, rfl, rfl, ?_⟩
      rw [decide_eq_true rfl]
      exact k _ s1
    | int b =>
      cases dy2
      refine ⟨_, rfl, rfl, _, rfl, ?_⟩
      refine iteF ?_
      -- isinstance(.., bool), isinstance(.., int)
      refine ⟨_, rfl, _, _, _, _, _, rfl, .ty _, .base (.int b), (kd (.int b)).2.2.1, _, rfl, _, _, _, _, _, rfl, .ty _, .base (.int b), (kd (.int b)).2.2.1, rfl, _, rfl, ?_⟩
      refine iteNS rfl ?_
      refine ⟨_, rfl, _, _, _, _, _, rfl, .ty _, .base (.int b), (kd (.int b)).2.2.2.1, _, rfl, _, _, _, _, _, rfl, .ty _, .base (.int b), (kd (.int b)).2.2.2.1, rfl, _, rfl, ?_⟩
      refine iteNS rfl ?_
      refine ⟨_, rfl, _, _, _, _, _, rfl, .ty _, .base (.int b), (kd (.int b)).2.2.2.2, _, rfl, _, _, _, _, _, rfl, .ty _, .base (.int b), (kd (.int b)).2.2.2.2, rfl, _, rfl, ?_⟩
      rw [decide_eq_true rfl]
      refine iteT ?_
      refine ⟨_, rfl, _, rfl, rfl, ?_⟩
      rw [decide_eq_true rfl]
      exact k _ s1
    | str b =>
      cases dy2
      refine ⟨_, rfl, rfl, _, rfl, ?_⟩
      refine iteF ?_
      -- isinstance(.., bool), isinstance(.., int)
      refine ⟨_, rfl, _, _, _, _, _, rfl, .ty _, .base (.str b), (kd (.str b)).2.2.1, _, rfl, _, _, _, _, _, rfl, .ty _, .base (.str b), (kd (.str b)).2.2.1, rfl, _, rfl, ?_⟩
      refine iteNS rfl ?_
      refine ⟨_, rfl, _, _, _, _, _, rfl, .ty _, .base (.str b), (kd (.str b)).2.2.2.1, _, rfl, _, _, _, _, _, rfl, .ty _, .base (.str b), (kd (.str b)).2.2.2.1, rfl, _, rfl, ?_⟩
      refine iteNS rfl ?_
      refine ⟨_, rfl, _, _, _, _, _, rfl, .ty _, .base (.str b), (kd (.str b)).2.2.2.2, _, rfl, _, _, _, _, _, rfl, .ty _, .base (.str b), (kd (.str b)).2.2.2.2, rfl, _, rfl, ?_⟩
      rw [decide_eq_true rfl]
      refine iteT ?_
      refine ⟨_, rfl, _, rfl, rfl, ?_⟩
      rw [decide_eq_true rfl]
      exact k _ s1
theorem same_all (T : Txt K mg) : ∀ n, FnOk P w K mg base CX0 n T.a_law_same T.d_law_same ["_law_found", "_law_due"] (spSame K n)
  | 0 => by
    have no : ∀ vs H Q E, ¬ spSame K 0 vs H Q E := fun vs H Q E h => by
      obtain ⟨x, y, d, _, _, _, h, _⟩ := h
      omega
    exact ⟨fun vs H Q E h => absurd h (no vs H Q E), fun A outer s H args us vs Q E _ _ _ _ h => absurd h (no vs H Q E)⟩
  | n + 1 => same_step T n (same_all T n)
theorem ok_law_same (T : Txt K mg) : FnOk P w K mg base CX0 12 T.a_law_same T.d_law_same ["_law_found", "_law_due"] (spSame K 12) := same_all T 12
def LV : Nat := 120
def spLaw (K : PySem.W.Frag) : Sp := fun vs H Q _ => ∃ (a : Addr) (ns : List Int), vs = [.ref a] ∧ SqL K H a (ns.map V.int) ∧ ns.length ≤ 63 ∧ ∀ H', Q (.bl true) H'
theorem ok_law (T : Txt K mg) : FnG P w K mg base CX0 LV T.a_law T.d_law ["_law_script"] (spLaw K) := by
  refine fnG_ok T.F_law sc_law (fun vs H Q E h => ?_) (fun cdv A outer s H vs Q E gd hr h => ?_)
  · obtain ⟨a, ns, rfl, _⟩ := h
    rfl
  obtain ⟨a, ns, rfl, hS, hl, k⟩ := h
  refine ⟨_, (pss_cons (ps_set (i := 1) sc_law.nd rfl (Or.inl rfl) (pe_call (ok_law_begin T) (hr.mono (by decide)) (by rfl) T.g_law_begin T.F_law_begin.kp T.b_law_begin .nil pass0 (pa_cons (pv 0) pa_nil)))
      (pss_cons (ps_set (i := 2) sc_law.nd rfl (Or.inl rfl) (pe_call (ok_law_drawn_plans T) (hr.mono (by decide)) (by rfl) T.g_law_drawn_plans T.F_law_drawn_plans.kp T.b_law_drawn_plans .nil pass0 (pa_cons (pv 1) (pa_cons pe_int (pa_cons pe_bl (pa_cons pe_bl pa_nil))))))
      (C8.pss_cut (ps_set (i := 3) sc_law.nd rfl (Or.inl rfl) (pe_ifExp (pt_cmpR op_eq (pe_call (ok_law_take T) (hr.mono (by decide)) (by rfl) T.g_law_take T.F_law_take.kp T.b_law_take .nil pass0 (pa_cons (pv 1) (pa_cons pe_int pa_nil))) pe_int (nomark _)) (pe_ix ix_list (pe_callTy (call_listD rfl) (by rfl) T.z_list (by decide +kernel) (pa_cons (pv 2) pa_nil)) (pe_un un_neg pe_int) (fun _ _ => rfl)) (pe_call (ok_law_with_way T) (hr.mono (by decide)) (by rfl) T.g_law_with_way T.F_law_with_way.kp T.b_law_with_way .nil pass0 (pa_cons (pv 1) (pa_cons (pv 2) pa_nil)))))
      (pss_cons (ps_set (i := 4) sc_law.nd rfl (Or.inl rfl) (pe_callB (call_reprP gd (repr_room hr)) (by rfl) T.z_repr (by decide +kernel) (pa_cons (pv 2) pa_nil)))
      (pss_cons (ps_for PassesOwn.never rfl (pi_list (pe_lst (pa_cons pe_int (pa_cons pe_int (pa_cons pe_int (pa_cons pe_int (pa_cons (pe_op op_add pe_int (pe_call (ok_law_take T) (hr.mono (by decide)) (by rfl) T.g_law_take T.F_law_take.kp T.b_law_take .nil pass0 (pa_cons (pv 1) (pa_cons pe_int pa_nil)))) (pa_cons (pe_call (ok_law_take T) (hr.mono (by decide)) (by rfl) T.g_law_take T.F_law_take.kp T.b_law_take .nil pass0 (pa_cons (pv 1) (pa_cons pe_int pa_nil))) pa_nil)))))))) (pg_name (i := 5) sc_law.nd rfl (Or.inl rfl)) (pss_cons (ps_set (i := 6) sc_law.nd rfl (Or.inl rfl) (pe_lst (pa_cons pe_int pa_nil)))
      (pss_cons (ps_set (i := 7) sc_law.nd rfl (Or.inl rfl) (pe_call (ok_law_walk T) (hr.mono (by decide)) (by rfl) T.g_law_walk T.F_law_walk.kp T.b_law_walk .nil pass0 (pa_cons (pv 2) (pa_cons (pv 3) (pa_cons (pv 5) (pa_cons (pv 6) pa_nil))))))
      (pss_one (ps_if (pt_cmpR op_ge (pe_ix ix_list (pv 6) pe_int (fun _ _ => rfl)) pe_int (nomark _)) (pss_cons (ps_set (i := 8) sc_law.nd rfl (Or.inl rfl) (pe_lst (pa_cons (pe_call (ok_walked T) (hr.mono (by decide)) (by rfl) T.g_walked T.F_walked.kp T.b_walked T.dv_walked pass0 (pa_cons (pv 2) (pa_cons (pv 3) (pa_cons (pv 5) pa_nil)))) (pa_cons (pe_callN (ok_walked T) (hr.mono (by decide)) (by rfl) T.g_walked T.F_walked.kp T.kb_walked pass0 (pa_cons (pv 2) (pa_cons (pv 3) (pa_cons (pv 5) pa_nil))) (pk_cons pe_int pk_nil)) pa_nil))))
      (pss_one (ps_if (pt_not (pt_val (pe_call (ok_law_same T) (hr.mono (by decide)) (by rfl) T.g_law_same T.F_law_same.kp T.b_law_same .nil pass0 (pa_cons (pv 8) (pa_cons (pe_lst (pa_cons (pv 7) (pa_cons (pv 7) pa_nil))) pa_nil))))) (pss_one (ps_ret pe_bl)) pss_nil))) pss_nil)))))
      (pss_one (ps_ret (pe_cmpR op_eq (pe_callB (call_reprP gd (repr_room hr)) (by rfl) T.z_repr (by decide +kernel) (pa_cons (pv 2) pa_nil)) (pv 4) (nomark _))))))))), ?_⟩
  refine ⟨_, rfl, a, ns, rfl, hS, hl, fun d l H1 nd _ s1 D1 => ?_⟩
  refine ⟨_, rfl, d, l, 3, true, false, (fun _ => none), rfl, (fun _ _ e => nomatch e), rfl, D1, by decide, by decide, fun dk kvs ps G2 H2 g2 D2 hdk gk2 ek2 kv2 ok2 l1 l3 w2 => ?_⟩
  have gd2 := g2.none rfl D1.cell
  have ndd : dk ≠ d := D1.ned hdk
  have hne : ps ≠ [] := fun z => by rw [z] at l1; exact absurd l1 (by decide)
  obtain ⟨ps0, pl, rfl⟩ : ∃ ps0 p, ps = ps0 ++ [p] := ⟨ps.dropLast, ps.getLast hne, (List.dropLast_concat_getLast hne).symm⟩
  obtain ⟨nm, b⟩ := pl
  rw [List.length_append] at l3
  have l3 : ps0.length ≤ 2 := by
    have l3 : ((ps0.length + 1 : Nat) : Int) ≤ 3 := l3
    omega
  let Md : L2.St → Hp → Prop := fun σ H' => ∃ (G' : Hp) (kvs : List (L2.Key × V)) (b : List Thing), Same G' H' ∧ DrawAt H' d l ∧ G' d = none ∧ H' dk = some (.dK kvs) ∧ KvOk K G' kvs (ps0 ++ [(nm, b)]) ∧ PlsOk (ps0 ++ [(nm, b)]) ∧
    σ = [some (.ref a), some (.ref d), some (.ref dk), some (.str nm), none, none, none, none, none]
  refine ⟨Md, ?_, ?_⟩
  · refine ⟨_, rfl, d, l, 3, rfl, D2, by decide, by decide, fun r H3 r0 r1 D3 b3 => ⟨rfl, _, rfl, ?_⟩⟩
    have sg3 := (Grow.draw g2.gh gd2 b3).gh
    have ek3 := b3 _ _ ek2 ndd
    refine ite2 (fun _ => ?_) (fun _ => ?_)
    · refine ⟨_, rfl, dk, kvs, rfl, .inl ek3, fun p hp => ?_⟩
      have hat : atI (kvs.map fun kv => kV kv.1) (-1) = some (.str nm) := by
        rw [kv2.keys, List.map_append, List.map_append]
        exact atI_last _ _
      refine ⟨1, rfl, p, _, _, _, rfl, rfl, SqL.of upd_same, hat, ?_⟩
      exact ⟨G2, kvs, b, sg3.trans (same_upd hp), D3.upd hp, gd2, (same_upd hp) _ _ ek3, kv2, ok2, rfl⟩
    · obtain ⟨elast, _, _, _⟩ := ok2.at_last
      obtain ⟨q1, q2, q3⟩ := w2 _ _ _ elast
      refine ⟨_, rfl, _, rfl, d, l, dk, kvs, ps0, nm, b, G2, rfl, sg3, gd2, gk2, D3, ek3, kv2, ok2, by omega, q1, q2, q3, fun kvs' c G4 H4 g4 D4 ek4 kv4 ok4 => ?_⟩
      exact ⟨G4, kvs', c, g4.gh, D4, g4.none gd2 D3.cell, ek4, kv4, ok4, rfl⟩
  rintro σ H3 ⟨G3, kvs, b, sg3, D3, gd3, ek3, kv3, ok3, rfl⟩
  clear w2 kv2 ok2 ek2
  obtain ⟨elast, _, _, _⟩ := ok3.at_last
  have shw : ∀ p ∈ ps0 ++ [(nm, b)], PlShow p := fun p hp => by
    obtain ⟨j, hj, ej⟩ := List.getElem_of_mem hp
    exact plShow_of (nm := p.1) (b := p.2) (ok3 j p.1 p.2 (by rw [List.getElem?_eq_getElem hj, ej])).1
  have len : (ps0 ++ [(nm, b)]).length = ps0.length + 1 := by rw [List.length_append]; rfl
  refine ⟨_, rfl, dk, kvs, _, rfl, .inl ek3, kv3.mono sg3, shw, by omega, ?_⟩
  refine ⟨_, rfl, d, l, 9, rfl, D3, by decide, by decide, fun t1 H4 p0 p1 D4 b4 => ?_⟩
  have sg4 := (Grow.draw sg3 gd3 b4).gh
  have ek4 := b4 _ _ ek3 ndd
  refine ⟨_, _, rfl, rfl, _, rfl, d, l, 200, rfl, D4, by decide, by decide, fun t2 H5 q0 q1 D5 b5 => ?_⟩
  have sg5 := (Grow.draw sg4 gd3 b5).gh
  have ek5 := b5 _ _ ek4 ndd
  refine ⟨by show 6 ≤ sizeLine; decide, fun S hS => ?_⟩
  have eS : (upd H5 S (.lst [.int 0, .int 1, .int 2, .int 3, .int (4 + t1), .int t2])) S = some (.lst [.int 0, .int 1, .int 2, .int 3, .int (4 + t1), .int t2]) := upd_same
  have sg6 := sg5.trans (same_upd (o := .lst [.int 0, .int 1, .int 2, .int 3, .int (4 + t1), .int t2]) hS)
  have ek6 := (same_upd (o := .lst [.int 0, .int 1, .int 2, .int 3, .int (4 + t1), .int t2]) hS) _ _ ek5
  generalize upd H5 S (.lst [.int 0, .int 1, .int 2, .int 3, .int (4 + t1), .int t2]) = H6 at eS sg6 ek6 ⊢
  refine ⟨S, rfl, ⟨_, SqL.of eS⟩, for_it (walk_list (xs := [.int 0, .int 1, .int 2, .int 3, .int (4 + t1), .int t2])) (fun i σ H' => Same H6 H' ∧ ∃ v5 v6 v7 v8, σ = [some (.ref a), some (.ref d), some (.ref dk), some (.str nm), some (.str (PyData.dict (plansD (ps0 ++ [(nm, b)]))).shown), v5, v6, v7, v8]) ⟨Same.refl _, _, _, _, _, rfl⟩ (fun i σ H' _ p => SqL.of (p.1 _ _ eS)) ?_ ?_⟩
  · rintro i x σ H7 H8 hi ⟨s8, v5, v6, v7, v8, rfl⟩ ⟨rfl, hx⟩
    obtain ⟨z, rfl, z0, z1⟩ : ∃ z, x = .int z ∧ 0 ≤ z ∧ z ≤ 300 := by
      have hm := List.mem_of_getElem? hx
      simp only [List.mem_cons, List.not_mem_nil, or_false] at hm
      rcases hm with rfl | rfl | rfl | rfl | rfl | rfl <;> exact ⟨_, rfl, by omega, by omega⟩
    refine ⟨by show 1 ≤ sizeLine; decide, fun lc hlc => ?_⟩
    have sg8 := sg6.trans s8
    have ek8 := s8 _ _ ek6
    have ndl : dk ≠ lc := fun q => by rw [← q, ek8] at hlc; cases hlc
    have s9 := same_upd (o := .lst [.int 3000]) hlc
    have so : Same H8 (Off lc (upd H8 lc (.lst [.int 3000]))) := fun c o e => by
      rw [off_ne (ne_of_none e hlc)]
      exact s9 c o e
    have plF : ∀ H', Same H8 H' → PlsAt K H' H' dk (ps0 ++ [(nm, b)]) := fun H' s' => ⟨kvs, .inl (s' _ _ ek8), kv3.mono (sg8.trans s')⟩
    refine ⟨_, rfl, _, rfl, _, rfl, _, rfl, dk, lc, nm, b, ps0 ++ [(nm, b)], z, 3000, ps0.length, 3, rfl, ⟨plF _ so, ok3⟩, upd_same, elast, by omega, by omega, .inr (by omega), z0, by omega, by decide, by decide, fun H9 b9 l9 => ?_⟩
    have s89 : Same H8 H9 := so.trans (off_but' b9)
    refine ⟨_, rfl, lc, _, 0, _, rfl, rfl, SqL.of l9, rfl, _, 0, rfl, rfl, _, rfl, ?_⟩
    refine ite2 (fun c1 => ?_) (fun c1 => ?_)
    · have c1' : 0 ≤ (topL 3 (ps0 ++ [(nm, b)]) nm z 3000).2 := of_decide_eq_true c1
      have r := rel_top 3 (ps0 ++ [(nm, b)]) nm z
      have le : (topE 3 (ps0 ++ [(nm, b)]) nm z).2 ≤ 3000 := by
        by_cases q : (topE 3 (ps0 ++ [(nm, b)]) nm z).2 ≤ 3000
        · exact q
        · have := r.few 3000 (by omega)
          omega
      have ev : (topL 3 (ps0 ++ [(nm, b)]) nm z 3000).1 = (topE 3 (ps0 ++ [(nm, b)]) nm z).1 := by rw [r.enough 3000 le]
      rw [ev]
      refine ⟨_, rfl, _, rfl, _, rfl, dk, nm, b, ps0 ++ [(nm, b)], z, 10000, ps0.length, 3, rfl, plF _ s89, ok3, elast, by omega, by omega, z0, by omega, by omega, by decide, fun H10 s10 => ?_⟩
      refine ⟨_, rfl, _, rfl, _, rfl, rfl, rfl, dk, nm, b, ps0 ++ [(nm, b)], z, 3000, ps0.length, 3, rfl, plF _ (s89.trans s10), ok3, elast, by omega, by omega, z0, by omega, le, by decide, fun H11 s11 => ?_⟩
      generalize (topE 3 (ps0 ++ [(nm, b)]) nm z).1 = e
      refine ⟨by show 2 ≤ sizeLine; decide, fun F hF => ?_⟩
      have s12 := same_upd (o := .lst [.int e, .int e]) hF
      refine ⟨_, rfl, _, rfl, _, rfl, by show 2 ≤ sizeLine; decide, fun R hR => ?_⟩
      have s13 := same_upd (o := .lst [.int e, .int e]) hR
      try unfold tNil
      refine ⟨_, _, .list [.int e, .int e], rfl, .lst (SqL.of (s13 _ _ upd_same)) (.cons (.int _) (.cons (.int _) .nil)), .lst (SqL.of upd_same) (.cons (.int _) (.cons (.int _) .nil)), by simp [dep, depAll], by simp [wid, widAll], fun H14 s14 => ?_⟩
      refine ⟨_, rfl, iteF ?_⟩
      exact ⟨s8.trans (s89.trans (s10.trans (s11.trans (s12.trans (s13.trans s14))))), _, _, _, _, rfl⟩
    · exact ⟨s8.trans s89, _, _, _, _, rfl⟩
  · rintro σ H7 ⟨s7, v5, v6, v7, v8, rfl⟩
    refine ⟨_, rfl, dk, kvs, _, rfl, .inl (s7 _ _ ek6), kv3.mono (sg6.trans s7), shw, by omega, ?_⟩
    refine ⟨_, rfl, rfl, ?_⟩
    rw [dec_tt]
    exact k _
end
theorem all_mk {l : PySem.W.OpenLaw} {w : World} {K : PySem.W.Frag} {h : Heap} {mg : Str → Option Value} {fa : Addr} (X : K.In h) (G : h.Ns mainGlobals mg) (hfa : mg "law" = some (.ref fa))
    {C_Walk : Addr} (gc_Walk : PySem.W.nsIn K mainGlobals "Walk" = some (some (.ref C_Walk))) (pg_Walk : PySem.W.plainGet K C_Walk Str.empty = true) (hd_Walk : PySem.W.hasDictIn K C_Walk = true) (po_Walk : PySem.W.plainOver K C_Walk = true) (sa_Walk : PySem.W.findIn K (.ref C_Walk) "__setattr__" = some (some (.builtin "object.__setattr__"))) (mk_Walk : PySem.W.makesIn K C_Walk = true) (kc_Walk : PySem.W.keepIn K (.ref C_Walk) = true)
    (na_Walk_plans : PySem.W.findIn K (.ref C_Walk) "plans" = some none)
    (na_Walk_left : PySem.W.findIn K (.ref C_Walk) "left" = some none)
    {f0 : Addr} {od0 an0 : Option Addr} {sl0 : Array (Option Value)} {oc0 kV0 dc0 pm0 cd0 ct0 : Value}
    (a0 : PySem.W.nsIn K mainGlobals "_law_begin" = some (some (.ref f0)))
    (l0 : K.lookup f0 = some ⟨oc0, od0, .func (PySem.W.fnOf "_law_begin" "_law_begin" (defArgs s_law_begin) (defBody s_law_begin) (defScope s_law_begin) .none kV0 dc0 pm0 an0 cd0 ct0), sl0⟩) (c0 : PySem.W.codeIn K cd0 "_law_begin" = true) (k0 : PySem.W.keepIn K (.ref f0) = true)
    {f1 : Addr} {od1 an1 : Option Addr} {sl1 : Array (Option Value)} {oc1 kV1 dc1 pm1 cd1 ct1 : Value}
    (a1 : PySem.W.nsIn K mainGlobals "_law_take" = some (some (.ref f1)))
    (l1 : K.lookup f1 = some ⟨oc1, od1, .func (PySem.W.fnOf "_law_take" "_law_take" (defArgs s_law_take) (defBody s_law_take) (defScope s_law_take) .none kV1 dc1 pm1 an1 cd1 ct1), sl1⟩) (c1 : PySem.W.codeIn K cd1 "_law_take" = true) (k1 : PySem.W.keepIn K (.ref f1) = true)
    {f2 : Addr} {od2 an2 : Option Addr} {sl2 : Array (Option Value)} {oc2 kV2 dc2 pm2 cd2 ct2 : Value}
    (a2 : PySem.W.nsIn K mainGlobals "_law_pick" = some (some (.ref f2)))
    (l2 : K.lookup f2 = some ⟨oc2, od2, .func (PySem.W.fnOf "_law_pick" "_law_pick" (defArgs s_law_pick) (defBody s_law_pick) (defScope s_law_pick) .none kV2 dc2 pm2 an2 cd2 ct2), sl2⟩) (c2 : PySem.W.codeIn K cd2 "_law_pick" = true) (k2 : PySem.W.keepIn K (.ref f2) = true)
    {f3 : Addr} {od3 an3 : Option Addr} {sl3 : Array (Option Value)} {oc3 kV3 dc3 pm3 cd3 ct3 : Value}
    (a3 : PySem.W.nsIn K mainGlobals "_law_kept_words" = some (some (.ref f3)))
    (l3 : K.lookup f3 = some ⟨oc3, od3, .func (PySem.W.fnOf "_law_kept_words" "_law_kept_words" (defArgs s_law_kept_words) (defBody s_law_kept_words) (defScope s_law_kept_words) .none kV3 dc3 pm3 an3 cd3 ct3), sl3⟩) (c3 : PySem.W.codeIn K cd3 "_law_kept_words" = true) (k3 : PySem.W.keepIn K (.ref f3) = true)
    {f4 : Addr} {od4 an4 : Option Addr} {sl4 : Array (Option Value)} {oc4 kV4 dc4 pm4 cd4 ct4 : Value}
    (a4 : PySem.W.nsIn K mainGlobals "_law_fresh" = some (some (.ref f4)))
    (l4 : K.lookup f4 = some ⟨oc4, od4, .func (PySem.W.fnOf "_law_fresh" "_law_fresh" (defArgs s_law_fresh) (defBody s_law_fresh) (defScope s_law_fresh) .none kV4 dc4 pm4 an4 cd4 ct4), sl4⟩) (c4 : PySem.W.codeIn K cd4 "_law_fresh" = true) (k4 : PySem.W.keepIn K (.ref f4) = true)
    {f5 : Addr} {od5 an5 : Option Addr} {sl5 : Array (Option Value)} {oc5 kV5 dc5 pm5 cd5 ct5 : Value}
    (a5 : PySem.W.nsIn K mainGlobals "_law_some_end" = some (some (.ref f5)))
    (l5 : K.lookup f5 = some ⟨oc5, od5, .func (PySem.W.fnOf "_law_some_end" "_law_some_end" (defArgs s_law_some_end) (defBody s_law_some_end) (defScope s_law_some_end) .none kV5 dc5 pm5 an5 cd5 ct5), sl5⟩) (c5 : PySem.W.codeIn K cd5 "_law_some_end" = true) (k5 : PySem.W.keepIn K (.ref f5) = true)
    {f6 : Addr} {od6 an6 : Option Addr} {sl6 : Array (Option Value)} {oc6 kV6 dc6 pm6 cd6 ct6 : Value}
    (a6 : PySem.W.nsIn K mainGlobals "_law_leaf" = some (some (.ref f6)))
    (l6 : K.lookup f6 = some ⟨oc6, od6, .func (PySem.W.fnOf "_law_leaf" "_law_leaf" (defArgs s_law_leaf) (defBody s_law_leaf) (defScope s_law_leaf) .none kV6 dc6 pm6 an6 cd6 ct6), sl6⟩) (c6 : PySem.W.codeIn K cd6 "_law_leaf" = true) (k6 : PySem.W.keepIn K (.ref f6) = true)
    {f7 : Addr} {od7 an7 : Option Addr} {sl7 : Array (Option Value)} {oc7 kV7 dc7 pm7 cd7 ct7 : Value}
    (a7 : PySem.W.nsIn K mainGlobals "_law_drawn_thing" = some (some (.ref f7)))
    (l7 : K.lookup f7 = some ⟨oc7, od7, .func (PySem.W.fnOf "_law_drawn_thing" "_law_drawn_thing" (defArgs s_law_drawn_thing) (defBody s_law_drawn_thing) (defScope s_law_drawn_thing) .none kV7 dc7 pm7 an7 cd7 ct7), sl7⟩) (c7 : PySem.W.codeIn K cd7 "_law_drawn_thing" = true) (k7 : PySem.W.keepIn K (.ref f7) = true)
    {f8 : Addr} {od8 an8 : Option Addr} {sl8 : Array (Option Value)} {oc8 kV8 dc8 pm8 cd8 ct8 : Value}
    (a8 : PySem.W.nsIn K mainGlobals "_law_drawn_body" = some (some (.ref f8)))
    (l8 : K.lookup f8 = some ⟨oc8, od8, .func (PySem.W.fnOf "_law_drawn_body" "_law_drawn_body" (defArgs s_law_drawn_body) (defBody s_law_drawn_body) (defScope s_law_drawn_body) .none kV8 dc8 pm8 an8 cd8 ct8), sl8⟩) (c8 : PySem.W.codeIn K cd8 "_law_drawn_body" = true) (k8 : PySem.W.keepIn K (.ref f8) = true)
    {f9 : Addr} {od9 an9 : Option Addr} {sl9 : Array (Option Value)} {oc9 kV9 dc9 pm9 cd9 ct9 : Value}
    (a9 : PySem.W.nsIn K mainGlobals "_law_way" = some (some (.ref f9)))
    (l9 : K.lookup f9 = some ⟨oc9, od9, .func (PySem.W.fnOf "_law_way" "_law_way" (defArgs s_law_way) (defBody s_law_way) (defScope s_law_way) .none kV9 dc9 pm9 an9 cd9 ct9), sl9⟩) (c9 : PySem.W.codeIn K cd9 "_law_way" = true) (k9 : PySem.W.keepIn K (.ref f9) = true)
    {f10 : Addr} {od10 an10 : Option Addr} {sl10 : Array (Option Value)} {oc10 kV10 dc10 pm10 cd10 ct10 : Value}
    (a10 : PySem.W.nsIn K mainGlobals "_law_plain" = some (some (.ref f10)))
    (l10 : K.lookup f10 = some ⟨oc10, od10, .func (PySem.W.fnOf "_law_plain" "_law_plain" (defArgs s_law_plain) (defBody s_law_plain) (defScope s_law_plain) .none kV10 dc10 pm10 an10 cd10 ct10), sl10⟩) (c10 : PySem.W.codeIn K cd10 "_law_plain" = true) (k10 : PySem.W.keepIn K (.ref f10) = true)
    {f11 : Addr} {od11 an11 : Option Addr} {sl11 : Array (Option Value)} {oc11 kV11 dc11 pm11 cd11 ct11 : Value}
    (a11 : PySem.W.nsIn K mainGlobals "_law_bodies" = some (some (.ref f11)))
    (l11 : K.lookup f11 = some ⟨oc11, od11, .func (PySem.W.fnOf "_law_bodies" "_law_bodies" (defArgs s_law_bodies) (defBody s_law_bodies) (defScope s_law_bodies) .none kV11 dc11 pm11 an11 cd11 ct11), sl11⟩) (c11 : PySem.W.codeIn K cd11 "_law_bodies" = true) (k11 : PySem.W.keepIn K (.ref f11) = true)
    {f12 : Addr} {od12 an12 : Option Addr} {sl12 : Array (Option Value)} {oc12 kV12 dc12 pm12 cd12 ct12 : Value}
    (a12 : PySem.W.nsIn K mainGlobals "_law_every" = some (some (.ref f12)))
    (l12 : K.lookup f12 = some ⟨oc12, od12, .func (PySem.W.fnOf "_law_every" "_law_every" (defArgs s_law_every) (defBody s_law_every) (defScope s_law_every) .none kV12 dc12 pm12 an12 cd12 ct12), sl12⟩) (c12 : PySem.W.codeIn K cd12 "_law_every" = true) (k12 : PySem.W.keepIn K (.ref f12) = true)
    {f13 : Addr} {od13 an13 : Option Addr} {sl13 : Array (Option Value)} {oc13 kV13 dc13 pm13 cd13 ct13 : Value}
    (a13 : PySem.W.nsIn K mainGlobals "_law_figured" = some (some (.ref f13)))
    (l13 : K.lookup f13 = some ⟨oc13, od13, .func (PySem.W.fnOf "_law_figured" "_law_figured" (defArgs s_law_figured) (defBody s_law_figured) (defScope s_law_figured) .none kV13 dc13 pm13 an13 cd13 ct13), sl13⟩) (c13 : PySem.W.codeIn K cd13 "_law_figured" = true) (k13 : PySem.W.keepIn K (.ref f13) = true)
    {f14 : Addr} {od14 an14 : Option Addr} {sl14 : Array (Option Value)} {oc14 kV14 dc14 pm14 cd14 ct14 : Value}
    (a14 : PySem.W.nsIn K mainGlobals "_law_weight_in" = some (some (.ref f14)))
    (l14 : K.lookup f14 = some ⟨oc14, od14, .func (PySem.W.fnOf "_law_weight_in" "_law_weight_in" (defArgs s_law_weight_in) (defBody s_law_weight_in) (defScope s_law_weight_in) .none kV14 dc14 pm14 an14 cd14 ct14), sl14⟩) (c14 : PySem.W.codeIn K cd14 "_law_weight_in" = true) (k14 : PySem.W.keepIn K (.ref f14) = true)
    {f15 : Addr} {od15 an15 : Option Addr} {sl15 : Array (Option Value)} {oc15 kV15 dc15 pm15 cd15 ct15 : Value}
    (a15 : PySem.W.nsIn K mainGlobals "_law_weight" = some (some (.ref f15)))
    (l15 : K.lookup f15 = some ⟨oc15, od15, .func (PySem.W.fnOf "_law_weight" "_law_weight" (defArgs s_law_weight) (defBody s_law_weight) (defScope s_law_weight) .none kV15 dc15 pm15 an15 cd15 ct15), sl15⟩) (c15 : PySem.W.codeIn K cd15 "_law_weight" = true) (k15 : PySem.W.keepIn K (.ref f15) = true)
    {f16 : Addr} {od16 an16 : Option Addr} {sl16 : Array (Option Value)} {oc16 kV16 dc16 pm16 cd16 ct16 : Value}
    (a16 : PySem.W.nsIn K mainGlobals "_law_calls" = some (some (.ref f16)))
    (l16 : K.lookup f16 = some ⟨oc16, od16, .func (PySem.W.fnOf "_law_calls" "_law_calls" (defArgs s_law_calls) (defBody s_law_calls) (defScope s_law_calls) .none kV16 dc16 pm16 an16 cd16 ct16), sl16⟩) (c16 : PySem.W.codeIn K cd16 "_law_calls" = true) (k16 : PySem.W.keepIn K (.ref f16) = true)
    {f17 : Addr} {od17 an17 : Option Addr} {sl17 : Array (Option Value)} {oc17 kV17 dc17 pm17 cd17 ct17 : Value}
    (a17 : PySem.W.nsIn K mainGlobals "_law_chain" = some (some (.ref f17)))
    (l17 : K.lookup f17 = some ⟨oc17, od17, .func (PySem.W.fnOf "_law_chain" "_law_chain" (defArgs s_law_chain) (defBody s_law_chain) (defScope s_law_chain) .none kV17 dc17 pm17 an17 cd17 ct17), sl17⟩) (c17 : PySem.W.codeIn K cd17 "_law_chain" = true) (k17 : PySem.W.keepIn K (.ref f17) = true)
    {f18 : Addr} {od18 an18 : Option Addr} {sl18 : Array (Option Value)} {oc18 kV18 dc18 pm18 cd18 ct18 : Value}
    (a18 : PySem.W.nsIn K mainGlobals "_law_more_plan" = some (some (.ref f18)))
    (l18 : K.lookup f18 = some ⟨oc18, od18, .func (PySem.W.fnOf "_law_more_plan" "_law_more_plan" (defArgs s_law_more_plan) (defBody s_law_more_plan) (defScope s_law_more_plan) .none kV18 dc18 pm18 an18 cd18 ct18), sl18⟩) (c18 : PySem.W.codeIn K cd18 "_law_more_plan" = true) (k18 : PySem.W.keepIn K (.ref f18) = true)
    {f19 : Addr} {od19 an19 : Option Addr} {sl19 : Array (Option Value)} {oc19 kV19 dc19 pm19 cd19 ct19 : Value}
    (a19 : PySem.W.nsIn K mainGlobals "_law_drawn_plans" = some (some (.ref f19)))
    (l19 : K.lookup f19 = some ⟨oc19, od19, .func (PySem.W.fnOf "_law_drawn_plans" "_law_drawn_plans" (defArgs s_law_drawn_plans) (defBody s_law_drawn_plans) (defScope s_law_drawn_plans) .none kV19 dc19 pm19 an19 cd19 ct19), sl19⟩) (c19 : PySem.W.codeIn K cd19 "_law_drawn_plans" = true) (k19 : PySem.W.keepIn K (.ref f19) = true)
    {f20 : Addr} {od20 an20 : Option Addr} {sl20 : Array (Option Value)} {oc20 kV20 dc20 pm20 cd20 ct20 : Value}
    (a20 : PySem.W.nsIn K mainGlobals "_law_with_way" = some (some (.ref f20)))
    (l20 : K.lookup f20 = some ⟨oc20, od20, .func (PySem.W.fnOf "_law_with_way" "_law_with_way" (defArgs s_law_with_way) (defBody s_law_with_way) (defScope s_law_with_way) .none kV20 dc20 pm20 an20 cd20 ct20), sl20⟩) (c20 : PySem.W.codeIn K cd20 "_law_with_way" = true) (k20 : PySem.W.keepIn K (.ref f20) = true)
    {f21 : Addr} {od21 an21 : Option Addr} {sl21 : Array (Option Value)} {oc21 kV21 dc21 pm21 cd21 ct21 : Value}
    (a21 : PySem.W.nsIn K mainGlobals "_law_comes" = some (some (.ref f21)))
    (l21 : K.lookup f21 = some ⟨oc21, od21, .func (PySem.W.fnOf "_law_comes" "_law_comes" (defArgs s_law_comes) (defBody s_law_comes) (defScope s_law_comes) .none kV21 dc21 pm21 an21 cd21 ct21), sl21⟩) (c21 : PySem.W.codeIn K cd21 "_law_comes" = true) (k21 : PySem.W.keepIn K (.ref f21) = true)
    {f22 : Addr} {od22 an22 : Option Addr} {sl22 : Array (Option Value)} {oc22 kV22 dc22 pm22 cd22 ct22 : Value}
    (a22 : PySem.W.nsIn K mainGlobals "_law_walk_thing" = some (some (.ref f22)))
    (l22 : K.lookup f22 = some ⟨oc22, od22, .func (PySem.W.fnOf "_law_walk_thing" "_law_walk_thing" (defArgs s_law_walk_thing) (defBody s_law_walk_thing) (defScope s_law_walk_thing) .none kV22 dc22 pm22 an22 cd22 ct22), sl22⟩) (c22 : PySem.W.codeIn K cd22 "_law_walk_thing" = true) (k22 : PySem.W.keepIn K (.ref f22) = true)
    {f23 : Addr} {od23 an23 : Option Addr} {sl23 : Array (Option Value)} {oc23 kV23 dc23 pm23 cd23 ct23 : Value}
    (a23 : PySem.W.nsIn K mainGlobals "_law_walk_body" = some (some (.ref f23)))
    (l23 : K.lookup f23 = some ⟨oc23, od23, .func (PySem.W.fnOf "_law_walk_body" "_law_walk_body" (defArgs s_law_walk_body) (defBody s_law_walk_body) (defScope s_law_walk_body) .none kV23 dc23 pm23 an23 cd23 ct23), sl23⟩) (c23 : PySem.W.codeIn K cd23 "_law_walk_body" = true) (k23 : PySem.W.keepIn K (.ref f23) = true)
    {f24 : Addr} {od24 an24 : Option Addr} {sl24 : Array (Option Value)} {oc24 kV24 dc24 pm24 cd24 ct24 : Value}
    (a24 : PySem.W.nsIn K mainGlobals "_law_walk" = some (some (.ref f24)))
    (l24 : K.lookup f24 = some ⟨oc24, od24, .func (PySem.W.fnOf "_law_walk" "_law_walk" (defArgs s_law_walk) (defBody s_law_walk) (defScope s_law_walk) .none kV24 dc24 pm24 an24 cd24 ct24), sl24⟩) (c24 : PySem.W.codeIn K cd24 "_law_walk" = true) (k24 : PySem.W.keepIn K (.ref f24) = true)
    {f25 : Addr} {od25 an25 : Option Addr} {sl25 : Array (Option Value)} {oc25 kV25 dc25 pm25 cd25 ct25 : Value}
    (a25 : PySem.W.findIn K (.ref C_Walk) "visit" = some (some (.ref f25))) (i25 : PySem.W.isFn K (.ref f25) = true)
    (l25 : K.lookup f25 = some ⟨oc25, od25, .func (PySem.W.fnOf "visit" "Walk.visit" (defArgs s_Walk_visit) (defBody s_Walk_visit) (defScope s_Walk_visit) .none kV25 dc25 pm25 an25 cd25 ct25), sl25⟩) (c25 : PySem.W.codeIn K cd25 "Walk.visit" = true) (k25 : PySem.W.keepIn K (.ref f25) = true)
    {f26 : Addr} {od26 an26 : Option Addr} {sl26 : Array (Option Value)} {oc26 kV26 dc26 pm26 cd26 ct26 : Value}
    (a26 : PySem.W.findIn K (.ref C_Walk) "rounds" = some (some (.ref f26))) (i26 : PySem.W.isFn K (.ref f26) = true)
    (l26 : K.lookup f26 = some ⟨oc26, od26, .func (PySem.W.fnOf "rounds" "Walk.rounds" (defArgs s_Walk_rounds) (defBody s_Walk_rounds) (defScope s_Walk_rounds) .none kV26 dc26 pm26 an26 cd26 ct26), sl26⟩) (c26 : PySem.W.codeIn K cd26 "Walk.rounds" = true) (k26 : PySem.W.keepIn K (.ref f26) = true)
    {f27 : Addr} {od27 an27 : Option Addr} {sl27 : Array (Option Value)} {oc27 kV27 dc27 pm27 cd27 ct27 : Value}
    (a27 : PySem.W.nsIn K mainGlobals "end_worth" = some (some (.ref f27)))
    (l27 : K.lookup f27 = some ⟨oc27, od27, .func (PySem.W.fnOf "end_worth" "end_worth" (defArgs s_end_worth) (defBody s_end_worth) (defScope s_end_worth) .none kV27 dc27 pm27 an27 cd27 ct27), sl27⟩) (c27 : PySem.W.codeIn K cd27 "end_worth" = true) (k27 : PySem.W.keepIn K (.ref f27) = true)
    {f28 : Addr} {od28 an28 : Option Addr} {sl28 : Array (Option Value)} {oc28 kV28 dc28 pm28 cd28 ct28 : Value}
    (a28 : PySem.W.findIn K (.ref C_Walk) "thing" = some (some (.ref f28))) (i28 : PySem.W.isFn K (.ref f28) = true)
    (l28 : K.lookup f28 = some ⟨oc28, od28, .func (PySem.W.fnOf "thing" "Walk.thing" (defArgs s_Walk_thing) (defBody s_Walk_thing) (defScope s_Walk_thing) .none kV28 dc28 pm28 an28 cd28 ct28), sl28⟩) (c28 : PySem.W.codeIn K cd28 "Walk.thing" = true) (k28 : PySem.W.keepIn K (.ref f28) = true)
    {f29 : Addr} {od29 an29 : Option Addr} {sl29 : Array (Option Value)} {oc29 kV29 dc29 pm29 cd29 ct29 : Value}
    (a29 : PySem.W.findIn K (.ref C_Walk) "body" = some (some (.ref f29))) (i29 : PySem.W.isFn K (.ref f29) = true)
    (l29 : K.lookup f29 = some ⟨oc29, od29, .func (PySem.W.fnOf "body" "Walk.body" (defArgs s_Walk_body) (defBody s_Walk_body) (defScope s_Walk_body) .none kV29 dc29 pm29 an29 cd29 ct29), sl29⟩) (c29 : PySem.W.codeIn K cd29 "Walk.body" = true) (k29 : PySem.W.keepIn K (.ref f29) = true)
    {f30 : Addr} {od30 an30 : Option Addr} {sl30 : Array (Option Value)} {oc30 kV30 dc30 pm30 cd30 ct30 : Value}
    (a30 : PySem.W.nsIn K mainGlobals "way_of" = some (some (.ref f30)))
    (l30 : K.lookup f30 = some ⟨oc30, od30, .func (PySem.W.fnOf "way_of" "way_of" (defArgs s_way_of) (defBody s_way_of) (defScope s_way_of) .none kV30 dc30 pm30 an30 cd30 ct30), sl30⟩) (c30 : PySem.W.codeIn K cd30 "way_of" = true) (k30 : PySem.W.keepIn K (.ref f30) = true)
    {f31 : Addr} {od31 an31 : Option Addr} {sl31 : Array (Option Value)} {oc31 kV31 dc31 pm31 cd31 ct31 : Value}
    (a31 : PySem.W.findIn K (.ref C_Walk) "plan" = some (some (.ref f31))) (i31 : PySem.W.isFn K (.ref f31) = true)
    (l31 : K.lookup f31 = some ⟨oc31, od31, .func (PySem.W.fnOf "plan" "Walk.plan" (defArgs s_Walk_plan) (defBody s_Walk_plan) (defScope s_Walk_plan) .none kV31 dc31 pm31 an31 cd31 ct31), sl31⟩) (c31 : PySem.W.codeIn K cd31 "Walk.plan" = true) (k31 : PySem.W.keepIn K (.ref f31) = true)
    {f32 : Addr} {od32 an32 : Option Addr} {sl32 : Array (Option Value)} {oc32 kV32 dc32 pm32 cd32 ct32 : Value}
    (a32 : PySem.W.findIn K (.ref C_Walk) "__init__" = some (some (.ref f32))) (i32 : PySem.W.isFn K (.ref f32) = true)
    (l32 : K.lookup f32 = some ⟨oc32, od32, .func (PySem.W.fnOf "__init__" "Walk.__init__" (defArgs s_Walk_init) (defBody s_Walk_init) (defScope s_Walk_init) .none kV32 dc32 pm32 an32 cd32 ct32), sl32⟩) (c32 : PySem.W.codeIn K cd32 "Walk.__init__" = true) (k32 : PySem.W.keepIn K (.ref f32) = true)
    {f33 : Addr} {od33 an33 : Option Addr} {sl33 : Array (Option Value)} {oc33 dc33 pm33 cd33 ct33 : Value} {Dk33 : Addr}
    (a33 : PySem.W.nsIn K mainGlobals "walked" = some (some (.ref f33)))
    (l33 : K.lookup f33 = some ⟨oc33, od33, .func (PySem.W.fnOf "walked" "walked" (defArgs s_walked) (defBody s_walked) (defScope s_walked) .none (.ref Dk33) dc33 pm33 an33 cd33 ct33), sl33⟩) (c33 : PySem.W.codeIn K cd33 "walked" = true) (k33 : PySem.W.keepIn K (.ref f33) = true)
    {tk33_0 : PySem.Tok} (kd33_0 : PySem.W.nsIn K Dk33 "most" = some (some (Value.int 10000 tk33_0)))
    {f34 : Addr} {od34 an34 : Option Addr} {sl34 : Array (Option Value)} {oc34 kV34 dc34 pm34 cd34 ct34 : Value}
    (a34 : PySem.W.nsIn K mainGlobals "_law_same" = some (some (.ref f34)))
    (l34 : K.lookup f34 = some ⟨oc34, od34, .func (PySem.W.fnOf "_law_same" "_law_same" (defArgs s_law_same) (defBody s_law_same) (defScope s_law_same) .none kV34 dc34 pm34 an34 cd34 ct34), sl34⟩) (c34 : PySem.W.codeIn K cd34 "_law_same" = true) (k34 : PySem.W.keepIn K (.ref f34) = true)
    {f35 : Addr} {od35 an35 : Option Addr} {sl35 : Array (Option Value)} {oc35 kV35 dc35 pm35 cd35 ct35 : Value}
    (a35 : PySem.W.nsIn K mainGlobals "law" = some (some (.ref f35)))
    (l35 : K.lookup f35 = some ⟨oc35, od35, .func (PySem.W.fnOf "law" "law" (defArgs s_law) (defBody s_law) (defScope s_law) .none kV35 dc35 pm35 an35 cd35 ct35), sl35⟩) (c35 : PySem.W.codeIn K cd35 "law" = true) (k35 : PySem.W.keepIn K (.ref f35) = true)
    (z_abs : PySem.W.nsIn K mainGlobals "abs" = some none)
    (z_all : PySem.W.nsIn K mainGlobals "all" = some none)
    (z_bool : PySem.W.nsIn K mainGlobals "bool" = some none)
    (z_dict : PySem.W.nsIn K mainGlobals "dict" = some none)
    (z_int : PySem.W.nsIn K mainGlobals "int" = some none)
    (z_isinstance : PySem.W.nsIn K mainGlobals "isinstance" = some none)
    (z_len : PySem.W.nsIn K mainGlobals "len" = some none)
    (z_list : PySem.W.nsIn K mainGlobals "list" = some none)
    (z_max : PySem.W.nsIn K mainGlobals "max" = some none)
    (z_range : PySem.W.nsIn K mainGlobals "range" = some none)
    (z_repr : PySem.W.nsIn K mainGlobals "repr" = some none)
    (z_sorted : PySem.W.nsIn K mainGlobals "sorted" = some none)
    (z_str : PySem.W.nsIn K mainGlobals "str" = some none)
    (z_tuple : PySem.W.nsIn K mainGlobals "tuple" = some none)
    (z_zip : PySem.W.nsIn K mainGlobals "zip" = some none)
    {t_MOST_VISITS : PySem.Tok} (m_MOST_VISITS : PySem.W.nsIn K mainGlobals "MOST_VISITS" = some (some (Value.int 10000 t_MOST_VISITS)))
    {t_SIZE : PySem.Tok} (m_SIZE : PySem.W.nsIn K mainGlobals "SIZE" = some (some (Value.str "n" t_SIZE)))
    : ∃ fd : FuncData, (∀ (s : Shared) (v : Value), BindsTo s fd ⟨[v], []⟩ [("_law_script", v)]) ∧ ∀ base : Heap, K.In base → base.Ns mainGlobals mg → FnG l.prog w K mg base CX0 LV fa fd ["_law_script"] (spLaw K) := by
  have e := hfa.symm.trans (PySem.W.mg_of X G a35)
  cases e
  have F0 := fun_mk (st := s_law_begin) l0 c0 k0
  have b0 := F0.binds (ps := ["_law_script"]) fun _ _ _ _ _ _ us hl => match us, hl with | [_], _ => rfl
  have F1 := fun_mk (st := s_law_take) l1 c1 k1
  have b1 := F1.binds (ps := ["_law_draw", "_law_sides"]) fun _ _ _ _ _ _ us hl => match us, hl with | [_, _], _ => rfl
  have F2 := fun_mk (st := s_law_pick) l2 c2 k2
  have b2 := F2.binds (ps := ["_law_draw", "_law_row"]) fun _ _ _ _ _ _ us hl => match us, hl with | [_, _], _ => rfl
  have F3 := fun_mk (st := s_law_kept_words) l3 c3 k3
  have b3 := F3.binds (ps := []) fun _ _ _ _ _ _ us hl => match us, hl with | [], _ => rfl
  have F4 := fun_mk (st := s_law_fresh) l4 c4 k4
  have b4 := F4.binds (ps := ["_law_draw", "_law_taken"]) fun _ _ _ _ _ _ us hl => match us, hl with | [_, _], _ => rfl
  have F5 := fun_mk (st := s_law_some_end) l5 c5 k5
  have b5 := F5.binds (ps := ["_law_draw", "_law_scope", "_law_wide"]) fun _ _ _ _ _ _ us hl => match us, hl with | [_, _, _], _ => rfl
  have F6 := fun_mk (st := s_law_leaf) l6 c6 k6
  have b6 := F6.binds (ps := ["_law_draw", "_law_kit", "_law_scope", "_law_deep"]) fun _ _ _ _ _ _ us hl => match us, hl with | [_, _, _, _], _ => rfl
  have F7 := fun_mk (st := s_law_drawn_thing) l7 c7 k7
  have b7 := F7.binds (ps := ["_law_draw", "_law_kit", "_law_scope", "_law_deep"]) fun _ _ _ _ _ _ us hl => match us, hl with | [_, _, _, _], _ => rfl
  have F8 := fun_mk (st := s_law_drawn_body) l8 c8 k8
  have b8 := F8.binds (ps := ["_law_draw", "_law_kit", "_law_scope", "_law_deep"]) fun _ _ _ _ _ _ us hl => match us, hl with | [_, _, _, _], _ => rfl
  have F9 := fun_mk (st := s_law_way) l9 c9 k9
  have b9 := F9.binds (ps := ["_law_plan"]) fun _ _ _ _ _ _ us hl => match us, hl with | [_], _ => rfl
  have F10 := fun_mk (st := s_law_plain) l10 c10 k10
  have b10 := F10.binds (ps := ["_law_plan"]) fun _ _ _ _ _ _ us hl => match us, hl with | [_], _ => rfl
  have F11 := fun_mk (st := s_law_bodies) l11 c11 k11
  have b11 := F11.binds (ps := ["_law_thing"]) fun _ _ _ _ _ _ us hl => match us, hl with | [_], _ => rfl
  have F12 := fun_mk (st := s_law_every) l12 c12 k12
  have b12 := F12.binds (ps := ["_law_plan"]) fun _ _ _ _ _ _ us hl => match us, hl with | [_], _ => rfl
  have F13 := fun_mk (st := s_law_figured) l13 c13 k13
  have b13 := F13.binds (ps := ["_law_plan", "_law_plans"]) fun _ _ _ _ _ _ us hl => match us, hl with | [_, _], _ => rfl
  have F14 := fun_mk (st := s_law_weight_in) l14 c14 k14
  have b14 := F14.binds (ps := ["_law_plan", "_law_plans"]) fun _ _ _ _ _ _ us hl => match us, hl with | [_, _], _ => rfl
  have F15 := fun_mk (st := s_law_weight) l15 c15 k15
  have b15 := F15.binds (ps := ["_law_plan", "_law_plans"]) fun _ _ _ _ _ _ us hl => match us, hl with | [_, _], _ => rfl
  have F16 := fun_mk (st := s_law_calls) l16 c16 k16
  have b16 := F16.binds (ps := ["_law_plan"]) fun _ _ _ _ _ _ us hl => match us, hl with | [_], _ => rfl
  have F17 := fun_mk (st := s_law_chain) l17 c17 k17
  have b17 := F17.binds (ps := ["_law_plan", "_law_plans"]) fun _ _ _ _ _ _ us hl => match us, hl with | [_, _], _ => rfl
  have F18 := fun_mk (st := s_law_more_plan) l18 c18 k18
  have b18 := F18.binds (ps := ["_law_draw", "_law_plans", "_law_room", "_law_figures", "_law_wide"]) fun _ _ _ _ _ _ us hl => match us, hl with | [_, _, _, _, _], _ => rfl
  have F19 := fun_mk (st := s_law_drawn_plans) l19 c19 k19
  have b19 := F19.binds (ps := ["_law_draw", "_law_upto", "_law_figures", "_law_wide"]) fun _ _ _ _ _ _ us hl => match us, hl with | [_, _, _, _], _ => rfl
  have F20 := fun_mk (st := s_law_with_way) l20 c20 k20
  have b20 := F20.binds (ps := ["_law_draw", "_law_plans"]) fun _ _ _ _ _ _ us hl => match us, hl with | [_, _], _ => rfl
  have F21 := fun_mk (st := s_law_comes) l21 c21 k21
  have b21 := F21.binds (ps := ["_law_end", "_law_names"]) fun _ _ _ _ _ _ us hl => match us, hl with | [_, _], _ => rfl
  have F22 := fun_mk (st := s_law_walk_thing) l22 c22 k22
  have b22 := F22.binds (ps := ["_law_plans", "_law_thing", "_law_names", "_law_left"]) fun _ _ _ _ _ _ us hl => match us, hl with | [_, _, _, _], _ => rfl
  have F23 := fun_mk (st := s_law_walk_body) l23 c23 k23
  have b23 := F23.binds (ps := ["_law_plans", "_law_body", "_law_names", "_law_left"]) fun _ _ _ _ _ _ us hl => match us, hl with | [_, _, _, _], _ => rfl
  have F24 := fun_mk (st := s_law_walk) l24 c24 k24
  have b24 := F24.binds (ps := ["_law_plans", "_law_name", "_law_size", "_law_left"]) fun _ _ _ _ _ _ us hl => match us, hl with | [_, _, _, _], _ => rfl
  have F25 := fun_mk (st := s_Walk_visit) l25 c25 k25
  have b25 := F25.binds (ps := ["self"]) fun _ _ _ _ _ _ us hl => match us, hl with | [_], _ => rfl
  have F26 := fun_mk (st := s_Walk_rounds) l26 c26 k26
  have b26 := F26.binds (ps := ["self", "many", "things", "names"]) fun _ _ _ _ _ _ us hl => match us, hl with | [_, _, _, _], _ => rfl
  have F27 := fun_mk (st := s_end_worth) l27 c27 k27
  have b27 := F27.binds (ps := ["end", "names"]) fun _ _ _ _ _ _ us hl => match us, hl with | [_, _], _ => rfl
  have F28 := fun_mk (st := s_Walk_thing) l28 c28 k28
  have b28 := F28.binds (ps := ["self", "thing", "names"]) fun _ _ _ _ _ _ us hl => match us, hl with | [_, _, _], _ => rfl
  have F29 := fun_mk (st := s_Walk_body) l29 c29 k29
  have b29 := F29.binds (ps := ["self", "things", "names"]) fun _ _ _ _ _ _ us hl => match us, hl with | [_, _, _], _ => rfl
  have F30 := fun_mk (st := s_way_of) l30 c30 k30
  have b30 := F30.binds (ps := ["plan"]) fun _ _ _ _ _ _ us hl => match us, hl with | [_], _ => rfl
  have F31 := fun_mk (st := s_Walk_plan) l31 c31 k31
  have b31 := F31.binds (ps := ["self", "name", "size"]) fun _ _ _ _ _ _ us hl => match us, hl with | [_, _, _], _ => rfl
  have F32 := fun_mk (st := s_Walk_init) l32 c32 k32
  have b32 := F32.binds (ps := ["self", "plans", "left"]) fun _ _ _ _ _ _ us hl => match us, hl with | [_, _, _], _ => rfl
  have F33 := fun_mk (st := s_walked) l33 c33 k33
  have FD33 : FunD K "walked" "walked" (defArgs s_walked) (defBody s_walked) (defScope s_walked) [] [("most", V.int 10000)] f33 _ := ⟨⟨_, _, _, _, _, _, _, _, _, _, rfl, l33, c33, .inl ⟨rfl, rfl⟩, .inr ⟨Dk33, rfl, fun q hq => by rw [List.mem_singleton.mp hq]; exact ⟨_, kd33_0, ⟨_, rfl⟩⟩⟩⟩, k33⟩
  obtain ⟨ds33, dv33, b33⟩ := FD33.binds0 (ps := ["plans", "name", "size", "most"]) 3 (by simp) rfl fun _ _ _ _ _ _ us ks h1 h2 => match us, ks, h1, h2 with | [_, _, _], [_], _, _ => ⟨_, _, _, _, _, _, rfl, rfl, rfl⟩
  obtain ⟨mv33, kb33⟩ := FD33.kbinds0 (ps := ["plans", "name", "size", "most"]) 3 ["most"] [] (fun us _ ws => us ++ ws) (by simp) (fun _ h => nomatch h) (fun r1 _ r3 => r1.append r3) fun _ _ _ _ _ _ us mv ws h1 h2 h3 => match us, mv, ws, h1, h2, h3 with | [_, _, _], [], [_], _, _, _ => rfl
  have F34 := fun_mk (st := s_law_same) l34 c34 k34
  have b34 := F34.binds (ps := ["_law_found", "_law_due"]) fun _ _ _ _ _ _ us hl => match us, hl with | [_, _], _ => rfl
  have F35 := fun_mk (st := s_law) l35 c35 k35
  have b35 := F35.binds (ps := ["_law_script"]) fun _ _ _ _ _ _ us hl => match us, hl with | [_], _ => rfl
  let T : Txt K mg := ⟨f0, _, F0, b0, PySem.W.mg_of X G a0,
    f1, _, F1, b1, PySem.W.mg_of X G a1,
    f2, _, F2, b2, PySem.W.mg_of X G a2,
    f3, _, F3, b3, PySem.W.mg_of X G a3,
    f4, _, F4, b4, PySem.W.mg_of X G a4,
    f5, _, F5, b5, PySem.W.mg_of X G a5,
    f6, _, F6, b6, PySem.W.mg_of X G a6,
    f7, _, F7, b7, PySem.W.mg_of X G a7,
    f8, _, F8, b8, PySem.W.mg_of X G a8,
    f9, _, F9, b9, PySem.W.mg_of X G a9,
    f10, _, F10, b10, PySem.W.mg_of X G a10,
    f11, _, F11, b11, PySem.W.mg_of X G a11,
    f12, _, F12, b12, PySem.W.mg_of X G a12,
    f13, _, F13, b13, PySem.W.mg_of X G a13,
    f14, _, F14, b14, PySem.W.mg_of X G a14,
    f15, _, F15, b15, PySem.W.mg_of X G a15,
    f16, _, F16, b16, PySem.W.mg_of X G a16,
    f17, _, F17, b17, PySem.W.mg_of X G a17,
    f18, _, F18, b18, PySem.W.mg_of X G a18,
    f19, _, F19, b19, PySem.W.mg_of X G a19,
    f20, _, F20, b20, PySem.W.mg_of X G a20,
    f21, _, F21, b21, PySem.W.mg_of X G a21,
    f22, _, F22, b22, PySem.W.mg_of X G a22,
    f23, _, F23, b23, PySem.W.mg_of X G a23,
    f24, _, F24, b24, PySem.W.mg_of X G a24,
    f25, _, F25, b25,
    f26, _, F26, b26,
    f27, _, F27, b27, PySem.W.mg_of X G a27,
    f28, _, F28, b28,
    f29, _, F29, b29,
    f30, _, F30, b30, PySem.W.mg_of X G a30,
    f31, _, F31, b31,
    f32, _, F32, b32,
    f33, _, F33, ds33, dv33, b33, _, kb33, PySem.W.mg_of X G a33,
    f34, _, F34, b34, PySem.W.mg_of X G a34,
    fa, _, F35, b35, PySem.W.mg_of X G a35,
    C_Walk, ⟨pg_Walk, hd_Walk, po_Walk, sa_Walk⟩, PySem.W.mg_of X G gc_Walk,
    ⟨a25, i25, k25⟩,
    ⟨a26, i26, k26⟩,
    ⟨a28, i28, k28⟩,
    ⟨a29, i29, k29⟩,
    ⟨a31, i31, k31⟩,
    ⟨mk_Walk, a32, i32, kc_Walk⟩,
    na_Walk_plans,
    na_Walk_left,
    PySem.W.mg_none_of X G z_abs,
    PySem.W.mg_none_of X G z_all,
    PySem.W.mg_none_of X G z_bool,
    PySem.W.mg_none_of X G z_dict,
    PySem.W.mg_none_of X G z_int,
    PySem.W.mg_none_of X G z_isinstance,
    PySem.W.mg_none_of X G z_len,
    PySem.W.mg_none_of X G z_list,
    PySem.W.mg_none_of X G z_max,
    PySem.W.mg_none_of X G z_range,
    PySem.W.mg_none_of X G z_repr,
    PySem.W.mg_none_of X G z_sorted,
    PySem.W.mg_none_of X G z_str,
    PySem.W.mg_none_of X G z_tuple,
    PySem.W.mg_none_of X G z_zip,
    _, PySem.W.mg_of X G m_MOST_VISITS, ⟨_, rfl⟩,
    _, PySem.W.mg_of X G m_SIZE, ⟨_, rfl⟩⟩
  exact ⟨_, fun s v => .of_eq rfl, fun base _ _ => ok_law T⟩
end My
open PySem PySem.W PyProof.Rows
set_option maxHeartbeats 0 in
theorem PySem.Challenge.cw_outgrow_k08_steps_walked_holds : PySem.Challenge.rw_outgrow_k08_steps_walked.Holds := by
  w_on; o_law; k_head; (case hw => w_witness2)
  k_fill
  refine My.walkG_of (l := PySem.Challenge.rw_outgrow_k08_steps_walked) (n := 63) (k := My.LV) (x := "_law_script") (CX := fun _ => L2.CX0) (sp := fun w => My.spLaw _) rfl (by decide) rfl ⟨rfl, by decide, by decide⟩ (fun w h Y => PySem.W.kIn_of Y) ?F (fun _ _ a ns hl _ hS => ⟨a, ns, rfl, hS, hl, fun _ => rfl⟩) (fun _ _ _ _ _ h => h)
  case F =>
    intro w mg fa h KX G hmg
    refine' My.all_mk KX G hmg ?gc_Walk ?pg_Walk ?hd_Walk ?po_Walk ?sa_Walk ?mk_Walk ?kc_Walk ?na_Walk_plans ?na_Walk_left ?a0 ?l0 ?c0 ?k0 ?a1 ?l1 ?c1 ?k1 ?a2 ?l2 ?c2 ?k2 ?a3 ?l3 ?c3 ?k3 ?a4 ?l4 ?c4 ?k4 ?a5 ?l5 ?c5 ?k5 ?a6 ?l6 ?c6 ?k6 ?a7 ?l7 ?c7 ?k7 ?a8 ?l8 ?c8 ?k8 ?a9 ?l9 ?c9 ?k9 ?a10 ?l10 ?c10 ?k10 ?a11 ?l11 ?c11 ?k11 ?a12 ?l12 ?c12 ?k12 ?a13 ?l13 ?c13 ?k13 ?a14 ?l14 ?c14 ?k14 ?a15 ?l15 ?c15 ?k15 ?a16 ?l16 ?c16 ?k16 ?a17 ?l17 ?c17 ?k17 ?a18 ?l18 ?c18 ?k18 ?a19 ?l19 ?c19 ?k19 ?a20 ?l20 ?c20 ?k20 ?a21 ?l21 ?c21 ?k21 ?a22 ?l22 ?c22 ?k22 ?a23 ?l23 ?c23 ?k23 ?a24 ?l24 ?c24 ?k24 ?i25 ?a25 ?l25 ?c25 ?k25 ?i26 ?a26 ?l26 ?c26 ?k26 ?a27 ?l27 ?c27 ?k27 ?i28 ?a28 ?l28 ?c28 ?k28 ?i29 ?a29 ?l29 ?c29 ?k29 ?a30 ?l30 ?c30 ?k30 ?i31 ?a31 ?l31 ?c31 ?k31 ?i32 ?a32 ?l32 ?c32 ?k32 ?a33 ?l33 ?c33 ?k33 ?kd33_0 ?a34 ?l34 ?c34 ?k34 ?a35 ?l35 ?c35 ?k35 ?z_abs ?z_all ?z_bool ?z_dict ?z_int ?z_isinstance ?z_len ?z_list ?z_max ?z_range ?z_repr ?z_sorted ?z_str ?z_tuple ?z_zip ?m_MOST_VISITS ?m_SIZE
    (case gc_Walk => k_is)
    (case pg_Walk => k_is)
    (case hd_Walk => k_is)
    (case po_Walk => k_is)
    (case sa_Walk => k_is)
    (case mk_Walk => k_is)
    (case kc_Walk => k_is)
    (case na_Walk_plans => k_is)
    (case na_Walk_left => k_is)
    (case a0 => k_is)
    (case l0 => k_is)
    (case c0 => k_is)
    (case k0 => k_is)
    (case a1 => k_is)
    (case l1 => k_is)
    (case c1 => k_is)
    (case k1 => k_is)
    (case a2 => k_is)
    (case l2 => k_is)
    (case c2 => k_is)
    (case k2 => k_is)
    (case a3 => k_is)
    (case l3 => k_is)
    (case c3 => k_is)
    (case k3 => k_is)
    (case a4 => k_is)
    (case l4 => k_is)
    (case c4 => k_is)
    (case k4 => k_is)
    (case a5 => k_is)
    (case l5 => k_is)
    (case c5 => k_is)
    (case k5 => k_is)
    (case a6 => k_is)
    (case l6 => k_is)
    (case c6 => k_is)
    (case k6 => k_is)
    (case a7 => k_is)
    (case l7 => k_is)
    (case c7 => k_is)
    (case k7 => k_is)
    (case a8 => k_is)
    (case l8 => k_is)
    (case c8 => k_is)
    (case k8 => k_is)
    (case a9 => k_is)
    (case l9 => k_is)
    (case c9 => k_is)
    (case k9 => k_is)
    (case a10 => k_is)
    (case l10 => k_is)
    (case c10 => k_is)
    (case k10 => k_is)
    (case a11 => k_is)
    (case l11 => k_is)
    (case c11 => k_is)
    (case k11 => k_is)
    (case a12 => k_is)
    (case l12 => k_is)
    (case c12 => k_is)
    (case k12 => k_is)
    (case a13 => k_is)
    (case l13 => k_is)
    (case c13 => k_is)
    (case k13 => k_is)
    (case a14 => k_is)
    (case l14 => k_is)
    (case c14 => k_is)
    (case k14 => k_is)
    (case a15 => k_is)
    (case l15 => k_is)
    (case c15 => k_is)
    (case k15 => k_is)
    (case a16 => k_is)
    (case l16 => k_is)
    (case c16 => k_is)
    (case k16 => k_is)
    (case a17 => k_is)
    (case l17 => k_is)
    (case c17 => k_is)
    (case k17 => k_is)
    (case a18 => k_is)
    (case l18 => k_is)
    (case c18 => k_is)
    (case k18 => k_is)
    (case a19 => k_is)
    (case l19 => k_is)
    (case c19 => k_is)
    (case k19 => k_is)
    (case a20 => k_is)
    (case l20 => k_is)
    (case c20 => k_is)
    (case k20 => k_is)
    (case a21 => k_is)
    (case l21 => k_is)
    (case c21 => k_is)
    (case k21 => k_is)
    (case a22 => k_is)
    (case l22 => k_is)
    (case c22 => k_is)
    (case k22 => k_is)
    (case a23 => k_is)
    (case l23 => k_is)
    (case c23 => k_is)
    (case k23 => k_is)
    (case a24 => k_is)
    (case l24 => k_is)
    (case c24 => k_is)
    (case k24 => k_is)
    (case i25 => k_is)
    (case a25 => k_is)
    (case l25 => k_is)
    (case c25 => k_is)
    (case k25 => k_is)
    (case i26 => k_is)
    (case a26 => k_is)
    (case l26 => k_is)
    (case c26 => k_is)
    (case k26 => k_is)
    (case a27 => k_is)
    (case l27 => k_is)
    (case c27 => k_is)
    (case k27 => k_is)
    (case i28 => k_is)
    (case a28 => k_is)
    (case l28 => k_is)
    (case c28 => k_is)
    (case k28 => k_is)
    (case i29 => k_is)
    (case a29 => k_is)
    (case l29 => k_is)
    (case c29 => k_is)
    (case k29 => k_is)
    (case a30 => k_is)
    (case l30 => k_is)
    (case c30 => k_is)
    (case k30 => k_is)
    (case i31 => k_is)
    (case a31 => k_is)
    (case l31 => k_is)
    (case c31 => k_is)
    (case k31 => k_is)
    (case i32 => k_is)
    (case a32 => k_is)
    (case l32 => k_is)
    (case c32 => k_is)
    (case k32 => k_is)
    (case a33 => k_is)
    (case l33 => k_is)
    (case c33 => k_is)
    (case k33 => k_is)
    (case kd33_0 => k_is)
    (case a34 => k_is)
    (case l34 => k_is)
    (case c34 => k_is)
    (case k34 => k_is)
    (case a35 => k_is)
    (case l35 => k_is)
    (case c35 => k_is)
    (case k35 => k_is)
    (case z_abs => k_is)
    (case z_all => k_is)
    (case z_bool => k_is)
    (case z_dict => k_is)
    (case z_int => k_is)
    (case z_isinstance => k_is)
    (case z_len => k_is)
    (case z_list => k_is)
    (case z_max => k_is)
    (case z_range => k_is)
    (case z_repr => k_is)
    (case z_sorted => k_is)
    (case z_str => k_is)
    (case z_tuple => k_is)
    (case z_zip => k_is)
    (case m_MOST_VISITS => k_is)
    (case m_SIZE => k_is)
#print axioms PySem.Challenge.cw_outgrow_k08_steps_walked_holds
