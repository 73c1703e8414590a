import PyProof.Rows.All
import Wide.All
import OpenK.AllK
import Wide.FinOn
import HandS.ForMost
import HandS.Wide
import HandS.WideMore
import HandS.IsInst
import HandS.Style
import HandS.Codes
import HandS.Walk
import HandS.Zip
import HandS.SortRule
import HandS.Conv
import HandS.FStr
import HandS.More
import HandS.TupAny
import HandS.Exc
import HandS.ExcField
import HandS.ExcIs
import HandS.TryMany
import HandS.ExcInit
import HandS.Lambda
import HandS.HotCalls
import HandS.ExcOwn
import HandS.WordsExc
import HandS.EndTab
import HandS.Defaults
import KE.KExcIs
import KE.RegKTryMore
import KE.RegKIsAll
import HandS.WideBits
import KE.KDictKeyed
import KE.KDictWalk
import KE.KeyNested
import HandS.MakeKwOnly
import KE.KDictPairs
import KE.DataMinMax
import PySem.Challenge.RW_outgrow_k14_growths_of_sums
set_option linter.unusedVariables false
set_option Elab.async false
set_option maxRecDepth 100000
set_option maxHeartbeats 4000000
namespace My
open PySem L2
/-! ### heaps: a frozen part G, a working part H; M: what may change of what stood -/
def NoM : Addr → Prop := fun _ => False
def Only1 (d : Addr) : Addr → Prop := fun b => b = d
def But (M : Addr → Prop) (H H' : Hp) : Prop := ∀ b o, H b = some o → ¬ M b → H' b = some o
/-- something that stands there and is no tuple -/
structure Cell (o : Option HO) : Prop where
  some : o ≠ none
  tup : ∀ xs, o ≠ Option.some (.tup xs)
structure Grow (M : Addr → Prop) (G H G' H' : Hp) : Prop where
  g : Same G G'
  gh : Same G' H'
  h : But M H H'
  old : ∀ b, Cell (H b) → G' b = G b
theorem cell_lst {H : Hp} {a : Addr} {xs : List V} (h : H a = some (.lst xs)) : Cell (H a) := ⟨fun e => (by rw [h] at e; cases e), fun ys e => (by rw [h] at e; cases e)⟩
theorem cell_dK {H : Hp} {a : Addr} {xs : List (L2.Key × V)} (h : H a = some (.dK xs)) : Cell (H a) := ⟨fun e => (by rw [h] at e; cases e), fun ys e => (by rw [h] at e; cases e)⟩
theorem cell_dT {H : Hp} {a : Addr} {xs : List (List L2.Key × V)} (h : H a = some (.dT xs)) : Cell (H a) := ⟨fun e => (by rw [h] at e; cases e), fun ys e => (by rw [h] at e; cases e)⟩
theorem cell_ins {H : Hp} {a C dx : Addr} {fs : List (Str × V)} (h : H a = some (.ins C dx fs)) : Cell (H a) := ⟨fun e => (by rw [h] at e; cases e), fun ys e => (by rw [h] at e; cases e)⟩
theorem But.refl (M : Addr → Prop) (H : Hp) : But M H H := fun _ _ e _ => e
theorem But.trans {M : Addr → Prop} {H H1 H2 : Hp} (a : But M H H1) (b : But M H1 H2) : But M H H2 := fun c o e n => b c o (a c o e n) n
theorem But.mono {M M' : Addr → Prop} {H H1 : Hp} (h : ∀ b, M b → M' b) (a : But M H H1) : But M' H H1 := fun c o e n => a c o e fun z => n (h c z)
theorem But.same {H H1 : Hp} (a : But NoM H H1) : Same H H1 := fun c o e => a c o e fun z => z
theorem same_but {M : Addr → Prop} {H H1 : Hp} (a : Same H H1) : But M H H1 := fun c o e _ => a c o e
theorem same_upd {H : Hp} {p : Addr} {o : HO} (h : H p = none) : Same H (upd H p o) := fun b x e => by
  rw [upd_ne (ne_of_none e h)]
  exact e
theorem But.new {M : Addr → Prop} {H : Hp} {p : Addr} {o : HO} (h : H p = none) : But M H (upd H p o) := same_but (same_upd h)
theorem But.put {M : Addr → Prop} {H H1 : Hp} {p : Addr} {o : HO} (a : But M H H1) (h : M p) : But M H (upd H1 p o) := fun b x e n => by
  rw [upd_ne (fun z => n (by rw [z]; exact h))]
  exact a b x e n
theorem But.put0 {M : Addr → Prop} {H H1 : Hp} {p : Addr} {o : HO} (a : But M H H1) (h : H p = none) : But M H (upd H1 p o) := fun b x e n => by
  rw [upd_ne (ne_of_none e h)]
  exact a b x e n
theorem But.cell {M : Addr → Prop} {H H1 : Hp} (a : But M H H1) (hm : ∀ b, M b → Cell (H1 b)) {b : Addr} (h : Cell (H b)) : Cell (H1 b) := by
  by_cases n : M b
  · exact hm b n
  · cases e : H b with
    | none => exact absurd e h.some
    | some o =>
      rw [a b o e n]
      rw [e] at h
      exact h
theorem But.none {M : Addr → Prop} {H H1 : Hp} (a : But M H H1) (hm : ∀ b, M b → Cell (H1 b)) {b : Addr} (h : H1 b = none) : H b = none := by
  cases e : H b with
  | none => rfl
  | some o =>
    by_cases n : M b
    · exact absurd h (hm b n).some
    · rw [a b o e n] at h
      cases h
theorem Grow.refl {M : Addr → Prop} {G H : Hp} (h : Same G H) : Grow M G H G H := ⟨Same.refl _, h, But.refl _ _, fun _ _ => rfl⟩
theorem Grow.trans {M : Addr → Prop} {G H G1 H1 G2 H2 : Hp} (a : Grow M G H G1 H1) (b : Grow M G1 H1 G2 H2) (hm : ∀ c, M c → Cell (H1 c)) : Grow M G H G2 H2 :=
  ⟨a.g.trans b.g, b.gh, a.h.trans b.h, fun c hc => (b.old c (a.h.cell hm hc)).trans (a.old c hc)⟩
theorem Grow.mono {M M' : Addr → Prop} {G H G1 H1 : Hp} (h : ∀ b, M b → M' b) (a : Grow M G H G1 H1) : Grow M' G H G1 H1 := ⟨a.g, a.gh, a.h.mono h, a.old⟩
/-- a new cell -/
theorem Grow.cell {M : Addr → Prop} {G H G1 H1 : Hp} {p : Addr} {o : HO} (a : Grow M G H G1 H1) (h : H1 p = none) : Grow M G H G1 (upd H1 p o) :=
  ⟨a.g, a.gh.trans (same_upd h), a.h.trans (But.new h), a.old⟩
/-- a cell of one's own, or one of M, is written -/
theorem Grow.put {M : Addr → Prop} {G H G1 H1 : Hp} {p : Addr} {o : HO} (a : Grow M G H G1 H1) (hg : G1 p = none) (h : H p = none ∨ M p) : Grow M G H G1 (upd H1 p o) :=
  ⟨a.g, fun b x e => by rw [upd_ne (ne_of_none e hg)]; exact a.gh b x e, by rcases h with h | h; exact a.h.put0 h; exact a.h.put h, a.old⟩
/-- a cell of one's own is frozen -/
theorem Grow.pub {M : Addr → Prop} {G H G1 H1 : Hp} {p : Addr} {o : HO} (a : Grow M G H G1 H1) (h1 : H1 p = some o) (hg : G1 p = none) (h : H p = none) : Grow M G H (upd G1 p o) H1 :=
  ⟨a.g.trans (same_upd hg), fun b x e => by
    by_cases q : b = p
    · subst q
      rw [upd_same] at e
      rw [← e]
      exact h1
    · rw [upd_ne q] at e
      exact a.gh b x e, a.h, fun b hb => by
    have q : b ≠ p := fun z => hb.some (by rw [z]; exact h)
    rw [upd_ne q]
    exact a.old b hb⟩
/-- a tuple is frozen at any time -/
theorem Grow.pubT {M : Addr → Prop} {G H G1 H1 : Hp} {p : Addr} {xs : List V} (a : Grow M G H G1 H1) (h1 : H1 p = some (.tup xs)) (hm : ∀ c, M c → Cell (H1 c)) : Grow M G H (upd G1 p (.tup xs)) H1 :=
  ⟨a.g.trans (fun b x e => by
    by_cases q : b = p
    · subst q
      rw [a.gh b x e] at h1
      rw [upd_same, h1]
    · rw [upd_ne q]
      exact e), fun b x e => by
    by_cases q : b = p
    · subst q
      rw [upd_same] at e
      rw [← e]
      exact h1
    · rw [upd_ne q] at e
      exact a.gh b x e, a.h, fun b hb => by
    have q : b ≠ p := fun z => (a.h.cell hm hb).tup xs (by rw [z]; exact h1)
    rw [upd_ne q]
    exact a.old b hb⟩
theorem pub_same {G H : Hp} {p : Addr} {o : HO} (g : Same G H) (h : H p = some o) : Same G (upd G p o) := fun b x e => by
  by_cases q : b = p
  · subst q
    rw [g b x e] at h
    rw [upd_same, h]
  · rw [upd_ne q]
    exact e
/-- a new thing, frozen at once -/
theorem Grow.new {M : Addr → Prop} {G H G1 H1 : Hp} {p : Addr} {o : HO} (a : Grow M G H G1 H1) (h : H1 p = none) (hm : ∀ c, M c → Cell (H1 c)) : Grow M G H (upd G1 p o) (upd H1 p o) :=
  (a.cell h).pub upd_same (a.gh.free h) (a.h.none hm h)
theorem Grow.none {M : Addr → Prop} {G H G1 H1 : Hp} {p : Addr} (a : Grow M G H G1 H1) (hg : G p = .none) (h : Cell (H p)) : G1 p = .none := by
  rw [a.old p h]
  exact hg
/-- a cell of one's own at the heap behind -/
theorem Grow.at_ {M : Addr → Prop} {G H G1 H1 : Hp} {p : Addr} {o : HO} (a : Grow M G H G1 H1) (h : H p = some o) (n : ¬ M p) : H1 p = some o := a.h p o h n
theorem noM {P : Addr → Prop} : ∀ c, NoM c → P c := fun _ h => h.elim
theorem noMC {H : Hp} : ∀ c, NoM c → Cell (H c) := fun _ h => h.elim
theorem only1 {d : Addr} : Only1 d d := rfl

end My
namespace L2
open PySem
/-! ### data -/
theorem same_rd {H H' : Hp} {a : Addr} {u : HO} (e : Same H H') (h : Rd H a u) : Rd H' a u := by
  rcases h with h | ⟨o, h⟩
  · exact Or.inl (e a _ h)
  · exact Or.inr ⟨o, e a _ h⟩
theorem same_l {K : PySem.W.Frag} {H H' : Hp} {a : Addr} {xs : List V} (e : Same H H') (h : SqL K H a xs) : SqL K H' a xs := by
  rcases h with h | h
  · exact Or.inl (same_rd e h)
  · exact Or.inr h
theorem same_t {K : PySem.W.Frag} {H H' : Hp} {a : Addr} {xs : List V} (e : Same H H') (h : SqT K H a xs) : SqT K H' a xs := by
  rcases h with h | h
  · exact Or.inl (same_rd e h)
  · exact Or.inr h
mutual
theorem Dp.mono {K : PySem.W.Frag} {H H' : Hp} (e : Same H H') : ∀ {d : PyData} {v : V}, Dp K H v d → Dp K H' v d
  | _, _, .non => .non
  | _, _, .bl b => .bl b
  | _, _, .int i => .int i
  | _, _, .str x => .str x
  | _, _, .lst h a => .lst (same_l e h) (DpAll.mono e a)
  | _, _, .tup h a => .tup (same_t e h) (DpAll.mono e a)
theorem DpAll.mono {K : PySem.W.Frag} {H H' : Hp} (e : Same H H') : ∀ {ds : List PyData} {vs : List V}, DpAll K H vs ds → DpAll K H' vs ds
  | _, _, .nil => .nil
  | _, _, .cons a b => .cons (Dp.mono e a) (DpAll.mono e b)
end
theorem DpAll.length {K : PySem.W.Frag} {H : Hp} : ∀ {ds : List PyData} {vs : List V}, DpAll K H vs ds → vs.length = ds.length
  | _, _, .nil => rfl
  | _, _, .cons _ b => by
    rw [List.length_cons, List.length_cons, DpAll.length b]
theorem DpAll.snoc {K : PySem.W.Frag} {H : Hp} {d : PyData} {v : V} : ∀ {ds : List PyData} {vs : List V}, DpAll K H vs ds → Dp K H v d → DpAll K H (vs ++ [v]) (ds ++ [d])
  | _, _, .nil, h => .cons h .nil
  | _, _, .cons a b, h => .cons a (DpAll.snoc b h)
theorem DpAll.get {K : PySem.W.Frag} {H : Hp} : ∀ {ds : List PyData} {vs : List V} {i : Nat} {v : V}, DpAll K H vs ds → vs[i]? = some v → ∃ d, ds[i]? = some d ∧ Dp K H v d
  | _, _, _, _, .nil, h => by simp at h
  | _, _, 0, _, .cons a _, h => by
    simp at h
    subst h
    exact ⟨_, rfl, a⟩
  | _, _, i + 1, _, .cons _ b, h => by
    obtain ⟨d, e, q⟩ := DpAll.get (i := i) b (by simpa using h)
    exact ⟨d, by simpa using e, q⟩
theorem DpAll.get' {K : PySem.W.Frag} {H : Hp} : ∀ {ds : List PyData} {vs : List V} {i : Nat} {d : PyData}, DpAll K H vs ds → ds[i]? = some d → ∃ v, vs[i]? = some v ∧ Dp K H v d
  | _, _, _, _, .nil, h => by simp at h
  | _, _, 0, _, .cons a _, h => by
    simp at h
    subst h
    exact ⟨_, rfl, a⟩
  | _, _, i + 1, _, .cons _ b, h => by
    obtain ⟨d, e, q⟩ := DpAll.get' (i := i) b (by simpa using h)
    exact ⟨d, by simpa using e, q⟩

end L2
namespace My
open PySem L2
/-! ### the draw -/
structure DrawAt (H : Hp) (d l : Addr) : Prop where
  ex : ∃ (ns : List Int) (p g s : Int), H d = some (.lst [.ref l, .int p, .int g, .int s]) ∧ H l = some (.lst (ns.map V.int)) ∧ 0 ≤ p ∧ 0 ≤ g ∧ 0 ≤ s ∧ s < 2147483647 ∧ ns.length ≤ 63
theorem DrawAt.some {H : Hp} {d l : Addr} (h : DrawAt H d l) : H d ≠ none := by
  obtain ⟨ns, p, g, s, e, _⟩ := h.ex
  rw [e]
  simp
theorem DrawAt.cell {H : Hp} {d l : Addr} (h : DrawAt H d l) : Cell (H d) := by
  obtain ⟨ns, p, g, s, e, _⟩ := h.ex
  exact cell_lst e
theorem DrawAt.some' {H : Hp} {d l : Addr} (h : DrawAt H d l) : ∀ c, Only1 d c → Cell (H c) := fun c e => by
  rw [show c = d from e]
  exact h.cell
theorem DrawAt.ned {H : Hp} {d l p : Addr} (h : DrawAt H d l) (e : H p = none) : p ≠ d := fun q => h.some (by rw [← q]; exact e)
theorem DrawAt.nel {H : Hp} {d l p : Addr} (h : DrawAt H d l) (e : H p = none) : p ≠ l := fun q => by
  obtain ⟨ns, p, g, s, _, e2, _⟩ := h.ex
  rw [← q, e] at e2
  cases e2
theorem DrawAt.mono {H H' : Hp} {d l : Addr} (h : DrawAt H d l) (e : Same H H') : DrawAt H' d l := by
  obtain ⟨ns, p, g, s, e1, e2, r⟩ := h.ex
  exact ⟨⟨ns, p, g, s, e _ _ e1, e _ _ e2, r⟩⟩
theorem DrawAt.upd {H : Hp} {d l p : Addr} {o : HO} (h : DrawAt H d l) (e : H p = none) : DrawAt (upd H p o) d l := h.mono (same_upd e)
theorem DrawAt.put {H : Hp} {d l p : Addr} {o : HO} (h : DrawAt H d l) (hd : p ≠ d) (hl : p ≠ l) : DrawAt (L2.upd H p o) d l := by
  obtain ⟨ns, p', g, s, e1, e2, r⟩ := h.ex
  exact ⟨⟨ns, p', g, s, by rw [upd_ne hd.symm]; exact e1, by rw [upd_ne hl.symm]; exact e2, r⟩⟩
theorem log_small {n : Int} {k : Nat} (h0 : 0 < n) (h : n < 2 ^ k) (hk : k ≤ 9000) (k0 : 0 < k) : CDivW 0 n := by
  refine wide_div (i := 0) h0 (b := k) ?_ k0 hk
  have : ((n.natAbs : Nat) : Int) < ((2 ^ k : Nat) : Int) := by
    rw [Int.natAbs_of_nonneg (by omega)]
    simpa using h
  exact_mod_cast this
end My
namespace My
open PySem L2
/-! ### types and depth of data -/
def tyN : PyData → String
  | .none => "NoneType"
  | .bool _ => "bool"
  | .int _ => "int"
  | .str _ => "str"
  | .list _ => "list"
  | .tuple _ => "tuple"
  | .dict _ => "dict"
abbrev tyD (d : PyData) : Value := .type (tyN d)
theorem sql_ty {K : PySem.W.Frag} {H : Hp} {a : Addr} {xs : List V} (h : SqL K H a xs) : TyX K H (.ref a) (.type "list") := by
  rcases h with (h | ⟨o, h⟩) | ⟨o, its, n, h, c, _⟩
  · exact .base (.lst h)
  · exact .base (.frz h)
  · exact .kList h c
theorem sqt_ty {K : PySem.W.Frag} {H : Hp} {a : Addr} {xs : List V} (h : SqT K H a xs) : TyX K H (.ref a) (.type "tuple") := by
  rcases h with (h | ⟨o, h⟩) | ⟨o, its, n, h, c, _⟩
  · exact .base (.tup h)
  · exact .fTuple h
  · exact .kTuple h c
theorem dp_ty {K : PySem.W.Frag} {H : Hp} {v : V} {d : PyData} (h : Dp K H v d) : TyX K H v (tyD d) := by
  cases h with
  | non => exact .base .non
  | bl b => exact .base (.bl b)
  | int i => exact .base (.int i)
  | str x => exact .base (.str x)
  | lst h _ => exact sql_ty h
  | tup h _ => exact sqt_ty h
mutual
def dep : PyData → Nat
  | .list ds => depAll ds + 1
  | .tuple ds => depAll ds + 1
  | _ => 0
def depAll : List PyData → Nat
  | [] => 0
  | d :: ds => max (dep d) (depAll ds)
end
theorem dep_get : ∀ {ds : List PyData} {i : Nat} {d : PyData}, ds[i]? = some d → dep d ≤ depAll ds
  | [], _, _, h => by simp at h
  | x :: r, 0, d, h => by
    have e : x = d := by simpa using h
    rw [e, depAll]
    omega
  | x :: r, i + 1, d, h => by
    have q := dep_get (ds := r) (i := i) (d := d) (by simpa using h)
    rw [depAll]
    omega
mutual
def wid : PyData → Nat
  | .list ds => max ds.length (widAll ds)
  | .tuple ds => max ds.length (widAll ds)
  | _ => 0
def widAll : List PyData → Nat
  | [] => 0
  | d :: ds => max (wid d) (widAll ds)
end
theorem wid_get : ∀ {ds : List PyData} {i : Nat} {d : PyData}, ds[i]? = some d → wid d ≤ widAll ds
  | [], _, _, h => by simp at h
  | x :: r, 0, d, h => by
    have e : x = d := by simpa using h
    rw [e, widAll]
    omega
  | x :: r, i + 1, d, h => by
    have q := wid_get (ds := r) (i := i) (d := d) (by simpa using h)
    rw [widAll]
    omega
theorem kit2 {K : PySem.W.Frag} {t : Value} {a b : String} {r s : Bool} (h1 : PySem.W.kitOne K t (.type a) = some r) (h2 : PySem.W.kitOne K t (.type b) = some s) : PySem.W.kitAny K t [.type a, .type b] = some (r || s) := by
  refine kitAny_cons h1 (fun e => ?_) (fun e => by rw [e]; rfl)
  rw [e]
  refine kitAny_cons h2 (fun e => ?_) (fun e => by rw [e]; rfl)
  rw [e]
  exact kitAny_nil
/-- is a list, is a tuple, .. -/
def isTn (s t : String) : Bool := t == s || (t == "bool" && s == "int")
abbrev isTy (s : String) (d : PyData) : Bool := isTn s (tyN d)
theorem kit_n {K : PySem.W.Frag} (a b : String) (h : kitB a b = some (isTn b a)) : PySem.W.kitOne K (.type a) (.type b) = some (isTn b a) := kit_ty h
theorem kit_d {K : PySem.W.Frag} (d : PyData) : PySem.W.kitOne K (tyD d) (.type "list") = some (isTy "list" d) ∧ PySem.W.kitOne K (tyD d) (.type "tuple") = some (isTy "tuple" d) ∧
    PySem.W.kitOne K (tyD d) (.type "bool") = some (isTy "bool" d) ∧ PySem.W.kitOne K (tyD d) (.type "int") = some (isTy "int" d) ∧ PySem.W.kitOne K (tyD d) (.type "str") = some (isTy "str" d) := by
  cases d with
  | none => exact ⟨kit_n "NoneType" "list" (by decide +kernel), kit_n "NoneType" "tuple" (by decide +kernel), kit_n "NoneType" "bool" (by decide +kernel), kit_n "NoneType" "int" (by decide +kernel), kit_n "NoneType" "str" (by decide +kernel)⟩
  | bool _ => exact ⟨kit_n "bool" "list" (by decide +kernel), kit_n "bool" "tuple" (by decide +kernel), kit_n "bool" "bool" (by decide +kernel), kit_n "bool" "int" (by decide +kernel), kit_n "bool" "str" (by decide +kernel)⟩
  | int _ => exact ⟨kit_n "int" "list" (by decide +kernel), kit_n "int" "tuple" (by decide +kernel), kit_n "int" "bool" (by decide +kernel), kit_n "int" "int" (by decide +kernel), kit_n "int" "str" (by decide +kernel)⟩
  | str _ => exact ⟨kit_n "str" "list" (by decide +kernel), kit_n "str" "tuple" (by decide +kernel), kit_n "str" "bool" (by decide +kernel), kit_n "str" "int" (by decide +kernel), kit_n "str" "str" (by decide +kernel)⟩
  | list _ => exact ⟨kit_n "list" "list" (by decide +kernel), kit_n "list" "tuple" (by decide +kernel), kit_n "list" "bool" (by decide +kernel), kit_n "list" "int" (by decide +kernel), kit_n "list" "str" (by decide +kernel)⟩
  | tuple _ => exact ⟨kit_n "tuple" "list" (by decide +kernel), kit_n "tuple" "tuple" (by decide +kernel), kit_n "tuple" "bool" (by decide +kernel), kit_n "tuple" "int" (by decide +kernel), kit_n "tuple" "str" (by decide +kernel)⟩
  | dict _ => exact ⟨kit_n "dict" "list" (by decide +kernel), kit_n "dict" "tuple" (by decide +kernel), kit_n "dict" "bool" (by decide +kernel), kit_n "dict" "int" (by decide +kernel), kit_n "dict" "str" (by decide +kernel)⟩
abbrev clsLT : List V := [.ty "list", .ty "tuple"]
theorem pairLT : Paired ClsV clsLT [.type "list", .type "tuple"] := .cons (.ty _) (.cons (.ty _) .nil)
theorem walk_zipT {K : PySem.W.Frag} {a b : Addr} {xs ys : List V} {n : Nat} (hn : n = min xs.length ys.length) : Walk (RZ.ItzT K a b) n (fun H => SqT K H a xs ∧ SqT K H b ys) (YPair (fun i => xs[i]?) (fun i => ys[i]?)) := by
  subst hn
  refine ⟨fun i _ hi q => ?_, fun _ q => ⟨xs, ys, q.1, q.2, by omega⟩, fun i H v H' _ q y => ?_⟩
  · have h1 : i < xs.length := by omega
    have h2 : i < ys.length := by omega
    exact ⟨xs, ys, xs[i], ys[i], q.1, q.2, by simp [h1], by simp [h2]⟩
  · obtain ⟨T, x, z, h1, h2, h3, h4, h5⟩ := y
    exact ⟨T, x, z, h1, h2, h3, h4 xs q.1, h5 ys q.2⟩
theorem but_l {K : PySem.W.Frag} {M : Addr → Prop} {H H' : Hp} {a : Addr} {xs : List V} (e : But M H H') (n : ¬ M a) (h : SqL K H a xs) : SqL K H' a xs := by
  rcases h with (h | ⟨o, h⟩) | h
  · exact Or.inl (Or.inl (e a _ h n))
  · exact Or.inl (Or.inr ⟨o, e a _ h n⟩)
  · exact Or.inr h
theorem but_t {K : PySem.W.Frag} {M : Addr → Prop} {H H' : Hp} {a : Addr} {xs : List V} (e : But M H H') (n : ¬ M a) (h : SqT K H a xs) : SqT K H' a xs := by
  rcases h with (h | ⟨o, h⟩) | h
  · exact Or.inl (Or.inl (e a _ h n))
  · exact Or.inl (Or.inr ⟨o, e a _ h n⟩)
  · exact Or.inr h
end My
namespace My
open PySem L2
/-- [f sign for sign in text] -/
theorem lc_sign {te tz : TE} {σ : L2.St} {H : Hp} {Q : VK} {j : Nat} (z : Str) (f : Nat → Bool) (hz : z.length ≤ 100000) (hv : ∀ Q' : VK, Q' (.str z) H → tz σ H Q')
    (hw : ∀ x : V, wipe ((wipe σ [j]).set j (some x)) [j] = wipe σ [j]) (hs : ∀ (c : Nat) (H' : Hp) (Q' : VK), Q' (.bl (f c)) H' → te ((wipe σ [j]).set j (some (.str ⟨#[c]⟩))) H' Q')
    (k : ∀ (D : Addr) (H' : Hp), Same H H' → H D = none → H' D = some (.lst ((z.cps.toList.map f).map V.bl)) → Q (.ref D) H') : tLc (iStr tz) (gName j) tYes te [j] σ H Q := by
  refine hv _ ⟨z, rfl, fun D hD => ?_⟩
  refine lc_it walk_str (fun i H' => Same H H' ∧ H' D = some (.lst (((z.cps.toList.take i).map f).map V.bl))) ⟨same_upd hD, upd_same⟩ (fun _ _ _ _ => trivial) ?_ ?_
  · rintro i x H1 H2 hi ⟨sm, eD⟩ ⟨rfl, c, hc, rfl⟩
    refine ⟨hw _, ?_⟩
    refine hs c H2 _ ⟨_, eD, ?_, ?_, ?_⟩
    · rw [List.length_map, List.length_map, List.length_take]
      have : i < 100000 := Nat.lt_of_lt_of_le hi hz
      exact Nat.lt_of_le_of_lt (Nat.min_le_left _ _) (Nat.lt_of_lt_of_le this (by decide))
    · intro b o e
      rw [upd_ne (ne_of_none e hD)]
      exact sm b o e
    · rw [upd_same, List.take_add_one]
      have e : z.cps.toList[i]? = some c := by
        rw [Array.getElem?_toList]
        exact hc
      rw [e]
      simp
  · rintro H' ⟨sm, eD⟩
    refine k D H' sm hD ?_
    rw [eD, List.take_of_length_le (by rw [Array.length_toList]; exact Nat.le_refl _)]
theorem list_all_map {α : Type} (f : α → Bool) (l : List α) : (l.map f).all id = l.all f := by
  rw [List.all_map]
  rfl
end My
namespace My
open PySem L2
section
variable {X : Cx}
theorem iop_mulW : OpR X (inplaceOp .Mult) (rI CMulW fun i j => .int (i * j)) := opI fun _ _ _ _ _ _ _ hc q => PyProof.Rows.imul_int q hc.ok
theorem ip_mulW : PIp X .Mult (rI CMulW fun i j => .int (i * j)) := fun pins s σ H x y v u Q I rx ry h => iop_mulW pins s σ H x y v u Q I rx ry h
theorem ip_fdivW : PIp X .FloorDiv (rI CDivW fun i j => .int (i / j)) := fun pins s σ H x y v u Q I rx ry h => iop_fdivW pins s σ H x y v u Q I rx ry h
end
theorem pow_lt {b : Int} {m : Nat} (h : b.natAbs < 2 ^ m) : ∀ i : Nat, (b ^ i).natAbs < 2 ^ (m * i + 1)
  | 0 => by
    rw [Int.pow_zero, Nat.mul_zero]
    decide
  | i + 1 => by
    have q := pow_lt h i
    rw [Int.pow_succ]
    have e : m * (i + 1) + 1 = (m * i + 1) + m := by rw [Nat.mul_succ]; omega
    rw [e]
    exact wide_lt q h
/-- base, power: the power, by a product for each turn -/
def spRaised : Sp := fun vs H Q _ => ∃ (b : Int) (p m : Nat), vs = [.int b, .int p] ∧ b.natAbs < 2 ^ m ∧ 0 < m ∧ m * (p + 1) ≤ 900000 ∧ Q (.int (b ^ p)) H
theorem raised_ok {b : Int} {m p i : Nat} (h : b.natAbs < 2 ^ m) (h0 : 0 < m) (h1 : m * (p + 1) ≤ 900000) (hi : i < p) : CMulW (b ^ i) b := by
  have e1 : m * i + m ≤ m * (p + 1) := by
    rw [← Nat.mul_succ]
    exact Nat.mul_le_mul_left _ (by omega)
  exact wide_mul (pow_lt h i) h (by omega) h0 (by omega)
theorem raised_small {m p : Nat} (h0 : 0 < m) (h1 : m * (p + 1) ≤ 900000) : p < 900000 := by
  have : 1 * (p + 1) ≤ m * (p + 1) := Nat.mul_le_mul_right _ h0
  omega
end My
namespace My
open PySem L2
/-- a comprehension whose turns leave all that stood as it was: the values f i -/
theorem lc_pure {J : It} {n : Nat} {G : Hp → Prop} {Y : Nat → Hp → V → Hp → Prop} (w : Walk J n G Y) {g : TG} {te : TE} {vs : List Nat} {σ : L2.St} {H : Hp} {D : Addr} {Qd : Hp → Prop} (f : Nat → V) (hn : n ≤ 100000) (hD : H D = none) (hG : ∀ H', Same H H' → G H')
    (hs : ∀ (i : Nat) (x : V) (H1 H2 : Hp) (Q' : VK), i < n → Same H H1 → Y i H1 x H2 → (∀ H4, Same H1 H4 → Q' (f i) H4) → g x (wipe σ vs) H2 fun σ2 H3 => wipe σ2 vs = wipe σ vs ∧ te σ2 H3 Q')
    (k : ∀ H', Same H H' → H' D = some (.lst ((List.range n).map f)) → Qd H') :
    ∃ W : Nat → Nat → Hp → Prop, (∃ m, W 0 m (upd H D (.lst []))) ∧ ∀ i m H, W i m H →
      (J.stop i H ∧ Qd H) ∨ (J.go i H ∧ ∃ Nx : Hp → Prop, (∀ H', Nx H' → ∃ m', m' < m ∧ W (i + 1) m' H') ∧ ∀ x H', J.yld i H x H' → g x (wipe σ vs) H' fun σ2 H2 => wipe σ2 vs = wipe σ vs ∧ tYes σ2 H2 fun b H3 =>
        if b = true then te σ2 H3 fun y H4 => ∃ acc, H4 D = some (.lst acc) ∧ acc.length < sizeLine ∧ Nx (upd H4 D (.lst (acc ++ [y]))) else Nx H3) := by
  refine lc_it w (fun i H' => Same H H' ∧ H' D = some (.lst ((List.range i).map f))) ⟨same_upd hD, upd_same⟩ (fun i H' _ p => hG H' p.1) ?_ (fun H' p => k H' p.1 p.2)
  rintro i x H1 H2 hi ⟨sm, eD⟩ y
  refine hs i x H1 H2 _ hi sm y fun H4 s4 => ?_
  refine ⟨_, s4 _ _ eD, ?_, ?_, ?_⟩
  · rw [List.length_map, List.length_range]
    exact Nat.lt_of_lt_of_le hi (Nat.le_trans hn (by decide))
  · intro b o e
    rw [upd_ne (ne_of_none e hD)]
    exact s4 _ _ (sm b o e)
  · rw [upd_same, List.range_succ, List.map_append]
    rfl
/-- the draw's list and what was frozen -/
theorem Grow.draw {G H H' : Hp} {d : Addr} (sg : Same G H) (gd : G d = .none) (b : But (Only1 d) H H') : Grow (Only1 d) G H G H' :=
  ⟨Same.refl _, fun c o e => b c o (sg c o e) (fun q => by
    rw [show c = d from q, gd] at e
    cases e), b, fun _ _ => rfl⟩
end My
namespace My
open PySem PySem.Spec PyProof.Rows L2
/-! ### sorted(d), d a dict whose keys are pairs of ints -/
def adr : Value → Addr
  | .ref a => a
  | _ => 0
def prOf (H : Hp) : Value → Int × Int
  | .ref a => match H a with
    | some (.tup [.int i, .int j]) => (i, j)
    | _ => (0, 0)
  | _ => (0, 0)
theorem prOf_eq {H : Hp} {a : Addr} {i j : Int} (h : H a = some (.tup [.int i, .int j])) : prOf H (.ref a) = (i, j) := by
  simp only [prOf, h]
abbrev key2 (p : Int × Int) : List L2.Key := [Sum.inl p.1, Sum.inl p.2]
abbrev pairsD (ps : List ((Int × Int) × V)) : List (List L2.Key × V) := ps.map fun p => (key2 p.1, p.2)
def rSortedDT : List V → Hp → VK → Prop := fun xs H Q => ∃ (d : Addr) (ps : List ((Int × Int) × V)), xs = [.ref d] ∧ Rd H d (.dT (pairsD ps)) ∧
  ∀ (qs : List ((Int × Int) × Addr)) (p : Addr), (qs.map (·.1)).Perm (ps.map (·.1)) → qs.Pairwise (fun x y => SrtO.lexB y.1 x.1 = false) → (∀ q ∈ qs, H q.2 = some (.tup [.int q.1.1, .int q.1.2])) → H p = none → Q (.ref p) (upd H p (.lst (qs.map fun q => .ref q.2)))
theorem keys_of_pairs {H : Hp} : ∀ {ps : List ((Int × Int) × V)} {bs : List Addr}, IsKeys H (pairsD ps) bs → (bs.map fun b => prOf H (.ref b)) = ps.map (·.1) ∧ ∀ b ∈ bs, H b = some (.tup [.int (prOf H (.ref b)).1, .int (prOf H (.ref b)).2])
  | [], _, h => by
    cases h
    exact ⟨rfl, fun b hb => absurd hb (by simp)⟩
  | p :: ps, _, h => by
    cases h with
    | @cons _ b _ bs h1 h2 =>
      obtain ⟨e1, e2⟩ := keys_of_pairs (ps := ps) h2
      have h1' : H b = some (.tup [.int p.1.1, .int p.1.2]) := h1
      have ep := prOf_eq h1'
      refine ⟨?_, fun c hc => ?_⟩
      · rw [List.map_cons, List.map_cons, e1, ep]
      · rcases List.mem_cons.mp hc with e | hc
        · subst e
          rw [ep]
          exact h1'
        · exact e2 c hc
section
variable {X : Cx}
theorem cr_sortedDT (hc : X.calm = true) : CallR X (.builtin "sorted") rSortedDT := by
  intro pins s σ H xs us Q I r h
  obtain ⟨d, ps, rfl, hd, q⟩ := h
  obtain ⟨u, rfl, rx⟩ := r.one
  cases rx
  obtain ⟨z, hs, ks, pr, o, es, ep, ho, hx, hdt, he, hn⟩ := (show ObjOk X.prog X.w H s.heap d (.dT (pairsD ps)) from hd.ok I.hok)
  have l1 : es.size = ks.length := size_of_entries he
  have l2 : (pairsD ps).length = ks.length := Paired.length pr
  have hik := isKeys_of pr
  obtain ⟨hkeys, htup⟩ := keys_of_pairs hik
  refine Calls.call_function_entry kind_sorted plain_sorted entry_sorted (args_sorted1 _) ?_
  unfold Builtin.«sorted»
  refine wpAny_bind (m := checkCount "sorted" 1 1 _) (wpAny_pure ?_)
  refine wpAny_bind (PySem.W.kdu_collect (A := X.A.in1) (kdl_raw hs hx hdt) (I.ok.hd hc) ho (by omega) fun h' tk acc hk it => ?_)
  have ea : acc.toList = (ks.map fun x => x.2.1).map Value.ref := by
    have hl : acc.toList.length = ks.length := by rw [Array.length_toList, it.1]; exact l1
    rw [List.map_map]
    apply List.ext_getElem?
    intro j
    rw [List.getElem?_map]
    cases hj : acc.toList[j]? with
    | none =>
      have h1 := List.getElem?_eq_none_iff.mp hj
      rw [List.getElem?_eq_none (by omega)]
      all_goals rfl
    | some v =>
      obtain ⟨en, hen, hv⟩ := it.2 j v (by rw [← Array.getElem?_toList]; exact hj)
      have qe := entry_at he j
      rw [hen] at qe
      cases hb : ks[j]? with
      | none =>
        rw [hb] at qe
        exact nomatch (show some en = none from qe)
      | some b =>
        rw [hb] at qe
        have e2 : en = entryOfKey (tupleKind (mixKind X.prog X.w)) b := Option.some.inj qe
        rw [hv, e2]
        all_goals rfl
  generalize hbs : (ks.map fun x => x.2.1) = bs at *
  generalize hvs : acc.toList = vs at *
  have hlb : vs.length ≤ sizeLine := by
    rw [ea, List.length_map, ← hbs, List.length_map]
    omega
  have I1 : Inv X pins σ H { s with heap := h', toks := tk } := I.kept hk
  have mem : ∀ v ∈ vs, ∃ b ∈ bs, v = Value.ref b := fun v hv => by
    rw [ea] at hv
    obtain ⟨b, hb, e⟩ := List.mem_map.mp hv
    exact ⟨b, hb, e.symm⟩
  have pairs : ∀ v ∈ vs, Srt.IsPair h' v (prOf H v).1 (prOf H v).2 := fun v hv => by
    obtain ⟨b, hb, rfl⟩ := mem v hv
    obtain ⟨_, its2, r2, o, ho, hc, n, hd⟩ := (show ObjOk X.prog X.w H h' b _ from I1.hok _ _ (htup b hb))
    obtain ⟨u1, u2, rfl, ri, rj⟩ := vals2 r2
    obtain ⟨t1, rfl⟩ := ri
    obtain ⟨t2, rfl⟩ := rj
    exact ⟨b, o, t1, t2, n, rfl, ho, hc, hd⟩
  refine wpAny_bind (wpAny_newList ?_ hlb)
  have hoL : (h'.push (seqObj "list" vs.toArray 0)).get? h'.objs.size = some (seqObj "list" vs.toArray 0) := Heap.get?_push_size _ rfl
  show wpAny _ _ _ _ _ { s with heap := h'.push (seqObj "list" vs.toArray 0), toks := tk }
  refine wpAny_bind (wpAny_holding (wpAny_call_entry slot_list_sort ⟨_, hoL, rfl⟩ entry_list_sort
    (SrtO.list_sort_ord (s := { s with heap := h'.push (seqObj "list" vs.toArray 0), toks := tk }) (SrtO.swo_lex (prOf H)) hoL hlb (fun h2 => SrtO.pairs_sortableO (by omega) (fun v hv => (pairs v hv).keeps fun b o e _ => Heap.get?_push_of_some _ e) fun o e => ?_) fun out g1 g2 => ⟨_, rfl, ?_⟩) (args_list_sort _)))
  · have e' : some o = some (seqObj "list" vs.toArray 0) := e.symm.trans hoL
    cases e'
    intro c
    exact absurd (Value.type.inj c) (by decide)
  obtain ⟨e', he'⟩ := sortedHeap_at (vs := vs) (out := out.toArray) hoL
  have memo : ∀ v ∈ out, ∃ b ∈ bs, v = Value.ref b := fun v hv => mem v (g2.perm.mem_iff.mp hv)
  have hq : (out.map fun v => (prOf H v, adr v)).map (fun q => V.ref q.2) = out.map backV := by
    rw [List.map_map]
    apply List.map_congr_left
    intro v hv
    obtain ⟨b, _, rfl⟩ := memo v hv
    rfl
  have hlen : (out.map backV).length ≤ sizeLine := by
    rw [List.length_map, g2.perm.length_eq]
    exact hlb
  have fresh : H h'.objs.size = none := I1.hok.fresh (Nat.le_refl _)
  have kq := q (out.map fun v => (prOf H v, adr v)) h'.objs.size (by
      rw [List.map_map, ← hkeys]
      have e1 : (bs.map fun b => prOf H (.ref b)) = vs.map (prOf H) := by
        rw [ea, List.map_map]
        rfl
      rw [e1]
      exact g2.perm.map (prOf H)) (List.pairwise_map.mpr g1) (fun w hw => by
      obtain ⟨v, hv, rfl⟩ := List.mem_map.mp hw
      obtain ⟨b, hb, rfl⟩ := memo v hv
      exact htup b hb) fresh
  rw [hq] at kq
  refine wpAny_pure ⟨_, rfl, .ref h'.objs.size, upd H h'.objs.size (.lst (out.map backV)), I1.laid (t' := tk) (fun b u e => ?_) (Nat.le_refl _)
    (show ObjOk X.prog X.w _ _ _ (.lst (out.map backV)) from ⟨hlen, out, e', vals_back fun v hv => (let ⟨b, _, e⟩ := memo v hv; ⟨b, e⟩), he'⟩), rfl, kq⟩
  have hb : b < h'.objs.size := Heap.lt_size e
  rw [sortedHeap_old (Nat.ne_of_lt hb) (by rw [size_push']; exact Nat.lt_succ_of_lt hb)]
  exact Heap.get?_push_of_some _ e
end
end My
namespace My
open PySem L2
/-! ### sums: parts, terms, rows -/
abbrev Prt := Int × Int
abbrev Trm := (Int × Int) × Prt
abbrev Rw := Int × List Trm
def partD (p : Prt) : PyData := .tuple [.int p.1, .int p.2]
def termD (t : Trm) : PyData := .tuple [.tuple [.int t.1.1, .int t.1.2], partD t.2]
def rowD (r : Rw) : PyData := .tuple [.int r.1, .list (r.2.map termD)]
def sumsD (S : List Rw) : PyData := .list (S.map rowD)
/-- lowest terms -/
def lowL (o u : Int) : Prt := (o / (Int.gcd o u : Int), u / (Int.gcd o u : Int))
structure TrmOk (top deep wide : Int) (t : Trm) : Prop where
  p0 : 0 ≤ t.1.1
  p1 : t.1.1 ≤ top
  f0 : 0 ≤ t.1.2
  f1 : t.1.2 ≤ deep
  o0 : t.2.1 ≠ 0
  o1 : (t.2.1.natAbs : Int) ≤ wide
  u0 : 0 < t.2.2
  u1 : t.2.2 ≤ 2
  low : Int.gcd t.2.1 t.2.2 = 1
structure TrmsOk (top deep wide : Int) (ts : List Trm) : Prop where
  each : ∀ t ∈ ts, TrmOk top deep wide t
  nd : (ts.map (·.1)).Nodup
  desc : ts.Pairwise fun a b => SrtO.lexB b.1 a.1 = true
  len : ts.length ≤ 3
structure SumsOk (top deep wide : Int) (S : List Rw) : Prop where
  each : ∀ r ∈ S, TrmsOk top deep wide r.2 ∧ 0 ≤ r.1 ∧ r.1 ≤ 36
  first : ∃ ts r, S = (0, ts) :: r
  rise : S.Pairwise fun a b => a.1 < b.1
  len : S.length ≤ 4
theorem gcd_step {a b : Int} (ha : 0 ≤ a) (hb : 0 < b) : Int.gcd b (a % b) = Int.gcd a b := by
  have h := Int.gcd_add_mul_left_right b (a % b) (a / b)
  rw [Int.emod_add_mul_ediv] at h
  rw [← h, Int.gcd_comm]
theorem gcd_abs (a b : Int) : Int.gcd (if a < 0 then -a else a) (if b < 0 then -b else b) = Int.gcd a b := by
  split <;> split <;> simp [Int.gcd_neg, Int.neg_gcd]
theorem lowL_ok {o u : Int} (ho : o ≠ 0) (h0 : 0 < u) : (lowL o u).1 ≠ 0 ∧ (lowL o u).1.natAbs ≤ o.natAbs ∧ 0 < (lowL o u).2 ∧ (lowL o u).2 ≤ u ∧ Int.gcd (lowL o u).1 (lowL o u).2 = 1 := by
  have hg : 0 < Int.gcd o u := Int.gcd_pos_of_ne_zero_right _ (by omega)
  have hd : (Int.gcd o u : Int) ∣ u := Int.gcd_dvd_right ..
  have hd1 : (Int.gcd o u : Int) ∣ o := Int.gcd_dvd_left ..
  refine ⟨Int.ediv_gcd_ne_zero_of_ne_zero_left u ho, ?_, ?_, ?_, Int.gcd_ediv_gcd_ediv_gcd hg⟩
  · show (o / (Int.gcd o u : Int)).natAbs ≤ o.natAbs
    rw [Int.natAbs_ediv_of_dvd hd1, Int.natAbs_natCast]
    exact Nat.div_le_self _ _
  · exact Int.ediv_pos_of_pos_of_dvd h0 (by omega) hd
  · exact Int.ediv_le_self _ (by omega)
theorem desc_of {l : List ((Int × Int) × Addr)} (h : l.Pairwise fun x y => SrtO.lexB y.1 x.1 = false) (nd : (l.map (·.1)).Nodup) : l.reverse.Pairwise fun a b => SrtO.lexB b.1 a.1 = true := by
  rw [List.pairwise_reverse]
  have nd' : l.Pairwise fun a b => a.1 ≠ b.1 := by
    rw [List.nodup_iff_pairwise_ne, List.pairwise_map] at nd
    exact nd
  refine (h.and nd').imp ?_
  rintro a b ⟨h1, h2⟩
  rw [SrtO.lexB_no] at h1
  rw [SrtO.lexB_iff]
  have : ¬ (a.1.1 = b.1.1 ∧ a.1.2 = b.1.2) := fun e => h2 (Prod.ext e.1 e.2)
  omega
/-! ### a dict whose keys are pairs of ints -/
theorem key2_inj {p q : Int × Int} (h : key2 p = key2 q) : p = q := by
  have h1 := List.cons.inj h
  have h2 := List.cons.inj h1.2
  exact Prod.ext (Sum.inl.inj h1.1) (Sum.inl.inj h2.1)
theorem pairsD_val (k : Int × Int) : ∀ ps : List ((Int × Int) × V), valV (pairsD ps) (key2 k) = valV ps k
  | [] => rfl
  | p :: r => by
    show valV ((key2 p.1, p.2) :: pairsD r) (key2 k) = valV (p :: r) k
    by_cases h : p.1 = k
    · rw [valV_pos (p := (key2 p.1, p.2)) (by rw [h]), valV_pos h]
    · rw [valV_neg (p := (key2 p.1, p.2)) (fun e => h (key2_inj e)), valV_neg h, pairsD_val k r]
theorem pairsD_put (k : Int × Int) (v : V) (ps : List ((Int × Int) × V)) : putK (pairsD ps) (key2 k) v = pairsD (putK ps k v) := by
  unfold putK
  have e : ((pairsD ps).any fun kv => decide (kv.1 = key2 k)) = (ps.any fun kv => decide (kv.1 = k)) := by
    rw [valV_any, valV_any, pairsD_val]
  rw [e]
  split
  · unfold pairsD
    rw [List.map_map, List.map_map]
    apply List.map_congr_left
    intro p _
    show (if key2 p.1 = key2 k then (key2 p.1, v) else (key2 p.1, p.2)) = (key2 (if p.1 = k then (p.1, v) else p).1, (if p.1 = k then (p.1, v) else p).2)
    by_cases h : p.1 = k
    · rw [if_pos h, if_pos (by rw [h])]
    · rw [if_neg h, if_neg (fun e => h (key2_inj e))]
  · unfold pairsD
    rw [List.map_append]
    rfl
theorem keys_put {κ : Type} [DecidableEq κ] (k : κ) (v : V) (ps : List (κ × V)) (h : (ps.map (·.1)).Nodup) : ((putK ps k v).map (·.1)).Nodup := by
  unfold putK
  split
  · rw [List.map_map]
    have e : ((fun x : κ × V => x.1) ∘ fun kv => if kv.1 = k then (kv.1, v) else kv) = fun x => x.1 := by
      funext x
      show (if x.1 = k then (x.1, v) else x).1 = x.1
      split <;> rfl
    rw [e]
    exact h
  · rename_i hn
    rw [List.map_append, List.nodup_append]
    refine ⟨h, by simp, ?_⟩
    intro a ha b hb e
    have hb' : b = k := by simpa using hb
    subst e
    subst hb'
    obtain ⟨p, hp, e⟩ := List.mem_map.mp ha
    exact hn (List.any_eq_true.mpr ⟨p, hp, decide_eq_true e⟩)
theorem mem_put {κ : Type} [DecidableEq κ] {k : κ} {v : V} {ps : List (κ × V)} {q : κ × V} (h : q ∈ putK ps k v) : q = (k, v) ∨ q ∈ ps := by
  unfold putK at h
  split at h
  · obtain ⟨p, hp, e⟩ := List.mem_map.mp h
    by_cases c : p.1 = k
    · rw [if_pos c] at e
      left
      rw [← e, c]
    · rw [if_neg c] at e
      right
      rw [← e]
      exact hp
  · rcases List.mem_append.mp h with h | h
    · exact .inr h
    · exact .inl (List.mem_singleton.mp h)
theorem val_mem {κ : Type} [DecidableEq κ] {k : κ} : ∀ {ps : List (κ × V)}, k ∈ ps.map (·.1) → ∃ v, valV ps k = some v ∧ (k, v) ∈ ps
  | [], h => by simp at h
  | p :: r, h => by
    by_cases c : p.1 = k
    · exact ⟨p.2, valV_pos c, by rw [← c]; exact List.mem_cons_self⟩
    · rw [List.map_cons] at h
      rcases List.mem_cons.mp h with e | h
      · exact absurd e.symm c
      · obtain ⟨v, h1, h2⟩ := val_mem h
        exact ⟨v, by rw [valV_neg c]; exact h1, List.mem_cons_of_mem _ h2⟩
/-- the greatest common divisor -/
def spGcd : Sp := fun vs H Q _ => ∃ a b : Int, vs = [.int a, .int b] ∧ Q (.int (Int.gcd a b : Nat)) H
/-- a part in lowest terms, a new pair -/
def spLowest : Sp := fun vs H Q _ => ∃ o u : Int, vs = [.int o, .int u] ∧ 0 < u ∧ u < 2 ^ 8000 ∧ ∀ p, H p = none → Q (.ref p) (upd H p (.tup [.int (lowL o u).1, .int (lowL o u).2]))
theorem gcd_le {o u : Int} (h : 0 < u) : 0 < (Int.gcd o u : Int) ∧ (Int.gcd o u : Int) ≤ u := by
  have h1 : 0 < Int.gcd o u := Int.gcd_pos_of_ne_zero_right _ (by omega)
  have h2 : (Int.gcd o u : Int) ∣ u := Int.gcd_dvd_right ..
  exact ⟨by omega, Int.le_of_dvd h h2⟩
end My
namespace My
open PySem L2
/-! ### texts -/
def num (i : Int) : Str := Str.ofString (toString i)
theorem str_assoc (a b c : Str) : a ++ b ++ c = a ++ (b ++ c) := congrArg Str.mk (Array.append_assoc (xs := a.cps) (ys := b.cps) (zs := c.cps))
theorem str_nil (a : Str) : Str.empty ++ a = a := congrArg Str.mk (Array.empty_append (xs := a.cps))
theorem str_nil_r (a : Str) : a ++ Str.empty = a := congrArg Str.mk (Array.append_empty (xs := a.cps))
theorem str_len (a b : Str) : (a ++ b).length = a.length + b.length := Array.size_append
theorem join_one (s x : Str) : Txt.join s [x] = x := by rw [TL.join_eq]; rfl
theorem join_nil (s : Str) : Txt.join s [] = Str.empty := by rw [TL.join_eq]; rfl
theorem join_cons {s x : Str} {l : List Str} (h : l ≠ []) : Txt.join s (x :: l) = x ++ s ++ Txt.join s l := by
  cases l with
  | nil => exact absurd rfl h
  | cons y r => rw [TL.join_eq, TL.join_eq]; rfl
theorem join_snoc {s x : Str} : ∀ {l : List Str}, l ≠ [] → Txt.join s (l ++ [x]) = Txt.join s l ++ s ++ x
  | [], h => absurd rfl h
  | [y], _ => by rw [List.singleton_append, join_cons (by simp), join_one, join_one]
  | y :: z :: r, _ => by
    have ih := join_snoc (s := s) (x := x) (l := z :: r) (by simp)
    rw [List.cons_append, join_cons (by simp), ih, join_cons (l := z :: r) (by simp)]
    simp only [str_assoc]
theorem join_len (s : Str) : ∀ l : List Str, (Txt.join s l).length ≤ (l.map (·.length)).sum + l.length * s.length
  | [] => by rw [join_nil]; exact Nat.zero_le _
  | [x] => by rw [join_one]; simp
  | x :: y :: r => by
    have ih := join_len s (y :: r)
    rw [join_cons (by simp), str_len, str_len]
    simp only [List.map_cons, List.sum_cons, List.length_cons, Nat.add_mul, Nat.one_mul] at ih ⊢
    omega
theorem sum_le {B : Nat} : ∀ {l : List Str}, (∀ x ∈ l, x.length ≤ B) → (l.map (·.length)).sum ≤ l.length * B
  | [], _ => by simp
  | x :: r, h => by
    have ih := sum_le (l := r) fun y hy => h y (List.mem_cons_of_mem _ hy)
    have h1 := h x (List.mem_cons_self ..)
    simp only [List.map_cons, List.sum_cons, List.length_cons, Nat.add_mul, Nat.one_mul]
    omega
theorem num_len {i : Int} {k : Nat} (hk : 0 < k) (h : i.natAbs.log2 < k) : (num i).length ≤ k + 1 := by
  have e := int_text_length_le hk h
  have e2 : (num i).length = (toString i).length := by
    unfold num
    rw [Str.ofString_eq_toList]
    show ((toString i).toList.map Char.toNat).toArray.size = _
    rw [List.size_toArray, List.length_map]
    rfl
  omega
theorem log_lt {i : Int} {k : Nat} (h0 : i.natAbs < 2 ^ k) (hk : 0 < k) : i.natAbs.log2 < k := by
  by_cases h : i.natAbs = 0
  · rw [h]; exact hk
  · exact (Nat.log2_lt h).mpr h0
end My
namespace L2
open PySem
theorem Dp.tup2 {K : PySem.W.Frag} {H : Hp} {v : V} {d e : PyData} (h : Dp K H v (.tuple [d, e])) : ∃ a x y, v = .ref a ∧ SqT K H a [x, y] ∧ Dp K H x d ∧ Dp K H y e := by
  cases h with
  | tup hs hr =>
    cases hr with
    | cons h1 hr =>
      cases hr with
      | cons h2 hr =>
        cases hr
        exact ⟨_, _, _, rfl, hs, h1, h2⟩
theorem Dp.lst' {K : PySem.W.Frag} {H : Hp} {v : V} {ds : List PyData} (h : Dp K H v (.list ds)) : ∃ a xs, v = .ref a ∧ SqL K H a xs ∧ DpAll K H xs ds := by
  cases h with
  | lst hs hr => exact ⟨_, _, rfl, hs, hr⟩
theorem Dp.int' {K : PySem.W.Frag} {H : Hp} {v : V} {i : Int} (h : Dp K H v (.int i)) : v = .int i := by
  cases h
  rfl
theorem Dp.str' {K : PySem.W.Frag} {H : Hp} {v : V} {x : Str} (h : Dp K H v (.str x)) : v = .str x := by
  cases h
  rfl
end L2
namespace My
open PySem L2
theorem canLay_map {α : Type} {f : α → PyData} : ∀ {l : List α}, (∀ x ∈ l, (f x).canLay0 = true) → PyData.canLayAll0 (l.map f) = true
  | [], _ => rfl
  | x :: r, h => by
    have h1 := h x (List.mem_cons_self ..)
    have h2 := canLay_map (f := f) (l := r) fun y hy => h y (List.mem_cons_of_mem _ hy)
    simp only [List.map_cons, PyData.canLayAll0, h1, h2, Bool.and_self]
theorem depth_map {α : Type} {f : α → PyData} {n : Nat} : ∀ {l : List α}, (∀ x ∈ l, (f x).depth ≤ n) → PyData.depthAll (l.map f) ≤ n
  | [], _ => Nat.zero_le _
  | x :: r, h => by
    have h1 := h x (List.mem_cons_self ..)
    have h2 := depth_map (f := f) (l := r) fun y hy => h y (List.mem_cons_of_mem _ hy)
    simp only [List.map_cons, PyData.depthAll]
    omega
theorem shaped_list {α : Type} {f : α → PyData} {l : List α} (h : ∀ x ∈ l, (f x).canLay0 = true ∧ (f x).depth ≤ 63) : SeqAt.shaped (.list (l.map f)) = true := by
  unfold SeqAt.shaped
  rw [Bool.and_eq_true, decide_eq_true_eq]
  refine ⟨?_, ?_⟩
  · unfold PyData.canLay0
    exact canLay_map fun x hx => (h x hx).1
  · unfold PyData.depth
    have := depth_map (f := f) (n := 63) (l := l) fun x hx => (h x hx).2
    omega
theorem shaped_nil : SeqAt.shaped (.list []) = true := shaped_list (α := Int) (f := PyData.int) (l := []) (by simp)
theorem eqv_nil {α : Type} (f : α → PyData) (l : List α) : PyData.eqv (.list (l.map f)) (.list []) = l.isEmpty := by
  cases l with
  | nil => rfl
  | cons x r => rfl
theorem strOk_of (s : String) : PyData.strOk (Str.ofString s) = true := by
  unfold PyData.strOk
  rw [Str.ofString_eq_toList]
  show ((s.toList.map Char.toNat).toArray).all (fun x => decide (x < 1114112)) = true
  rw [List.all_toArray]
  rw [List.all_eq_true]
  intro c hc
  obtain ⟨ch, _, rfl⟩ := List.mem_map.mp hc
  have h := ch.valid
  have : ch.toNat < 1114112 := by
    rcases h with h | h
    · exact Nat.lt_trans h (by decide)
    · exact h.2
  exact decide_eq_true this
theorem strOk_app {a b : Str} (h1 : PyData.strOk a = true) (h2 : PyData.strOk b = true) : PyData.strOk (a ++ b) = true := by
  unfold PyData.strOk at *
  show (a.cps ++ b.cps).all _ = true
  rw [Array.all_append, h1, h2]
  rfl
theorem same_put {H H1 : Hp} {p : Addr} {o : HO} (a : Same H H1) (h : H p = none) : Same H (upd H1 p o) := fun b x e => by
  rw [upd_ne (ne_of_none e h)]
  exact a b x e
theorem DpAll.at_ {K : PySem.W.Frag} {H : Hp} {α : Type} {f : α → PyData} {us : List V} {l : List α} {i : Nat} {x : V} (h : DpAll K H us (l.map f)) (hx : us[i]? = some x) : ∃ r, l[i]? = some r ∧ Dp K H x (f r) := by
  obtain ⟨d, e, q⟩ := DpAll.get h hx
  rw [List.getElem?_map] at e
  cases hr : l[i]? with
  | none => rw [hr] at e; cases e
  | some r =>
    rw [hr] at e
    exact ⟨r, rfl, by rw [Option.some.inj e]; exact q⟩
theorem take_snoc {α : Type} {l : List α} {i : Nat} {r : α} (h : l[i]? = some r) : l.take (i + 1) = l.take i ++ [r] := by
  rw [List.take_add_one, h]
  rfl
theorem range_getD {α : Type} (l : List α) (d : α) : (List.range l.length).map (fun i => l.getD i d) = l := by
  apply List.ext_getElem?
  intro i
  rw [List.getElem?_map]
  by_cases h : i < l.length
  · rw [List.getElem?_range h, List.getElem?_eq_getElem h]
    show some (l.getD i d) = some l[i]
    rw [List.getD_eq_getElem?_getD, List.getElem?_eq_getElem h]
    rfl
  · rw [List.getElem?_eq_none (by simpa using h), List.getElem?_eq_none (by omega)]
    rfl
theorem getD_of' {α : Type} {l : List α} {d r : α} {i : Nat} (h : l[i]? = some r) : l.getD i d = r := by
  rw [List.getD_eq_getElem?_getD, h]
  rfl
end My
namespace L2
open PySem
theorem Dp.tup' {K : PySem.W.Frag} {H : Hp} {v : V} {ds : List PyData} (h : Dp K H v (.tuple ds)) : ∃ a xs, v = .ref a ∧ SqT K H a xs ∧ DpAll K H xs ds := by
  cases h with
  | tup hs hr => exact ⟨_, _, rfl, hs, hr⟩
theorem DpAll.c {K : PySem.W.Frag} {H : Hp} {vs : List V} {d : PyData} {ds : List PyData} (h : DpAll K H vs (d :: ds)) : ∃ x r, vs = x :: r ∧ Dp K H x d ∧ DpAll K H r ds := by
  cases h with
  | cons a b => exact ⟨_, _, rfl, a, b⟩
theorem DpAll.n {K : PySem.W.Frag} {H : Hp} {vs : List V} (h : DpAll K H vs []) : vs = [] := by
  cases h
  rfl
end L2
namespace My
open PySem L2
theorem inV_strs (x : Str) (l : List Str) : inV (.str x) (l.map V.str) = decide (x ∈ l) := by
  induction l with
  | nil => rfl
  | cons y r ih =>
    rw [List.map_cons]
    show (eqV (.str y) (.str x) || inV (.str x) (r.map V.str)) = _
    rw [ih]
    have e : eqV (.str y) (.str x) = decide (y = x) := by
      unfold eqV
      by_cases h : y = x
      · simp [h]
      · simp [h]
    rw [e]
    by_cases h : x = y
    · subst h
      simp
    · have h2 : ¬ y = x := fun q => h q.symm
      simp [h, h2]
theorem flat_strs (l : List Str) : (l.map V.str).all flatV = true := by
  rw [List.all_map, List.all_eq_true]
  intro x _
  rfl
end My
namespace My
open PySem PySem.Spec PySem.W PyProof.Rows L2
/-! ### dicts whose keys are tuples of tuples: the object itself is pinned, the keys stand as tuples -/
mutual
inductive NK (H : Hp) : NestedKey → V → Prop
  | int (i : Int) : NK H (.num i) (.int i)
  | str (x : Str) : NK H (.text x) (.str x)
  | tup {a : Addr} {ks : List NestedKey} {vs : List V} : Rd H a (.tup vs) → NKs H ks vs → NK H (.tup ks) (.ref a)
inductive NKs (H : Hp) : List NestedKey → List V → Prop
  | nil : NKs H [] []
  | cons {k : NestedKey} {v : V} {ks : List NestedKey} {vs : List V} : NK H k v → NKs H ks vs → NKs H (k :: ks) (v :: vs)
end
section
variable {P : Program} {w : World} {H H' : Hp} {h : Heap}
mutual
theorem NK.mono (t : ∀ b xs, Rd H b (.tup xs) → Rd H' b (.tup xs)) : ∀ (k : NestedKey) (v : V), NK H k v → NK H' k v
  | .num _, _, .int i => .int i
  | .text _, _, .str x => .str x
  | .tup ks, _, .tup ha hs => .tup (t _ _ ha) (NKs.mono t ks _ hs)
theorem NKs.mono (t : ∀ b xs, Rd H b (.tup xs) → Rd H' b (.tup xs)) : ∀ (ks : List NestedKey) (vs : List V), NKs H ks vs → NKs H' ks vs
  | [], _, .nil => .nil
  | k :: ks, _, .cons a b => .cons (NK.mono t k _ a) (NKs.mono t ks _ b)
end
mutual
theorem NK.nested (ok : HOk P w H h) : ∀ (k : NestedKey) (v : V) (u : Value), NK H k v → RelV v u → NestedIs h k u
  | .num _, _, u, .int i, r => by
    obtain ⟨t, rfl⟩ := r
    exact .int i t
  | .text _, _, u, .str x, r => by
    obtain ⟨t, rfl⟩ := r
    exact .text x t
  | .tup ks, _, u, .tup (a := a) (vs := vs) ha hs, r => by
    cases (show u = Value.ref a from r)
    obtain ⟨_, its, rv, o, h1, h2, n, h3⟩ := (show ObjOk P w H h a (.tup vs) from by
      rcases ha with ha | ⟨o, ha⟩
      · exact ok a _ ha
      · exact (show ObjOk P w H h a (.frz o (.tup vs)) from ok a _ ha).2)
    exact .tup h1 h2 h3 (by simpa using NKs.nested ok ks vs its hs rv)
theorem NKs.nested (ok : HOk P w H h) : ∀ (ks : List NestedKey) (vs : List V) (us : List Value), NKs H ks vs → Vals vs us → NestedAll h ks us
  | [], _, us, .nil, r => by
    cases r
    exact .nil
  | k :: ks, _, us, .cons a b, r => by
    cases r with
    | cons r1 r2 => exact .cons (NK.nested ok k _ _ a r1) (NKs.nested ok ks _ _ b r2)
end
end
/-- a tuple that has no dict of its own -/
def PlainK (H : Hp) (a : Addr) : Prop := ∃ (o : Obj) (xs : List V), H a = some (.frz o (.tup xs)) ∧ o.dict = none
/-- the heap's word on such a dict -/
structure ND (P : Program) (w : World) (H : Hp) (d : Addr) (kvs : List (NestedKey × Addr × V)) : Prop where
  ex : ∃ (o : Obj) (es : Array DictEntry) (ep : Nat) (xs : List (NestedKey × Addr × Value)), H d = some (.ext fun h => h.get? d = some o) ∧ (d == sysModules) = false ∧ o.ExactDict ∧ o.data = .dict es ep ∧ es.toList = xs.map (entryOfKey (nestedKind P w)) ∧ (xs.map (·.1)).Nodup ∧
    Paired (fun (p : NestedKey × Addr × V) (q : NestedKey × Addr × Value) => p.1 = q.1 ∧ p.2.1 = q.2.1 ∧ RelV p.2.2 q.2.2) kvs xs
  keys : ∀ p ∈ kvs, NK H p.1 (.ref p.2.1) ∧ p.1.depth ≤ 8
  plain : ∀ p ∈ kvs, PlainK H p.2.1
  len : kvs.length ≤ 1000
section
variable {P : Program} {w : World} {H H' : Hp} {h : Heap} {d : Addr} {kvs : List (NestedKey × Addr × V)}
/-- all but lists stays -/
def KeepL (H H' : Hp) : Prop := ∀ b o, H b = some o → (∀ xs, o ≠ .lst xs) → H' b = some o
theorem Same.keepL (s : Same H H') : KeepL H H' := fun b o e _ => s b o e
theorem KeepL.trans {H'' : Hp} (a : KeepL H H') (b : KeepL H' H'') : KeepL H H'' := fun c o e n => b c o (a c o e n) n
theorem KeepL.put {L : Addr} {xs ys : List V} (e : H L = some (.lst xs)) : KeepL H (upd H L (.lst ys)) := fun b o eb n => by
  rw [upd_ne (fun z => by rw [z, e] at eb; exact n _ (Option.some.inj eb).symm)]
  exact eb
theorem rd_keepL {b : Addr} {xs : List V} (s : KeepL H H') (e : Rd H b (.tup xs)) : Rd H' b (.tup xs) := by
  rcases e with e | ⟨o, e⟩
  · exact .inl (s _ _ e (fun _ => nofun))
  · exact .inr ⟨o, s _ _ e (fun _ => nofun)⟩
theorem PlainK.keep {a : Addr} (x : PlainK H a) (s : KeepL H H') : PlainK H' a := by
  obtain ⟨o, xs, e, q⟩ := x
  exact ⟨o, xs, s _ _ e (fun _ => nofun), q⟩
theorem ND.keep (x : ND P w H d kvs) (s : KeepL H H') : ND P w H' d kvs := by
  obtain ⟨o, es, ep, xs, e1, r⟩ := x.ex
  exact ⟨⟨o, es, ep, xs, s _ _ e1 (fun _ => nofun), r⟩, fun p hp => ⟨NK.mono (fun b xs e => rd_keepL s e) _ _ (x.keys p hp).1, (x.keys p hp).2⟩, fun p hp => (x.plain p hp).keep s, x.len⟩
theorem ND.mono (x : ND P w H d kvs) (s : Same H H') : ND P w H' d kvs := x.keep (Same.keepL s)
theorem ND.ofH {xs : List (NestedKey × Addr × Value)} (ok : HOk P w H h) (keys : ∀ p ∈ kvs, NK H p.1 (.ref p.2.1) ∧ p.1.depth ≤ 8)
    (pr : Paired (fun (p : NestedKey × Addr × V) (q : NestedKey × Addr × Value) => p.1 = q.1 ∧ p.2.1 = q.2.1 ∧ RelV p.2.2 q.2.2) kvs xs) : ∀ x ∈ xs, (nestedKind P w).is h x.1 x.2.1 := by
  induction pr with
  | nil => intro x hx; cases hx
  | @cons p q ps qs r t ih =>
    intro x hx
    rcases List.mem_cons.mp hx with rfl | hx
    · have := keys p (List.mem_cons_self ..)
      rw [r.1, r.2.1] at this
      exact ⟨NK.nested ok _ _ _ this.1 rfl, this.2⟩
    · exact ih (fun p hp => keys p (List.mem_cons_of_mem _ hp)) x hx
theorem ND.dict (x : ND P w H d kvs) (ok : HOk P w H h) : ∃ xs : List (NestedKey × Addr × Value), h.DictOfH (nestedKind P w) d xs ∧ (d == sysModules) = false ∧
    Paired (fun (p : NestedKey × Addr × V) (q : NestedKey × Addr × Value) => p.1 = q.1 ∧ p.2.1 = q.2.1 ∧ RelV p.2.2 q.2.2) kvs xs := by
  obtain ⟨o, es, ep, xs, e1, e2, e3, e4, e5, e6, e7⟩ := x.ex
  obtain ⟨φ, _, _⟩ := (show ObjOk P w H h d (.ext fun h => h.get? d = some o) from ok d _ e1)
  exact ⟨xs, ⟨o, es, ep, φ, e3, e4, e5, ND.ofH ok x.keys e7, e6⟩, e2, e7⟩
end
/-- the value at a key -/
def atN (kvs : List (NestedKey × Addr × V)) (k : NestedKey) : Option V := (kvs.find? fun x => decide (x.1 = k)).map (·.2.2)
/-- in its place, or at the end -/
def putN (kvs : List (NestedKey × Addr × V)) (k : NestedKey) (a : Addr) (v : V) : List (NestedKey × Addr × V) :=
  if (atN kvs k).isSome then kvs.map (fun x => if x.1 = k then (x.1, x.2.1, v) else x) else kvs ++ [(k, a, v)]
section
abbrev NRel (p : NestedKey × Addr × V) (q : NestedKey × Addr × Value) : Prop := p.1 = q.1 ∧ p.2.1 = q.2.1 ∧ RelV p.2.2 q.2.2
theorem nrel_at {k : NestedKey} : ∀ {kvs : List (NestedKey × Addr × V)} {xs : List (NestedKey × Addr × Value)}, Paired NRel kvs xs →
    (atN kvs k = none ∧ atKey xs k = none) ∨ ∃ v p, atN kvs k = some v ∧ atKey xs k = some p ∧ RelV v p.2
  | _, _, .nil => .inl ⟨rfl, rfl⟩
  | _, _, .cons (a := p) (b := q) (l₁ := ps) (l₂ := qs) r t => by
    have ih := nrel_at (k := k) t
    by_cases h : p.1 = k
    · refine .inr ⟨p.2.2, q.2, ?_, ?_, r.2.2⟩
      · unfold atN
        rw [List.find?_cons_of_pos (by simp [h])]
        rfl
      · unfold atKey
        rw [List.find?_cons_of_pos (by simp [← r.1, h])]
        rfl
    · have e1 : atN (p :: ps) k = atN ps k := by
        unfold atN
        rw [List.find?_cons_of_neg (by simp [h])]
      have e2 : atKey (q :: qs) k = atKey qs k := by
        unfold atKey
        rw [List.find?_cons_of_neg (by simp [← r.1, h])]
      rw [e1, e2]
      exact ih
theorem nrel_map {k : NestedKey} {v : V} {u : Value} (r : RelV v u) : ∀ {kvs : List (NestedKey × Addr × V)} {xs : List (NestedKey × Addr × Value)}, Paired NRel kvs xs →
    Paired NRel (kvs.map fun x => if x.1 = k then (x.1, x.2.1, v) else x) (xs.map (putAt k u))
  | _, _, .nil => .nil
  | _, _, .cons (a := p) (b := q) (l₁ := ps) (l₂ := qs) r1 t => by
    refine .cons ?_ (nrel_map r t)
    show NRel (if p.1 = k then (p.1, p.2.1, v) else p) (putAt k u q)
    unfold putAt
    by_cases h : p.1 = k
    · rw [if_pos h, if_pos (by rw [← r1.1]; exact h)]
      exact ⟨r1.1, r1.2.1, r⟩
    · rw [if_neg h, if_neg (by rw [← r1.1]; exact h)]
      exact r1
theorem nrel_app : ∀ {kvs ls : List (NestedKey × Addr × V)} {xs ys : List (NestedKey × Addr × Value)}, Paired NRel kvs xs → Paired NRel ls ys → Paired NRel (kvs ++ ls) (xs ++ ys)
  | _, _, _, _, .nil, h => h
  | _, _, _, _, .cons r t, h => .cons r (nrel_app t h)
theorem nrel_put {k : NestedKey} {a : Addr} {v : V} {u : Value} {kvs : List (NestedKey × Addr × V)} {xs : List (NestedKey × Addr × Value)} (h : Paired NRel kvs xs) (r : RelV v u) : Paired NRel (putN kvs k a v) (storedH xs k a u) := by
  unfold putN storedH
  rcases nrel_at (k := k) h with ⟨e1, e2⟩ | ⟨v', p, e1, e2, _⟩
  · rw [e1, e2]
    exact nrel_app h (.cons ⟨rfl, rfl, r⟩ .nil)
  · rw [e1, e2]
    exact nrel_map r h
theorem putN_mem {k : NestedKey} {a : Addr} {v : V} {kvs : List (NestedKey × Addr × V)} {p : NestedKey × Addr × V} (h : p ∈ putN kvs k a v) : (∃ q ∈ kvs, q.1 = p.1 ∧ q.2.1 = p.2.1) ∨ (p.1 = k ∧ p.2.1 = a) := by
  unfold putN at h
  split at h
  · obtain ⟨q, hq, e⟩ := List.mem_map.mp h
    refine .inl ⟨q, hq, ?_⟩
    by_cases c : q.1 = k
    · rw [if_pos c] at e
      rw [← e]
      exact ⟨rfl, rfl⟩
    · rw [if_neg c] at e
      rw [← e]
      exact ⟨rfl, rfl⟩
  · rcases List.mem_append.mp h with h | h
    · exact .inl ⟨p, h, rfl, rfl⟩
    · rw [List.mem_singleton.mp h]
      exact .inr ⟨rfl, rfl⟩
theorem putN_len {k : NestedKey} {a : Addr} {v : V} {kvs : List (NestedKey × Addr × V)} : (putN kvs k a v).length ≤ kvs.length + 1 := by
  unfold putN
  split
  · rw [List.length_map]
    omega
  · simp
end
section
variable {X : Cx} {pos pos' : Pos} {o i value e tg : Expr} {td ty tv : TE}
theorem room8 {A : Around} (hu : A.units + 64 < cLine) : (nestedKind X.prog X.w).room A.in1 := by
  show A.units + 1 + 8 < cLine
  omega
theorem room8' {A : Around} (hu : A.units + 64 < cLine) : (nestedKind X.prog X.w).room A := by
  show A.units + 8 < cLine
  omega
/-- tuple(l): the new tuple has no dict of its own -/
theorem call_tuple_ofZ : CallR X (.type "tuple") (fun xs H Q => ∃ p ys, xs = [.ref p] ∧ SqL X.K H p ys ∧ ∀ l o, H l = none → o.dict = none → Q (.ref l) (upd H l (.frz o (.tup ys)))) := by
  intro pins s σ H xs us Q I r h
  obtain ⟨p, ys, rfl, hq, q⟩ := h
  obtain ⟨u, rfl, rx⟩ := vals1 r
  cases rx
  obtain ⟨its, r', pl, hz⟩ := I.list hq
  have hlen := r'.length
  refine call_tuple_list pl.isList (fun h' kp => ?_) (by simp only [List.size_toArray] <;> omega)
  have I1 : Inv X pins σ H { s with heap := h' } := I.kept (t' := s.toks) kp
  have I2 : Inv X pins σ (upd H h'.objs.size (.frz { cls := .type "tuple", data := .seq its.toArray } (.tup ys))) { s with heap := h'.push { cls := .type "tuple", data := .seq its.toArray } } :=
    I1.laid (t' := s.toks) (fun b o e => Heap.get?_push_of_some _ e) (Nat.le_refl _) (show ObjOk X.prog X.w _ _ _ (.frz _ (.tup ys)) from ⟨Heap.get?_push_size _ rfl, hz, its, r', IsTup.new _ _⟩)
  exact ⟨.ref h'.objs.size, _, I2, rfl, q _ _ (I1.hok.fresh (Nat.le_refl _)) rfl⟩
/-- {} -/
def tDNewN (P : Program) (w : World) : TE := fun _ H Q => ∀ (p : Addr) (φ : Heap → Prop), H p = none → ND P w (upd H p (.ext φ)) p [] → Q (.ref p) (upd H p (.ext φ))
theorem pe_dnewN : PE X (.Dict [] [] pos) (tDNewN X.prog X.w) := ⟨fun pins s σ H Q I h => by
  have big := I.big
  have hf := I.hok.fresh (Nat.le_refl s.heap.objs.size)
  refine wpAny_Dict_empty ⟨.ref s.heap.objs.size, _, I.laid (a := s.heap.objs.size) (o := .ext fun h => h.get? s.heap.objs.size = some { cls := .type "dict", data := .dict #[] }) (t' := s.toks) (fun _ _ q => Heap.get?_push_of_some _ q) (Nat.le_refl _) ?_, rfl, h _ _ hf ?_⟩
  · exact ⟨Heap.get?_push_size _ rfl, ⟨_, Heap.get?_push_size _ rfl⟩, fun h1 h2 e k => k _ e⟩
  · obtain ⟨o, es, ep, e1, e2, e3, e4, e5, e6⟩ := Heap.DictOfH.new (knd := nestedKind X.prog X.w) s.heap
    have eo : o = { cls := .type "dict", data := .dict #[] } := Option.some.inj (e1.symm.trans (Heap.get?_push_size _ rfl))
    refine ⟨⟨_, es, ep, [], upd_same, ?_, ?_, ?_, e4, e6, .nil⟩, (fun _ h => nomatch h), (fun _ h => nomatch h), Nat.zero_le _⟩
    · exact beq_false_of_ne (fun e => by
      rw [← e] at big
      exact Nat.lt_irrefl _ big)
    · rw [← eo]
      exact e2
    · rw [← eo]
      exact e3⟩
/-- d[k] -/
def tNGet (P : Program) (w : World) (td ty : TE) : TE := fun σ H Q => td σ H fun x H1 => ty σ H1 fun y H2 => ∃ (d a : Addr) (kvs : List (NestedKey × Addr × V)) (k : NestedKey) (v : V), x = .ref d ∧ y = .ref a ∧ ND P w H2 d kvs ∧ NK H2 k (.ref a) ∧ k.depth ≤ 8 ∧ atN kvs k = some v ∧ Q v H2
theorem pe_nget (hu : X.A.units + 64 < cLine) (ho : PE X o td) (hi : PE X i ty) (hs : NoSl i) : PE X (.Subscript o i pos) (tNGet X.prog X.w td ty) := by
  refine ⟨fun pins s σ H Q I h => ?_⟩
  refine subD_of PySem.F.slot_dict_getitem.lookup hs (thn (ho.run pins s σ H _ I h) fun u s1 ⟨x, H1, I1, rx, q1⟩ => thn (hi.run pins s1 σ H1 _ I1 q1) fun iv s2 ⟨y, H2, I2, ry, d, a, kvs, k, v, ex, ey, nd, nk, hk, hv, q2⟩ => ?_)
  subst ex ey
  obtain rfl : u = Value.ref d := rx
  obtain rfl : iv = Value.ref a := ry
  obtain ⟨xs, dd, hd, pr⟩ := nd.dict I2.hok
  refine ⟨dd.typeIs, ?_⟩
  rcases nrel_at (k := k) pr with ⟨e1, _⟩ | ⟨v', p, e1, e2, rv⟩
  · rw [hv] at e1
    cases e1
  · rw [hv] at e1
    cases e1
    exact wpAny_getItem_heap (room8 (X := X) hu) ⟨NK.nested I2.hok _ _ _ nk rfl, hk⟩ dd e2 ⟨v, H2, I2.tok _, rv, q2⟩
/-- d[k] = v -/
def sNPut (P : Program) (w : World) (td ty tv : TE) : L2.TS := fun D σ H => tv σ H fun v H1 => td σ H1 fun x H2 => ty σ H2 fun y H3 => ∃ (d a : Addr) (kvs : List (NestedKey × Addr × V)) (k : NestedKey), x = .ref d ∧ y = .ref a ∧ ND P w H3 d kvs ∧ NK H3 k (.ref a) ∧ k.depth ≤ 8 ∧ PlainK H3 a ∧ kvs.length < 1000 ∧
  ∀ φ : Heap → Prop, ND P w (upd H3 d (.ext φ)) d (putN kvs k a v) → D.nx σ (upd H3 d (.ext φ))
theorem ps_nput (hu : X.A.units + 64 < cLine) (ho : PE X o td) (hi : PE X i ty) (hv : PE X value tv) (hs : swapsWith value (some (.Subscript o i pos')) pos.line X.env = pure false) :
    L2.PS X (.Assign [.Subscript o i pos'] value pos) (sNPut X.prog X.w td ty tv) := by
  refine ⟨fun pins s σ H D I h => ?_⟩
  refine wpAny_Assign_Subscript (thn (hv.run pins s σ H _ I h) fun r s1 ⟨v, H1, I1, rv, q1⟩ => thn (ho.run pins s1 σ H1 _ I1 q1) fun u s2 ⟨x, H2, I2, rx, q2⟩ => thn (hi.run pins s2 σ H2 _ I2 q2) fun iv s3 ⟨y, H3, I3, ry, d, a, kvs, k, ex, ey, nd, nk, hk, hpk, hl, q3⟩ => ?_) hs
  subst ex ey
  obtain rfl : u = Value.ref d := rx
  obtain rfl : iv = Value.ref a := ry
  obtain ⟨xs, dd, hd, pr⟩ := nd.dict I3.hok
  have lx : xs.length = kvs.length := (Paired.length pr).symm
  refine wpAny_setItem_heap (hsz := by rw [lx]; exact Nat.le_trans nd.len (by decide)) (room8 (X := X) hu) ⟨NK.nested I3.hok _ _ _ nk rfl, hk⟩ dd fun h' dd' hs' => ?_
  obtain ⟨ob, es, ep, xs0, ed, _⟩ := nd.ex
  obtain ⟨o2, es2, ep2, f1, f2, f3, f4, f5, f6⟩ := id dd'
  have tup : ∀ b ys, Rd H3 b (.tup ys) → Rd (upd H3 d (.ext fun h => h.get? d = some o2)) b (.tup ys) := fun b ys e => by
    rcases e with e | ⟨o, e⟩
    · refine .inl ?_
      rw [upd_ne (fun z => by rw [z, ed] at e; cases e)]
      exact e
    · refine .inr ⟨o, ?_⟩
      rw [upd_ne (fun z => by rw [z, ed] at e; cases e)]
      exact e
  have plk : ∀ b, PlainK H3 b → PlainK (upd H3 d (.ext fun h => h.get? d = some o2)) b := fun b ⟨o, ys, e, q⟩ => by
    refine ⟨o, ys, ?_, q⟩
    rw [upd_ne (fun z => by rw [z, ed] at e; cases e)]
    exact e
  refine ⟨σ, upd H3 d (.ext fun h => h.get? d = some o2), d_write I3 (by rw [ed]; exact True.intro) hs' ⟨o2, f1⟩ ⟨f1, ⟨o2, f1⟩, fun h1 h2 e k => k _ e⟩, q3 _ ?_⟩
  refine ⟨⟨o2, es2, ep2, _, upd_same, hd, f2, f3, f4, f6, nrel_put pr rv⟩, fun p hp => ?_, fun p hp => ?_, ?_⟩
  · rcases putN_mem hp with ⟨q, hq, e1, e2⟩ | ⟨e1, e2⟩
    · have := nd.keys q hq
      rw [e1, e2] at this
      exact ⟨NK.mono tup _ _ this.1, this.2⟩
    · rw [e1, e2]
      exact ⟨NK.mono tup _ _ nk, hk⟩
  · rcases putN_mem hp with ⟨q, hq, _, e2⟩ | ⟨_, e2⟩
    · rw [← e2]
      exact plk _ (nd.plain q hq)
    · rw [e2]
      exact plk _ hpk
  · have := putN_len (k := k) (a := a) (v := v) (kvs := kvs)
    omega
end
end My
namespace My
open PySem PySem.Spec PySem.W PyProof.Rows L2
/-! ### for k in d -/
def Itn (d : Addr) (φ : Heap → Prop) (kvs : List (NestedKey × Addr × V)) : It :=
  ⟨fun i H => H d = some (.ext φ) ∧ i < kvs.length, fun i H v H' => H' = H ∧ ∃ (k : NestedKey) (a : Addr) (x : V), kvs[i]? = some (k, a, x) ∧ v = .ref a, fun i H => H d = some (.ext φ) ∧ kvs.length ≤ i⟩
theorem walk_nd {d : Addr} {φ : Heap → Prop} {kvs : List (NestedKey × Addr × V)} : Walk (Itn d φ kvs) kvs.length (fun H => H d = some (.ext φ)) (fun i H x H' => H' = H ∧ ∃ (k : NestedKey) (a : Addr) (v : V), kvs[i]? = some (k, a, v) ∧ x = .ref a) :=
  ⟨fun _ _ hi q => ⟨q, hi⟩, fun _ q => ⟨q, Nat.le_refl _⟩, fun _ _ _ _ _ _ y => y⟩
theorem turn_nd {P : Program} {w : World} {K : PySem.W.Frag} {tg : Expr} {d : Addr} {o : Obj} {es : Array DictEntry} {ep : Nat} {kvs : List (NestedKey × Addr × V)} (it : Addr) (hod : o.data = .dict es ep) (hx : o.ExactDict) (hsz : es.size = kvs.length)
    (hk : ∀ (j : Nat) (h : j < es.size), ∃ (k : NestedKey) (a : Addr) (x : V), kvs[j]? = some (k, a, x) ∧ es[j].key = .ref a) :
    Turn P w K tg (Itn d (fun h => h.get? d = some o) kvs) [it] it (fun i h => h.IsKeyIter it d i es.size ep) where
  mem := by simp
  obj := fun i h st b hb => by
    have e : b = it := by simpa using hb
    subst e
    obtain ⟨oi, e, c, dd⟩ := st
    exact ⟨oi, e, fun v z => by rw [dd] at z; cases z⟩
  keep := fun i h h' st k => st.at fun oi e => k it (by simp) oi e
  item := by
    intro X hP hw hK hc i pins s σ H E I hf st hg
    subst hP hw hK
    obtain ⟨hd, hi⟩ := hg
    obtain ⟨f0, f1, f2, f3, f4, f5⟩ := hf it (by simp)
    obtain ⟨φ, _, _⟩ := (show ObjOk X.prog X.w H s.heap d (.ext fun h => h.get? d = some o) from I.hok d _ hd)
    have hlt : i < es.size := by omega
    obtain ⟨k, a, x, hkv, hkey⟩ := hk i hlt
    refine wpAny_pyNext_keys_item_raw st ⟨o, φ, hx, hod⟩ hlt fun h' st' sb => ?_
    have I1 : Inv X pins σ H { s with heap := h' } := I.turned (t' := s.toks) (fun b ob hb e => (sb.2 b hb).trans e) f0 f1 f3 f4 f5
    obtain ⟨oi, e, c, dd⟩ := id st'
    exact ⟨es[i].key, rfl, go_of (s := { s with heap := h' }) e c dd (by decide) ⟨.ref a, H, I1, hkey, ⟨rfl, k, a, x, hkv, rfl⟩, st', fun b hb => (hf b hb).1⟩⟩
  done := by
    intro X hP hw hK hc i pins s σ H E I hf st hg
    subst hP hw hK
    obtain ⟨hd, hi⟩ := hg
    obtain ⟨f0, f1, f2, f3, f4, f5⟩ := hf it (by simp)
    obtain ⟨φ, _, _⟩ := (show ObjOk X.prog X.w H s.heap d (.ext fun h => h.get? d = some o) from I.hok d _ hd)
    exact wpAny_pyNext_keys_end_raw (I.ok.hd hc) st ⟨o, φ, hx, hod⟩ (by omega) fun h' eb => ⟨rfl, I.turned (t' := s.toks) (fun b ob hb e => eb b ob hb e) f0 f1 f3 f4 f5⟩
  self := fun A i s Q E st h => wpAny_pyIter_keyiter st h
def iN (P : Program) (w : World) (td : TE) : TI := fun σ H R => td σ H fun v H1 => ∃ (d : Addr) (kvs : List (NestedKey × Addr × V)), v = .ref d ∧ ND P w H1 d kvs ∧ ∀ φ : Heap → Prop, H1 d = some (.ext φ) → R (Itn d φ kvs) H1
theorem nrel_get : ∀ {kvs : List (NestedKey × Addr × V)} {xs : List (NestedKey × Addr × Value)} {j : Nat} {q : NestedKey × Addr × Value}, Paired NRel kvs xs → xs[j]? = some q → ∃ k x, kvs[j]? = some (k, q.2.1, x)
  | _, _, _, _, .nil, h => by simp at h
  | _, _, 0, q, .cons (a := p) (b := q') r t, h => by
    have e : q' = q := by simpa using h
    subst e
    exact ⟨p.1, p.2.2, by rw [← r.2.1]; rfl⟩
  | _, _, j + 1, q, .cons r t, h => by
    obtain ⟨k, x, e⟩ := nrel_get (j := j) t (by simpa using h)
    exact ⟨k, x, by simpa using e⟩
theorem pi_nd {X : Cx} {tg l : Expr} {td : TE} (hl : PE X l td) : PI X tg l (iN X.prog X.w td) := by
  refine ⟨fun pins s σ H R I h => ?_⟩
  refine thn (hl.run pins s σ H _ I h) fun v s1 ⟨x, H1, I1, r1, d, kvs, e, nd, q⟩ => ?_
  subst e
  obtain rfl : v = Value.ref d := r1
  obtain ⟨o, es, ep, xs, e1, e2, e3, e4, e5, e6, e7⟩ := nd.ex
  obtain ⟨φ, _, _⟩ := (show ObjOk X.prog X.w H1 s1.heap d (.ext fun h => h.get? d = some o) from I1.hok d _ e1)
  have sz : es.size = kvs.length := by
    have h1 : es.toList.length = xs.length := by rw [e5, List.length_map]
    have h2 : kvs.length = xs.length := Paired.length e7
    rw [Array.length_toList] at h1
    omega
  refine wpAny_pyIter_dict_raw e2 ⟨o, φ, e3, e4⟩ ?_
  refine ⟨s1.heap.objs.size, [s1.heap.objs.size], _, _, H1, rfl, I1.kept (t' := s1.toks) fun b o e => Heap.get?_push_of_some _ e, turn_nd _ e4 e3 sz ?_, ⟨_, Heap.get?_push_size _ rfl, rfl, rfl⟩, fun b hb => ?_, q _ e1⟩
  · intro j hj
    have h1 : es.toList[j]? = some es[j] := by rw [Array.getElem?_toList, Array.getElem?_eq_getElem hj]
    rw [e5, List.getElem?_map] at h1
    cases hx : xs[j]? with
    | none => rw [hx] at h1; cases h1
    | some q =>
      rw [hx] at h1
      obtain ⟨k, x, e⟩ := nrel_get e7 hx
      refine ⟨k, q.2.1, x, e, ?_⟩
      rw [← Option.some.inj h1]
      rfl
  · have e : b = s1.heap.objs.size := by simpa using hb
    subst e
    exact I1.fpOk (Nat.le_refl _) (I1.hok.fresh (Nat.le_refl _))
end My
namespace My
open PySem PySem.Spec PySem.W L2
/-! ### polys in memory -/
def keyL (k : Int × Int) : List NestedKey := (if 0 < k.2 then [.tup [.text "#", .num k.2]] else []) ++ (if 0 < k.1 then [.tup [.text "n", .num k.1]] else [])
def keyN (k : Int × Int) : NestedKey := .tup (keyL k)
theorem keyN_depth (k : Int × Int) : (keyN k).depth ≤ 8 := by
  unfold keyN keyL
  split <;> split <;> simp [NestedKey.depth, NestedKey.depthAll]
theorem hash_n : (Str.ofString "#") ≠ Str.ofString "n" := by decide
theorem keyN_inj {a b : Int × Int} (h1 : 0 ≤ a.1) (h2 : 0 ≤ a.2) (h3 : 0 ≤ b.1) (h4 : 0 ≤ b.2) (e : keyN a = keyN b) : a = b := by
  have e := NestedKey.tup.inj e
  unfold keyL at e
  have ne := hash_n
  have ne' : (Str.ofString "n") ≠ Str.ofString "#" := fun z => ne z.symm
  obtain ⟨p, f⟩ := a
  obtain ⟨p', f'⟩ := b
  simp only at h1 h2 h3 h4 e
  by_cases c1 : 0 < f <;> by_cases c2 : 0 < p <;> by_cases c3 : 0 < f' <;> by_cases c4 : 0 < p' <;> simp [c1, c2, c3, c4, ne, ne'] at e
  all_goals first
    | (obtain ⟨e1, e2⟩ := e; rw [e1, e2])
    | (have : f = f' := by omega
       have : p = p' := by omega
       subst_vars
       rfl)
abbrev PRel (H : Hp) (kv : NestedKey × Addr × V) (t : Trm) : Prop := kv.1 = keyN t.1 ∧ ∃ pt, kv.2.2 = V.ref pt ∧ H pt = some (.tup [.int t.2.1, .int t.2.2])
def PolyAt (P : Program) (w : World) (H : Hp) (d : Addr) (ts : List Trm) : Prop := ∃ kvs : List (NestedKey × Addr × V), ND P w H d kvs ∧ Paired (PRel H) kvs ts
theorem PolyAt.keep {P : Program} {w : World} {H H' : Hp} {d : Addr} {ts : List Trm} (h : PolyAt P w H d ts) (s : KeepL H H') : PolyAt P w H' d ts := by
  obtain ⟨kvs, nd, pr⟩ := h
  exact ⟨kvs, nd.keep s, L2.Paired.mapP pr fun a b ⟨e, pt, e1, e2⟩ => ⟨e, pt, e1, s _ _ e2 (fun _ => nofun)⟩⟩
theorem PolyAt.mono {P : Program} {w : World} {H H' : Hp} {d : Addr} {ts : List Trm} (h : PolyAt P w H d ts) (s : Same H H') : PolyAt P w H' d ts := h.keep (Same.keepL s)
def RowAt (P : Program) (w : World) (H : Hp) (v : V) (r : Rw) : Prop := ∃ a d, v = .ref a ∧ H a = some (.tup [.int r.1, .ref d]) ∧ PolyAt P w H d r.2
theorem RowAt.keep {P : Program} {w : World} {H H' : Hp} {v : V} {r : Rw} (h : RowAt P w H v r) (s : KeepL H H') : RowAt P w H' v r := by
  obtain ⟨a, d, e, e1, e2⟩ := h
  exact ⟨a, d, e, s _ _ e1 (fun _ => nofun), e2.keep s⟩
def RowsAt (P : Program) (w : World) (H : Hp) (us : List V) (S : List Rw) : Prop := Paired (RowAt P w H) us S
theorem RowsAt.keep {P : Program} {w : World} {H H' : Hp} {us : List V} {S : List Rw} (h : RowsAt P w H us S) (s : KeepL H H') : RowsAt P w H' us S := L2.Paired.mapP h fun _ _ q => q.keep s
theorem RowsAt.mono {P : Program} {w : World} {H H' : Hp} {us : List V} {S : List Rw} (h : RowsAt P w H us S) (s : Same H H') : RowsAt P w H' us S := h.keep (Same.keepL s)
theorem paired_snoc {α β : Type} {F : α → β → Prop} {a : α} {b : β} : ∀ {l : List α} {m : List β}, Paired F l m → F a b → Paired F (l ++ [a]) (m ++ [b])
  | _, _, .nil, h => .cons h .nil
  | _, _, .cons r t, h => .cons r (paired_snoc t h)
theorem atN_none {H : Hp} {k : Int × Int} (hk : 0 ≤ k.1 ∧ 0 ≤ k.2) : ∀ {kvs : List (NestedKey × Addr × V)} {ts : List Trm}, Paired (PRel H) kvs ts → (∀ t ∈ ts, 0 ≤ t.1.1 ∧ 0 ≤ t.1.2) → k ∉ ts.map (·.1) → atN kvs (keyN k) = none
  | _, _, .nil, _, _ => rfl
  | _, _, .cons (a := kv) (b := t) (l₁ := kvs) (l₂ := ts) r q, hp, hn => by
    have h1 := hp t (List.mem_cons_self ..)
    have ne : ¬ kv.1 = keyN k := fun e => by
      rw [r.1] at e
      have := keyN_inj h1.1 h1.2 hk.1 hk.2 e
      exact hn (by rw [← this]; exact List.mem_cons_self ..)
    have ih := atN_none hk q (fun t ht => hp t (List.mem_cons_of_mem _ ht)) (fun h => hn (List.mem_cons_of_mem _ h))
    unfold atN at ih ⊢
    rw [List.find?_cons_of_neg (by simp [ne])]
    exact ih
end My
namespace My
open PySem L2
/-! ### parts: products, sums, worths -/
theorem lowL_le {o u : Int} (h0 : 0 < u) : (lowL o u).1.natAbs ≤ o.natAbs ∧ 0 < (lowL o u).2 ∧ (lowL o u).2 ≤ u := by
  by_cases ho : o = 0
  · subst ho
    have hg : (Int.gcd 0 u : Int) = u := by
      rw [Int.gcd_zero_left]
      omega
    unfold lowL
    rw [hg, Int.zero_ediv, Int.ediv_self (by omega)]
    exact ⟨Nat.le_refl _, by omega, by show (1 : Int) ≤ u; omega⟩
  · obtain ⟨_, h1, h2, h3, _⟩ := lowL_ok ho h0
    exact ⟨h1, h2, h3⟩
theorem lowL_mul {o u : Int} (h0 : 0 < u) : (lowL o u).1 * u = o * (lowL o u).2 := by
  have hd : (Int.gcd o u : Int) ∣ u := Int.gcd_dvd_right ..
  have hd1 : (Int.gcd o u : Int) ∣ o := Int.gcd_dvd_left ..
  unfold lowL
  show o / (Int.gcd o u : Int) * u = o * (u / (Int.gcd o u : Int))
  rw [Int.mul_comm, ← Int.mul_ediv_assoc _ hd1, ← Int.mul_ediv_assoc _ hd, Int.mul_comm u o]
theorem lowL_low {o u : Int} (h0 : 0 < u) : Int.gcd (lowL o u).1 (lowL o u).2 = 1 :=
  Int.gcd_ediv_gcd_ediv_gcd (Int.gcd_pos_of_ne_zero_right _ (by omega))
theorem dvd_cop {a b d : Int} (h : b ∣ a * d) (g : Int.gcd a b = 1) : b ∣ d := by
  have h' : b.natAbs ∣ a.natAbs * d.natAbs := by
    rw [← Int.natAbs_mul]
    exact Int.natAbs_dvd_natAbs.mpr h
  have c : Nat.Coprime b.natAbs a.natAbs := by
    rw [Nat.coprime_comm]
    exact g
  exact Int.natAbs_dvd_natAbs.mp (c.dvd_of_dvd_mul_left h')
/-- parts in lowest terms of the same worth are the same -/
theorem low_uniq {a b c d : Int} (hb : 0 < b) (hd : 0 < d) (h1 : Int.gcd a b = 1) (h2 : Int.gcd c d = 1) (e : a * d = c * b) : a = c ∧ b = d := by
  have hbd : b ∣ d := by
    have : b ∣ a * d := ⟨c, by rw [e, Int.mul_comm]⟩
    exact dvd_cop this h1
  have hdb : d ∣ b := by
    have : d ∣ c * b := ⟨a, by rw [← e, Int.mul_comm]⟩
    exact dvd_cop this h2
  have ebd : b = d := Int.le_antisymm (Int.le_of_dvd hd hbd) (Int.le_of_dvd hb hdb)
  subst ebd
  exact ⟨Int.eq_of_mul_eq_mul_right (by omega) e, rfl⟩
theorem lowL_eq {a b c d : Int} (hb : 0 < b) (hd : 0 < d) (e : a * d = c * b) : lowL a b = lowL c d := by
  have h1 := lowL_le (o := a) hb
  have h2 := lowL_le (o := c) hd
  have m1 := lowL_mul (o := a) hb
  have m2 := lowL_mul (o := c) hd
  have key : (lowL a b).1 * (lowL c d).2 = (lowL c d).1 * (lowL a b).2 := by
    have hbd : b * d ≠ 0 := Int.mul_ne_zero (by omega) (by omega)
    apply Int.eq_of_mul_eq_mul_right hbd
    calc (lowL a b).1 * (lowL c d).2 * (b * d) = ((lowL a b).1 * b) * ((lowL c d).2 * d) := by ac_rfl
      _ = (a * (lowL a b).2) * ((lowL c d).2 * d) := by rw [m1]
      _ = (a * d) * ((lowL a b).2 * (lowL c d).2) := by ac_rfl
      _ = (c * b) * ((lowL a b).2 * (lowL c d).2) := by rw [e]
      _ = (c * (lowL c d).2) * ((lowL a b).2 * b) := by ac_rfl
      _ = ((lowL c d).1 * d) * ((lowL a b).2 * b) := by rw [m2]
      _ = (lowL c d).1 * (lowL a b).2 * (b * d) := by ac_rfl
  have u := low_uniq h1.2.1 h2.2.1 (lowL_low hb) (lowL_low hd) key
  exact Prod.ext u.1 u.2
def prodL (p q : Prt) : Prt := lowL (p.1 * q.1) (p.2 * q.2)
def sumL (p q : Prt) : Prt := lowL (p.1 * q.2 + q.1 * p.2) (p.2 * q.2)
/-- the product and the sum go by worth -/
theorem prodL_low {a b c d : Int} (hb : 0 < b) (hd : 0 < d) : prodL (lowL a b) (c, d) = lowL (a * c) (b * d) := by
  have h1 := lowL_le (o := a) hb
  have m1 := lowL_mul (o := a) hb
  refine lowL_eq (Int.mul_pos h1.2.1 hd) (Int.mul_pos hb hd) ?_
  calc (lowL a b).1 * c * (b * d) = ((lowL a b).1 * b) * (c * d) := by ac_rfl
    _ = (a * (lowL a b).2) * (c * d) := by rw [m1]
    _ = a * c * ((lowL a b).2 * d) := by ac_rfl
theorem sumL_low {a b c d : Int} (hb : 0 < b) (hd : 0 < d) : sumL (lowL a b) (lowL c d) = lowL (a * d + c * b) (b * d) := by
  have h1 := lowL_le (o := a) hb
  have m1 := lowL_mul (o := a) hb
  have h2 := lowL_le (o := c) hd
  have m2 := lowL_mul (o := c) hd
  refine lowL_eq (Int.mul_pos h1.2.1 h2.2.1) (Int.mul_pos hb hd) ?_
  calc ((lowL a b).1 * (lowL c d).2 + (lowL c d).1 * (lowL a b).2) * (b * d)
      = ((lowL a b).1 * b) * ((lowL c d).2 * d) + ((lowL c d).1 * d) * ((lowL a b).2 * b) := by rw [Int.add_mul]; congr 1 <;> ac_rfl
    _ = (a * (lowL a b).2) * ((lowL c d).2 * d) + (c * (lowL c d).2) * ((lowL a b).2 * b) := by rw [m1, m2]
    _ = (a * d + c * b) * ((lowL a b).2 * (lowL c d).2) := by rw [Int.add_mul]; congr 1 <;> ac_rfl
theorem lowL_self {a b : Int} (hb : 0 < b) (h : Int.gcd a b = 1) : lowL a b = (a, b) := by
  unfold lowL
  rw [h]
  simp
end My
namespace My
open PySem PySem.Spec PySem.W L2
/-! ### a poly's worth -/
def keyP (k : Int × Int) : List (Str × Int) := (if 0 < k.2 then [(Str.ofString "#", k.2)] else []) ++ (if 0 < k.1 then [(Str.ofString "n", k.1)] else [])
theorem keyL_eq (k : Int × Int) : keyL k = (keyP k).map fun x => .tup [.text x.1, .num x.2] := by
  unfold keyL keyP
  split <;> split <;> simp
def valOf (sz bl : Int) (nm : Str) : Int := if nm = "#" then bl else sz
def stepP (sz bl : Int) (acc : Prt) (x : Str × Int) : Prt := prodL acc (valOf sz bl x.1 ^ x.2.toNat, 1)
def stepI (sz bl : Int) (acc : Int) (x : Str × Int) : Int := acc * valOf sz bl x.1 ^ x.2.toNat
def partK (sz bl : Int) (t : Trm) : Prt := (keyP t.1).foldl (stepP sz bl) t.2
theorem foldP_low {sz bl : Int} {u : Int} (hu : 0 < u) : ∀ (l : List (Str × Int)) (o : Int), l.foldl (stepP sz bl) (lowL o u) = lowL (l.foldl (stepI sz bl) o) u
  | [], _ => rfl
  | x :: r, o => by
    rw [List.foldl_cons, List.foldl_cons]
    have e : stepP sz bl (lowL o u) x = lowL (stepI sz bl o x) u := by
      unfold stepP stepI
      rw [prodL_low hu (by decide), Int.mul_one]
    rw [e]
    exact foldP_low hu r _
/-- what a term comes to, unreduced -/
def numI (sz bl : Int) (t : Trm) : Int := t.2.1 * sz ^ t.1.1.toNat * bl ^ t.1.2.toNat
theorem partK_low {sz bl : Int} {t : Trm} (h1 : 0 ≤ t.1.1) (h2 : 0 ≤ t.1.2) (hu : 0 < t.2.2) (hl : Int.gcd t.2.1 t.2.2 = 1) : partK sz bl t = lowL (numI sz bl t) t.2.2 := by
  unfold partK
  have e := lowL_self hu hl
  rw [show t.2 = lowL t.2.1 t.2.2 by rw [e], foldP_low hu, e]
  congr 1
  unfold numI keyP
  have ne : ¬ (Str.ofString "n") = Str.ofString "#" := by decide
  by_cases c1 : 0 < t.1.2 <;> by_cases c2 : 0 < t.1.1
  · simp [c1, c2, stepI, valOf, ne]
    ac_rfl
  · have e0 : t.1.1 = 0 := by omega
    simp [c1, c2, stepI, valOf, ne, e0]
  · have e0 : t.1.2 = 0 := by omega
    simp [c1, c2, stepI, valOf, ne, e0]
  · have e0 : t.1.2 = 0 := by omega
    have e1 : t.1.1 = 0 := by omega
    simp [c1, c2, e0, e1]
def worthL (sz bl : Int) (ts : List Trm) : Prt := ts.foldl (fun acc t => sumL acc (partK sz bl t)) (0, 1)
/-- the law's way: unreduced -/
def rawStep (sz bl : Int) (a : Prt) (t : Trm) : Prt := (a.1 * t.2.2 + numI sz bl t * a.2, a.2 * t.2.2)
def rawL (sz bl : Int) (ts : List Trm) : Prt := ts.foldl (rawStep sz bl) (0, 1)
theorem raw_pos {sz bl : Int} : ∀ (ts : List Trm) (a : Prt), 0 < a.2 → (∀ t ∈ ts, 0 < t.2.2) → 0 < (ts.foldl (rawStep sz bl) a).2
  | [], _, h, _ => h
  | t :: r, a, h, ht => raw_pos r _ (Int.mul_pos h (ht t (List.mem_cons_self ..))) fun u hu => ht u (List.mem_cons_of_mem _ hu)
theorem worth_raw {sz bl : Int} : ∀ (ts : List Trm) (a : Prt), 0 < a.2 → (∀ t ∈ ts, 0 ≤ t.1.1 ∧ 0 ≤ t.1.2 ∧ 0 < t.2.2 ∧ Int.gcd t.2.1 t.2.2 = 1) →
    ts.foldl (fun acc t => sumL acc (partK sz bl t)) (lowL a.1 a.2) = lowL (ts.foldl (rawStep sz bl) a).1 (ts.foldl (rawStep sz bl) a).2
  | [], _, _, _ => rfl
  | t :: r, a, h, ht => by
    obtain ⟨h1, h2, h3, h4⟩ := ht t (List.mem_cons_self ..)
    rw [List.foldl_cons, List.foldl_cons, partK_low h1 h2 h3 h4, sumL_low h h3]
    exact worth_raw r (rawStep sz bl a t) (Int.mul_pos h h3) fun u hu => ht u (List.mem_cons_of_mem _ hu)
theorem worthL_eq {sz bl : Int} {ts : List Trm} (ht : ∀ t ∈ ts, 0 ≤ t.1.1 ∧ 0 ≤ t.1.2 ∧ 0 < t.2.2 ∧ Int.gcd t.2.1 t.2.2 = 1) : worthL sz bl ts = lowL (rawL sz bl ts).1 (rawL sz bl ts).2 := by
  have := worth_raw (sz := sz) (bl := bl) ts (0, 1) (by decide) ht
  rw [show lowL (0 : Int) 1 = (0, 1) by decide] at this
  exact this
/-- the value at a key of its own -/
theorem atN_get : ∀ {kvs : List (NestedKey × Addr × V)} {i : Nat} {k : NestedKey} {a : Addr} {x : V}, (kvs.map (·.1)).Nodup → kvs[i]? = some (k, a, x) → atN kvs k = some x
  | [], _, _, _, _, _, h => by simp at h
  | kv :: r, 0, k, a, x, nd, h => by
    have e : kv = (k, a, x) := by simpa using h
    subst e
    unfold atN
    rw [List.find?_cons_of_pos (by simp)]
    rfl
  | kv :: r, i + 1, k, a, x, nd, h => by
    have h' : r[i]? = some (k, a, x) := by simpa using h
    rw [List.map_cons, List.nodup_cons] at nd
    have ne : ¬ kv.1 = k := fun e => nd.1 (by rw [e]; exact List.mem_map.mpr ⟨_, List.mem_of_getElem? h', rfl⟩)
    have ih := atN_get nd.2 h'
    unfold atN at ih ⊢
    rw [List.find?_cons_of_neg (by simp [ne])]
    exact ih
theorem nrel_keys : ∀ {kvs : List (NestedKey × Addr × V)} {xs : List (NestedKey × Addr × Value)}, Paired NRel kvs xs → kvs.map (·.1) = xs.map (·.1)
  | _, _, .nil => rfl
  | _, _, .cons r t => by rw [List.map_cons, List.map_cons, r.1, nrel_keys t]
theorem ND.nodup {P : Program} {w : World} {H : Hp} {d : Addr} {kvs : List (NestedKey × Addr × V)} (x : ND P w H d kvs) : (kvs.map (·.1)).Nodup := by
  obtain ⟨o, es, ep, xs, _, _, _, _, _, nd, pr⟩ := x.ex
  rw [nrel_keys pr]
  exact nd
theorem nks_at {H : Hp} : ∀ {l : List (Str × Int)} {items : List V} {j : Nat} {y : V}, NKs H (l.map fun x => .tup [.text x.1, .num x.2]) items → items[j]? = some y → ∃ x b, l[j]? = some x ∧ y = .ref b ∧ Rd H b (.tup [.str x.1, .int x.2])
  | [], _, _, _, h, e => by
    cases h
    simp at e
  | x :: r, _, 0, y, h, e => by
    cases h with
    | cons h1 h2 =>
      cases h1 with
      | tup hb hs =>
        cases hs with
        | cons g1 g2 =>
          cases g2 with
          | cons g2 g3 =>
            cases g3
            cases g1
            cases g2
            simp at e
            exact ⟨x, _, rfl, e.symm, hb⟩
  | x :: r, _, j + 1, y, h, e => by
    cases h with
    | cons h1 h2 =>
      obtain ⟨z, b, e1, e2, e3⟩ := nks_at (j := j) h2 (by simpa using e)
      exact ⟨z, b, by simpa using e1, e2, e3⟩
theorem nks_len {H : Hp} : ∀ {ks : List NestedKey} {items : List V}, NKs H ks items → items.length = ks.length
  | _, _, .nil => rfl
  | _, _, .cons _ t => congrArg (· + 1) (nks_len t)
theorem prel_get {H : Hp} : ∀ {kvs : List (NestedKey × Addr × V)} {ts : List Trm} {i : Nat} {kv : NestedKey × Addr × V}, Paired (PRel H) kvs ts → kvs[i]? = some kv → ∃ t, ts[i]? = some t ∧ PRel H kv t
  | _, _, _, _, .nil, h => by simp at h
  | _, _, 0, kv, .cons (b := t) r q, h => ⟨t, rfl, by rw [← (show _ = kv by simpa using h)]; exact r⟩
  | _, _, i + 1, kv, .cons r q, h => by
    obtain ⟨t, e, p⟩ := prel_get (i := i) q (by simpa using h)
    exact ⟨t, by simpa using e, p⟩
end My
namespace My
open PySem PySem.Spec PySem.W L2
/-! ### how great the numbers may come -/
theorem cmul_of {a b : Int} {m n : Nat} (h1 : a.natAbs < 2 ^ m) (h2 : b.natAbs < 2 ^ n) (hm : 0 < m) (hn : 0 < n) (h : m + n ≤ 1000000) : CMulW a b := by
  have q1 := log_lt h1 hm
  have q2 := log_lt h2 hn
  show a.natAbs.log2 + b.natAbs.log2 < 1000000
  omega
theorem pow_b {v : Int} {k : Nat} (hv : v.natAbs < 2 ^ 110) (hk : k ≤ 9) : (v ^ k).natAbs < 2 ^ 1000 := by
  rw [Int.natAbs_pow]
  have h1 : v.natAbs ^ k ≤ (2 ^ 110) ^ k := Nat.pow_le_pow_left (Nat.le_of_lt hv) k
  have h2 : (2 ^ 110) ^ k ≤ (2 ^ 110 : Nat) ^ 9 := Nat.pow_le_pow_right (by decide) hk
  have h3 : ((2 : Nat) ^ 110) ^ 9 < 2 ^ 1000 := by
    rw [← Nat.pow_mul]
    exact Nat.pow_lt_pow_right (by decide) (by decide)
  omega
theorem mul_b {a b : Int} {m n : Nat} (h1 : a.natAbs < 2 ^ m) (h2 : b.natAbs < 2 ^ n) : (a * b).natAbs < 2 ^ (m + n) := by
  rw [Int.natAbs_mul, Nat.pow_add]
  exact Nat.mul_lt_mul'' h1 h2
theorem val_b {sz bl : Int} (h1 : sz.natAbs < 2 ^ 110) (h2 : bl.natAbs < 2 ^ 110) (nm : Str) : (valOf sz bl nm).natAbs < 2 ^ 110 := by
  unfold valOf
  split
  · exact h2
  · exact h1
theorem foldI_b {sz bl : Int} (h1 : sz.natAbs < 2 ^ 110) (h2 : bl.natAbs < 2 ^ 110) : ∀ (l : List (Str × Int)) (o : Int) (m : Nat), o.natAbs < 2 ^ m → (∀ x ∈ l, x.2 ≤ 9) → (l.foldl (stepI sz bl) o).natAbs < 2 ^ (m + 1000 * l.length)
  | [], o, m, h, _ => h
  | x :: r, o, m, h, hx => by
    have e := foldI_b h1 h2 r (stepI sz bl o x) (m + 1000) (mul_b h (pow_b (val_b h1 h2 _) (by have := hx x (List.mem_cons_self ..); omega))) fun y hy => hx y (List.mem_cons_of_mem _ hy)
    rw [List.foldl_cons, List.length_cons, show m + 1000 * (r.length + 1) = m + 1000 + 1000 * r.length by omega]
    exact e
theorem numI_b {sz bl : Int} {t : Trm} (h1 : sz.natAbs < 2 ^ 110) (h2 : bl.natAbs < 2 ^ 110) (ho : t.2.1.natAbs < 2 ^ 200) (hp : t.1.1 ≤ 9) (hf : t.1.2 ≤ 9) : (numI sz bl t).natAbs < 2 ^ 2200 :=
  mul_b (m := 1200) (n := 1000) (mul_b (m := 200) (n := 1000) ho (pow_b h1 (by omega))) (pow_b h2 (by omega))
theorem keyP_le {k : Int × Int} (h1 : k.1 ≤ 9) (h2 : k.2 ≤ 9) : ∀ x ∈ keyP k, 0 < x.2 ∧ x.2 ≤ 9 ∧ (x.1 = "#" ∨ x.1 = "n") := by
  unfold keyP
  intro x hx
  rcases List.mem_append.mp hx with h | h
  · split at h
    · rw [List.mem_singleton.mp h]
      exact ⟨by assumption, h2, .inl rfl⟩
    · cases h
  · split at h
    · rw [List.mem_singleton.mp h]
      exact ⟨by assumption, h1, .inr rfl⟩
    · cases h
theorem keyP_len (k : Int × Int) : (keyP k).length ≤ 2 := by
  unfold keyP
  split <;> split <;> simp
structure TSz (t : Trm) : Prop where
  p0 : 0 ≤ t.1.1
  p1 : t.1.1 ≤ 9
  f0 : 0 ≤ t.1.2
  f1 : t.1.2 ≤ 9
  o1 : t.2.1.natAbs < 2 ^ 200
  u0 : 0 < t.2.2
  u1 : t.2.2 ≤ 2
  low : Int.gcd t.2.1 t.2.2 = 1
theorem raw_b {sz bl : Int} {ts : List Trm} (h1 : sz.natAbs < 2 ^ 110) (h2 : bl.natAbs < 2 ^ 110) (ht : ∀ t ∈ ts, TSz t) : ∀ i : Nat, i ≤ 10 → 0 < (rawL sz bl (ts.take i)).2 ∧ (rawL sz bl (ts.take i)).2.natAbs < 2 ^ (2 * i + 1) ∧ (rawL sz bl (ts.take i)).1.natAbs < 2 ^ (2300 + 10 * i)
  | 0, _ => ⟨by show (0 : Int) < 1; decide, by show (1 : Int).natAbs < 2 ^ 1; decide, by show (0 : Int).natAbs < 2 ^ (2300 + 10 * 0); exact Nat.two_pow_pos _⟩
  | i + 1, hi => by
    obtain ⟨q1, q2, q3⟩ := raw_b h1 h2 ht i (by omega)
    cases hts : ts[i]? with
    | none =>
      have e : ts.take (i + 1) = ts.take i := by rw [List.take_add_one, hts]; simp
      rw [e]
      exact ⟨q1, Nat.lt_of_lt_of_le q2 (Nat.pow_le_pow_right (by decide) (by omega)), Nat.lt_of_lt_of_le q3 (Nat.pow_le_pow_right (by decide) (by omega))⟩
    | some t =>
      have tz := ht t (List.mem_of_getElem? hts)
      have e : rawL sz bl (ts.take (i + 1)) = rawStep sz bl (rawL sz bl (ts.take i)) t := by
        unfold rawL
        rw [take_snoc hts, List.foldl_append]
        rfl
      rw [e]
      have u2 : t.2.2.natAbs < 2 ^ 2 := by have := tz.u0; have := tz.u1; omega
      refine ⟨Int.mul_pos q1 tz.u0, ?_, ?_⟩
      · have := mul_b q2 u2
        exact Nat.lt_of_lt_of_le this (Nat.pow_le_pow_right (by decide) (by omega))
      · have a1 := mul_b q3 u2
        have a2 := mul_b (numI_b h1 h2 tz.o1 tz.p1 tz.f1) q2
        have b1 : ((rawL sz bl (ts.take i)).1 * t.2.2).natAbs < 2 ^ (2300 + 10 * i + 2) := a1
        have b2 : (numI sz bl t * (rawL sz bl (ts.take i)).2).natAbs < 2 ^ (2300 + 10 * i + 2) := Nat.lt_of_lt_of_le a2 (Nat.pow_le_pow_right (by decide) (by omega))
        have s := Int.natAbs_add_le ((rawL sz bl (ts.take i)).1 * t.2.2) (numI sz bl t * (rawL sz bl (ts.take i)).2)
        have e3 : 2 ^ (2300 + 10 * i + 2) + 2 ^ (2300 + 10 * i + 2) ≤ 2 ^ (2300 + 10 * (i + 1)) := by
          rw [← Nat.two_mul, ← Nat.pow_succ']
          exact Nat.pow_le_pow_right (by decide) (by omega)
        show (_ + _ : Int).natAbs < _
        omega
end My
namespace My
open PySem PySem.Spec PySem.W L2
def termsAt (S : List Rw) (sz : Int) : List Trm := S.foldl (fun acc r => if r.1 ≤ sz then r.2 else acc) []
theorem termsAt_snoc {S : List Rw} {i : Nat} {r : Rw} {sz : Int} (h : S[i]? = some r) : termsAt (S.take (i + 1)) sz = if r.1 ≤ sz then r.2 else termsAt (S.take i) sz := by
  unfold termsAt
  rw [take_snoc h, List.foldl_append]
  rfl
theorem termsAt_mem {sz : Int} : ∀ (S : List Rw) (acc : List Trm), (S.foldl (fun acc r => if r.1 ≤ sz then r.2 else acc) acc) = acc ∨ ∃ r ∈ S, (S.foldl (fun acc r => if r.1 ≤ sz then r.2 else acc) acc) = r.2
  | [], acc => .inl rfl
  | r :: S, acc => by
    rw [List.foldl_cons]
    rcases termsAt_mem (sz := sz) S (if r.1 ≤ sz then r.2 else acc) with e | ⟨q, hq, e⟩
    · rw [e]
      split
      · exact .inr ⟨r, List.mem_cons_self .., rfl⟩
      · exact .inl rfl
    · exact .inr ⟨q, List.mem_cons_of_mem _ hq, e⟩
theorem termsAt_ok {S : List Rw} {sz : Int} {F : List Trm → Prop} (h0 : F []) (h : ∀ r ∈ S, F r.2) : F (termsAt S sz) := by
  rcases termsAt_mem (sz := sz) S [] with e | ⟨r, hr, e⟩
  · show F (S.foldl _ [])
    rw [e]
    exact h0
  · show F (S.foldl _ [])
    rw [e]
    exact h r hr
theorem bits_le (x : Int) : Builtin.Int.intBits x ≤ x.natAbs.log2 + 1 := by
  unfold Builtin.Int.intBits
  split <;> omega
theorem bits_b {x : Int} (h : x.natAbs < 2 ^ 110) : ((Builtin.Int.intBits x : Nat) : Int).natAbs < 2 ^ 110 := by
  have h1 := bits_le x
  have h2 := log_lt h (by decide)
  show Builtin.Int.intBits x < 2 ^ 110
  exact Nat.lt_of_le_of_lt (m := 200) (by omega) (by decide)
theorem rows_get {P : Program} {w : World} {H : Hp} : ∀ {us : List V} {S : List Rw} {i : Nat} {x : V}, RowsAt P w H us S → us[i]? = some x → ∃ r, S[i]? = some r ∧ RowAt P w H x r
  | _, _, _, _, .nil, h => by simp at h
  | _, _, 0, x, .cons (b := r) q t, h => ⟨r, rfl, by rw [← (show _ = x by simpa using h)]; exact q⟩
  | _, _, i + 1, x, .cons q t, h => by
    obtain ⟨r, e, p⟩ := rows_get (i := i) t (by simpa using h)
    exact ⟨r, by simpa using e, p⟩
def SumSz (S : List Rw) : Prop := ∀ r ∈ S, (∀ t ∈ r.2, TSz t) ∧ r.2.length ≤ 10
theorem sumSz_of {top deep wide : Int} {S : List Rw} (h1 : top ≤ 9) (h2 : deep ≤ 9) (h3 : wide < 2 ^ 200) (h : SumsOk top deep wide S) : SumSz S := fun r hr => by
  obtain ⟨tok, _, _⟩ := h.each r hr
  refine ⟨fun t ht => ?_, by have := tok.len; omega⟩
  have q := tok.each t ht
  have q1 := q.p1
  have q2 := q.f1
  have q3 := q.o1
  exact ⟨q.p0, by omega, q.f0, by omega, by omega, q.u0, q.u1, q.low⟩
def spWorth (P : Program) (w : World) (K : PySem.W.Frag) : Sp := fun vs H Q _ => ∃ (x : V) (S : List Rw) (sz top deep wide : Int), vs = [x, .int sz] ∧ Dp K H x (sumsD S) ∧ SumsOk top deep wide S ∧ top ≤ 9 ∧ deep ≤ 9 ∧ wide < 2 ^ 200 ∧ sz.natAbs < 2 ^ 110 ∧
  ∀ (v : V) (H' : Hp), Same H H' → Dp K H' v (partD (worthL sz (Builtin.Int.intBits sz : Nat) (termsAt S sz))) → Q v H'
end My
namespace PySem.W
open PySem PySem.Spec PySem.Calls PyProof.Rows
/-! ### except (A, B, ..): a tuple of classes of any length -/
section
variable {M : Model} {K : Frag}
theorem loop_skip {A : Around} {s : Shared} {f : Value → PUnit → Sem (ForInStep PUnit)} {E : Value → Shared → Prop} : ∀ {cs : List Value} {Q : PUnit → Shared → Prop}, (∀ c ∈ cs, ∀ Q' : ForInStep PUnit → Shared → Prop, Q' (.yield PUnit.unit) s → wpAny M A (f c PUnit.unit) Q' E s) → Q PUnit.unit s → wpAny M A (forIn cs PUnit.unit f) Q E s
  | [], _, _, q => by
    rw [List.forIn_nil]
    exact wpAny_pure q
  | c :: cs, Q, hf, q => by
    rw [List.forIn_cons]
    exact wpAny_bind (hf c (List.mem_cons_self ..) _ (loop_skip (fun c' h => hf c' (List.mem_cons_of_mem _ h)) q))
theorem loop_find {A : Around} {s : Shared} {cls : Value} {f : Value → Option Bool × Unit → Sem (ForInStep (Option Bool × Unit))} {E : Value → Shared → Prop} : ∀ {cs : List Value} {b : Bool} {Q : Option Bool × Unit → Shared → Prop}, exmAny K cls cs = some b →
    (∀ c ∈ cs, ∀ b1, exmOne K cls c = some b1 → ∀ Q' : ForInStep (Option Bool × Unit) → Shared → Prop, Q' (if b1 = true then .done (some true, ()) else .yield (none, ())) s → wpAny M A (f c (none, ())) Q' E s) → Q (if b = true then (some true, ()) else (none, ())) s → wpAny M A (forIn cs (none, ()) f) Q E s
  | [], b, Q, h, _, q => by
    cases (show some false = some b from h)
    rw [List.forIn_nil]
    exact wpAny_pure q
  | c :: cs, b, Q, h, hf, q => by
    obtain ⟨b1, d1, x1, y1, rfl⟩ := exmAny_cons h
    rw [List.forIn_cons]
    refine wpAny_bind (hf c (List.mem_cons_self ..) b1 x1 _ ?_)
    cases b1 with
    | true => exact wpAny_pure q
    | false => exact loop_find y1 (fun c' hc => hf c' (List.mem_cons_of_mem _ hc)) q
theorem exmAny_all {cls : Value} : ∀ {cs : List Value} {b : Bool}, exmAny K cls cs = some b → ∀ c ∈ cs, ∃ b1, exmOne K cls c = some b1
  | [], _, _, _, h => nomatch h
  | x :: r, b, h, c, hc => by
    obtain ⟨b1, d1, x1, y1, _⟩ := exmAny_cons h
    rcases List.mem_cons.mp hc with rfl | hc
    · exact ⟨b1, x1⟩
    · exact exmAny_all y1 c hc
theorem exm_tupN {cs : List Value} {cls : Value} {tp e : Addr} {b : Bool} {h : Heap} {dd : Option Addr} {n : Nat} {sl : Array (Option Value)} (X : K.In h) (LT : Looks M h (typeOf (.ref e)) cls) (hp : h.get? tp = some ⟨.type "tuple", dd, .seq cs.toArray n, sl⟩) (hx : exmAny K cls cs = some b) :
    Looks M h (excMatches (.ref e) (.ref tp)) b := by
  intro A Q E s k₀ q
  obtain ⟨hh, g, d, tk, os⟩ := s
  have k : ∀ b o, h.get? b = some o → hh.get? b = some o := k₀
  have LT0 : Looks M h (isInstance (.ref tp) (.type "tuple")) true := ((Looks.ld hp).andThen .now).andThen (Looks.of_pure isSubtype_tuple_tuple)
  have LT := LT.keeps k
  have LT0 := LT0.keeps k
  have hp' := k _ _ hp
  unfold excMatches
  refine wpAny_bind (LT0.at ?_)
  dsimp only
  rw [if_pos rfl]
  first
    | refine wpAny_bind (wpAny_seqItems hp' rfl ?_)
    | refine wpAny_bind (wpAny_bind (wpAny_seqItems hp' rfl (wpAny_pure ?_)))
  dsimp only [Option.getD_some, Option.getD]
  first
    | refine wpAny_bind (wpAny_pure ?_)
    | skip
  refine wpAny_bind (loop_skip (fun c hc Q' q' => ?_) ?_)
  · obtain ⟨b1, x1⟩ := exmAny_all hx c hc
    obtain ⟨e1, _⟩ := exm_cls (M := M) X x1
    refine wpAny_bind ((e1.keeps k).at ?_)
    rw [if_neg (by decide)]
    exact wpAny_pure q'
  refine wpAny_bind (LT.at (wpAny_bind (loop_find hx (fun c hc b1 x1 Q' q' => ?_) ?_)))
  · obtain ⟨_, S1⟩ := exm_cls (M := M) X x1
    refine wpAny_bind ((S1.keeps k).at ?_)
    cases b1 with
    | true => exact wpAny_pure q'
    | false => exact wpAny_pure q'
  cases b with
  | true => exact wpAny_pure q
  | false => exact wpAny_pure q
end
end PySem.W
namespace My
open PySem PySem.Spec PyProof.Rows L2
/-! ### try: .. except A as n: .. except (B, C) as n: .. -/
theorem flying_kept {base h h' : Heap} {l : List Env} {e : Addr} {Z : Obj → Prop} (k : ∀ b o, h.get? b = some o → h'.get? b = some o) (x : HandSPX.FlyingZ base l e Z h) : HandSPX.FlyingZ base l e Z h' := by
  obtain ⟨f1, f2, f3, oe, vs, T, oT, ts, he, hz, hd, h1, hnT, hTe, hT, hdT, h3⟩ := x
  exact ⟨fun b o q => k b o (f1 b o q), f2, f3.of_keeps fun b o hb _ => ⟨o, k b o hb, rfl⟩, oe, vs, T, oT, ts, k _ _ he, hz, hd, h1, hnT, hTe, k _ _ hT, hdT, h3⟩
inductive NmAll (X : Cx) : List Expr → List Value → Prop
  | nil : NmAll X [] []
  | cons {x : Str} {c : Value} {np : Pos} {es : List Expr} {cs : List Value} : Names X x c → NmAll X es cs → NmAll X (.Name x np :: es) (c :: cs)
theorem name_run {X : Cx} {E : Value → Shared → Prop} {pins : List (Addr × Obj)} {σ : L2.St} {H : Hp} {s : Shared} {a : Addr} {pn : List (Addr × Obj)} {x : Str} {c : Value} {np : Pos} {Q : Value → Shared → Prop} (S : Inv (X.suite a pn) pins σ H s) (hc : Names X x c) (q : Q c s) :
    wpAny (model X.prog X.w) (X.A.mark (some (.ref a))) (eval (.Name x np) X.env) Q E s := by
  obtain ⟨hg, hdbg, hm | ⟨hm, hv, hnn⟩⟩ := hc
  · exact ld_glob (X := X.suite a pn) S hg hm q hdbg
  · exact ld_blt (X := X.suite a pn) S hg hm hv q hnn hdbg
theorem nmAll_run {X : Cx} {pos : Pos} {E : Value → Shared → Prop} {pins : List (Addr × Obj)} {σ : L2.St} {H : Hp} {s : Shared} {a : Addr} {pn : List (Addr × Obj)} (S : Inv (X.suite a pn) pins σ H s) :
    ∀ {es : List Expr} {cs : List Value} {Q : List Value → Shared → Prop}, NmAll X es cs → Q cs s → wpAny (model X.prog X.w) (X.A.mark (some (.ref a))) (spliced (backTo pos (starEach es X.env))) Q E s := by
  intro es cs Q h
  induction h generalizing Q with
  | nil => exact fun q => Calls.spliced_nil q
  | @cons x c np es cs hc r ih =>
    intro q
    show wpAny _ _ (spliced ((false, eval (.Name x np) X.env) :: backTo pos (starEach es X.env))) _ _ s
    exact Calls.spliced_cons (name_run S hc (ih q))
/-- what the clauses wish of an exception of the body; slot i is the clauses' name -/
def wManyA (Wout : WX) (D : Ends) (i : Nat) : List ((Value → Option Bool) × (Addr → Value → Option Addr → TS)) → WX
  | [] => Wout
  | (f, ts) :: r => fun cls d σ H => ∃ b, f cls = some b ∧ (b = true → ∀ a, H a = none → i < σ.length → ts a cls d { nx := fun σ' H' => D.nx (σ'.set i none) H', rt := D.rt, bk := fun σ' H' => D.bk (σ'.set i none) H', ct := fun σ' H' => D.ct (σ'.set i none) H' } (σ.set i (some (.ref a))) H) ∧ (b = false → wManyA Wout D i r cls d σ H)
inductive HdsA (X : Cx) (n : Str) : List ExceptHandler → List ((Value → Option Bool) × (Addr → Value → Option Addr → TS)) → Prop
  | nil : HdsA X n [] []
  | one {x : Str} {c : Value} {ts : Addr → Value → Option Addr → TS} {b₀ : Stmt} {suite : List Stmt} {np pos' : Pos} {hds : List ExceptHandler} {l : List ((Value → Option Bool) × (Addr → Value → Option Addr → TS))} (hc : Names X x c)
      (hsu : ∀ (a : Addr) (oe : Obj) (cls : Value) (d : Option Addr) (pn : List (Addr × Obj)), Zc cls d oe → (∃ vs, oe.data = .fields vs) → PSs (X.suite a ((a, oe) :: pn)) (b₀ :: suite) (ts a cls d)) (r : HdsA X n hds l) :
      HdsA X n (.ExceptHandler (some (.Name x np)) (some n) (b₀ :: suite) pos' :: hds) ((fun cls => PySem.W.exmOne X.K cls c, ts) :: l)
  | tup {es : List Expr} {cs : List Value} {x1} {ts : Addr → Value → Option Addr → TS} {b₀ : Stmt} {suite : List Stmt} {np pos' : Pos} {hds : List ExceptHandler} {l : List ((Value → Option Bool) × (Addr → Value → Option Addr → TS))} (hc : NmAll X es cs) (hl : cs.length ≤ 1000)
      (hsu : ∀ (a : Addr) (oe : Obj) (cls : Value) (d : Option Addr) (pn : List (Addr × Obj)), Zc cls d oe → (∃ vs, oe.data = .fields vs) → PSs (X.suite a ((a, oe) :: pn)) (b₀ :: suite) (ts a cls d)) (r : HdsA X n hds l) :
      HdsA X n (.ExceptHandler (some (.Tuple es x1 np)) (some n) (b₀ :: suite) pos' :: hds) ((fun cls => PySem.W.exmAny X.K cls cs, ts) :: l)
section
variable {X : Cx} {n : Str} {i : Nat} {body : List Stmt} {h₀ : ExceptHandler} {hds : List ExceptHandler} {l : List ((Value → Option Bool) × (Addr → Value → Option Addr → TS))} {pos : Pos} {tb : WX → TS} {Wout : WX}
theorem ps_try_manyA (hs : X.stack = X.env :: X.outer) (hf : X.env.frame = some X.env.locals) (hN : X.N.Nodup) (hi : X.N[i]? = some n) (hln : X.env.kindOf n = some .local) (tk : Takes X Wout)
    (hb : ∀ (W : WX) (pn : List (Addr × Obj)) (xe : Value → Shared → Prop), Takes (X.tr pn xe) W → PassesOwn (model X.prog X.w) X.A X.env xe → PSs (X.tr pn xe) body (tb W))
    (hh : HdsA X n (h₀ :: hds) l) : PS X (.Try body (h₀ :: hds) [] [] pos) (fun D σ H => tb (wManyA Wout D i l) D σ H) := by
  refine ⟨fun pins s σ H D I h => ?_⟩
  have ok := I.ok
  have hfr : X.A.frames = some (X.env :: X.outer) := by rw [ok.frames, hs]
  have hloc : Loc X.env.scope n := .inl hln
  refine wpAny_Try_except ?_
  refine wpAny_mono ((hb (wManyA Wout D i l) (X.pn ++ pins) (fun e s₁ => wpAny (model X.prog X.w) X.A (noteFrame e X.env) (fun _ s₂ => wpAny (model X.prog X.w) X.A (setFlight e none) (fun _ s₃ =>
    wpAny (model X.prog X.w) X.A (handleBy e X.env (h₀ :: hds)) (SP X pins D) X.xe s₃) X.xe s₂) X.xe s₁) (fun u s' xx => ?_) PassesOwn.looking).run [] s σ H D (I.toTry _) h) (fun f s1 hsp => ?_) (fun e s1 he => he)
  · -- the catch
    obtain ⟨a, B, sI, pins', σ', H', cls, d, rfl, J', nb, up, sky, na, os, ag, w⟩ := xx
    have J : Inv X pins σ' H' sI := J'.ofTry ok
    have sky' : Sky B (X.env :: X.outer) a (Zc cls d) X.env.locals s'.heap := by rw [← hs]; exact sky
    show wpAny (model X.prog X.w) X.A (noteFrame (.ref a) X.env) _ _ _
    refine Sky.land Zc.steady hfr hf sky' fun h3 fl3 up3 => ?_
    have notFr : ∀ {h : Heap} {o : Obj} {vs : Array Value}, h.FunFrames B (X.env :: X.outer) → h.get? a = some o → o.data = .fields vs → a ∉ frs (X.env :: X.outer) := fun {h o vs} ff e dd hm => by
      obtain ⟨_, o', e', hnf⟩ := ff.mem hm
      rw [e] at e'; cases e'
      exact hnf _ dd
    have go : ∀ {hds' : List ExceptHandler} {l' : List ((Value → Option Bool) × (Addr → Value → Option Addr → TS))}, HdsA X n hds' l' → ∀ h3 : Heap, HandSPX.FlyingZ B (X.env :: X.outer) a (Zc cls d) h3 → sI.heap.UpToSlots h3 → wManyA Wout D i l' cls d σ' H' →
        wpAny (model X.prog X.w) X.A (handleBy (.ref a) X.env hds') (SP X pins D) X.xe { s' with heap := h3 } := by
      intro hds' l' hk
      induction hk with
      | nil =>
        intro h3 fl3 up3 w
        refine wpAny_handleBy_nil ?_
        obtain ⟨k1, k2, k3, oe, vs, T, oT, ts', he, hz, hd, h1, hr⟩ := id fl3
        unfold PySem.passOn
        refine wpAny_bind (wpAny_field he hd h1 ?_)
        rw [if_neg (show ¬ ((Value.ref T == Value.none) = true) from by simp)]
        have fin : wpAny (model X.prog X.w) X.A (setFlight (.ref a) X.env.frame) (fun _ s4 => wpAny (model X.prog X.w) X.A (throw (.ref a) : Sem Flow) (SP X pins D) X.xe s4) X.xe { s' with heap := h3 } := by
          rw [hf]
          refine HandSPX.setFlight_upZ fl3 fun h4 hh4 up4 => wpAny_throw (tk _ _ ?_)
          exact ⟨a, B, sI, pins, σ', H', cls, d, rfl, J, nb, up3.trans up4, .inr (.inr (by rw [hs]; exact hh4)), na, os, ag, w⟩
        first
          | exact wpAny_bind (wpAny_pure (wpAny_bind fin))
          | exact wpAny_bind fin
      | @one x c ts b₀ suite np pos' hds2 l2 hc hsu r ih =>
        intro h3 fl3 up3 w
        obtain ⟨b, hb1, hyes, hno⟩ := w
        have J3 : Inv X pins σ' H' { s' with heap := h3 } := J.landed nb fl3.1 up3 os ag
        obtain ⟨oe3, vs3, he3, hz3, hd3⟩ := fl3.there
        have nfr := notFr fl3.2.2.1 he3 hd3
        have nL : a ≠ X.env.locals := fun z => nfr (List.mem_filterMap.mpr ⟨X.env, List.mem_cons_self, by rw [hf, z]⟩)
        have nF : a ∉ X.fs := fun hm => by
          obtain ⟨e, he, q⟩ := List.mem_filterMap.mp hm
          exact nfr (List.mem_filterMap.mpr ⟨e, List.mem_cons_of_mem _ he, q⟩)
        have S3 := J3.suite he3 hd3 na nL nF
        refine wpAny_handleBy_cons (codeAny_handlers_test ?_) (by intro q; cases q)
        have LT : PySem.W.Looks (model X.prog X.w) h3 (typeOf (.ref a)) cls := fun A Q E s k q => wpAny_typeOf_ref (k _ _ he3) (by rw [hz3.1]; exact q)
        have LM := PySem.W.exm_one (M := model X.prog X.w) (J3.kIn) LT hb1
        refine name_run S3 hc (LM.here ?_)
        cases b with
        | true =>
          refine codeAny_handlers_suite_as ?_
          refine HandSPX.lands_againZ fl3 fun h4 fl4 up4 => ?_
          have J4 : Inv X pins σ' H' { s' with heap := h4 } := J.landed nb fl4.1 (up3.trans up4) os ag
          obtain ⟨oe4, vs4, he4, hz4, hd4⟩ := fl4.there
          have S4 := J4.suite he4 hd4 na nL nF
          refine store_ok (X := X.suite a ((a, oe4) :: (X.pn ++ pins))) (v := .ref a) S4 hN hi hloc rfl (fun s5 S5 => ?_) (.inr hln)
          refine wpAny_mono ((hsu a oe4 cls d (X.pn ++ pins) hz4 ⟨_, hd4⟩).run [] s5 _ H' _ S5 (hyes rfl a na (by rw [J.len]; exact (List.getElem?_eq_some_iff.mp hi).1))) (fun f s6 hsp => ?_) (fun _ _ z => False.elim z)
          have end_ : ∀ {σ6 : L2.St} {H6 : Hp} {Q : Shared → Prop}, Inv (X.suite a ((a, oe4) :: (X.pn ++ pins))) [] σ6 H6 s6 → (∀ s7, Inv X pins (σ6.set i none) H6 s7 → Q s7) →
              wpAny (model X.prog X.w) X.A (do bindName X.env n .none; unbindBehindTheSuite X.env n pos') (fun _ s7 => Q s7) X.xe s6 := fun {σ6 H6 Q} S6 hq => gone_ok (S6.unsuite ok) hN hi hln hq
          cases f with
          | next =>
            obtain ⟨σ6, H6, S6, q6⟩ := hsp
            exact end_ S6 fun s7 J7 => ⟨_, _, J7, q6⟩
          | brk =>
            obtain ⟨σ6, H6, S6, q6⟩ := hsp
            exact end_ S6 fun s7 J7 => ⟨_, _, J7, q6⟩
          | cont =>
            obtain ⟨σ6, H6, S6, q6⟩ := hsp
            exact end_ S6 fun s7 J7 => ⟨_, _, J7, q6⟩
          | ret u =>
            obtain ⟨v6, σ6, H6, S6, r6, q6⟩ := hsp
            exact end_ S6 fun s7 J7 => ⟨_, _, _, J7, r6, q6⟩
        | false =>
          show wpAny _ X.A (handleBy (.ref a) X.env hds2) _ _ _
          exact ih _ fl3 up3 (hno rfl)
      | @tup es cs x1 ts b₀ suite np pos' hds2 l2 hc hl hsu r ih =>
        intro h3 fl3 up3 w
        obtain ⟨b, hb1, hyes, hno⟩ := w
        have J3 : Inv X pins σ' H' { s' with heap := h3 } := J.landed nb fl3.1 up3 os ag
        obtain ⟨oe3, vs3, he3, hz3, hd3⟩ := fl3.there
        have nfr := notFr fl3.2.2.1 he3 hd3
        have nL : a ≠ X.env.locals := fun z => nfr (List.mem_filterMap.mpr ⟨X.env, List.mem_cons_self, by rw [hf, z]⟩)
        have nF : a ∉ X.fs := fun hm => by
          obtain ⟨e, he, q⟩ := List.mem_filterMap.mp hm
          exact nfr (List.mem_filterMap.mpr ⟨e, List.mem_cons_of_mem _ he, q⟩)
        have S3 := J3.suite he3 hd3 na nL nF
        refine wpAny_handleBy_cons (codeAny_handlers_test ?_) (by intro q; cases q)
        have LT : PySem.W.Looks (model X.prog X.w) h3 (typeOf (.ref a)) cls := fun A Q E s k q => wpAny_typeOf_ref (k _ _ he3) (by rw [hz3.1]; exact q)
        have kp : ∀ b o, h3.get? b = some o → (h3.push ({ cls := .type "tuple", data := .seq cs.toArray } : Obj)).get? b = some o := fun b o e => Heap.get?_push_of_some _ e
        have fl5 := flying_kept kp fl3
        have up5 : sI.heap.UpToSlots (h3.push ({ cls := .type "tuple", data := .seq cs.toArray } : Obj)) := up3.trans (Heap.UpToSlots.of_keeps kp)
        have hp5 : (h3.push ({ cls := .type "tuple", data := .seq cs.toArray } : Obj)).get? h3.objs.size = some ({ cls := .type "tuple", data := .seq cs.toArray } : Obj) := Heap.get?_push_size _ rfl
        have LM := PySem.W.exm_tupN (M := model X.prog X.w) (J3.kIn.keeps kp) (LT.keeps kp) hp5 hb1
        refine wpAny_Tuple_spliced (nmAll_run S3 hc ⟨Nat.le_trans hl (by decide), LM.here ?_⟩)
        cases b with
        | true =>
          refine codeAny_handlers_suite_as ?_
          refine HandSPX.lands_againZ fl5 fun h4 fl4 up4 => ?_
          have J4 : Inv X pins σ' H' { s' with heap := h4 } := J.landed nb fl4.1 (up5.trans up4) os ag
          obtain ⟨oe4, vs4, he4, hz4, hd4⟩ := fl4.there
          have S4 := J4.suite he4 hd4 na nL nF
          refine store_ok (X := X.suite a ((a, oe4) :: (X.pn ++ pins))) (v := .ref a) S4 hN hi hloc rfl (fun s5 S5 => ?_) (.inr hln)
          refine wpAny_mono ((hsu a oe4 cls d (X.pn ++ pins) hz4 ⟨_, hd4⟩).run [] s5 _ H' _ S5 (hyes rfl a na (by rw [J.len]; exact (List.getElem?_eq_some_iff.mp hi).1))) (fun f s6 hsp => ?_) (fun _ _ z => False.elim z)
          have end_ : ∀ {σ6 : L2.St} {H6 : Hp} {Q : Shared → Prop}, Inv (X.suite a ((a, oe4) :: (X.pn ++ pins))) [] σ6 H6 s6 → (∀ s7, Inv X pins (σ6.set i none) H6 s7 → Q s7) →
              wpAny (model X.prog X.w) X.A (do bindName X.env n .none; unbindBehindTheSuite X.env n pos') (fun _ s7 => Q s7) X.xe s6 := fun {σ6 H6 Q} S6 hq => gone_ok (S6.unsuite ok) hN hi hln hq
          cases f with
          | next =>
            obtain ⟨σ6, H6, S6, q6⟩ := hsp
            exact end_ S6 fun s7 J7 => ⟨_, _, J7, q6⟩
          | brk =>
            obtain ⟨σ6, H6, S6, q6⟩ := hsp
            exact end_ S6 fun s7 J7 => ⟨_, _, J7, q6⟩
          | cont =>
            obtain ⟨σ6, H6, S6, q6⟩ := hsp
            exact end_ S6 fun s7 J7 => ⟨_, _, J7, q6⟩
          | ret u =>
            obtain ⟨v6, σ6, H6, S6, r6, q6⟩ := hsp
            exact end_ S6 fun s7 J7 => ⟨_, _, _, J7, r6, q6⟩
        | false =>
          show wpAny _ X.A (handleBy (.ref a) X.env hds2) _ _ _
          exact ih _ fl5 up5 (hno rfl)
    exact go hh h3 fl3 (up.trans up3) w
  · cases f with
    | next =>
      obtain ⟨σ', H', J', q⟩ := hsp
      exact wpAny_execs_nil ⟨σ', H', J'.ofTry ok, q⟩
    | brk =>
      obtain ⟨σ', H', J', q⟩ := hsp
      exact ⟨σ', H', J'.ofTry ok, q⟩
    | cont =>
      obtain ⟨σ', H', J', q⟩ := hsp
      exact ⟨σ', H', J'.ofTry ok, q⟩
    | ret u =>
      obtain ⟨v, σ', H', J', r, q⟩ := hsp
      exact ⟨v, σ', H', J'.ofTry ok, r, q⟩
end
end My
namespace My
open PySem PySem.Spec PyProof.Rows L2
open L2H
/-! ### a def that is called with the handled exception -/
structure FnE (P : Program) (w : World) (K : PySem.W.Frag) (mg : Str → Option Value) (base : Heap) (k : Nat) (f : Addr) (fd : FuncData) (ps : List Str) (sp : Addr → Value → Option Addr → Sp) : Prop where
  len : ∀ a cls d vs H Q E, sp a cls d vs H Q E → vs.length = ps.length
  run : ∀ (A : Around) (outer : List Env) (s : Shared) (H : Hp) (args : Args) (us : List Value) (vs : List V) (Q : VK) (E : XK) (p : Addr × Obj) (cls : Value) (d : Option Addr), RoomH k A → PinOk outer H s p → Zc cls d p.2 → (∃ zs, p.2.data = .fields zs) → Env0 P w K mg base A outer s H → BindsTo s fd args (ps.zip us) → Vals vs us → sp p.1 cls d vs H Q E →
    codeAny (model P w) A (.call (.ref f) args) (CR CX0 outer P w H s Q E) s
theorem fn_ofE {P : Program} {w : World} {K : PySem.W.Frag} {mg : Str → Option Value} {base : Heap} {k : Nat} {f : Addr} {x qual : Str} {st : Stmt} {fd : FuncData} {N ps : List Str} {sp : Addr → Value → Option Addr → Sp}
    (F : Fun K x qual st f fd) (S : FnScope N ps (defScope st)) (len : ∀ a cls d vs H Q E, sp a cls d vs H Q E → vs.length = ps.length)
    (hbody : ∀ (cdv : Value) (A : Around) (outer : List Env) (s : Shared) (H : Hp) (vs : List V) (Q : VK) (E : XK) (p : Addr × Obj) (cls : Value) (d : Option Addr), Zc cls d p.2 → (∃ zs, p.2.data = .fields zs) → RoomH k (A.deeper (envOfC qual (defScope st) s.heap.objs.size f cdv)) → sp p.1 cls d vs H Q E →
      ∃ t, PSs (cxH CX0 P w K mg base N qual (defScope st) f cdv A outer s H E p).nox (defBody st) t ∧ t { nx := fun _ H' => Q .non H', rt := Q } (L2.start N vs) H) :
    FnE P w K mg base (k + 1) f fd ps sp := by
  obtain ⟨oc, od, kV, doc, pm, an, cdv, ct, osl, rfl, lk, hcd⟩ := F.ex
  refine ⟨len, fun A outer s H args us vs Q E p cls d hr hpin hz hf e0 hb r hsp => ?_⟩
  have hl := len _ _ _ _ _ _ _ hsp
  have KX : K.In s.heap := e0.mod.kin.keeps fun b o e => (e0.bs b o e).1
  have lim : s.heap.NoLimit := e0.mod.nolimit.keeps fun b o e => (e0.bs b o e).1
  have hkind : ∀ y ∈ ps.zip us, (defScope st).names.lookup y.1 = some .local ∨ ((defScope st).names.lookup y.1 = some .cell ∧ ((cellsFrom (s.heap.objs.size + 1) (defScope st).names []).lookup y.1).isSome = true) := fun ⟨n, v⟩ hy => by
    rcases S.par n (List.of_mem_zip hy).1 with q | q
    · exact .inl q
    · exact .inr ⟨q, PySem.W.cellsFrom_some _ _ _ (.inl q)⟩
  refine codeAny_call_function hr.depth (KX _ _ lk) rfl S.co S.gen rfl (PySem.W.codeRec_of KX hcd) (hb _ _ _ _ ?_)
  refine wpAny_newFunctionEnv_cells S.kind hkind fun env he s1 y => ?_
  subst he
  refine ⟨lim.keeps y.toInCall.keep, codeAny_func ?_⟩
  obtain ⟨t, ht, hq⟩ := hbody cdv A outer s H vs Q E p cls d hz hf (hr.deeper _) hsp
  have I : Inv (cxH CX0 P w K mg base N qual (defScope st) f cdv A outer s H E p) [] (L2.start N vs) H s1 := inv_startH S hpin e0 hl r y
  refine wpAny_mono (ht.nox.run [] s1 (L2.start N vs) H _ I hq) (fun fl s' hs => ?_) fun e s' hs => hs
  cases fl with
  | ret u =>
    obtain ⟨v, σ', H', J, rv, q⟩ := hs
    exact ⟨v, H', J.os, J.bare, J.base, J.hok, rv, q⟩
  | next =>
    obtain ⟨σ', H', J, q⟩ := hs
    exact ⟨V.non, H', J.os, J.bare, J.base, J.hok, rfl, q⟩
  | brk =>
    obtain ⟨_, _, _, q⟩ := hs
    exact False.elim q
  | cont =>
    obtain ⟨_, _, _, q⟩ := hs
    exact False.elim q
section
variable {X : Cx} {k : Nat} {f : Addr} {fd : FuncData} {ps : List Str} {sp : Addr → Value → Option Addr → Sp} {x : Str} {q pos : Pos} {e : Expr} {es : List Expr} {t : TA} {a : Addr} {oe : Obj} {cls : Value} {d : Option Addr} {pn : List (Addr × Obj)}
def tCallE (a : Addr) (cls : Value) (d : Option Addr) (sp : Addr → Value → Option Addr → Sp) (t : TA) : TE := fun σ H Q => t σ H fun vs H1 => sp a cls d vs H1 Q E0
theorem pe_callE (F : FnE X.prog X.w X.K X.mg X.base k f fd ps sp) (hr : RoomH k X.A) (hz : Zc cls d oe) (hf : ∃ zs, oe.data = .fields zs) (hg : Gl X x) (hm : X.mg x = some (.ref f)) (hk : PySem.W.keepIn X.K (.ref f) = true) (hb : Binds X.K fd ps [])
    (ha : PA (X.suite a ((a, oe) :: pn)) (e :: es) t) (hdb : (x == ("__debug__" : Str)) = false := by decide) (he : starEach (e :: es) X.env = (false, eval e X.env) :: starEach es X.env := by rfl) (hpl : (backTo pos (starEach es X.env)).any (·.1) = false := by rfl) :
    PE (X.suite a ((a, oe) :: pn)) (.Call (.Name x q) (e :: es) [] pos) (tCallE a cls d sp t) := by
  refine ⟨fun pins s σ H Q I h => ?_⟩
  refine wpAny_Call_Name_kw (ld_glob I hg hm ?_ hdb)
  refine PySem.W.callWith_K (h₀ := X.base) I.ok.mod.kin hk (thn (ha.run pos pins s σ H _ I h) fun us s1 ⟨vs, H1, I1, r, q⟩ => ⟨I1.kIn, ?_⟩) he hpl
  have hl : us.length = ps.length := by rw [← r.length]; exact F.len _ _ _ _ _ _ _ q
  have b := hb s1 us I1.kIn (by rw [List.append_nil]; exact hl)
  rw [List.append_nil] at b
  have P1 := I1.pin (a, oe) (List.mem_append_left _ List.mem_cons_self)
  have hpin : PinOk X.stack H1 s1 (a, oe) := ⟨P1.1, P1.2.1, fun hm => (List.mem_cons.mp (I1.stkSub a hm)).elim P1.2.2.1 P1.2.2.2.1, P1.2.2.2.2⟩
  refine wpAny_call (codeAny_mono (F.run (X.A.mark (some (.ref a))) X.stack s1 H1 ⟨us, []⟩ us vs Q E0 (a, oe) cls d ⟨hr.dp, hr.un⟩ hpin hz hf I1.env0 b r q) fun r s' hq => ?_)
  cases r with
  | error e => exact (show False from hq).elim
  | ok fl =>
    cases fl with
    | ret u => exact I1.after hq
    | next => exact False.elim hq
    | brk => exact False.elim hq
    | cont => exact False.elim hq
end
/-! ### what such a def may ask of it: its class, its fields -/
/-- what the class D must say, so that isinstance asks its instances rightly -/
structure ClsE (K : PySem.W.Frag) (D : Addr) : Prop where
  cl : (PySem.W.clsIn K D).isSome = true
  ga : PySem.W.findIn K (.ref D) "__getattribute__" = some (some (.builtin "BaseException.__getattribute__"))
  gg : PySem.W.findIn K (.ref D) "__getattr__" = some none
  su : PySem.W.subIn K (.ref D) (.type "BaseException") = some true
  hd : PySem.W.hasDictIn K D = true
  ca : PySem.W.findIn K (.ref D) "__class__" = some (some (.builtin "object.__class__"))
  gt : PySem.W.specialIn K (.builtin "object.__class__") "__get__" = some (some (.builtin "getset_descriptor.__get__"))
  tk : PySem.W.takesIn K (.builtin "object.__class__") = some true
  mr : PySem.W.mroIn K D (.type "object") = some true
def rIsP (K : PySem.W.Frag) (D a dd : Addr) : List V → Hp → VK → Prop := fun xs H Q => ∃ (c : V) (cv : Value) (b : Bool) (fs : List (Str × V)), xs = [.ref a, c] ∧ (∀ u, RelV c u → u = cv) ∧ H dd = some (.xd fs) ∧ PySem.W.kitOne K (.ref D) cv = some b ∧ Q (.bl b) H
section
variable {X : Cx} {D dd : Addr} {p : Addr × Obj}
theorem call_isP (C : ClsE X.K D) (hp : p ∈ X.pn) (hz : Zc (.ref D) (some dd) p.2) (hf : ∃ vs, p.2.data = .fields vs) : CallR X (.builtin "isinstance") (rIsP X.K D p.1 dd) := by
  intro pins s σ H xs us Q I r h
  obtain ⟨c, cv, b, fs, rfl, hcv, ed, e, q⟩ := h
  cases r with
  | cons rx rr =>
    cases rr with
    | cons rt rr =>
      cases rr
      cases rx
      have ec := hcv _ rt
      subst ec
      obtain ⟨hget, _⟩ := I.pin p (List.mem_append_left _ hp)
      obtain ⟨vs, hv⟩ := hf
      obtain ⟨mA, hns, _⟩ := (show ObjOk X.prog X.w H s.heap dd (.xd fs) from I.hok dd _ ed)
      obtain ⟨od, ho, _⟩ := lookIn_ns hns
      have J : PySem.W.InstAt s.heap p.1 p.2 D (some od) := ⟨hget, hz.1, by unfold PySem.W.notCls; rw [hv] <;> rfl, by rw [hz.2]; exact ho⟩
      exact PySem.W.kia_one (PySem.W.kitx_exc C.cl C.ga C.gg C.su C.ca C.gt C.tk C.mr) I.kIn J e (fun z => nomatch z) fun tk => ⟨.bl b, H, I.kept (t' := tk) fun _ _ z => z, rfl, q⟩
/-- e.f -/
def tXp (a dd : Addr) (f : Str) (te : TE) : TE := fun σ H Q => te σ H fun x H1 => x = .ref a ∧ ∃ (fs : List (Str × V)) (v : V), H1 dd = some (.xd fs) ∧ fs.lookup f = some v ∧ Q v H1
theorem pe_xp {e : Expr} {te : TE} {pos : Pos} {n : Str} (T : ClsE X.K D) (hno : PySem.W.findIn X.K (.ref D) n = some none) (hp : p ∈ X.pn) (hz : Zc (.ref D) (some dd) p.2) (hf : ∃ vs, p.2.data = .fields vs) (he : PE X e te)
    (hb : attributeBase e n X.env (eval e X.env) = eval e X.env := by rfl) : PE X (.Attribute e n pos) (tXp p.1 dd n te) := by
  refine ⟨fun pins s σ H Q I h => ?_⟩
  refine attr_of hb (thn (he.run pins s σ H _ I h) fun u s1 hh => ?_)
  obtain ⟨x, H1, I1, rx, ex, fs, v, ea, l, q⟩ := hh
  subst ex
  obtain rfl : u = Value.ref p.1 := rx
  obtain ⟨ha, _⟩ := I1.pin p (List.mem_append_left _ hp)
  obtain ⟨vs, hd⟩ := hf
  obtain ⟨mA, hns, hr⟩ := (show ObjOk X.prog X.w H1 s1.heap dd (.xd fs) from I1.hok dd _ ea)
  obtain ⟨od, ho, hl⟩ := lookIn_ns hns
  obtain ⟨u, hu, ru⟩ := RelO.some_of (v := v) (o := mA n) (by rw [← l]; exact hr n)
  have J : PySem.W.InstAt s1.heap p.1 p.2 D (some od) := ⟨ha, hz.1, by unfold PySem.W.notCls; rw [hd] <;> rfl, by rw [hz.2]; exact ho⟩
  exact HandSPX.exc_get I1.kIn J T.ga T.gg T.su (PySem.W.findObj_own T.hd hno rfl (by rw [hl, hu])) (handed_of ru) ⟨v, H1, I1.tok _, ru, q⟩
end
end My
namespace My
open PySem PySem.Spec PyProof.Rows L2
/-! ### C.__init__(self, ..): the def of a class above, called by the class's name -/
section
variable {X : Cx} {CX : CXT} {k : Nat} {f C : Addr} {fd : FuncData} {ps : List Str} {sp : Sp} {dvs : List V} {ds : List Value} {E : XK} {x m : Str} {p1 p2 pos : Pos} {e : Expr} {es : List Expr} {t : TA}
theorem pe_cinit {pl : Sem Bool} (hg : Gl X x) (hm : X.mg x = some (.ref C)) (sg : PySem.W.specialIn X.K (.ref C) "__getattribute__" = some (some (.builtin "type.__getattribute__"))) (rd : PySem.W.readsIn X.K C (.type "type") = true)
    (fc : PySem.W.findCls X.K (.ref C) (.type "type") m = some (.val (.ref f))) (F : FnOk X.prog X.w X.K X.mg X.base CX k f fd ps sp) (hr : Room k X.A) (hk : PySem.W.keepIn X.K (.ref f) = true) (hb : Binds X.K fd ps ds) (hd : Vals dvs ds) (hx : Passes CX X E) (ha : PA X (e :: es) t)
    (ht : eval (.Call (.Attribute (.Name x p1) m p2) (e :: es) [] pos) X.env = (do
      let ov ← eval (.Name x p1) X.env
      standAt p2.atName
      let (f, first) ← holding [ov] (getMethod ov m pl)
      callWith pos f first (backTo pos (starEach (e :: es) X.env)) (backToKw pos (keywordEach [] X.env))) := by rfl)
    (hdb : (x == ("__debug__" : Str)) = false := by decide) (he : starEach (e :: es) X.env = (false, eval e X.env) :: starEach es X.env := by rfl) (hpl : (backTo pos (starEach es X.env)).any (·.1) = false := by rfl) :
    PE X (.Call (.Attribute (.Name x p1) m p2) (e :: es) [] pos) (tCall sp dvs E t) := by
  refine ⟨fun pins s σ H Q I h => ?_⟩
  refine PySem.W.methodCall_KW (pl := pl) (ld_glob I hg hm ?_ hdb) ht
  refine PySem.W.method_cls I.kIn sg (PySem.W.cls_value I.kIn rd fc rfl ?_)
  refine PySem.W.callWith_K (first := []) (h₀ := X.base) I.ok.mod.kin hk (thn (ha.run pos pins _ σ H _ (I.tok _) h) fun us s2 ⟨vs, H2, I2, r, q⟩ => ⟨I2.kIn, ?_⟩) he hpl
  exact run_fn F hr hb hd hx I2 r q
end
end My
namespace My
open PySem PySem.Spec PyProof.Rows L2
section
variable {X : Cx} {p pos : Pos}
/-- raise C(): nothing is handed in -/
theorem pmk_oex0 {CX : CXT} {x : Str} {C fI : Addr} {k : Nat} {fd : FuncData} {ps : List Str} {sp : Sp} {ds : List Value} {dvs : List V} (T : OexC X.K C) (iC : PySem.W.findIn X.K (.ref C) "__init__" = some (some (.ref fI))) (tI : PySem.W.typeIn X.K (.ref fI) = some (.type "function"))
    (F1 : FnOk X.prog X.w X.K X.mg X.base CX k fI fd ps sp) (hr : Room (k + 1) X.A) (hb : Binds X.K fd ps ds) (hd : Vals dvs ds) (hx : Passes CX X (fun _ _ _ => False)) (hg : Gl X x) (hm : X.mg x = some (.ref C))
    (hdb : (x == ("__debug__" : Str)) = false := by decide) :
    PMk X (.Call (.Name x p) [] [] pos) (tMkO C sp dvs tNil) := by
  intro pins s σ H Q I h
  obtain ⟨nm, q, N, bs, bm, sn, sub, ab, col, dd, k0, k1, k2, k3, k5, hC, hbm⟩ := T.cls
  obtain ⟨hz, q1⟩ := h
  refine wpAny_Call_Name_kw (ld_glob I hg hm ?_ hdb)
  refine PySem.W.callWith_K0 I.kIn T.kC ?_
  show wpAny _ _ (call (.ref C) []) _ _ _
  obtain ⟨hp, g, dr, tk, os⟩ := s
  have hsz : hp.objs.size ≤ hp.objs.size + 1 := Nat.le_succ _
  have hn : H (hp.objs.size + 1) = none := I.hok.fresh hsz
  have hq := q1 (hp.objs.size + 1) hn
  have kk : ∀ b o, hp.get? b = some o → ((hp.push (PySem.W.kdv_tup [])).push (PySem.HandSPX.excO C hp.objs.size)).get? b = some o := fun b o e => Heap.get?_push_of_some _ (Heap.get?_push_of_some _ e)
  have hget : ((hp.push (PySem.W.kdv_tup [])).push (PySem.HandSPX.excO C hp.objs.size)).get? (hp.objs.size + 1) = some (PySem.HandSPX.excO C hp.objs.size) := by heap_get
  have I2 : Inv X pins σ (upd H (hp.objs.size + 1) (exo (hp.objs.size + 1) C none)) ⟨(hp.push (PySem.W.kdv_tup [])).push (PySem.HandSPX.excO C hp.objs.size), g, dr, tk, os⟩ :=
    I.laid (t' := tk) (a := hp.objs.size + 1) (o := exo (hp.objs.size + 1) C none) (h' := (hp.push (PySem.W.kdv_tup [])).push (PySem.HandSPX.excO C hp.objs.size)) kk hsz (exo_ok hget)
  have r2 : Vals (V.ref (hp.objs.size + 1) :: ([] ++ dvs)) ([Value.ref (hp.objs.size + 1)] ++ ds) := .cons rfl hd
  have hl : ([Value.ref (hp.objs.size + 1)] ++ ds).length = ps.length := by
    have e := r2.length
    rw [F1.len _ _ _ _ hq] at e
    exact e.symm
  have hbb := hb ⟨(hp.push (PySem.W.kdv_tup [])).push (PySem.HandSPX.excO C hp.objs.size), g, dr, tk, os⟩ [Value.ref (hp.objs.size + 1)] I2.kIn hl
  refine wpAny_call (PySem.HandSPX.call_own F.excBase_ValueError (fun Y => PySem.HandSPX.refsVE_contains Y bm hbm) (I.kIn _ _ hC) (PySem.W.looks_findIn I.kIn iC) (fun self => PySem.W.bind_fn I.kIn self tI) (by show 0 ≤ sizeLine; decide)
    (codeAny_mono (F1.run _ X.stack _ _ ⟨[Value.ref (hp.objs.size + 1)], []⟩ ([Value.ref (hp.objs.size + 1)] ++ ds) _ _ (fun _ _ _ => False) (hr.make C [] []) (I2.env0.make C [] []) hbb r2 hq) fun r s' hq' => ?_))
  cases r with
  | error er => exact hx pins σ _ _ er s' I2 hq'
  | ok fl =>
    cases fl with
    | ret u =>
      obtain ⟨v, H2, os2, bare2, un2, hok2, rv, ev, d, fs, ea, ed, hd1, q2⟩ := hq'
      subst ev
      obtain ⟨h2, g2, d2, t2, os'⟩ := s'
      exact ⟨rv, mk_end (raises_own T.exC T.tyC) I hsz kk un2 hok2 os2 bare2 ea ed hd1 q2⟩
    | next => exact False.elim hq'
    | brk => exact False.elim hq'
    | cont => exact False.elim hq'
end
end My
namespace My
open PySem L2
def spWordI (K : PySem.W.Frag) (C : Addr) (w : Str) : Sp := fun vs H Q _ => ∃ (a : Addr), vs = [.ref a] ∧ H a = some (exo a C none) ∧
  ∀ dx H', H dx = none → dx ≠ a → H' a = some (exo a C (some dx)) → H' dx = some (exd dx [(Str.ofString "word", .str w)]) → (∀ b, b ≠ a → b ≠ dx → H' b = H b) → Q .non H'
/-- such an exception: word and name -/
def spNameI (K : PySem.W.Frag) (C : Addr) (w : Str) : Sp := fun vs H Q _ => ∃ (a : Addr) (z : Str), vs = [.ref a, .str z] ∧ H a = some (exo a C none) ∧
  ∀ dx H', H dx = none → dx ≠ a → H' a = some (exo a C (some dx)) → H' dx = some (exd dx [(Str.ofString "name", .str z), (Str.ofString "word", .str w)]) → (∀ b, b ≠ a → b ≠ dx → H' b = H b) → Q .non H'
end My
namespace My
open PySem PyProof.Rows L2
/-! ### the tables of code objects, and a heap of which the tables alone are written -/
theorem ext_l {K : PySem.W.Frag} {H H1 : Hp} {a : Addr} {xs : List V} (e : LamX.ExtN H H1) (h : SqL K H a xs) : SqL K H1 a xs := by
  rcases h with (h | ⟨o, h⟩) | h
  · exact .inl (.inl (e _ _ h fun ps z => nomatch z))
  · exact .inl (.inr ⟨o, e _ _ h fun ps z => nomatch z⟩)
  · exact .inr h
theorem ext_t {K : PySem.W.Frag} {H H1 : Hp} {a : Addr} {xs : List V} (e : LamX.ExtN H H1) (h : SqT K H a xs) : SqT K H1 a xs := by
  rcases h with (h | ⟨o, h⟩) | h
  · exact .inl (.inl (e _ _ h fun ps z => nomatch z))
  · exact .inl (.inr ⟨o, e _ _ h fun ps z => nomatch z⟩)
  · exact .inr h
mutual
theorem dp_ext {K : PySem.W.Frag} {H H1 : Hp} (e : LamX.ExtN H H1) : ∀ {d : PyData} {v : V}, Dp K H v d → Dp K H1 v d
  | _, _, .non => .non
  | _, _, .bl b => .bl b
  | _, _, .int i => .int i
  | _, _, .str x => .str x
  | _, _, .lst h a => .lst (ext_l e h) (dpAll_ext e a)
  | _, _, .tup h a => .tup (ext_t e h) (dpAll_ext e a)
theorem dpAll_ext {K : PySem.W.Frag} {H H1 : Hp} (e : LamX.ExtN H H1) : ∀ {ds : List PyData} {vs : List V}, DpAll K H vs ds → DpAll K H1 vs ds
  | _, _, .nil => .nil
  | _, _, .cons a b => .cons (dp_ext e a) (dpAll_ext e b)
end
theorem DrawAt.ext {H H1 : Hp} {d l : Addr} (h : DrawAt H d l) (e : LamX.ExtN H H1) : DrawAt H1 d l := by
  obtain ⟨ns, p, g, s, e1, e2, r⟩ := h.ex
  exact ⟨⟨ns, p, g, s, e _ _ e1 (fun ps z => nomatch z), e _ _ e2 (fun ps z => nomatch z), r⟩⟩
/-- the draw may be written -/
theorem tabs_but {T : List (Addr × Str)} {H H1 : Hp} {d l : Addr} (t : LamX.Tabs T H) (D : DrawAt H d l) (b : But (Only1 d) H H1) : LamX.Tabs T H1 := fun p hp => by
  obtain ⟨ps, h1, h2, h3⟩ := t p hp
  obtain ⟨ns, z1, z2, z3, ed, _⟩ := D.ex
  have n1 : ¬ Only1 d p.1 := fun z => by
    rw [show p.1 = d from z, ed] at h1
    cases h1
  refine ⟨ps, b _ _ h1 n1, h2, fun pos cv hc => ?_⟩
  obtain ⟨c, e1, e2⟩ := h3 pos cv hc
  refine ⟨c, e1, b _ _ e2 fun z => ?_⟩
  rw [show c = d from z, ed] at e2
  cases e2
/-- a def by its body, its code object told -/
theorem okC {P : Program} {w : World} {K : PySem.W.Frag} {mg : Str → Option Value} {base : Heap} {x qual : Str} {st : Stmt} {f c : Addr} {fd : FuncData} {N ps : List Str} {k : Nat} {sp : Sp} (F : Fun K x qual st f fd) (S : FnScope N ps (defScope st)) (len : ∀ vs H Q E, sp vs H Q E → vs.length = ps.length) (hc : fd.code = .ref c)
    (hbody : ∀ (A : Around) (outer : List Env) (s : Shared) (H : Hp) (vs : List V) (Q : VK) (E : XK), Room k (A.deeper (envOfC qual (defScope st) s.heap.objs.size f (.ref c))) → sp vs H Q E →
      ∃ t, PSs (cxOf CX0 P w K mg base N qual (defScope st) f (.ref c) A outer s H E).nox (defBody st) t ∧ t { nx := fun _ H' => Q .non H', rt := Q } (L2.start N vs) H) : FnOk P w K mg base CX0 (k + 1) f fd ps sp := by
  obtain ⟨oc, od, kV, doc, pm, an, cdv, ct, osl, rfl, lk, hcd⟩ := F.ex
  obtain rfl : cdv = .ref c := hc
  refine fn_of lk hcd S len fun A outer s H vs Q E hr hsp => ?_
  obtain ⟨t, h, q⟩ := hbody A outer s H vs Q E hr hsp
  exact ⟨t, h.nox, q⟩
/-- nothing is let out -/
theorem passX0 {X : Cx} {P : Program} {w : World} : Passes (L2.CX P w) X E0 := fun pins σ H s e s' I c => by
  obtain ⟨a, B, H', cls, d, _, _, _, _, _, _, _, h⟩ := c
  exact h.elim
end My
namespace My
open PySem PySem.Spec PyProof.Rows L2
/-! ### dict(t) of a tuple of pairs -/
section
variable {X : Cx}
def rDictT (K : PySem.W.Frag) : List V → Hp → VK → Prop := fun xs H Q => ∃ (a : Addr) (o : Obj) (ps : List Addr) (kvs : List (L2.Key × V)), xs = [.ref a] ∧ H a = some (.frz o (.tup (ps.map V.ref))) ∧ o.dict = none ∧ Paired (fun (p : Addr) (kv : L2.Key × V) => SqT K H p [kV kv.1, kv.2]) ps kvs ∧
    ∀ p, H p = none → Q (.ref p) (upd H p (.dK (mergeK [] kvs)))
theorem call_dictT (hcalm : X.calm = true) : CallR X (.type "dict") (rDictT X.K) := by
  intro pins s σ H xs us Q I r q
  obtain ⟨a, o, ps, kvs, ex, ea, hod, hp, q⟩ := q
  subst ex
  obtain ⟨u, eu, rx⟩ := vals1 r
  subst eu
  cases rx
  obtain ⟨hget, hz, its, rv, o', ho', hc, n, hdat⟩ := (show ObjOk X.prog X.w H s.heap a (.frz o (.tup (ps.map V.ref))) from I.hok a _ ea)
  rw [hget] at ho'
  cases ho'
  have ei := refs_at rv
  subst ei
  rw [List.length_map] at hz
  obtain ⟨prs, rel, hl, hpr⟩ := pairs_of I hp
  have hm : (s.heap.objs.size == sysModules) = false := beq_eq_false_iff_ne.mpr (Nat.ne_of_gt I.big)
  have hlen : (mergeK [] kvs).length ≤ sizeLine := by
    refine Nat.le_trans (length_mergeK kvs []) ?_
    rw [List.length_nil, Nat.zero_add, rel.length, hl]
    exact hz
  -- the keys' own values stand in the pairs
  have hex : ∀ (j : Nat) (q : L2.Key × Value), prs[j]? = some q → ∃ (b : Addr) (u : Value), ps[j]? = some b ∧ IsTup s.heap b #[u, q.2] ∧ keyIs q.1 u = true := hpr
  let kvp : List (Value × Value) := (List.range prs.length).map fun j => ((match s.heap.get? ((ps[j]?).getD 0) with | some o => (match o.data with | .seq its _ => its[0]?.getD .none | _ => .none) | none => .none), ((prs[j]?).map (·.2)).getD .none)
  have hk : ∀ (j : Nat) (k v : Value), kvp[j]? = some (k, v) → ∃ (b : Addr) (q : L2.Key × Value), prs[j]? = some q ∧ ps[j]? = some b ∧ IsTup s.heap b #[k, v] ∧ keyIs q.1 k = true ∧ q.2 = v := by
    intro j k v e
    have hj : j < prs.length := by
      have := (List.getElem?_eq_some_iff.mp e).1
      simpa [kvp] using this
    obtain ⟨q, eq⟩ : ∃ q, prs[j]? = some q := ⟨prs[j], List.getElem?_eq_getElem hj⟩
    obtain ⟨b, u, e1, e2, e3⟩ := hex j q eq
    obtain ⟨ob, g1, g2, m, g3⟩ := id e2
    have ek : kvp[j]? = some (u, q.2) := by
      simp only [kvp, List.getElem?_map, List.getElem?_range hj, Option.map_some, e1, eq, Option.getD_some, g1, g3]
      rfl
    rw [ek] at e
    cases e
    exact ⟨b, q, eq, e1, e2, e3, rfl⟩
  have lk : kvp.length = prs.length := by simp [kvp]
  refine PySem.call_dict_pairs (knd := mixKind X.prog X.w) (kvs := prs) (PairArg.tuple a (ps.map Value.ref).toArray (fun j : Nat => (ps[j]?).getD 0) kvp) (I.ok.hd hcalm) ⟨⟨o, n, hget, hc, hod, hdat⟩, by simp [lk, hl], fun j k v e => ?_⟩ ⟨lk.symm, fun j k v e => ?_⟩ (by rw [lk, hl]; exact hz) fun h' tk hd' kp => ?_
  · obtain ⟨b, q', _, e1, e2, _⟩ := hk j k v e
    refine ⟨by simp [e1], Or.inl ?_⟩
    simp only [e1, Option.getD_some]
    exact e2
  · obtain ⟨b, q', eq, e1, e2, e3, e4⟩ := hk j k v e
    exact ⟨q'.1, by rw [eq, ← e4], e3⟩
  · exact ⟨.ref s.heap.objs.size, upd H s.heap.objs.size (.dK (mergeK [] kvs)), I.laid (t' := tk) (fun b o e => kp b o (by simp) e) (Nat.le_refl _) (show ObjOk X.prog X.w _ _ _ (.dK (mergeK [] kvs)) from ⟨hlen, hm, merged [] prs, KV.merge rel .nil, hd'⟩), rfl, q _ (I.hok.fresh (Nat.le_refl _))⟩
end
/-! ### d == {} of a dict whose keys are tuples -/
section
variable {prog : Program} {w : World} {A : Around} {E : Value → Shared → Prop} {s : Shared}
theorem samePairs_none {nm : String} {a b : Addr} {oa ob : Obj} {es es' : Array DictEntry} {ep ep' : Nat} {Q : Bool → Shared → Prop} (ha : (a == sysModules) = false) (hb : (b == sysModules) = false) (hoa : s.heap.get? a = some oa) (hda : oa.data = .dict es ep)
    (hob : s.heap.get? b = some ob) (hdb : ob.data = .dict es' ep') (he : es'.size = 0) (h : Q (decide (es.size = 0)) s) : wpAny (model prog w) A (Builtin.Dict.samePairs nm a b) Q E s := by
  unfold Builtin.Dict.samePairs Builtin.Dict.showsAll
  rw [if_neg (show ¬ (a == sysModules) = true by rw [ha]; exact Bool.false_ne_true), if_neg (show ¬ (b == sysModules) = true by rw [hb]; exact Bool.false_ne_true)]
  refine wpAny_bind (wpAny_pure (wpAny_bind (wpAny_pure ?_)))
  refine wpAny_bind (wpAny_dictEntries hoa hda ?_)
  dsimp only
  refine wpAny_bind (wpAny_dictEntries hob hdb ?_)
  by_cases hsz : es.size = 0
  · rw [if_neg (by rw [hsz, he]; simp)]
    rw [decide_eq_true hsz] at h
    refine wpAny_bind (wpAny_dictEpoch hoa hda ?_)
    refine wpAny_bind ?_
    rw [Std.Legacy.Range.forIn_eq_forIn_range']
    simp only [Std.Legacy.Range.size, Nat.sub_zero, Nat.add_sub_cancel, Nat.div_one, hsz]
    rw [show List.range' 0 0 = ([] : List Nat) from rfl, List.forIn_nil]
    exact wpAny_pure (wpAny_pure h)
  · rw [if_pos (by rw [he]; simpa using hsz)]
    rw [decide_eq_false hsz] at h
    exact wpAny_bind (wpAny_rule (wpAny_pure h))
end
section
variable {X : Cx}
def rEqE (P : Program) (w : World) : R2 := fun x y H Q => ∃ (d e : Addr) (kvs : List (NestedKey × Addr × V)), x = .ref d ∧ y = .ref e ∧ ND P w H d kvs ∧ ND P w H e [] ∧ Q (.bl (decide (kvs.length = 0))) H
theorem ND.entries {P : Program} {w : World} {H : Hp} {h : Heap} {d : Addr} {kvs : List (NestedKey × Addr × V)} (x : ND P w H d kvs) (ok : HOk P w H h) : ∃ (o : Obj) (es : Array DictEntry) (ep : Nat), h.get? d = some o ∧ o.data = .dict es ep ∧ es.size = kvs.length ∧ (d == sysModules) = false := by
  obtain ⟨o, es, ep, xs, e1, e2, e3, e4, e5, e6, e7⟩ := x.ex
  obtain ⟨φ, _, _⟩ := (show ObjOk P w H h d (.ext fun h => h.get? d = some o) from ok d _ e1)
  refine ⟨o, es, ep, φ, e4, ?_, e2⟩
  have h1 : es.toList.length = xs.length := by rw [e5, List.length_map]
  have h2 : kvs.length = xs.length := Paired.length e7
  rw [Array.length_toList] at h1
  omega
theorem op_eqE (hu : X.A.units < cLine) : OpR X (compareOp .Eq) (rEqE X.prog X.w) := by
  intro pins s σ H x y v u Q I rx ry h
  obtain ⟨d, e, kvs, rfl, rfl, nd, ne, q⟩ := h
  obtain rfl : v = Value.ref d := rx
  obtain rfl : u = Value.ref e := ry
  obtain ⟨xs, dd, _⟩ := nd.dict I.hok
  obtain ⟨xs', de, _⟩ := ne.dict I.hok
  obtain ⟨oa, es, ep, hoa, hda, hsa, hma⟩ := nd.entries I.hok
  obtain ⟨ob, es', ep', hob, hdb, hsb, hmb⟩ := ne.entries I.hok
  show wpAny (model X.prog X.w) X.A (richCompare .Eq (.ref d) (.ref e)) _ _ s
  refine wpAny_richCompare_same_room (op := .Eq) dd.typeIs de.typeIs PySem.F.slot_dict_eq (wpAny_call_entry PySem.F.slot_dict_eq dd.typeIs PySem.F.entry_dict_eq ?_ (PySem.F.args_dict_eq_2 _ _)) hu
  show wpAny _ _ (Builtin.Dict.dictSlotArgs "__eq__" ⟨[.ref d, .ref e], []⟩ >>= _) _ _ s
  refine wpAny_bind ?_
  unfold Builtin.Dict.dictSlotArgs
  refine wpAny_bind (wpAny_notOrdered_dict dd.typeIs ?_)
  show wpAny _ _ (pure (Value.ref d, Value.ref e)) _ _ s
  refine wpAny_pure ?_
  refine wpAny_bind (wpAny_isInstance (T := "dict") de.typeIs PySem.F.sub_dict_dict ?_)
  simp only [Bool.not_true, Bool.false_eq_true, if_false]
  refine wpAny_bind (wpAny_pure (wpAny_bind (wpAny_pure ?_)))
  refine wpAny_bind (samePairs_none hma hmb hoa hda hob hdb hsb ?_)
  refine wpAny_pure ⟨_, rfl, ?_, ?_⟩
  · exact fun x => nomatch x
  · rw [hsa]
    refine ⟨.bl _, H, I, rfl, ?_⟩
    rw [show (decide (kvs.length = 0) == true) = decide (kvs.length = 0) by cases decide (kvs.length = 0) <;> rfl]
    exact q
end
/-! ### max of a list of pairs of whole numbers -/
def pairD (p : Int × Int) : PyData := .tuple [.int p.1, .int p.2]
def maxP : List (Int × Int) → Int × Int
  | [] => (0, 0)
  | x :: l => l.foldl (fun a y => if PySem.W.dataLt (pairD a) (pairD y) then y else a) x
theorem maxD_pairs (x : Int × Int) : ∀ l : List (Int × Int), PySem.W.maxD (pairD x) (l.map pairD) = pairD (maxP (x :: l)) := by
  intro l
  show List.foldl (fun a y => if PySem.W.dataLt a y = true then y else a) (pairD x) (l.map pairD) = pairD (l.foldl (fun a y => if PySem.W.dataLt (pairD a) (pairD y) = true then y else a) x)
  induction l generalizing x with
  | nil => rfl
  | cons y l ih =>
    rw [List.map_cons, List.foldl_cons, List.foldl_cons, ← ih]
    by_cases c : PySem.W.dataLt (pairD x) (pairD y) = true
    · rw [if_pos c, if_pos c]
    · rw [if_neg c, if_neg c]
theorem alike_pairs (l : List (Int × Int)) : PySem.W.AlikeAll (l.map pairD) := by
  refine ⟨fun x hx y hy => ?_, fun x hx => ?_⟩
  · obtain ⟨a, _, rfl⟩ := List.mem_map.mp hx
    obtain ⟨b, _, rfl⟩ := List.mem_map.mp hy
    rfl
  · obtain ⟨a, _, rfl⟩ := List.mem_map.mp hx
    exact fun z => nomatch z
theorem depth_pairs : ∀ l : List (Int × Int), PyData.depthAll (l.map pairD) ≤ 2
  | [] => by simp [PyData.depthAll]
  | x :: l => by
    have := depth_pairs l
    rw [List.map_cons]
    simp only [PyData.depthAll, pairD, PyData.depth]
    omega
section
variable {X : Cx}
def rMaxP (K : PySem.W.Frag) : List V → Hp → VK → Prop := fun vs H Q => ∃ (a : Addr) (ys : List V) (l : List (Int × Int)), vs = [.ref a] ∧ SqL K H a ys ∧ DpAll K H ys (l.map pairD) ∧ l ≠ [] ∧ ∀ v, Dp K H v (pairD (maxP l)) → Q v H
theorem cr_maxP (hc : X.calm = true) (hu : X.A.units + 64 < cLine) : CallR X (.builtin "max") (rMaxP X.K) := by
  intro pins s σ H xs us Q I r h
  obtain ⟨a, ys, l, rfl, hs, hd, hne, q⟩ := h
  obtain ⟨u, rfl, rx⟩ := vals1 r
  cases rx
  obtain ⟨its, rv, pl, hz⟩ := I.list hs
  cases l with
  | nil => exact absurd rfl hne
  | cons x l =>
    obtain ⟨as, hr⟩ := Dp.readsAll I _ _ _ hd rv
    rw [List.map_cons] at hr hd
    have hdp := depth_pairs (x :: l)
    rw [List.map_cons] at hdp
    refine PySem.W.max_list_data (I.ok.hd hc) pl.isList (by simpa using hr) (by have := alike_pairs (x :: l); rw [List.map_cons] at this; exact this) (by omega) fun i v h' tk bs hv hR kp => ?_
    have hv' : its[i]? = some v := by simpa using hv
    obtain ⟨y, hy, ry⟩ : ∃ y, ys[i]? = some y ∧ RelV y v := by
      have hi : i < ys.length := by
        rw [rv.length]
        exact (List.getElem?_eq_some_iff.mp hv').1
      obtain ⟨u, hu, ru⟩ := rv.get (List.getElem?_eq_getElem hi)
      rw [hv'] at hu
      cases hu
      exact ⟨_, List.getElem?_eq_getElem hi, ru⟩
    obtain ⟨d, hdi, dy⟩ := hd.get hy
    have I2 : Inv X pins σ H { s with heap := h', toks := tk } := I.kept kp
    obtain ⟨as2, hr2⟩ := Dp.reads I2 _ _ _ dy ry
    have e := (PySem.Reads.unique hr2 _ _ hR).1
    rw [maxD_pairs] at e
    rw [e] at dy
    exact ⟨y, H, I2, ry, q y dy⟩
end
end My
namespace My
open PySem L2
/-! ### growths of sums: what both sides compute -/
def plusT (t : Trm) : Trm := (t.1, ((t.2.1.natAbs : Int), t.2.2))
def plusR (r : Rw) : Rw := (r.1, r.2.map plusT)
theorem plus_trm {top deep wide : Int} {t : Trm} (h : TrmOk top deep wide t) : TrmOk top deep wide (plusT t) := by
  have h1 := h.o0
  have h2 := h.o1
  refine ⟨h.p0, h.p1, h.f0, h.f1, ?_, ?_, h.u0, h.u1, ?_⟩
  · show (t.2.1.natAbs : Int) ≠ 0
    omega
  · show (((t.2.1.natAbs : Int)).natAbs : Int) ≤ wide
    rw [Int.natAbs_natCast]
    exact h2
  · show Int.gcd (t.2.1.natAbs : Int) t.2.2 = 1
    rw [← h.low]
    simp [Int.gcd]
theorem plus_trms {top deep wide : Int} {ts : List Trm} (h : TrmsOk top deep wide ts) : TrmsOk top deep wide (ts.map plusT) := by
  have e : (ts.map plusT).map (·.1) = ts.map (·.1) := by
    rw [List.map_map]
    rfl
  refine ⟨fun t ht => ?_, by rw [e]; exact h.nd, ?_, by rw [List.length_map]; exact h.len⟩
  · obtain ⟨u, hu, rfl⟩ := List.mem_map.mp ht
    exact plus_trm (h.each u hu)
  · rw [List.pairwise_map]
    exact h.desc
theorem trms_nil {top deep wide : Int} : TrmsOk top deep wide [] := ⟨(fun _ h => nomatch h), List.nodup_nil, List.Pairwise.nil, Nat.zero_le _⟩
theorem rows_map {top deep wide : Int} {S : List Rw} (f : List Trm → List Trm) (hf : ∀ ts, TrmsOk top deep wide ts → TrmsOk top deep wide (f ts)) (h : SumsOk top deep wide S) : SumsOk top deep wide (S.map fun r => (r.1, f r.2)) := by
  refine ⟨fun r hr => ?_, ?_, ?_, by rw [List.length_map]; exact h.len⟩
  · obtain ⟨u, hu, rfl⟩ := List.mem_map.mp hr
    exact ⟨hf _ (h.each u hu).1, (h.each u hu).2⟩
  · obtain ⟨ts, r, rfl⟩ := h.first
    exact ⟨f ts, _, rfl⟩
  · rw [List.pairwise_map]
    exact h.rise
theorem plus_ok {top deep wide : Int} {S : List Rw} (h : SumsOk top deep wide S) : SumsOk top deep wide (S.map plusR) := rows_map (List.map plusT) (fun _ => plus_trms) h
theorem noAll_ok {top deep wide : Int} {S : List Rw} (h : SumsOk top deep wide S) : SumsOk top deep wide (S.map fun r => (r.1, [])) := rows_map (fun _ => []) (fun _ _ => trms_nil) h
theorem noLast_ok {top deep wide : Int} {S : List Rw} {r : Rw} (h : SumsOk top deep wide (S ++ [r])) : SumsOk top deep wide (S ++ [(r.1, [])]) := by
  refine ⟨fun q hq => ?_, ?_, ?_, ?_⟩
  · rcases List.mem_append.mp hq with hq | hq
    · exact h.each q (List.mem_append_left _ hq)
    · rw [List.mem_singleton.mp hq]
      exact ⟨trms_nil, (h.each r (List.mem_append_right _ (List.mem_singleton.mpr rfl))).2⟩
  · obtain ⟨ts, q, e⟩ := h.first
    cases S with
    | nil =>
      rw [List.nil_append] at e
      injection e with e1 _
      exact ⟨[], [], by rw [e1]; rfl⟩
    | cons s S =>
      rw [List.cons_append] at e
      injection e with e1 _
      exact ⟨ts, S ++ [(r.1, [])], by rw [e1]; rfl⟩
  · have := h.rise
    rw [List.pairwise_append] at this ⊢
    refine ⟨this.1, List.pairwise_singleton _ _, fun a ha b hb => ?_⟩
    rw [List.mem_singleton.mp hb]
    exact this.2.2 a ha r (List.mem_singleton.mpr rfl)
  · have := h.len
    rw [List.length_append] at this ⊢
    exact this
theorem sums_ne {top deep wide : Int} {S : List Rw} (h : SumsOk top deep wide S) : S ≠ [] := by
  obtain ⟨ts, r, rfl⟩ := h.first
  exact fun z => nomatch z
/-- the last row's terms -/
def lastT (S : List Rw) : List Trm := (S.getLast?.map (·.2)).getD []
theorem lastT_snoc (S : List Rw) (r : Rw) : lastT (S ++ [r]) = r.2 := by simp [lastT]
def topK (ts : List Trm) : Int × Int := maxP (ts.map (·.1))
theorem maxP_mem {x : Int × Int} {l : List (Int × Int)} : maxP (x :: l) ∈ x :: l := by
  show l.foldl (fun a y => if PySem.W.dataLt (pairD a) (pairD y) then y else a) x ∈ x :: l
  induction l generalizing x with
  | nil => exact List.mem_singleton.mpr rfl
  | cons y l ih =>
    rw [List.foldl_cons]
    split
    · exact List.mem_cons_of_mem _ ih
    · have := ih (x := x)
      rcases List.mem_cons.mp this with e | e
      · rw [e]
        exact List.mem_cons_self
      · exact List.mem_cons_of_mem _ (List.mem_cons_of_mem _ e)
theorem topK_ok {top deep wide : Int} {ts : List Trm} (h : TrmsOk top deep wide ts) (hn : ts ≠ []) : 0 ≤ (topK ts).1 ∧ (topK ts).1 ≤ top ∧ 0 ≤ (topK ts).2 ∧ (topK ts).2 ≤ deep := by
  cases ts with
  | nil => exact absurd rfl hn
  | cons t ts =>
    have hm : topK (t :: ts) ∈ (t :: ts).map (·.1) := maxP_mem
    obtain ⟨u, hu, e⟩ := List.mem_map.mp hm
    have q := h.each u hu
    rw [← e]
    exact ⟨q.p0, q.p1, q.f0, q.f1⟩
abbrev Gr := Option (Int × Int × Int)
def trD (g : Int × Int × Int) : PyData := .tuple [.int g.1, .int g.2.1, .int g.2.2]
def grD : Gr → PyData
  | none => .none
  | some g => trD g
def evenG (many base figs : Int) : Int × Int × Int :=
  if base = 3 then (if many = 1 then (1, 2, figs) else if many = 3 then (2, 2, figs) else if many = 9 then (4, 2, figs) else (many, base, figs)) else (many, base, figs)
def plainG (ts : List Trm) : Int × Int × Int := (2 ^ (topK ts).1.toNat, 2, (topK ts).2)
/-- a growth, or none: uneven -/
def growL (S : List Rw) (many base : Int) : Option Gr :=
  if many ≤ 0 then some (if lastT S = [] then none else some (plainG (lastT S)))
  else if lastT S = [] then (if ∀ r ∈ S, r.2 = [] then some none else if worthL 0 (Builtin.Int.intBits 0 : Nat) (termsAt S 0) = (0, 1) then none else some (some (evenG many base 0)))
  else if base ^ (topK (lastT S)).1.toNat < many then some (some (evenG many base 0))
  else if many < base ^ (topK (lastT S)).1.toNat then some (some (plainG (lastT S)))
  else some (some (evenG many base ((topK (lastT S)).2 + 1)))
def dueD : Option Gr → PyData
  | none => .str "uneven"
  | some g => grD g
end My
namespace My
open PySem L2
/-! ### a heap without one cell -/
def hid (d : Addr) (H : Hp) : Hp := fun b => if b = d then none else H b
theorem hid_ne {d b : Addr} {H : Hp} (h : b ≠ d) : hid d H b = H b := if_neg h
theorem hid_same {d : Addr} {H : Hp} : Same (hid d H) H := fun b o e => by
  by_cases h : b = d
  · unfold hid at e
    rw [if_pos h] at e
    cases e
  · rw [hid_ne h] at e
    exact e
theorem hid_but {d : Addr} {H H1 : Hp} (b : But (Only1 d) H H1) : Same (hid d H) (hid d H1) := fun c o e => by
  by_cases h : c = d
  · unfold hid at e
    rw [if_pos h] at e
    cases e
  · rw [hid_ne h] at e ⊢
    exact b _ _ e h
theorem hid_mono {d : Addr} {H H1 : Hp} (s : Same H H1) : Same (hid d H) (hid d H1) := fun c o e => by
  by_cases h : c = d
  · unfold hid at e
    rw [if_pos h] at e
    cases e
  · rw [hid_ne h] at e ⊢
    exact s _ _ e
theorem hid_ext {d : Addr} {H H1 : Hp} (s : LamX.ExtN H H1) : LamX.ExtN (hid d H) (hid d H1) := fun c o e n => by
  by_cases h : c = d
  · unfold hid at e
    rw [if_pos h] at e
    cases e
  · rw [hid_ne h] at e ⊢
    exact s _ _ e n
theorem hid_of {d : Addr} {G H : Hp} (s : Same G H) (g : G d = none) : Same G (hid d H) := fun c o e => by
  rw [hid_ne (ne_of_none e g)]
  exact s _ _ e
theorem hid_at {d p : Addr} {H : Hp} {o : HO} (e : H p = some o) (n : p ≠ d) : hid d H p = some o := by
  rw [hid_ne n]
  exact e
theorem hid_upd {d p : Addr} {H : Hp} {o : HO} (n : p ≠ d) : hid d (upd H p o) = upd (hid d H) p o := funext fun b => by
  by_cases h : b = d
  · rw [upd_ne (by rw [h]; exact Ne.symm n)]
    unfold hid
    rw [if_pos h, if_pos h]
  · rw [hid_ne h]
    by_cases h2 : b = p
    · rw [h2, upd_same, upd_same]
    · rw [upd_ne h2, upd_ne h2, hid_ne h]
theorem hid_put {c : Addr} {G G' : Hp} {o : HO} (s : Same (hid c G) G') : Same (hid c G) (hid c (upd G' c o)) := fun b x e => by
  have hb : b ≠ c := fun z => by
    unfold hid at e
    rw [if_pos z] at e
    cases e
  rw [hid_ne hb, upd_ne hb]
  exact s _ _ e
theorem hid_none {c d : Addr} {H : Hp} (h : H c = none) : hid d H c = none := by
  unfold hid
  split
  · rfl
  · exact h
end My
namespace My
open PySem PySem.Spec PySem.W L2
/-! ### dict(key) of a poly's key -/
theorem nks_pairs {K : PySem.W.Frag} {H : Hp} : ∀ {l : List (Str × Int)} {items : List V}, NKs H (l.map fun x => .tup [.text x.1, .num x.2]) items →
    ∃ ps : List Addr, items = ps.map V.ref ∧ Paired (fun (p : Addr) (kv : L2.Key × V) => SqT K H p [kV kv.1, kv.2]) ps (l.map fun x => ((Sum.inr x.1 : L2.Key), V.int x.2))
  | [], _, h => by
    cases h
    exact ⟨[], rfl, .nil⟩
  | x :: r, _, h => by
    cases h with
    | cons h1 h2 =>
      cases h1 with
      | tup hb hs =>
        cases hs with
        | cons g1 g2 =>
          cases g2 with
          | cons g2 g3 =>
            cases g3
            cases g1
            cases g2
            obtain ⟨ps, e, pr⟩ := nks_pairs (K := K) h2
            exact ⟨_ :: ps, by rw [e]; rfl, .cons (.inl hb) pr⟩
def kvK (k : Int × Int) : List (L2.Key × V) := mergeK [] ((keyP k).map fun x => ((Sum.inr x.1 : L2.Key), V.int x.2))
theorem kvK_n {k : Int × Int} (h : 0 ≤ k.1) : (valV (kvK k) (Sum.inr (Str.ofString "n"))).getD (.int 0) = .int k.1 := by
  obtain ⟨p, f⟩ := k
  unfold kvK keyP
  simp only at h ⊢
  by_cases c1 : 0 < f <;> by_cases c2 : 0 < p
  · rw [if_pos c1, if_pos c2]
    rfl
  · rw [if_pos c1, if_neg c2]
    rw [show p = 0 by omega]
    rfl
  · rw [if_neg c1, if_pos c2]
    rfl
  · rw [if_neg c1, if_neg c2]
    rw [show p = 0 by omega]
    rfl
theorem kvK_f {k : Int × Int} (h : 0 ≤ k.2) : (valV (kvK k) (Sum.inr (Str.ofString "#"))).getD (.int 0) = .int k.2 := by
  obtain ⟨p, f⟩ := k
  unfold kvK keyP
  simp only at h ⊢
  by_cases c1 : 0 < f <;> by_cases c2 : 0 < p
  · rw [if_pos c1, if_pos c2]
    rfl
  · rw [if_pos c1, if_neg c2]
    rfl
  · rw [if_neg c1, if_pos c2]
    rw [show f = 0 by omega]
    rfl
  · rw [if_neg c1, if_neg c2]
    rw [show f = 0 by omega]
    rfl
end My
namespace My
open PySem L2
theorem paired_last {α β : Type} {F : α → β → Prop} {b : β} : ∀ {l : List α} {m : List β}, Paired F l (m ++ [b]) → ∃ l0 a, l = l0 ++ [a] ∧ Paired F l0 m ∧ F a b
  | _, [], h => by
    cases h with
    | cons r t =>
      cases t
      exact ⟨[], _, rfl, .nil, r⟩
  | _, c :: m, h => by
    cases h with
    | cons r t =>
      obtain ⟨l0, a, e, h1, h2⟩ := paired_last (m := m) t
      exact ⟨_ :: l0, a, by rw [e]; rfl, .cons r h1, h2⟩
theorem snoc_l {α : Type} {l : List α} (h : l ≠ []) : ∃ m a, l = m ++ [a] := ⟨l.dropLast, l.getLast h, (List.dropLast_concat_getLast h).symm⟩
theorem atI_lastV {us : List V} {u : V} : atI (us ++ [u]) (-1) = some u := by
  unfold atI
  have e : ixN (us ++ [u]).length (-1) = some us.length := by
    unfold ixN
    rw [List.length_append, List.length_singleton, if_neg (by omega)]
    rw [if_pos (by omega)]
    congr 1
    omega
  rw [e]
  simp
theorem made_sameG {H H1 : Hp} {a dx : Addr} {o : HO} {fs : List (Str × V)} (ha : H a = none) (ne : dx ≠ a) (hd : upd H a o dx = none) (fr : ∀ b, b ≠ a → b ≠ dx → H1 b = upd H a o b) : H dx = none ∧ Same H (upd (del H1 a) dx (.xd fs)) := by
  have h0 : H dx = none := by
    rw [upd_ne ne] at hd
    exact hd
  refine ⟨h0, fun b q e => ?_⟩
  have n1 : b ≠ a := fun z => by rw [z, ha] at e; cases e
  have n2 : b ≠ dx := fun z => by rw [z, h0] at e; cases e
  rw [upd_ne n2, del_ne n1, fr b n1 n2, upd_ne n1]
  exact e
theorem part_nought (x : Prt) : PyData.eqv (partD x) (.tuple [.int 0, .int 1]) = decide (x = (0, 1)) := by
  obtain ⟨a, b⟩ := x
  by_cases h : (a, b) = ((0, 1) : Prt)
  · obtain ⟨rfl, rfl⟩ := Prod.mk.inj h
    rfl
  · rw [decide_eq_false h]
    unfold partD
    simp only [PyData.eqv, PyData.eqvAll]
    by_cases h0 : a = 0
    · by_cases h1 : b = 1
      · exact absurd (by rw [h0, h1]) h
      · simp [h1]
    · simp [h0]
theorem paired_at {α β : Type} {F : α → β → Prop} : ∀ {l : List α} {m : List β} {i : Nat} {a : α}, Paired F l m → l[i]? = some a → ∃ b, m[i]? = some b ∧ F a b
  | _, _, _, _, .nil, h => by simp at h
  | _, _, 0, a, .cons (b := b) r t, h => by
    have e := Option.some.inj (show some _ = some a from h)
    subst e
    exact ⟨b, rfl, r⟩
  | _, _, i + 1, a, .cons r t, h => by
    obtain ⟨b, e, q⟩ := paired_at (i := i) t (by simpa using h)
    exact ⟨b, by simpa using e, q⟩
theorem eqv_nilD {α : Type} (f : α → PyData) (l : List α) : PyData.eqv (.list (l.map f)) (.list []) = decide (l = []) := by
  cases l with
  | nil => rfl
  | cons x l =>
    rw [decide_eq_false (fun z => nomatch z)]
    simp [PyData.eqv, PyData.eqvAll]
theorem shaped_terms (ts : List Trm) : SeqAt.shaped (.list (ts.map termD)) = true := shaped_list fun t _ => by
  constructor
  · simp [termD, partD, PyData.canLay0, PyData.canLayAll0]
  · simp [termD, partD, PyData.depth, PyData.depthAll]
theorem eqE_ {K : PySem.W.Frag} {i : Nat} {ta : Addr} {σ : L2.St} {H : Hp} {Q : VK} (ts : List Trm) (hi : σ[i]? = some (some (.ref ta))) (hd : Dp K H (.ref ta) (.list (ts.map termD))) (k : ∀ H', Same H H' → Q (.bl (decide (ts = []))) H') : tOp (rEqD K) (tVar i) (tLst tNil) σ H Q := by
  refine ⟨_, hi, by show 0 ≤ sizeLine; decide, fun L hL => ?_⟩
  refine ⟨_, .list [], hd.mono (same_upd hL), .lst (SqL.of upd_same) .nil, shaped_terms ts, rfl, ?_⟩
  rw [eqv_nilD]
  exact k _ (same_upd hL)
theorem neE_ {K : PySem.W.Frag} {i : Nat} {ta : Addr} {σ : L2.St} {H : Hp} {Q : VK} (ts : List Trm) (hi : σ[i]? = some (some (.ref ta))) (hd : Dp K H (.ref ta) (.list (ts.map termD))) (k : ∀ H', Same H H' → Q (.bl (!decide (ts = []))) H') : tOp (rNeD K) (tVar i) (tLst tNil) σ H Q := by
  refine ⟨_, hi, by show 0 ≤ sizeLine; decide, fun L hL => ?_⟩
  refine ⟨_, .list [], hd.mono (same_upd hL), .lst (SqL.of upd_same) .nil, shaped_terms ts, rfl, ?_⟩
  rw [eqv_nilD]
  exact k _ (same_upd hL)
theorem cut_init {us : List V} {u : V} : cutV (us ++ [u]) none (some (-1)) = us := by
  unfold cutV
  rw [HT.sIx_none, List.drop_zero, Nat.sub_zero]
  have e : HT.sIx (us ++ [u]).length (us ++ [u]).length (some (-1)) = us.length := by
    show (if (-1 : Int) < 0 then ((-1 : Int) + ((us ++ [u]).length : Int)).toNat else min (-1 : Int).toNat (us ++ [u]).length) = _
    rw [if_pos (by decide), List.length_append, List.length_singleton]
    omega
  rw [e, List.take_left']
  rfl
theorem DpAll_init {K : PySem.W.Frag} {H : Hp} {u : V} {d : PyData} : ∀ {us : List V} {ds : List PyData}, us.length = ds.length → DpAll K H (us ++ [u]) (ds ++ [d]) → DpAll K H us ds
  | [], [], _, _ => .nil
  | _ :: us, _ :: ds, e, .cons a b => .cons a (DpAll_init (by simpa using e) b)
end My
namespace My
open PySem L2
def topS (i : Nat) : Stmt := PySem.Challenge.pw_outgrow_k14_growths_of_sums.main.body.getD i (.Pass ⟨0, 0, 0, 0⟩)
abbrev s_law_begin : Stmt := topS 40
abbrev N_law_begin : List Str := ["_law_script"]
theorem sc_law_begin : FnScope N_law_begin ["_law_script"] (defScope s_law_begin) := ⟨rfl, rfl, rfl, by decide +kernel, rfl, by decide +kernel, by decide +kernel⟩
abbrev s_law_take : Stmt := topS 41
abbrev N_law_take : List Str := ["_law_draw", "_law_sides", "_law_cell", "_law_got"]
theorem sc_law_take : FnScope N_law_take ["_law_draw", "_law_sides"] (defScope s_law_take) := ⟨rfl, rfl, rfl, by decide +kernel, rfl, by decide +kernel, by decide +kernel⟩
abbrev s_law_gcd : Stmt := topS 42
abbrev N_law_gcd : List Str := ["_law_a", "_law_b"]
theorem sc_law_gcd : FnScope N_law_gcd ["_law_a", "_law_b"] (defScope s_law_gcd) := ⟨rfl, rfl, rfl, by decide +kernel, rfl, by decide +kernel, by decide +kernel⟩
abbrev s_law_lowest : Stmt := topS 43
abbrev N_law_lowest : List Str := ["_law_over", "_law_under", "_law_by"]
theorem sc_law_lowest : FnScope N_law_lowest ["_law_over", "_law_under"] (defScope s_law_lowest) := ⟨rfl, rfl, rfl, by decide +kernel, rfl, by decide +kernel, by decide +kernel⟩
abbrev s_law_terms : Stmt := topS 44
abbrev N_law_terms : List Str := ["_law_draw", "_law_top", "_law_deep", "_law_wide", "_law_found", "_law_k", "_law_over", "_law_key"]
theorem sc_law_terms : FnScope N_law_terms ["_law_draw", "_law_top", "_law_deep", "_law_wide"] (defScope s_law_terms) := ⟨rfl, rfl, rfl, by decide +kernel, rfl, by decide +kernel, by decide +kernel⟩
abbrev s_law_drawn_sums : Stmt := topS 45
abbrev N_law_drawn_sums : List Str := ["_law_draw", "_law_top", "_law_deep", "_law_wide", "_law_found", "_law_k"]
theorem sc_law_drawn_sums : FnScope N_law_drawn_sums ["_law_draw", "_law_top", "_law_deep", "_law_wide"] (defScope s_law_drawn_sums) := ⟨rfl, rfl, rfl, by decide +kernel, rfl, by decide +kernel, by decide +kernel⟩
abbrev s_law_plus_sums : Stmt := topS 46
abbrev N_law_plus_sums : List Str := ["_law_draw", "_law_top", "_law_deep", "_law_wide", "_law_found", "_law_since", "_law_terms_here", "_law_key", "_law_part"]
theorem sc_law_plus_sums : FnScope N_law_plus_sums ["_law_draw", "_law_top", "_law_deep", "_law_wide"] (defScope s_law_plus_sums) := ⟨rfl, rfl, rfl, by decide +kernel, rfl, by decide +kernel, by decide +kernel⟩
abbrev s_law_raised : Stmt := topS 47
abbrev N_law_raised : List Str := ["_law_part", "_law_upto", "_law_found", "_law_k"]
theorem sc_law_raised : FnScope N_law_raised ["_law_part", "_law_upto"] (defScope s_law_raised) := ⟨rfl, rfl, rfl, by decide +kernel, rfl, by decide +kernel, by decide +kernel⟩
abbrev s_law_sums_at : Stmt := topS 48
abbrev N_law_sums_at : List Str := ["_law_sums", "_law_size", "_law_terms_here", "_law_since", "_law_some", "_law_over", "_law_under", "_law_power", "_law_figures", "_law_part", "_law_more"]
theorem sc_law_sums_at : FnScope N_law_sums_at ["_law_sums", "_law_size"] (defScope s_law_sums_at) := ⟨rfl, rfl, rfl, by decide +kernel, rfl, by decide +kernel, by decide +kernel⟩
abbrev s_law_due_growth : Stmt := topS 49
abbrev N_law_due_growth : List Str := ["_law_sums", "_law_often", "_law_by_it", "_law_terms_here", "_law_top", "_law_line", "_law_figures", "_law_key", "_law_part", "_law_since", "_law_some"]
theorem sc_law_due_growth : FnScope N_law_due_growth ["_law_sums", "_law_often", "_law_by_it"] (defScope s_law_due_growth) := ⟨rfl, rfl, rfl, by decide +kernel, rfl, by decide +kernel, by decide +kernel⟩
abbrev s_law_class : Stmt := topS 50
abbrev N_law_class : List Str := ["_law_e"]
theorem sc_law_class : FnScope N_law_class ["_law_e"] (defScope s_law_class) := ⟨rfl, rfl, rfl, by decide +kernel, rfl, by decide +kernel, by decide +kernel⟩
abbrev s_law_tried : Stmt := topS 51
abbrev N_law_tried : List Str := ["_law_ask", "_law_e"]
theorem sc_law_tried : FnScope N_law_tried ["_law_ask"] (defScope s_law_tried) := ⟨rfl, rfl, rfl, by decide +kernel, rfl, by decide +kernel, by decide +kernel⟩
abbrev s_law_same : Stmt := topS 52
abbrev N_law_same : List Str := ["_law_found", "_law_due", "_law_one", "_law_other"]
theorem sc_law_same : FnScope N_law_same ["_law_found", "_law_due"] (defScope s_law_same) := ⟨rfl, rfl, rfl, by decide +kernel, rfl, by decide +kernel, by decide +kernel⟩
abbrev s_Refused_init : Stmt := inClass (topS 5) 0
abbrev N_Refused_init : List Str := ["self", "word"]
theorem sc_Refused_init : FnScope N_Refused_init ["self", "word"] (defScope s_Refused_init) := ⟨rfl, rfl, rfl, by decide +kernel, rfl, by decide +kernel, by decide +kernel⟩
abbrev s_Uneven_init : Stmt := inClass (topS 20) 0
abbrev N_Uneven_init : List Str := ["self", "name"]
theorem sc_Uneven_init : FnScope N_Uneven_init ["self", "name"] (defScope s_Uneven_init) := ⟨rfl, rfl, rfl, by decide +kernel, rfl, by decide +kernel, by decide +kernel⟩
abbrev s_greatest_powers : Stmt := topS 34
abbrev N_greatest_powers : List Str := ["poly", "key"]
theorem sc_greatest_powers : FnScope N_greatest_powers ["poly"] (defScope s_greatest_powers) := ⟨rfl, rfl, rfl, by decide +kernel, rfl, by decide +kernel, by decide +kernel⟩
abbrev s_raised : Stmt := topS 3
abbrev N_raised : List Str := ["base", "power", "found", "turn"]
theorem sc_raised : FnScope N_raised ["base", "power"] (defScope s_raised) := ⟨rfl, rfl, rfl, by decide +kernel, rfl, by decide +kernel, by decide +kernel⟩
abbrev s_even_growth : Stmt := topS 36
abbrev N_even_growth : List Str := ["many", "base", "figures", "power"]
theorem sc_even_growth : FnScope N_even_growth ["many", "base", "figures"] (defScope s_even_growth) := ⟨rfl, rfl, rfl, by decide +kernel, rfl, by decide +kernel, by decide +kernel⟩
abbrev s_common_part : Stmt := topS 24
abbrev N_common_part : List Str := ["one", "other"]
theorem sc_common_part : FnScope N_common_part ["one", "other"] (defScope s_common_part) := ⟨rfl, rfl, rfl, by decide +kernel, rfl, by decide +kernel, by decide +kernel⟩
abbrev s_lowest : Stmt := topS 25
abbrev N_lowest : List Str := ["over", "under", "by"]
theorem sc_lowest : FnScope N_lowest ["over", "under"] (defScope s_lowest) := ⟨rfl, rfl, rfl, by decide +kernel, rfl, by decide +kernel, by decide +kernel⟩
abbrev s_sum_of_two : Stmt := topS 26
abbrev N_sum_of_two : List Str := ["one", "other"]
theorem sc_sum_of_two : FnScope N_sum_of_two ["one", "other"] (defScope s_sum_of_two) := ⟨rfl, rfl, rfl, by decide +kernel, rfl, by decide +kernel, by decide +kernel⟩
abbrev s_product : Stmt := topS 27
abbrev N_product : List Str := ["one", "other"]
theorem sc_product : FnScope N_product ["one", "other"] (defScope s_product) := ⟨rfl, rfl, rfl, by decide +kernel, rfl, by decide +kernel, by decide +kernel⟩
abbrev s_worth_of : Stmt := topS 29
abbrev N_worth_of : List Str := ["poly", "values", "found", "powers", "part", "name", "power"]
theorem sc_worth_of : FnScope N_worth_of ["poly", "values"] (defScope s_worth_of) := ⟨rfl, rfl, rfl, by decide +kernel, rfl, by decide +kernel, by decide +kernel⟩
abbrev s_rows_worth : Stmt := topS 31
abbrev N_rows_worth : List Str := ["rows", "size", "poly", "since", "more"]
theorem sc_rows_worth : FnScope N_rows_worth ["rows", "size"] (defScope s_rows_worth) := ⟨rfl, rfl, rfl, by decide +kernel, rfl, by decide +kernel, by decide +kernel⟩
abbrev s_growth_of : Stmt := topS 35
abbrev N_growth_of : List Str := ["rows", "way", "name", "poly", "power", "figures", "many", "word", "base", "since", "more"]
theorem sc_growth_of : FnScope N_growth_of ["rows", "way", "name"] (defScope s_growth_of) := ⟨rfl, rfl, rfl, by decide +kernel, rfl, by decide +kernel, by decide +kernel⟩
abbrev s_read_rows : Stmt := topS 32
abbrev N_read_rows : List Str := ["told", "found", "since", "terms", "poly", "power", "figures", "part", "key"]
theorem sc_read_rows : FnScope N_read_rows ["told"] (defScope s_read_rows) := ⟨rfl, rfl, rfl, by decide +kernel, rfl, by decide +kernel, by decide +kernel⟩
abbrev s_growth : Stmt := topS 38
abbrev N_growth : List Str := ["sums", "many", "base", "way"]
theorem sc_growth : FnScope N_growth ["sums", "many", "base"] (defScope s_growth) := ⟨rfl, rfl, rfl, by decide +kernel, rfl, by decide +kernel, by decide +kernel⟩
abbrev s_law : Stmt := topS 53
abbrev N_law : List Str := ["_law_script", "_law_draw", "_law_turn", "_law_due", "_law_found", "_law_number", "_law_root", "_law_sums", "_law_since", "_law_terms_here"]
theorem sc_law : FnScope N_law ["_law_script"] (defScope s_law) := ⟨rfl, rfl, rfl, by decide +kernel, rfl, by decide +kernel, by decide +kernel⟩
structure Txt (K : PySem.W.Frag) (mg : Str → Option Value) : Type where
  a_law_begin : Addr
  d_law_begin : FuncData
  F_law_begin : Fun K "_law_begin" "_law_begin" s_law_begin a_law_begin d_law_begin
  b_law_begin : Binds K d_law_begin ["_law_script"] []
  g_law_begin : mg "_law_begin" = some (.ref a_law_begin)
  a_law_take : Addr
  d_law_take : FuncData
  F_law_take : Fun K "_law_take" "_law_take" s_law_take a_law_take d_law_take
  b_law_take : Binds K d_law_take ["_law_draw", "_law_sides"] []
  g_law_take : mg "_law_take" = some (.ref a_law_take)
  a_law_gcd : Addr
  d_law_gcd : FuncData
  F_law_gcd : Fun K "_law_gcd" "_law_gcd" s_law_gcd a_law_gcd d_law_gcd
  b_law_gcd : Binds K d_law_gcd ["_law_a", "_law_b"] []
  g_law_gcd : mg "_law_gcd" = some (.ref a_law_gcd)
  a_law_lowest : Addr
  d_law_lowest : FuncData
  F_law_lowest : Fun K "_law_lowest" "_law_lowest" s_law_lowest a_law_lowest d_law_lowest
  b_law_lowest : Binds K d_law_lowest ["_law_over", "_law_under"] []
  g_law_lowest : mg "_law_lowest" = some (.ref a_law_lowest)
  a_law_terms : Addr
  d_law_terms : FuncData
  F_law_terms : Fun K "_law_terms" "_law_terms" s_law_terms a_law_terms d_law_terms
  b_law_terms : Binds K d_law_terms ["_law_draw", "_law_top", "_law_deep", "_law_wide"] []
  g_law_terms : mg "_law_terms" = some (.ref a_law_terms)
  a_law_drawn_sums : Addr
  d_law_drawn_sums : FuncData
  F_law_drawn_sums : Fun K "_law_drawn_sums" "_law_drawn_sums" s_law_drawn_sums a_law_drawn_sums d_law_drawn_sums
  b_law_drawn_sums : Binds K d_law_drawn_sums ["_law_draw", "_law_top", "_law_deep", "_law_wide"] []
  g_law_drawn_sums : mg "_law_drawn_sums" = some (.ref a_law_drawn_sums)
  a_law_plus_sums : Addr
  d_law_plus_sums : FuncData
  F_law_plus_sums : Fun K "_law_plus_sums" "_law_plus_sums" s_law_plus_sums a_law_plus_sums d_law_plus_sums
  b_law_plus_sums : Binds K d_law_plus_sums ["_law_draw", "_law_top", "_law_deep", "_law_wide"] []
  g_law_plus_sums : mg "_law_plus_sums" = some (.ref a_law_plus_sums)
  a_law_raised : Addr
  d_law_raised : FuncData
  F_law_raised : Fun K "_law_raised" "_law_raised" s_law_raised a_law_raised d_law_raised
  b_law_raised : Binds K d_law_raised ["_law_part", "_law_upto"] []
  g_law_raised : mg "_law_raised" = some (.ref a_law_raised)
  a_law_sums_at : Addr
  d_law_sums_at : FuncData
  F_law_sums_at : Fun K "_law_sums_at" "_law_sums_at" s_law_sums_at a_law_sums_at d_law_sums_at
  b_law_sums_at : Binds K d_law_sums_at ["_law_sums", "_law_size"] []
  g_law_sums_at : mg "_law_sums_at" = some (.ref a_law_sums_at)
  a_law_due_growth : Addr
  d_law_due_growth : FuncData
  F_law_due_growth : Fun K "_law_due_growth" "_law_due_growth" s_law_due_growth a_law_due_growth d_law_due_growth
  b_law_due_growth : Binds K d_law_due_growth ["_law_sums", "_law_often", "_law_by_it"] []
  g_law_due_growth : mg "_law_due_growth" = some (.ref a_law_due_growth)
  a_law_class : Addr
  d_law_class : FuncData
  F_law_class : Fun K "_law_class" "_law_class" s_law_class a_law_class d_law_class
  b_law_class : Binds K d_law_class ["_law_e"] []
  g_law_class : mg "_law_class" = some (.ref a_law_class)
  a_law_tried : Addr
  d_law_tried : FuncData
  F_law_tried : Fun K "_law_tried" "_law_tried" s_law_tried a_law_tried d_law_tried
  b_law_tried : Binds K d_law_tried ["_law_ask"] []
  g_law_tried : mg "_law_tried" = some (.ref a_law_tried)
  a_law_same : Addr
  d_law_same : FuncData
  F_law_same : Fun K "_law_same" "_law_same" s_law_same a_law_same d_law_same
  b_law_same : Binds K d_law_same ["_law_found", "_law_due"] []
  g_law_same : mg "_law_same" = some (.ref a_law_same)
  a_Refused_init : Addr
  d_Refused_init : FuncData
  F_Refused_init : FunD K "__init__" "Refused.__init__" (defArgs s_Refused_init) (defBody s_Refused_init) (defScope s_Refused_init) [V.str "Refused"] [] a_Refused_init d_Refused_init
  b_Refused_init : Binds K d_Refused_init ["self", "word"] []
  a_Uneven_init : Addr
  d_Uneven_init : FuncData
  F_Uneven_init : FunD K "__init__" "Uneven.__init__" (defArgs s_Uneven_init) (defBody s_Uneven_init) (defScope s_Uneven_init) [V.str ""] [] a_Uneven_init d_Uneven_init
  b_Uneven_init : Binds K d_Uneven_init ["self", "name"] []
  a_greatest_powers : Addr
  d_greatest_powers : FuncData
  F_greatest_powers : Fun K "greatest_powers" "greatest_powers" s_greatest_powers a_greatest_powers d_greatest_powers
  b_greatest_powers : Binds K d_greatest_powers ["poly"] []
  g_greatest_powers : mg "greatest_powers" = some (.ref a_greatest_powers)
  a_raised : Addr
  d_raised : FuncData
  F_raised : Fun K "raised" "raised" s_raised a_raised d_raised
  b_raised : Binds K d_raised ["base", "power"] []
  g_raised : mg "raised" = some (.ref a_raised)
  a_even_growth : Addr
  d_even_growth : FuncData
  F_even_growth : Fun K "even_growth" "even_growth" s_even_growth a_even_growth d_even_growth
  b_even_growth : Binds K d_even_growth ["many", "base", "figures"] []
  g_even_growth : mg "even_growth" = some (.ref a_even_growth)
  a_common_part : Addr
  d_common_part : FuncData
  F_common_part : Fun K "common_part" "common_part" s_common_part a_common_part d_common_part
  b_common_part : Binds K d_common_part ["one", "other"] []
  g_common_part : mg "common_part" = some (.ref a_common_part)
  a_lowest : Addr
  d_lowest : FuncData
  F_lowest : Fun K "lowest" "lowest" s_lowest a_lowest d_lowest
  b_lowest : Binds K d_lowest ["over", "under"] []
  g_lowest : mg "lowest" = some (.ref a_lowest)
  a_sum_of_two : Addr
  d_sum_of_two : FuncData
  F_sum_of_two : Fun K "sum_of_two" "sum_of_two" s_sum_of_two a_sum_of_two d_sum_of_two
  b_sum_of_two : Binds K d_sum_of_two ["one", "other"] []
  g_sum_of_two : mg "sum_of_two" = some (.ref a_sum_of_two)
  a_product : Addr
  d_product : FuncData
  F_product : Fun K "product" "product" s_product a_product d_product
  b_product : Binds K d_product ["one", "other"] []
  g_product : mg "product" = some (.ref a_product)
  a_worth_of : Addr
  d_worth_of : FuncData
  F_worth_of : Fun K "worth_of" "worth_of" s_worth_of a_worth_of d_worth_of
  b_worth_of : Binds K d_worth_of ["poly", "values"] []
  g_worth_of : mg "worth_of" = some (.ref a_worth_of)
  a_rows_worth : Addr
  d_rows_worth : FuncData
  F_rows_worth : Fun K "rows_worth" "rows_worth" s_rows_worth a_rows_worth d_rows_worth
  b_rows_worth : Binds K d_rows_worth ["rows", "size"] []
  g_rows_worth : mg "rows_worth" = some (.ref a_rows_worth)
  a_growth_of : Addr
  d_growth_of : FuncData
  F_growth_of : Fun K "growth_of" "growth_of" s_growth_of a_growth_of d_growth_of
  b_growth_of : Binds K d_growth_of ["rows", "way", "name"] []
  g_growth_of : mg "growth_of" = some (.ref a_growth_of)
  a_read_rows : Addr
  d_read_rows : FuncData
  F_read_rows : Fun K "read_rows" "read_rows" s_read_rows a_read_rows d_read_rows
  b_read_rows : Binds K d_read_rows ["told"] []
  g_read_rows : mg "read_rows" = some (.ref a_read_rows)
  a_growth : Addr
  d_growth : FuncData
  F_growth : Fun K "growth" "growth" s_growth a_growth d_growth
  ds_growth : List Value
  dv_growth : Vals [V.int 0, V.int 2] ds_growth
  b_growth : Binds K d_growth ["sums", "many", "base"] ds_growth
  kg_growth_base_many : List Value → List Value → List Value
  kb_growth_base_many : KBn K d_growth ["sums", "many", "base"] 1 ["base", "many"] kg_growth_base_many (fun vs zs => vs ++ ((zs.drop 1).take 1 ++ ((zs.drop 0).take 1)))
  kg_growth_many : List Value → List Value → List Value
  kb_growth_many : KBn K d_growth ["sums", "many", "base"] 1 ["many"] kg_growth_many (fun vs zs => vs ++ ((zs.drop 0).take 1 ++ ([V.int 2])))
  g_growth : mg "growth" = some (.ref a_growth)
  a_law : Addr
  d_law : FuncData
  F_law : Fun K "law" "law" s_law a_law d_law
  b_law : Binds K d_law ["_law_script"] []
  g_law : mg "law" = some (.ref a_law)
  x_Refused : Addr
  gx_Refused : mg "Refused" = some (.ref x_Refused)
  x_Misread : Addr
  gx_Misread : mg "Misread" = some (.ref x_Misread)
  x_Unfit : Addr
  gx_Unfit : mg "Unfit" = some (.ref x_Unfit)
  x_BadText : Addr
  gx_BadText : mg "BadText" = some (.ref x_BadText)
  x_BadPage : Addr
  gx_BadPage : mg "BadPage" = some (.ref x_BadPage)
  x_Stopped : Addr
  gx_Stopped : mg "Stopped" = some (.ref x_Stopped)
  x_NoName : Addr
  gx_NoName : mg "NoName" = some (.ref x_NoName)
  x_Twice : Addr
  gx_Twice : mg "Twice" = some (.ref x_Twice)
  x_NoPlan : Addr
  gx_NoPlan : mg "NoPlan" = some (.ref x_NoPlan)
  x_NoLabel : Addr
  gx_NoLabel : mg "NoLabel" = some (.ref x_NoLabel)
  x_Taken : Addr
  gx_Taken : mg "Taken" = some (.ref x_Taken)
  x_Ring : Addr
  gx_Ring : mg "Ring" = some (.ref x_Ring)
  x_NotPlain : Addr
  gx_NotPlain : mg "NotPlain" = some (.ref x_NotPlain)
  x_Tangled : Addr
  gx_Tangled : mg "Tangled" = some (.ref x_Tangled)
  x_Breaks : Addr
  gx_Breaks : mg "Breaks" = some (.ref x_Breaks)
  x_InUse : Addr
  gx_InUse : mg "InUse" = some (.ref x_InUse)
  x_Uneven : Addr
  gx_Uneven : mg "Uneven" = some (.ref x_Uneven)
  ox_Uneven : OexC K x_Uneven
  in_Uneven : PySem.W.findIn K (.ref x_Uneven) "__init__" = some (some (.ref a_Uneven_init))
  ti_Uneven : PySem.W.typeIn K (.ref a_Uneven_init) = some (.type "function")
  ce_Uneven : ClsE K x_Uneven
  nf_Uneven_word : PySem.W.findIn K (.ref x_Uneven) "word" = some none
  nf_Uneven_name : PySem.W.findIn K (.ref x_Uneven) "name" = some none
  em_Uneven_BadText : PySem.W.exmOne K (.ref x_Uneven) (.ref x_BadText) = some false
  em_Uneven_BadPage : PySem.W.exmOne K (.ref x_Uneven) (.ref x_BadPage) = some false
  em_Uneven_Stopped : PySem.W.exmOne K (.ref x_Uneven) (.ref x_Stopped) = some false
  em_Uneven_Refused : PySem.W.exmOne K (.ref x_Uneven) (.ref x_Refused) = some true
  et_Uneven : PySem.W.exmAny K (.ref x_Uneven) [.ref x_NoName, .ref x_Twice, .ref x_NoPlan, .ref x_NoLabel, .ref x_Taken, .ref x_Ring, .ref x_NotPlain, .ref x_Tangled, .ref x_Breaks, .ref x_InUse, .ref x_Uneven] = some true
  ki_Uneven_Misread : PySem.W.kitOne K (.ref x_Uneven) (.ref x_Misread) = some false
  ki_Uneven_Unfit : PySem.W.kitOne K (.ref x_Uneven) (.ref x_Unfit) = some true
  ki_Uneven_VE : PySem.W.kitOne K (.ref x_Uneven) (.type "ValueError") = some true
  sg_Unfit : PySem.W.specialIn K (.ref x_Unfit) "__getattribute__" = some (some (.builtin "type.__getattribute__"))
  rd_Unfit : PySem.W.readsIn K x_Unfit (.type "type") = true
  fc_Unfit : PySem.W.findCls K (.ref x_Unfit) (.type "type") "__init__" = some (.val (.ref a_Refused_init))
  z_ValueError : mg "ValueError" = none
  z_abs : mg "abs" = none
  z_all : mg "all" = none
  z_bool : mg "bool" = none
  z_dict : mg "dict" = none
  z_int : mg "int" = none
  z_isinstance : mg "isinstance" = none
  z_len : mg "len" = none
  z_list : mg "list" = none
  z_max : mg "max" = none
  z_range : mg "range" = none
  z_sorted : mg "sorted" = none
  z_str : mg "str" = none
  z_tuple : mg "tuple" = none
  z_zip : mg "zip" = none
  u_FIGURES : Value
  m_FIGURES : mg "FIGURES" = some u_FIGURES
  r_FIGURES : RelV (.str "#") u_FIGURES
  u_NOUGHT : Value
  m_NOUGHT : mg "NOUGHT" = some u_NOUGHT
  p_NOUGHT : Addr
  r_NOUGHT : RelV (.ref p_NOUGHT) u_NOUGHT
  q_NOUGHT : ∀ H : Hp, SqT K H p_NOUGHT [V.int 0, V.int 1]
  u_SIZE : Value
  m_SIZE : mg "SIZE" = some u_SIZE
  r_SIZE : RelV (.str "n") u_SIZE
section
variable {P : Program} {w : World} {K : PySem.W.Frag} {mg : Str → Option Value} {base : Heap}
/-- a fresh draw -/
def spBegin (K : PySem.W.Frag) : Sp := fun vs H Q _ => ∃ (a : Addr) (ns : List Int), vs = [.ref a] ∧ SqL K H a (ns.map V.int) ∧ ns.length ≤ 63 ∧
  ∀ d l H', H d = none → H l = none → Same H H' → DrawAt H' d l → Q (.ref d) H'
theorem ok_law_begin (T : Txt K mg) : FnOk P w K mg base CX0 1 T.a_law_begin T.d_law_begin ["_law_script"] (spBegin K) := by
  refine T.F_law_begin.ok sc_law_begin (fun vs H Q E h => ?_) (fun cdv A outer s H vs Q E hr h => ?_)
  · obtain ⟨a, ns, rfl, _⟩ := h
    rfl
  obtain ⟨a, ns, rfl, hS, hl, k⟩ := h
  refine ⟨_, (pss_one (ps_ret (pe_lst (pa_cons (pe_callTy call_list_of (by rfl) T.z_list (by decide +kernel) (pa_cons (pe_slice sl_list (pv 0) po_none (po_some pe_int)) pa_nil)) (pa_cons pe_int (pa_cons pe_int (pa_cons pe_int pa_nil))))))), ?_⟩
  refine ⟨.ref a, rfl, 63, rfl, a, _, rfl, hS, fun p hp => ?_⟩
  refine ⟨p, _, rfl, .inl (SqL.of upd_same), fun l hl2 => ?_⟩
  refine ⟨by show 4 ≤ sizeLine; decide, fun d hd => ?_⟩
  have s1 : Same H _ := (same_upd (o := .lst (cutV (ns.map V.int) none (some 63))) hp)
  have s2 := s1.trans (same_upd (o := .lst (cutV (ns.map V.int) none (some 63))) hl2)
  have s3 := s2.trans (same_upd (o := .lst [.ref l, .int 0, .int 0, .int 37]) hd)
  have nld : l ≠ d := fun e => by
    rw [← e, upd_same] at hd
    cases hd
  refine k d l _ (s2.free hd) (s1.free hl2) s3 ⟨⟨ns.take 63, 0, 0, 37, upd_same, ?_, by decide, by decide, by decide, by decide, ?_⟩⟩
  · rw [upd_ne nld, upd_same]
    have e : cutV (ns.map V.int) none (some 63) = (ns.take 63).map V.int := by
      unfold cutV
      rw [HT.sIx_none, show HT.sIx (ns.map V.int).length (ns.map V.int).length (some 63) = min 63 (ns.map V.int).length from HT.sIx_nat _ _ 63, List.drop_zero, Nat.sub_zero]
      rw [List.map_take, List.length_map, List.take_eq_take_iff]
      simp
    rw [e]
  · rw [List.length_take]
    omega
/-- a draw below n -/
def spTake : Sp := fun vs H Q _ => ∃ (d l : Addr) (n : Int), vs = [.ref d, .int n] ∧ DrawAt H d l ∧ 0 < n ∧ n < 2 ^ 200 ∧
  ∀ (r : Int) H', 0 ≤ r → r < n → DrawAt H' d l → But (Only1 d) H H' → Q (.int r) H'
theorem ok_law_take (T : Txt K mg) : FnOk P w K mg base CX0 1 T.a_law_take T.d_law_take ["_law_draw", "_law_sides"] spTake := by
  refine T.F_law_take.ok sc_law_take (fun vs H Q E h => ?_) (fun cdv A outer s H vs Q E hr h => ?_)
  · obtain ⟨d, l, n, rfl, _⟩ := h
    rfl
  obtain ⟨d, l, n, rfl, D, hn0, hn, k⟩ := h
  refine ⟨_, (C8.pss_cut (ps_if (PW.pt (pw_and (pt_cmpR op_lt (pe_ix ix_list (pv 0) pe_int (fun _ _ => rfl)) (pv 1) (nomark _)) (pw_and1 (pt_cmpR op_lt (pe_ix ix_list (pv 0) pe_int (fun _ _ => rfl)) (pe_callB call_len_seq (by rfl) T.z_len (by decide +kernel) (pa_cons (pe_ix ix_list (pv 0) pe_int (fun _ _ => rfl)) pa_nil)) (nomark _))))) (pss_cons (ps_set (i := 2) sc_law_take.nd rfl (Or.inl rfl) (pe_ix ix_list (pe_ix ix_list (pv 0) pe_int (fun _ _ => rfl)) (pe_ix ix_list (pv 0) pe_int (fun _ _ => rfl)) (fun _ _ => rfl)))
      (pss_cons (ps_asg (pe_op op_add (pe_ix ix_list (pv 0) pe_int (fun _ _ => rfl)) pe_int) (pg_sub (pv 0) pe_int set_list))
      (pss_cons (ps_asg pe_int (pg_sub (pv 0) pe_int set_list))
      (pss_one (ps_if (pt_cmpR op_ge (pe_callB call_abs (by rfl) T.z_abs (by decide +kernel) (pa_cons (pv 2) pa_nil)) (pe_op op_pow pe_int pe_int) (nomark _)) (pss_one (ps_asg (pe_callB call_abs (by rfl) T.z_abs (by decide +kernel) (pa_cons (pv 2) pa_nil)) (pg_sub (pv 0) pe_int set_list))) (pss_one (ps_asg (pe_op op_mod (pe_op op_add (pe_op op_add (pe_op op_mul (pe_ix ix_list (pv 0) pe_int (fun _ _ => rfl)) pe_int) (pe_op op_mul (pe_op op_mod (pv 2) pe_int) pe_int)) pe_int) pe_int) (pg_sub (pv 0) pe_int set_list)))))))) pss_nil)
      (pss_cons (ps_if (pt_cmpR op_ge (pe_ix ix_list (pv 0) pe_int (fun _ _ => rfl)) (pv 1) (nomark _)) (pss_cons (ps_set (i := 3) sc_law_take.nd rfl (Or.inl rfl) (pe_op op_mod (pe_ix ix_list (pv 0) pe_int (fun _ _ => rfl)) (pv 1)))
      (pss_cons (ps_asg (pe_op op_fdivW (pe_ix ix_list (pv 0) pe_int (fun _ _ => rfl)) (pv 1)) (pg_sub (pv 0) pe_int set_list))
      (pss_one (ps_ret (pv 3))))) pss_nil)
      (pss_cons (ps_asg (pe_op op_mod (pe_op op_add (pe_op op_add (pe_op op_mul (pe_op op_mod (pe_op op_mul (pe_ix ix_list (pv 0) pe_int (fun _ _ => rfl)) (pe_ix ix_list (pv 0) pe_int (fun _ _ => rfl))) pe_int) pe_int) (pe_op op_mul (pe_ix ix_list (pv 0) pe_int (fun _ _ => rfl)) pe_int)) pe_int) pe_int) (pg_sub (pv 0) pe_int set_list))
      (pss_one (ps_ret (pe_op op_mod (pe_op op_add (pe_op op_fdivW (pe_ix ix_list (pv 0) pe_int (fun _ _ => rfl)) pe_int) (pe_op op_mul (pe_op op_mod (pe_ix ix_list (pv 0) pe_int (fun _ _ => rfl)) pe_int) pe_int)) (pv 1))))))), ?_⟩
  obtain ⟨ns, p, g, s, e1, e2, p0, g0, s0, s1, hl⟩ := D.ex
  have nld : l ≠ d := fun e => by
    rw [e, e1] at e2
    cases ns with
    | nil => cases e2
    | cons x r => cases e2
  have cw : CDivW 0 n := log_small hn0 hn (by decide) (by decide)
  refine ⟨fun σ' H' => ∃ c p g s, σ' = [some (.ref d), some (.int n), c, none] ∧ H' d = some (.lst [.ref l, .int p, .int g, .int s]) ∧ H' l = some (.lst (ns.map V.int)) ∧ 0 ≤ p ∧ 0 ≤ g ∧ 0 ≤ s ∧ s < 2147483647 ∧ But (Only1 d) H H', ?_, ?_⟩
  · refine ⟨_, rfl, d, _, 2, .int g, rfl, rfl, SqL.of e1, rfl, _, rfl, g, n, rfl, rfl, _, rfl, ?_⟩
    refine ite2 (fun c1 => ?_) (fun _ => ⟨_, p, g, s, rfl, e1, e2, p0, g0, s0, s1, But.refl _ _⟩)
    refine ⟨_, rfl, d, _, 1, .int p, rfl, rfl, SqL.of e1, rfl, _, rfl, d, _, 0, .ref l, rfl, rfl, SqL.of e1, rfl, l, _, rfl, .inl (SqL.of e2), p, _, rfl, rfl, _, rfl, ?_⟩
    refine ite2 (fun c2 => ?_) (fun _ => ⟨_, p, g, s, rfl, e1, e2, p0, g0, s0, s1, But.refl _ _⟩)
    have c2' : p < (((ns.map V.int).length : Nat) : Int) := of_decide_eq_true c2
    rw [List.length_map] at c2'
    obtain ⟨j, ej⟩ : ∃ j : Nat, p = (j : Int) := ⟨p.toNat, by omega⟩
    have hj : j < ns.length := by omega
    have ha : atI (ns.map V.int) p = some (.int ns[j]) := by
      rw [ej]
      exact atI_nat (by rw [List.getElem?_map, List.getElem?_eq_getElem hj]; rfl)
    -- cell = draw[0][draw[1]]
    refine ⟨_, rfl, d, _, 0, .ref l, rfl, rfl, SqL.of e1, rfl, _, rfl, d, _, 1, .int p, rfl, rfl, SqL.of e1, rfl, l, _, p, _, rfl, rfl, SqL.of e2, ha, ?_⟩
    generalize ns[j] = x
    -- draw[1] = draw[1] + 1; draw[2] = 0
    refine ⟨_, rfl, d, _, 1, .int p, rfl, rfl, SqL.of e1, rfl, p, 1, rfl, rfl, _, rfl, d, _, 1, 1, rfl, rfl, e1, rfl, ?_⟩
    refine ⟨_, rfl, d, _, 2, 2, rfl, rfl, upd_same, rfl, ?_⟩
    have b2 : ∀ o, But (Only1 d) H (upd (upd H d (.lst [.ref l, .int (p + 1), .int g, .int s])) d o) := fun o => ((But.refl _ _).put only1).put only1
    have e2' : ∀ o o', upd (upd H d o) d o' l = some (.lst (ns.map V.int)) := fun o o' => by
      rw [upd_ne nld, upd_ne nld]
      exact e2
    -- abs(cell) >= 10 ** 18
    refine ⟨_, rfl, x, rfl, 10, 18, rfl, rfl, ⟨by decide, by decide, by decide⟩, _, _, rfl, rfl, _, rfl, ?_⟩
    refine ite2 (fun _ => ?_) (fun _ => ?_)
    · refine ⟨_, rfl, x, rfl, _, rfl, d, _, 2, 2, rfl, rfl, upd_same, rfl, ?_⟩
      refine ⟨_, p + 1, _, s, rfl, upd_same, ?_, by omega, ?_, s0, s1, ((b2 _).put only1)⟩
      · rw [upd_ne nld]
        exact e2' _ _
      · split <;> omega
    · refine ⟨_, rfl, d, _, 3, .int s, rfl, rfl, SqL.of upd_same, rfl, s, 48271, rfl, rfl, .inr ⟨by decide, by decide⟩, _, rfl, x, 2147483629, rfl, rfl, (by show (0 : Int) < 2147483629; decide), _, 69621, rfl, rfl, .inr ⟨by decide, by decide⟩, _, _, rfl, rfl, _, 12345, rfl, rfl, _, 2147483647, rfl, rfl, (by show (0 : Int) < 2147483647; decide), _, rfl, d, _, 3, 3, rfl, rfl, upd_same, rfl, ?_⟩
      refine ⟨_, p + 1, 0, _, rfl, upd_same, ?_, by omega, by omega, Int.emod_nonneg _ (by decide), Int.emod_lt_of_pos _ (by decide), ((b2 _).put only1)⟩
      rw [upd_ne nld]
      exact e2' _ _
  · rintro σ' H1 ⟨c, p, g, s, rfl, e1, e2, p0, g0, s0, s1, b⟩
    refine ⟨_, rfl, d, _, 2, .int g, rfl, rfl, SqL.of e1, rfl, _, rfl, g, n, rfl, rfl, _, rfl, ?_⟩
    refine ite2 (fun c1 => ?_) (fun _ => ?_)
    · refine ⟨_, rfl, d, _, 2, .int g, rfl, rfl, SqL.of e1, rfl, _, rfl, g, n, rfl, rfl, hn0, ?_⟩
      refine ⟨_, rfl, d, _, 2, .int g, rfl, rfl, SqL.of e1, rfl, _, rfl, g, n, rfl, rfl, cw, _, rfl, d, _, 2, 2, rfl, rfl, e1, rfl, ?_⟩
      refine ⟨_, rfl, k _ _ (Int.emod_nonneg _ (by omega)) (Int.emod_lt_of_pos _ hn0) ⟨⟨ns, p, _, s, upd_same, by rw [upd_ne nld]; exact e2, p0, Int.ediv_nonneg g0 (by omega), s0, s1, hl⟩⟩ (b.put only1)⟩
    · refine ⟨_, rfl, d, _, 3, .int s, rfl, rfl, SqL.of e1, rfl, _, rfl, d, _, 3, .int s, rfl, rfl, SqL.of e1, rfl, s, s, rfl, rfl, .inl ⟨by omega, by omega⟩, _, 2147483629, rfl, rfl, (by show (0 : Int) < 2147483629; decide), _, 5, rfl, rfl, .inr ⟨by decide, by decide⟩, _, rfl, d, _, 3, .int s, rfl, rfl, SqL.of e1, rfl, s, 16811, rfl, rfl, .inr ⟨by decide, by decide⟩, _, _, rfl, rfl, _, 2531011, rfl, rfl, _, 2147483647, rfl, rfl, (by show (0 : Int) < 2147483647; decide), _, rfl, d, _, 3, 3, rfl, rfl, e1, rfl, ?_⟩
      have z0 : ∀ x : Int, 0 ≤ x % 2147483647 := fun x => Int.emod_nonneg _ (by decide)
      have z1 : ∀ x : Int, x % 2147483647 < 2147483647 := fun x => Int.emod_lt_of_pos _ (by decide)
      refine ⟨_, rfl, d, _, 3, _, rfl, rfl, SqL.of upd_same, rfl, _, 61, rfl, rfl, log_small (k := 10) (by decide) (by decide) (by decide) (by decide), _, rfl, d, _, 3, _, rfl, rfl, SqL.of upd_same, rfl, _, 8191, rfl, rfl, (by show (0 : Int) < 8191; decide), _, 31, rfl, rfl, .inr ⟨by decide, by decide⟩, _, _, rfl, rfl, _, rfl, _, n, rfl, rfl, hn0, ?_⟩
      exact k _ _ (Int.emod_nonneg _ (by omega)) (Int.emod_lt_of_pos _ hn0) ⟨⟨ns, p, g, _, upd_same, by rw [upd_ne nld]; exact e2, p0, g0, z0 _, z1 _, hl⟩⟩ (b.put only1)
theorem ok_law_gcd (T : Txt K mg) : FnOk P w K mg base CX0 1 T.a_law_gcd T.d_law_gcd ["_law_a", "_law_b"] spGcd := by
  refine T.F_law_gcd.ok sc_law_gcd (fun vs H Q E h => ?_) (fun cdv A outer s H vs Q E hr h => ?_)
  · obtain ⟨n, b, rfl, _⟩ := h
    rfl
  obtain ⟨a, b, rfl, k⟩ := h
  refine ⟨_, (pss_cons (ps_par (i := 0) (j := 1) (by rfl) sc_law_gcd.nd rfl rfl (by decide) rfl rfl (pa_cons (pe_callB call_abs (by rfl) T.z_abs (by decide +kernel) (pa_cons (pv 0) pa_nil)) (pa_cons (pe_callB call_abs (by rfl) T.z_abs (by decide +kernel) (pa_cons (pv 1) pa_nil)) pa_nil)) (by rfl))
      (pss_cons (ps_while PassesOwn.never (pt_cmpR op_gt (pv 1) pe_int (nomark _)) (pss_one (ps_par (i := 0) (j := 1) (by rfl) sc_law_gcd.nd rfl rfl (by decide) rfl rfl (pa_cons (pv 1) (pa_cons (pe_op op_mod (pv 0) (pv 1)) pa_nil)) (by rfl))))
      (pss_one (ps_ret (pv 0))))), ?_⟩
  refine ⟨_, rfl, _, rfl, _, rfl, _, rfl, _, _, rfl, ?_⟩
  refine while_by (fun σ H' => H' = H ∧ ∃ (m n : Int), σ = [some (.int m), some (.int n)] ∧ 0 ≤ m ∧ 0 ≤ n ∧ Int.gcd m n = Int.gcd a b) (fun σ _ => match σ with | _ :: some (.int m) :: _ => m.toNat | _ => 0) ⟨rfl, _, _, rfl, by split <;> omega, by split <;> omega, gcd_abs a b⟩ ?_ ?_
  · rintro σ H1 ⟨rfl, m, n, rfl, hm, hn, e⟩
    refine ⟨_, rfl, _, _, rfl, rfl, _, rfl, ?_⟩
    refine ite2 (fun t => ?_) (fun t => ?_)
    · have t' : (0 : Int) < n := of_decide_eq_true t
      refine ⟨_, rfl, _, rfl, _, rfl, _, _, rfl, rfl, t', _, _, rfl, ?_⟩
      refine ⟨⟨rfl, n, m % n, rfl, hn, Int.emod_nonneg _ (by omega), by rw [gcd_step hm t', e]⟩, ?_⟩
      have := Int.emod_lt_of_pos m t'
      have := Int.emod_nonneg m (show n ≠ 0 by omega)
      show (m % n).toNat < n.toNat
      omega
    · have t' : ¬ (0 : Int) < n := fun z => t (decide_eq_true z)
      have e0 : n = 0 := by omega
      subst e0
      refine ⟨_, rfl, ?_⟩
      rw [← e, Int.gcd_zero_right, show ((m.natAbs : Nat) : Int) = m by omega] at k
      exact k
  · rintro σ H Q Q' hQ ⟨v, e1, i, j, e3, e4, kk, e5, q⟩
    exact ⟨v, e1, i, j, e3, e4, kk, e5, hQ _ _ q⟩
theorem ok_law_lowest (T : Txt K mg) : FnOk P w K mg base CX0 2 T.a_law_lowest T.d_law_lowest ["_law_over", "_law_under"] spLowest := by
  refine T.F_law_lowest.ok sc_law_lowest (fun vs H Q E h => ?_) (fun cdv A outer s H vs Q E hr h => ?_)
  · obtain ⟨n, b, rfl, _⟩ := h
    rfl
  obtain ⟨o, u, rfl, h0, h1, k⟩ := h
  refine ⟨_, (pss_cons (ps_set (i := 2) sc_law_lowest.nd rfl (Or.inl rfl) (pe_call (ok_law_gcd T) (hr.mono (by decide)) (by rfl) T.g_law_gcd T.F_law_gcd.kp T.b_law_gcd .nil pass0 (pa_cons (pv 0) (pa_cons (pv 1) pa_nil))))
      (pss_one (ps_ret (pe_tup (pa_cons (pe_op op_fdivW (pv 0) (pv 2)) (pa_cons (pe_op op_fdivW (pv 1) (pv 2)) pa_nil)))))), ?_⟩
  obtain ⟨g0, g1⟩ := gcd_le (o := o) h0
  have cw : CDivW 0 (Int.gcd o u : Nat) := log_small (k := 8000) g0 (Int.lt_of_le_of_lt g1 h1) (by decide) (by decide)
  refine ⟨_, rfl, _, rfl, o, u, rfl, ?_⟩
  refine ⟨_, rfl, _, rfl, _, _, rfl, rfl, cw, _, rfl, _, rfl, _, _, rfl, rfl, cw, by show 2 ≤ sizeLine; decide, fun p hp => ?_⟩
  exact k p hp
/-- drawn terms -/
def spTerms (K : PySem.W.Frag) : Sp := fun vs H Q _ => ∃ (d l : Addr) (G : Hp) (top deep wide : Int), vs = [.ref d, .int top, .int deep, .int wide] ∧ Same G H ∧ G d = none ∧ DrawAt H d l ∧ 0 ≤ top ∧ top ≤ 1000 ∧ 0 ≤ deep ∧ deep ≤ 1000 ∧ 0 < wide ∧ wide < 2 ^ 200 ∧
  ∀ (p : Addr) (us : List V) (ts : List Trm) (G' H' : Hp), Grow (Only1 d) G H G' H' → DrawAt H' d l → H p = none → G' p = none → H' p = some (.lst us) → DpAll K G' us (ts.map termD) → TrmsOk top deep wide ts → Q (.ref p) H'
/-- what the dict holds -/
def HeldP (K : PySem.W.Frag) (G : Hp) (top deep wide : Int) (ps : List ((Int × Int) × V)) : Prop := ∀ q ∈ ps, ∃ pt : Prt, Dp K G q.2 (partD pt) ∧ TrmOk top deep wide (q.1, pt)
theorem HeldP.mono {G G' : Hp} {top deep wide : Int} {ps : List ((Int × Int) × V)} (e : Same G G') (h : HeldP K G top deep wide ps) : HeldP K G' top deep wide ps := fun q hq => by
  obtain ⟨pt, h1, h2⟩ := h q hq
  exact ⟨pt, h1.mono e, h2⟩
theorem terms_of {G : Hp} {top deep wide : Int} {ps : List ((Int × Int) × V)} (h : HeldP K G top deep wide ps) : ∀ ks : List (Int × Int), (∀ k ∈ ks, k ∈ ps.map (·.1)) →
    ∃ ts : List Trm, ts.map (·.1) = ks ∧ (∀ t ∈ ts, TrmOk top deep wide t) ∧ ∀ (i : Nat) (k : Int × Int), ks[i]? = some k → ∃ v pt, valV ps k = some v ∧ ts[i]? = some (k, pt) ∧ Dp K G v (partD pt)
  | [], _ => ⟨[], rfl, fun t ht => absurd ht (by simp), fun i k hk => by simp at hk⟩
  | k :: r, hk => by
    obtain ⟨ts, e1, e2, e3⟩ := terms_of h r fun x hx => hk x (List.mem_cons_of_mem _ hx)
    obtain ⟨v, hv, hm⟩ := val_mem (hk k List.mem_cons_self)
    obtain ⟨pt, p1, p2⟩ := h _ hm
    refine ⟨(k, pt) :: ts, by rw [List.map_cons, e1], fun t ht => ?_, fun i k' hk' => ?_⟩
    · rcases List.mem_cons.mp ht with e | ht
      · rw [e]
        exact p2
      · exact e2 t ht
    · cases i with
      | zero =>
        have e : k = k' := by simpa using hk'
        subst e
        exact ⟨v, pt, hv, rfl, p1⟩
      | succ i =>
        obtain ⟨v', pt', q1, q2, q3⟩ := e3 i k' (by simpa using hk')
        exact ⟨v', pt', q1, by simpa using q2, q3⟩
theorem ok_law_terms (T : Txt K mg) : FnOk P w K mg base CX0 4 T.a_law_terms T.d_law_terms ["_law_draw", "_law_top", "_law_deep", "_law_wide"] (spTerms K) := by
  refine T.F_law_terms.ok sc_law_terms (fun vs H Q E h => ?_) (fun cdv A outer s H vs Q E hr h => ?_)
  · obtain ⟨d, l, G, top, deep, wide, rfl, _⟩ := h
    rfl
  obtain ⟨d, l, G, top, deep, wide, rfl, sg, gd, D, ht0, ht1, hd0, hd1, hw0, hw1, k⟩ := h
  refine ⟨_, (pss_cons (ps_set (i := 4) sc_law_terms.nd rfl (Or.inr rfl) pe_dnewT)
      (pss_cons (ps_for PassesOwn.never rfl (pi_range1 (by rfl) T.z_range (pa_cons (pe_call (ok_law_take T) (hr.mono (by decide)) (by rfl) T.g_law_take T.F_law_take.kp T.b_law_take .nil pass0 (pa_cons (pv 0) (pa_cons pe_int pa_nil))) pa_nil)) (pg_name (i := 5) sc_law_terms.nd rfl (Or.inl rfl)) (pss_cons (ps_set (i := 6) sc_law_terms.nd rfl (Or.inl rfl) (pe_op op_mul (pe_ix ix_list (pe_lst (pa_cons pe_int (pa_cons (pe_un un_neg pe_int) pa_nil))) (pe_call (ok_law_take T) (hr.mono (by decide)) (by rfl) T.g_law_take T.F_law_take.kp T.b_law_take .nil pass0 (pa_cons (pv 0) (pa_cons pe_int pa_nil))) (fun _ _ => rfl)) (pe_op op_add pe_int (pe_call (ok_law_take T) (hr.mono (by decide)) (by rfl) T.g_law_take T.F_law_take.kp T.b_law_take .nil pass0 (pa_cons (pv 0) (pa_cons (pv 3) pa_nil))))))
      (pss_cons (ps_set (i := 7) sc_law_terms.nd rfl (Or.inl rfl) (pe_tup (pa_cons (pe_call (ok_law_take T) (hr.mono (by decide)) (by rfl) T.g_law_take T.F_law_take.kp T.b_law_take .nil pass0 (pa_cons (pv 0) (pa_cons (pe_op op_add (pv 1) pe_int) pa_nil))) (pa_cons (pe_call (ok_law_take T) (hr.mono (by decide)) (by rfl) T.g_law_take T.F_law_take.kp T.b_law_take .nil pass0 (pa_cons (pv 0) (pa_cons (pe_op op_add (pv 2) pe_int) pa_nil))) pa_nil))))
      (pss_one (ps_dput (hu_of hr) (pv 4) (pv 7) (pe_call (ok_law_lowest T) (hr.mono (by decide)) (by rfl) T.g_law_lowest T.F_law_lowest.kp T.b_law_lowest .nil pass0 (pa_cons (pv 6) (pa_cons (pe_op op_add pe_int (pe_call (ok_law_take T) (hr.mono (by decide)) (by rfl) T.g_law_take T.F_law_take.kp T.b_law_take .nil pass0 (pa_cons (pv 0) (pa_cons (pe_ix ix_list (pe_lst (pa_cons pe_int (pa_cons pe_int (pa_cons pe_int pa_nil)))) (pe_call (ok_law_take T) (hr.mono (by decide)) (by rfl) T.g_law_take T.F_law_take.kp T.b_law_take .nil pass0 (pa_cons (pv 0) (pa_cons pe_int pa_nil))) (fun _ _ => rfl)) pa_nil)))) pa_nil))) rfl)))))
      (pss_one (ps_ret (pe_lc (own := [("_law_key", 7)]) (g := gName 7) (tt := tYes) rfl sc_law_terms.nd (pi_list (pe_revL (pe_callB (cr_sortedDT rfl) (by rfl) T.z_sorted (by decide +kernel) (pa_cons (pv 4) pa_nil)))) (blkOk_by (N := N_law_terms) (sc := defScope s_law_terms) (by decide +kernel)) (fun _ _ _ _ _ => (pg_name (i := 7) sc_law_terms.nd rfl (Or.inl rfl))) (fun _ _ _ _ _ => pts_nil) (fun _ _ _ _ _ => (pe_tup (pa_cons (pv 7) (pa_cons (pe_dget (hu_of hr) (pv 4) (pv 7) (fun _ _ => rfl)) pa_nil))))))))), ?_⟩
  intro C hC
  have D0 := D.upd (o := .dT []) hC
  have g0 : Grow (Only1 d) G H G _ := (Grow.refl sg).cell (o := .dT []) hC
  have nCd := D.ned hC
  have nCl := D.nel hC
  refine ⟨_, rfl, d, l, 4, rfl, D0, by decide, by decide, fun r H1 a0 a1 D1 b1 => ?_⟩
  have g1 := g0.trans (Grow.draw g0.gh gd b1) D0.some'
  refine ⟨r, rfl, by omega, by omega, for_it walk_range (fun i σ H' => ∃ (ps : List ((Int × Int) × V)) (G' : Hp), Grow (Only1 d) G H G' H' ∧ DrawAt H' d l ∧ H' C = some (.dT (pairsD ps)) ∧ G' C = none ∧ (ps.map (·.1)).Nodup ∧ ps.length ≤ i ∧ HeldP K G' top deep wide ps ∧
    ∃ v5 v6 v7, σ = [some (.ref d), some (.int top), some (.int deep), some (.int wide), some (.ref C), v5, v6, v7]) ?_ (fun _ _ _ _ _ => trivial) ?_ ?_⟩
  · exact ⟨[], G, g1, D1, b1 _ _ upd_same nCd, sg.free hC, List.nodup_nil, Nat.le_refl _, fun q hq => absurd hq (by simp), _, _, _, rfl⟩
  · rintro i x σ H2 H3 hi ⟨ps, G2, g2, D2, eC, gC, nd, hl, hp, v5, v6, v7, rfl⟩ ⟨rfl, rfl⟩
    have gd2 := g2.none gd D.cell
    -- the part's over
    refine ⟨_, rfl, by show 2 ≤ sizeLine; decide, fun p hp1 => ?_⟩
    have D3 := D2.upd (o := .lst [V.int 1, V.int (-1)]) hp1
    have g3 := g2.cell (o := .lst [V.int 1, V.int (-1)]) hp1
    refine ⟨_, rfl, d, l, 2, rfl, D3, by decide, by decide, fun r3 H4 c0 c1 D4 b4 => ?_⟩
    have g4 := g3.trans (Grow.draw g3.gh gd2 b4) D3.some'
    obtain ⟨y, hy, hy'⟩ : ∃ y : Int, atI [V.int 1, V.int (-1)] r3 = some (.int y) ∧ (y = 1 ∨ y = -1) := by
      have : r3 = 0 ∨ r3 = 1 := by omega
      rcases this with e | e <;> subst e
      · exact ⟨1, rfl, .inl rfl⟩
      · exact ⟨-1, rfl, .inr rfl⟩
    refine ⟨p, _, r3, _, rfl, rfl, SqL.of (b4 _ _ upd_same (D2.ned hp1)), hy, ?_⟩
    refine ⟨_, rfl, _, rfl, d, l, wide, rfl, D4, hw0, hw1, fun r4 H5 e0 e1 D5 b5 => ?_⟩
    have g5 := g4.trans (Grow.draw g4.gh gd2 b5) D4.some'
    refine ⟨_, _, rfl, rfl, y, 1 + r4, rfl, rfl, .inl (by rcases hy' with e | e <;> subst e <;> exact ⟨by decide, by decide⟩), ?_⟩
    have ho : y * (1 + r4) ≠ 0 ∧ ((y * (1 + r4)).natAbs : Int) ≤ wide := by
      rcases hy' with e | e <;> subst e <;> omega
    -- the key
    refine ⟨_, rfl, _, rfl, _, _, rfl, rfl, d, l, top + 1, rfl, D5, by omega, by omega, fun kp H6 f0 f1 D6 b6 => ?_⟩
    have g6 := g5.trans (Grow.draw g5.gh gd2 b6) D5.some'
    refine ⟨_, rfl, _, rfl, _, _, rfl, rfl, d, l, deep + 1, rfl, D6, by omega, by omega, fun kf H7 h0 h1 D7 b7 => ?_⟩
    have g7 := g6.trans (Grow.draw g6.gh gd2 b7) D6.some'
    refine ⟨by show 2 ≤ sizeLine; decide, fun q hq => ?_⟩
    have D8 := D7.upd (o := .tup [V.int kp, V.int kf]) hq
    have g8 := g7.cell (o := .tup [V.int kp, V.int kf]) hq
    -- the part
    refine ⟨_, rfl, ?_⟩
    refine ⟨_, rfl, by show 3 ≤ sizeLine; decide, fun p2 hp2 => ?_⟩
    have D9 := D8.upd (o := .lst [V.int 1, V.int 1, V.int 2]) hp2
    have g9 := g8.cell (o := .lst [V.int 1, V.int 1, V.int 2]) hp2
    refine ⟨_, rfl, d, l, 3, rfl, D9, by decide, by decide, fun r5 H8 i0 i1 D10 b10 => ?_⟩
    have g10 := g9.trans (Grow.draw g9.gh gd2 b10) D9.some'
    obtain ⟨z, hz, hz0, hz1⟩ : ∃ z : Int, atI [V.int 1, V.int 1, V.int 2] r5 = some (.int z) ∧ 0 < z ∧ z ≤ 2 := by
      have : r5 = 0 ∨ r5 = 1 ∨ r5 = 2 := by omega
      rcases this with e | e | e <;> subst e
      · exact ⟨1, rfl, by decide, by decide⟩
      · exact ⟨1, rfl, by decide, by decide⟩
      · exact ⟨2, rfl, by decide, by decide⟩
    refine ⟨p2, _, r5, _, rfl, rfl, SqL.of (b10 _ _ upd_same (D8.ned hp2)), hz, d, l, z, rfl, D10, hz0, by omega, fun r6 H9 j0 j1 D11 b11 => ?_⟩
    have g11 := g10.trans (Grow.draw g10.gh gd2 b11) D10.some'
    refine ⟨_, _, rfl, rfl, y * (1 + r4), 1 + r6, rfl, by omega, Int.lt_of_le_of_lt (by omega : 1 + r6 ≤ 2) (by decide), fun p3 hp3 => ?_⟩
    have D12 := D11.upd (o := .tup [.int (lowL (y * (1 + r4)) (1 + r6)).1, .int (lowL (y * (1 + r4)) (1 + r6)).2]) hp3
    have g12 := g11.new (o := .tup [.int (lowL (y * (1 + r4)) (1 + r6)).1, .int (lowL (y * (1 + r4)) (1 + r6)).2]) hp3 D11.some'
    obtain ⟨l1, l2, l3, l4, l5⟩ := lowL_ok (u := 1 + r6) ho.1 (by omega)
    generalize hL : lowL (y * (1 + r4)) (1 + r6) = L at *
    -- what stood
    have kq : ∀ (b : Addr) (o : HO), upd H7 q (.tup [V.int kp, V.int kf]) b = some o → b ≠ d → upd H9 p3 (.tup [.int L.1, .int L.2]) b = some o := fun b o e n => by
      have e1 := b10 b o (same_upd hp2 b o e) n
      have e2 := b11 b o e1 n
      rw [upd_ne (ne_of_none e2 hp3)]
      exact e2
    have kC : ∀ (b : Addr) (o : HO), H3 b = some o → b ≠ d → upd H9 p3 (.tup [.int L.1, .int L.2]) b = some o := fun b o e n =>
      kq b o (same_upd hq b o (b7 b o (b6 b o (b5 b o (b4 b o (same_upd hp1 b o e) n) n) n) n)) n
    have eC' := kC C _ eC nCd
    have eq' := kq q _ upd_same (D7.ned hq)
    refine ⟨_, rfl, _, rfl, C, _, rfl, DPut.t (k := key2 (kp, kf)) eC' eq' (by show (pairsD ps).length < sizeLine; rw [List.length_map]; exact small1000 (by omega)), ?_⟩
    rw [pairsD_put]
    have nCp : C ≠ p3 := fun e => by
      rw [e, upd_same] at eC'
      cases eC'
    have gC' : (upd G2 p3 (.tup [.int L.1, .int L.2])) C = none := by
      rw [upd_ne nCp]
      exact gC
    refine ⟨putK ps (kp, kf) (.ref p3), _, g12.put gC' (.inl hC), D12.put nCd nCl, upd_same, gC', keys_put _ _ _ nd, Nat.le_trans (length_putK _ _ _) (by omega), ?_, _, _, _, rfl⟩
    intro w hw
    rcases mem_put hw with e | hw
    · subst e
      refine ⟨L, .tup (xs := [.int L.1, .int L.2]) (SqT.of upd_same) (.cons (.int _) (.cons (.int _) .nil)), ⟨f0, by show kp ≤ top; omega, h0, by show kf ≤ deep; omega, l1, by show ((L.1).natAbs : Int) ≤ wide; omega, l3, by show L.2 ≤ 2; omega, l5⟩⟩
    · obtain ⟨pt, q1, q2⟩ := hp w hw
      exact ⟨pt, q1.mono (same_upd (g11.gh.free hp3)), q2⟩
  · rintro σ H2 ⟨ps, G2, g2, D2, eC, gC, nd, hl, hp, v5, v6, v7, rfl⟩
    have gd2 := g2.none gd D.cell
    have hl4 : ps.length ≤ 4 := by omega
    refine ⟨_, rfl, C, ps, rfl, .inl eC, fun qs p1 perm srt tups hp1 => ?_⟩
    refine ⟨p1, _, rfl, SqL.of upd_same, fun p2 hp2 => ?_⟩
    refine ⟨p2, rfl, ⟨_, SqL.of upd_same⟩, fun L hL => ?_⟩
    have hks : ∀ k ∈ (qs.reverse.map (·.1)), k ∈ ps.map (·.1) := fun k hk => by
      rw [List.map_reverse, List.mem_reverse] at hk
      exact perm.mem_iff.mp hk
    obtain ⟨ts, t1, t2, t3⟩ := terms_of hp _ hks
    have lq : qs.length = ps.length := by
      have := perm.length_eq
      rw [List.length_map, List.length_map] at this
      exact this
    have lt : ts.length = qs.length := by
      have := congrArg List.length t1
      rw [List.length_map, List.length_map, List.length_reverse] at this
      exact this
    have ndq : (qs.map (·.1)).Nodup := perm.nodup_iff.mpr nd
    have tok : TrmsOk top deep wide ts := by
      refine ⟨t2, ?_, ?_, by omega⟩
      · rw [t1, List.map_reverse]
        exact (List.reverse_perm _).nodup_iff.mpr ndq
      · have q := desc_of srt ndq
        have q2 : (qs.reverse.map (·.1)).Pairwise fun a b => SrtO.lexB b a = true := List.pairwise_map.mpr q
        rw [← t1] at q2
        exact List.pairwise_map.mp q2
    have k1 : ∀ (b : Addr) (o : HO), H2 b = some o → upd (upd (upd H2 p1 (.lst (qs.map fun q => V.ref q.2))) p2 (.lst (qs.map fun q => V.ref q.2).reverse)) L (.lst []) b = some o := fun b o e => same_upd hL b o (same_upd hp2 b o (same_upd hp1 b o e))
    have g3 := ((g2.cell (o := .lst (qs.map fun q => V.ref q.2)) hp1).cell (o := .lst (qs.map fun q => V.ref q.2).reverse) hp2).cell (o := .lst []) hL
    have D3 := ((D2.upd (o := .lst (qs.map fun q => V.ref q.2)) hp1).upd (o := .lst (qs.map fun q => V.ref q.2).reverse) hp2).upd (o := .lst []) hL
    have hLH : H L = none := (((g2.cell (o := .lst (qs.map fun q => V.ref q.2)) hp1).cell (o := .lst (qs.map fun q => V.ref q.2).reverse) hp2).h).none (((D2.upd hp1).upd hp2).some') hL
    have nLp : p2 ≠ L := fun e => by
      rw [← e, upd_same] at hL
      cases hL
    refine lc_it (walk_list (xs := (qs.map fun q => V.ref q.2).reverse)) (fun i H' => ∃ (G' : Hp) (us : List V), Grow (Only1 d) G H G' H' ∧ DrawAt H' d l ∧ But (fun b => b = d ∨ b = L) (upd (upd (upd H2 p1 (.lst (qs.map fun q => V.ref q.2))) p2 (.lst (qs.map fun q => V.ref q.2).reverse)) L (.lst [])) H' ∧ Same G2 G' ∧ G' L = none ∧ H' L = some (.lst us) ∧ us.length = i ∧ DpAll K G' us ((ts.take i).map termD))
      ⟨G2, [], g3, D3, But.refl _ _, Same.refl _, g2.gh.free (by
        have e := (same_upd hp1).free ((same_upd hp2).free hL)
        exact e), upd_same, rfl, .nil⟩ (fun i H' _ ⟨G', us, _, _, b, _⟩ => SqL.of (b p2 _ (by rw [upd_ne nLp]; exact upd_same) (fun e => e.elim (fun e => D2.ned ((same_upd hp1).free hp2) e) nLp))) ?_ ?_
    · rintro i x H3 H4 hi ⟨G', us, g4, D4, b4, s4, gL, eL, hu, dp⟩ ⟨rfl, hx⟩
      refine ⟨rfl, ?_⟩
      rw [← List.map_reverse, List.getElem?_map] at hx
      obtain ⟨q, hq, rfl⟩ : ∃ q, qs.reverse[i]? = some q ∧ x = V.ref q.2 := by
        cases e : qs.reverse[i]? with
        | none =>
          rw [e] at hx
          cases hx
        | some q =>
          rw [e] at hx
          exact ⟨q, rfl, (Option.some.inj hx).symm⟩
      obtain ⟨v, pt, hv, ht, dv⟩ := t3 i q.1 (by rw [List.getElem?_map, hq]; rfl)
      have hqm : q ∈ qs := List.mem_reverse.mp (List.mem_of_getElem? hq)
      have eq2 := tups q hqm
      have ntup : ∀ {b : Addr} {ys : List V}, H2 b = some (.tup ys) → ¬ (b = d ∨ b = L) := fun {b ys} e z => by
        rcases z with z | z
        · rw [z] at e
          exact D2.cell.tup _ e
        · rw [z] at e
          have := (same_upd hp1).free ((same_upd hp2).free hL)
          rw [this] at e
          cases e
      have eq4 := b4 _ _ (k1 _ _ eq2) (ntup eq2)
      have eC4 := b4 _ _ (k1 _ _ eC) (fun z => by
        rcases z with z | z
        · exact nCd z
        · rw [z] at eC
          have := (same_upd hp1).free ((same_upd hp2).free hL)
          rw [this] at eC
          cases eC)
      refine ⟨_, rfl, _, rfl, _, rfl, C, v, rfl, ?_, by show 2 ≤ sizeLine; decide, fun t ht2 => ?_⟩
      · have := DGet.t (k := key2 q.1) eC4 eq4
        rw [pairsD_val, hv] at this
        exact this
      have nLt : L ≠ t := ne_of_none eL ht2
      have g5 := (g4.pubT eq4 D4.some')
      have g6 := g5.new (o := .tup [V.ref q.2, v]) ht2 D4.some'
      have nLq : L ≠ q.2 := ne_of eL eq4 (by intro z; cases z)
      have gL5 : (upd (upd G' q.2 (.tup [.int q.1.1, .int q.1.2])) t (.tup [V.ref q.2, v])) L = none := by
        rw [upd_ne nLt, upd_ne nLq]
        exact gL
      have s5 : Same G' (upd (upd G' q.2 (.tup [.int q.1.1, .int q.1.2])) t (.tup [V.ref q.2, v])) := (pub_same g4.gh eq4).trans (same_upd (g5.gh.free ht2))
      have nq : q.2 ≠ t := ne_of_none eq4 ht2
      refine ⟨us, by rw [upd_ne nLt]; exact eL, by rw [hu]; exact small1000 (by rw [List.length_reverse, List.length_map] at hi; omega), _, us ++ [.ref t], g6.put gL5 (.inl hLH), (D4.upd ht2).put (fun e => D2.ned ((same_upd hp1).free ((same_upd hp2).free hL)) e) (fun e => D2.nel ((same_upd hp1).free ((same_upd hp2).free hL)) e), (b4.trans (But.new ht2)).put (.inr rfl), s4.trans s5, gL5, upd_same, by rw [List.length_append, hu]; rfl, ?_⟩
      rw [List.take_add_one, ht, List.map_append]
      refine DpAll.snoc (dp.mono s5) (.tup (xs := [.ref q.2, v]) (SqT.of upd_same) (.cons (.tup (xs := [.int q.1.1, .int q.1.2]) (SqT.of ?_) (.cons (.int _) (.cons (.int _) .nil))) (.cons (dv.mono (s4.trans s5)) .nil)))
      rw [upd_ne nq]
      exact upd_same
    · rintro H3 ⟨G', us, g4, D4, b4, s4, gL, eL, hu, dp⟩
      rw [List.take_of_length_le (by rw [List.length_reverse, List.length_map]; omega)] at dp
      exact k L us ts G' H3 g4 D4 hLH gL eL dp tok
/-- drawn sums: the list itself is a new cell, its rows are frozen -/
def spDrawnS (K : PySem.W.Frag) : Sp := fun vs H Q _ => ∃ (d l : Addr) (G : Hp) (top deep wide : Int), vs = [.ref d, .int top, .int deep, .int wide] ∧ Same G H ∧ G d = none ∧ DrawAt H d l ∧ 0 ≤ top ∧ top ≤ 1000 ∧ 0 ≤ deep ∧ deep ≤ 1000 ∧ 0 < wide ∧ wide < 2 ^ 200 ∧
  ∀ (p : Addr) (us : List V) (S : List Rw) (G' H' : Hp), Grow (Only1 d) G H G' H' → DrawAt H' d l → H p = none → G' p = none → H' p = some (.lst us) → DpAll K G' us (S.map rowD) → SumsOk top deep wide S → Q (.ref p) H'
structure SumsPart (top deep wide : Int) (i : Nat) (S : List Rw) : Prop where
  each : ∀ r ∈ S, TrmsOk top deep wide r.2 ∧ 0 ≤ r.1 ∧ r.1 ≤ 12 * i
  first : ∃ ts r, S = (0, ts) :: r
  rise : S.Pairwise fun a b => a.1 < b.1
  len : S.length = i + 1
theorem SumsPart.snoc {top deep wide : Int} {i : Nat} {S : List Rw} {r : Rw} {x : Int} {ts : List Trm} (h : SumsPart top deep wide i (S ++ [r])) (hx : r.1 < x) (hx2 : x ≤ r.1 + 12) (ht : TrmsOk top deep wide ts) : SumsPart top deep wide (i + 1) ((S ++ [r]) ++ [(x, ts)]) := by
  obtain ⟨h1, ⟨t0, r0, h2⟩, h3, h4⟩ := h
  have hr := h1 r (by simp)
  refine ⟨fun q hq => ?_, ⟨t0, r0 ++ [(x, ts)], by rw [h2]; rfl⟩, ?_, by rw [List.length_append, h4]; rfl⟩
  · rcases List.mem_append.mp hq with hq | hq
    · obtain ⟨a, b, c⟩ := h1 q hq
      exact ⟨a, b, by omega⟩
    · rw [List.mem_singleton.mp hq]
      exact ⟨ht, by show 0 ≤ x; omega, by show x ≤ 12 * ((i + 1 : Nat) : Int); omega⟩
  · rw [List.pairwise_append]
    refine ⟨h3, List.pairwise_singleton _ _, fun a ha b hb => ?_⟩
    rw [List.mem_singleton.mp hb]
    show a.1 < x
    rcases List.mem_append.mp ha with ha | ha
    · have := (List.pairwise_append.mp h3).2.2 a ha r (by simp)
      omega
    · rw [List.mem_singleton.mp ha]
      exact hx
theorem snoc_of {α : Type} : ∀ {l : List α} {n : Nat}, l.length = n + 1 → ∃ l' x, l = l' ++ [x]
  | [], _, h => by simp at h
  | x :: r, _, _ => ⟨(x :: r).dropLast, (x :: r).getLast (by simp), (List.dropLast_concat_getLast (by simp)).symm⟩
theorem DpAll.unsnoc {G : Hp} {v : V} {d : PyData} {vs : List V} {ds : List PyData} (h : DpAll K G (vs ++ [v]) (ds ++ [d])) : Dp K G v d := by
  have hl := h.length
  rw [List.length_append, List.length_append] at hl
  obtain ⟨e, q1, q2⟩ := h.get (i := vs.length) (v := v) (by simp)
  rw [List.getElem?_append_right (by simp at hl; omega)] at q1
  have : vs.length - ds.length = 0 := by simp at hl; omega
  rw [this] at q1
  have : d = e := by simpa using q1
  rw [this]
  exact q2
theorem ok_law_drawn_sums (T : Txt K mg) : FnOk P w K mg base CX0 5 T.a_law_drawn_sums T.d_law_drawn_sums ["_law_draw", "_law_top", "_law_deep", "_law_wide"] (spDrawnS K) := by
  refine T.F_law_drawn_sums.ok sc_law_drawn_sums (fun vs H Q E h => ?_) (fun cdv A outer s H vs Q E hr h => ?_)
  · obtain ⟨d, l, G, top, deep, wide, rfl, _⟩ := h
    rfl
  obtain ⟨d, l, G, top, deep, wide, rfl, sg, gd, D, ht0, ht1, hd0, hd1, hw0, hw1, k⟩ := h
  refine ⟨_, (pss_cons (ps_set (i := 4) sc_law_drawn_sums.nd rfl (Or.inl rfl) (pe_lst (pa_cons (pe_tup (pa_cons pe_int (pa_cons (pe_call (ok_law_terms T) (hr.mono (by decide)) (by rfl) T.g_law_terms T.F_law_terms.kp T.b_law_terms .nil pass0 (pa_cons (pv 0) (pa_cons (pv 1) (pa_cons (pv 2) (pa_cons (pv 3) pa_nil))))) pa_nil))) pa_nil)))
      (pss_cons (ps_for PassesOwn.never rfl (pi_range1 (by rfl) T.z_range (pa_cons (pe_call (ok_law_take T) (hr.mono (by decide)) (by rfl) T.g_law_take T.F_law_take.kp T.b_law_take .nil pass0 (pa_cons (pv 0) (pa_cons pe_int pa_nil))) pa_nil)) (pg_name (i := 5) sc_law_drawn_sums.nd rfl (Or.inl rfl)) (pss_one (ps_expr (pe_bm PySem.F.plainAttrs_list PySem.F.slot_list_append PySem.F.type_list_append mt_append (pv 4) (pa_cons (pe_tup (pa_cons (pe_op op_add (pe_op op_add (pe_ix ix_tup (pe_ix ix_list (pv 4) (pe_un un_neg pe_int) (fun _ _ => rfl)) pe_int (fun _ _ => rfl)) pe_int) (pe_call (ok_law_take T) (hr.mono (by decide)) (by rfl) T.g_law_take T.F_law_take.kp T.b_law_take .nil pass0 (pa_cons (pv 0) (pa_cons pe_int pa_nil)))) (pa_cons (pe_call (ok_law_terms T) (hr.mono (by decide)) (by rfl) T.g_law_terms T.F_law_terms.kp T.b_law_terms .nil pass0 (pa_cons (pv 0) (pa_cons (pv 1) (pa_cons (pv 2) (pa_cons (pv 3) pa_nil))))) pa_nil))) pa_nil)))))
      (pss_one (ps_ret (pv 4))))), ?_⟩
  refine ⟨_, rfl, _, rfl, _, rfl, _, rfl, d, l, G, top, deep, wide, rfl, sg, gd, D, ht0, ht1, hd0, hd1, hw0, hw1, fun p us ts G1 H1 g1 D1 np gp ep dp tok => ?_⟩
  refine ⟨by show 2 ≤ sizeLine; decide, fun t ht => ⟨by show 1 ≤ sizeLine; decide, fun L hL => ?_⟩⟩
  have g2 := g1.pub ep gp np
  have s12 : Same G1 _ := same_upd (o := .lst us) gp
  have g3 := g2.new (o := .tup [.int 0, .ref p]) ht D1.some'
  have g4 := g3.cell (o := .lst [.ref t]) hL
  have s23 : Same (upd G1 p (.lst us)) _ := same_upd (o := .tup [.int 0, .ref p]) (g2.gh.free ht)
  have D3 := (D1.upd (o := .tup [.int 0, .ref p]) ht).upd (o := .lst [.ref t]) hL
  have hLH : H L = none := g3.h.none ((D1.upd ht).some') hL
  have gL : (upd (upd G1 p (.lst us)) t (.tup [.int 0, .ref p])) L = none := g3.gh.free hL
  have row0 : Dp K (upd (upd G1 p (.lst us)) t (.tup [.int 0, .ref p])) (.ref t) (rowD (0, ts)) :=
    .tup (xs := [.int 0, .ref p]) (SqT.of upd_same) (.cons (.int _) (.cons (.lst (SqL.of (s23 _ _ upd_same)) (dp.mono (s12.trans s23))) .nil))
  have gd4 := g4.none gd D.cell
  refine ⟨_, rfl, d, l, 4, rfl, D3, by decide, by decide, fun r H5 a0 a1 D5 b5 => ?_⟩
  have g5 := g4.trans (Grow.draw g4.gh gd4 b5) D3.some'
  have nLd := (D1.upd (o := .tup [.int 0, .ref p]) ht).ned hL
  have nLl := (D1.upd (o := .tup [.int 0, .ref p]) ht).nel hL
  refine ⟨r, rfl, by omega, by omega, for_it walk_range (fun i σ H' => ∃ (vs : List V) (S : List Rw) (G' : Hp), Grow (Only1 d) G H G' H' ∧ DrawAt H' d l ∧ H' L = some (.lst vs) ∧ G' L = none ∧ DpAll K G' vs (S.map rowD) ∧ SumsPart top deep wide i S ∧
    ∃ v5, σ = [some (.ref d), some (.int top), some (.int deep), some (.int wide), some (.ref L), v5]) ?_ (fun _ _ _ _ _ => trivial) ?_ ?_⟩
  · refine ⟨[.ref t], [(0, ts)], _, g5, D5, b5 _ _ upd_same nLd, gL, .cons row0 .nil, ⟨fun q hq => ?_, ⟨ts, [], rfl⟩, List.pairwise_singleton _ _, rfl⟩, _, rfl⟩
    rw [List.mem_singleton.mp hq]
    exact ⟨tok, Int.le_refl _, (by show (0 : Int) ≤ 12 * ((0 : Nat) : Int); decide)⟩
  · rintro i x σ H6 H7 hi ⟨vs, S, G6, g6, D6, eL, gL6, dp6, sp, v5, rfl⟩ ⟨rfl, rfl⟩
    have gd6 := g6.none gd D.cell
    obtain ⟨S', r0, rfl⟩ := snoc_of sp.len
    have lv := dp6.length
    rw [List.length_map, List.length_append] at lv
    obtain ⟨vs', v, rfl⟩ := snoc_of (n := S'.length) lv
    have dv : Dp K G6 v (rowD r0) := by
      rw [List.map_append] at dp6
      exact DpAll.unsnoc dp6
    obtain ⟨a, xs, ea, hs, rest⟩ : ∃ a xs, v = .ref a ∧ SqT K G6 a xs ∧ xs[0]? = some (.int r0.1) := by
      cases dv with
      | tup hs hr =>
        cases hr with
        | cons h1 h2 =>
          cases h1
          exact ⟨_, _, rfl, hs, rfl⟩
    subst ea
    refine ⟨_, rfl, .inl ⟨rfl, _, SqL.of eL⟩, ?_⟩
    refine ⟨_, rfl, _, rfl, L, _, _, _, rfl, rfl, SqL.of eL, atI_last _ _, a, xs, _, _, rfl, rfl, same_t g6.gh hs, atI_nat (j := 0) rest, _, _, rfl, rfl, ?_⟩
    refine ⟨_, rfl, d, l, 12, rfl, D6, by decide, by decide, fun r1 H8 c0 c1 D8 b8 => ?_⟩
    have g8 := g6.trans (Grow.draw g6.gh gd6 b8) D6.some'
    refine ⟨_, _, rfl, rfl, ?_⟩
    refine ⟨_, rfl, _, rfl, _, rfl, _, rfl, d, l, G6, top, deep, wide, rfl, g8.gh, gd6, D8, ht0, ht1, hd0, hd1, hw0, hw1, fun p2 us2 ts2 G9 H9 g9 D9 np2 gp2 ep2 dp2 tok2 => ?_⟩
    have eL8 := b8 _ _ eL nLd
    have eL9 := g9.h _ _ eL8 nLd
    have gL9 := g9.none gL6 (cell_lst eL8)
    have nLp : L ≠ p2 := ne_of_none eL8 np2
    have g10 := g8.trans g9 D8.some'
    have np0 : H p2 = none := g8.h.none D8.some' np2
    have g11 := g10.pub ep2 gp2 np0
    refine ⟨by show 2 ≤ sizeLine; decide, fun t2 ht2 => ?_⟩
    have g12 := g11.new (o := .tup [.int (r0.1 + 1 + r1), .ref p2]) ht2 D9.some'
    have nLt : L ≠ t2 := ne_of_none eL9 ht2
    have s1 : Same G9 _ := same_upd (o := .lst us2) gp2
    have s2 : Same (upd G9 p2 (.lst us2)) _ := same_upd (o := .tup [.int (r0.1 + 1 + r1), .ref p2]) (g11.gh.free ht2)
    have gL12 : (upd (upd G9 p2 (.lst us2)) t2 (.tup [.int (r0.1 + 1 + r1), .ref p2])) L = none := by
      rw [upd_ne nLt, upd_ne nLp]
      exact gL9
    have rowN : Dp K (upd (upd G9 p2 (.lst us2)) t2 (.tup [.int (r0.1 + 1 + r1), .ref p2])) (.ref t2) (rowD (r0.1 + 1 + r1, ts2)) :=
      .tup (xs := [.int (r0.1 + 1 + r1), .ref p2]) (SqT.of upd_same) (.cons (.int _) (.cons (.lst (SqL.of (s2 _ _ upd_same)) (dp2.mono (s1.trans s2))) .nil))
    refine ⟨L, _, _, rfl, rfl, by rw [upd_ne nLt]; exact eL9, ?_, ?_⟩
    · rw [List.length_append]
      have := sp.len
      rw [List.length_append] at this
      exact small1000 (by simp at lv this ⊢; omega)
    · refine ⟨_, (S' ++ [r0]) ++ [(r0.1 + 1 + r1, ts2)], _, g12.put gL12 (.inl hLH), (D9.upd ht2).put nLd nLl, upd_same, gL12, ?_, sp.snoc (by omega) (by omega) tok2, _, rfl⟩
      rw [List.map_append (l₁ := S' ++ [r0])]
      exact DpAll.snoc (dp6.mono (g9.g.trans (s1.trans s2))) rowN
  · rintro σ H6 ⟨vs, S, G6, g6, D6, eL, gL6, dp6, sp, v5, rfl⟩
    refine ⟨_, rfl, k L vs S G6 H6 g6 D6 hLH gL6 eL dp6 ⟨fun q hq => ?_, sp.first, sp.rise, by rw [sp.len]; omega⟩⟩
    obtain ⟨a, b, c⟩ := sp.each q hq
    exact ⟨a, b, by omega⟩
def spPlus (K : PySem.W.Frag) : Sp := fun vs H Q _ => ∃ (d l : Addr) (top deep wide : Int), vs = [.ref d, .int top, .int deep, .int wide] ∧ DrawAt H d l ∧ 0 ≤ top ∧ top ≤ 1000 ∧ 0 ≤ deep ∧ deep ≤ 1000 ∧ 0 < wide ∧ wide < 2 ^ 200 ∧
  ∀ (p : Addr) (S : List Rw) (H' : Hp), But (Only1 d) H H' → DrawAt H' d l → Dp K (hid d H') (.ref p) (sumsD S) → SumsOk top deep wide S → Q (.ref p) H'
theorem ok_law_plus_sums (T : Txt K mg) : FnOk P w K mg base CX0 8 T.a_law_plus_sums T.d_law_plus_sums ["_law_draw", "_law_top", "_law_deep", "_law_wide"] (spPlus K) := by
  refine T.F_law_plus_sums.ok sc_law_plus_sums (fun vs H Q E h => ?_) (fun cdv A outer s H vs Q E hr h => ?_)
  · obtain ⟨d, l, top, deep, wide, rfl, _⟩ := h
    rfl
  obtain ⟨d, l, top, deep, wide, rfl, D, t0, t1, p0, p1, w0, w1, k⟩ := h
  refine ⟨_, (pss_cons (ps_set (i := 4) sc_law_plus_sums.nd rfl (Or.inl rfl) (pe_call (ok_law_drawn_sums T) (hr.mono (by decide)) (by rfl) T.g_law_drawn_sums T.F_law_drawn_sums.kp T.b_law_drawn_sums .nil pass0 (pa_cons (pv 0) (pa_cons (pv 1) (pa_cons (pv 2) (pa_cons (pv 3) pa_nil))))))
      (pss_one (ps_ret (pe_lc (own := [("_law_since", 5), ("_law_terms_here", 6)]) (g := gTup K 2 ((gCons (gName 5) (gCons (gName 6) gNil)))) (tt := tYes) rfl sc_law_plus_sums.nd (pi_list (pv 4)) (blkOk_by (N := N_law_plus_sums) (sc := defScope s_law_plus_sums) (by decide +kernel)) (fun _ _ _ _ _ => (pg_tup rfl (pgs_cons (pg_name (i := 5) sc_law_plus_sums.nd rfl (Or.inl rfl)) (pgs_cons (pg_name (i := 6) sc_law_plus_sums.nd rfl (Or.inl rfl)) pgs_nil)))) (fun _ _ _ _ _ => pts_nil) (fun _ _ _ _ _ => (pe_tup (pa_cons (pv 5) (pa_cons (by exact (pe_lc (own := [("_law_key", 7), ("_law_part", 8)]) (wi := iList K (tVar 6)) (g := gTup K 2 ((gCons (gName 7) (gCons (gName 8) gNil)))) (tt := tYes) rfl sc_law_plus_sums.nd (pi_list (pv 6)) (blkOk_by (by rfl)) (fun _ _ _ _ _ => (pg_tup rfl (pgs_cons (pg_name (i := 7) sc_law_plus_sums.nd rfl (Or.inl rfl)) (pgs_cons (pg_name (i := 8) sc_law_plus_sums.nd rfl (Or.inl rfl)) pgs_nil)))) (fun _ _ _ _ _ => pts_nil) (fun _ _ _ _ _ => (pe_tup (pa_cons (pv 7) (pa_cons (pe_tup (pa_cons (pe_callB call_abs (by rfl) T.z_abs (by decide +kernel) (pa_cons (pe_ix (r := rIxT K) ix_tup (pv 8) pe_int (fun _ _ => rfl)) pa_nil)) (pa_cons (pe_ix (r := rIxT K) ix_tup (pv 8) pe_int (fun _ _ => rfl)) pa_nil))) pa_nil)))))) pa_nil)))))))), ?_⟩
  refine ⟨_, rfl, _, rfl, _, rfl, _, rfl, d, l, fun _ => none, top, deep, wide, rfl, (fun b o e => nomatch e), rfl, D, t0, t1, p0, p1, w0, w1, fun p us S G1 H1 g1 D1 np gp ep dus okS => ?_⟩
  have gd1 : G1 d = none := g1.none rfl D.cell
  have npd : p ≠ d := D.ned np
  have dus1 : DpAll K (hid d H1) us (S.map rowD) := dus.mono (hid_of g1.gh gd1)
  have lus := dus1.length
  rw [List.length_map] at lus
  have ls := okS.len
  refine ⟨_, rfl, p, rfl, ⟨_, SqL.of ep⟩, fun R hR => ?_⟩
  have nRd := D1.ned hR
  have nR1 : hid d H1 R = none := hid_none hR
  refine lc_it (walk_list (xs := us)) (fun i H' => Same H1 H' ∧ ∃ vs, H' R = some (.lst vs) ∧ vs.length = i ∧ DpAll K (hid R (hid d H')) vs (((S.map plusR).take i).map rowD)) ⟨same_upd hR, [], upd_same, rfl, .nil⟩ (fun i H' _ q => SqL.of (q.1 _ _ ep)) ?_ ?_
  · rintro i x H2 H3 hi ⟨s2, vs, eR, lv, dv⟩ ⟨rfl, hx⟩
    obtain ⟨r, hr', dr⟩ := DpAll.at_ dus1 hx
    obtain ⟨b, x1, x2, rfl, hb, d1, d2⟩ := dr.tup2
    cases d1.int'
    obtain ⟨c, ws, rfl, hc, dB⟩ := d2.lst'
    have lw : ws.length = r.2.length := by
      have := dB.length
      rw [List.length_map] at this
      exact this
    have l3 := (okS.each r (List.mem_of_getElem? hr')).1.len
    have hs2 : Same (hid d H1) H3 := hid_same.trans s2
    have ho3 : Same (hid d H1) (hid R (hid d H3)) := hid_of (hid_mono s2) nR1
    refine ⟨b, _, rfl, same_t hs2 hb, rfl, _, _, rfl, _, _, rfl, rfl, rfl, ?_⟩
    refine ⟨_, rfl, _, rfl, c, rfl, ⟨_, same_l hs2 hc⟩, fun R2 hR2 => ?_⟩
    have nR2d : R2 ≠ d := (D1.mono s2).ned hR2
    have nR2R : R2 ≠ R := fun z => by
      rw [z, eR] at hR2
      cases hR2
    have nR2 : hid R (hid d H3) R2 = none := hid_none (hid_none hR2)
    refine lc_it (walk_list (xs := ws)) (fun j H' => Same H3 H' ∧ ∃ vs2, H' R2 = some (.lst vs2) ∧ vs2.length = j ∧ DpAll K (hid R2 (hid R (hid d H'))) vs2 (((r.2.map plusT).take j).map termD)) ⟨same_upd hR2, [], upd_same, rfl, .nil⟩ (fun j H' _ q => same_l (hs2.trans q.1) hc) ?_ ?_
    · rintro j y H4 H5 hj ⟨s4, vs2, eR2, lv2, dv2⟩ ⟨rfl, hy⟩
      obtain ⟨t, ht, dt⟩ := DpAll.at_ dB hy
      obtain ⟨pt, y1, y2, rfl, hp, e1, e2⟩ := dt.tup2
      obtain ⟨m, m1, m2, rfl, hm, e5, e6⟩ := e2.tup2
      cases e5.int'
      cases e6.int'
      have hs5 := hs2.trans s4
      have ho5 : Same (hid d H1) (hid R2 (hid R (hid d H5))) := hid_of (ho3.trans (hid_mono (hid_mono s4))) (by
        cases q : hid d H1 R2 with
        | none => rfl
        | some o => exact absurd (ho3 _ _ q) (by rw [nR2]; exact fun z => nomatch z))
      refine ⟨pt, _, rfl, same_t hs5 hp, rfl, _, _, rfl, _, _, rfl, rfl, rfl, ?_⟩
      refine ⟨_, rfl, _, rfl, m, _, _, _, rfl, rfl, same_t hs5 hm, (rfl : atI [V.int t.2.1, V.int t.2.2] 0 = some (.int t.2.1)), _, rfl, _, rfl, m, _, _, _, rfl, rfl, same_t hs5 hm, (rfl : atI [V.int t.2.1, V.int t.2.2] 1 = some (.int t.2.2)), by show 2 ≤ sizeLine; decide, fun q1 hq1 => ?_⟩
      rw [show (if t.2.1 < 0 then -t.2.1 else t.2.1) = (t.2.1.natAbs : Int) by split <;> omega]
      have sq1 := same_upd (o := .tup [.int (t.2.1.natAbs : Int), .int t.2.2]) hq1
      have nq1 : q1 ≠ d := (D1.mono (s2.trans s4)).ned hq1
      refine ⟨by show 2 ≤ sizeLine; decide, fun q2 hq2 => ?_⟩
      have sq2 := same_upd (o := .tup [y1, .ref q1]) hq2
      have nq2 : q2 ≠ d := (D1.mono ((s2.trans s4).trans sq1)).ned hq2
      have s6 := sq1.trans sq2
      have s46 := s4.trans s6
      have eR5 : H5 R = some (.lst vs) := s4 _ _ eR
      have eR25 := eR2
      have n1R : q1 ≠ R := fun z => by rw [z, eR5] at hq1; cases hq1
      have n1R2 : q1 ≠ R2 := fun z => by rw [z, eR25] at hq1; cases hq1
      have n2R : q2 ≠ R := fun z => by rw [z, sq1 _ _ eR5] at hq2; cases hq2
      have n2R2 : q2 ≠ R2 := fun z => by rw [z, sq1 _ _ eR25] at hq2; cases hq2
      refine ⟨vs2, s6 _ _ eR2, small1000 (by omega), same_put s46 hR2, vs2 ++ [.ref q2], upd_same, by simp [lv2], ?_⟩
      have eH : hid R (hid d (upd (upd (upd H5 q1 (.tup [.int (t.2.1.natAbs : Int), .int t.2.2])) q2 (.tup [y1, .ref q1])) R2 (.lst (vs2 ++ [.ref q2])))) = upd (hid R (hid d (upd (upd H5 q1 (.tup [.int (t.2.1.natAbs : Int), .int t.2.2])) q2 (.tup [y1, .ref q1])))) R2 (.lst (vs2 ++ [.ref q2])) := by
        rw [hid_upd nR2d, hid_upd nR2R]
      rw [eH]
      have sF : Same (hid R2 (hid R (hid d H5))) (hid R2 (upd (hid R (hid d (upd (upd H5 q1 (.tup [.int (t.2.1.natAbs : Int), .int t.2.2])) q2 (.tup [y1, .ref q1])))) R2 (.lst (vs2 ++ [.ref q2])))) := hid_put (hid_same.trans (hid_mono (hid_mono s6)))
      have k1 : (hid R2 (upd (hid R (hid d (upd (upd H5 q1 (.tup [.int (t.2.1.natAbs : Int), .int t.2.2])) q2 (.tup [y1, .ref q1])))) R2 (.lst (vs2 ++ [.ref q2])))) q1 = some (.tup [.int (t.2.1.natAbs : Int), .int t.2.2]) := by
        rw [hid_ne n1R2, upd_ne n1R2, hid_ne n1R, hid_ne nq1]
        exact sq2 _ _ upd_same
      have k2 : (hid R2 (upd (hid R (hid d (upd (upd H5 q1 (.tup [.int (t.2.1.natAbs : Int), .int t.2.2])) q2 (.tup [y1, .ref q1])))) R2 (.lst (vs2 ++ [.ref q2])))) q2 = some (.tup [y1, .ref q1]) := by
        rw [hid_ne n2R2, upd_ne n2R2, hid_ne n2R, hid_ne nq2]
        exact upd_same
      have ht' : (r.2.map plusT)[j]? = some (plusT t) := by rw [List.getElem?_map, ht]; rfl
      rw [take_snoc ht', List.map_append]
      refine DpAll.snoc (dv2.mono sF) ?_
      exact .tup (xs := [y1, .ref q1]) (SqT.of k2) (.cons (e1.mono (ho5.trans sF)) (.cons (.tup (xs := [.int (t.2.1.natAbs : Int), .int t.2.2]) (SqT.of k1) (.cons (.int _) (.cons (.int _) .nil))) .nil))
    · rintro H4 ⟨s4, vs2, eR2, lv2, dv2⟩
      have eR4 : H4 R = some (.lst vs) := s4 _ _ eR
      rw [List.take_of_length_le (by rw [List.length_map]; omega)] at dv2
      refine ⟨by show 2 ≤ sizeLine; decide, fun q1 hq1 => ?_⟩
      have sq1 := same_upd (o := .tup [.int r.1, .ref R2]) hq1
      have nq1 : q1 ≠ d := (D1.mono (s2.trans s4)).ned hq1
      have n1R : q1 ≠ R := fun z => by rw [z, eR4] at hq1; cases hq1
      have s4q := s4.trans sq1
      refine ⟨vs, s4q _ _ eR, small1000 (by omega), same_put (s2.trans s4q) hR, vs ++ [.ref q1], upd_same, by simp [lv], ?_⟩
      rw [hid_upd nRd]
      have sF : Same (hid R (hid d H4)) (hid R (upd (hid d (upd H4 q1 (.tup [.int r.1, .ref R2]))) R (.lst (vs ++ [.ref q1])))) := hid_put (hid_same.trans (hid_mono sq1))
      have k1 : (hid R (upd (hid d (upd H4 q1 (.tup [.int r.1, .ref R2]))) R (.lst (vs ++ [.ref q1])))) q1 = some (.tup [.int r.1, .ref R2]) := by
        rw [hid_ne n1R, upd_ne n1R, hid_ne nq1]
        exact upd_same
      have k2 : (hid R (hid d H4)) R2 = some (.lst vs2) := by
        rw [hid_ne nR2R, hid_ne nR2d]
        exact eR2
      have hr2 : (S.map plusR)[i]? = some (plusR r) := by rw [List.getElem?_map, hr']; rfl
      rw [take_snoc hr2, List.map_append]
      refine DpAll.snoc (dv.mono ((hid_mono (hid_mono s4)).trans sF)) ?_
      exact .tup (xs := [.int r.1, .ref R2]) (SqT.of k1) (.cons (.int _) (.cons (.lst (SqL.of (sF _ _ k2)) (dv2.mono (hid_same.trans sF))) .nil))
  · rintro H2 ⟨s2, vs, eR, lv, dv⟩
    rw [List.take_of_length_le (by rw [List.length_map]; omega)] at dv
    refine k R (S.map plusR) H2 (fun b o e n => s2 _ _ (g1.h b o e n)) (D1.mono s2) ?_ (plus_ok okS)
    exact .lst (SqL.of (hid_at eR nRd)) (dv.mono hid_same)
theorem ok_law_raised (T : Txt K mg) : FnOk P w K mg base CX0 1 T.a_law_raised T.d_law_raised ["_law_part", "_law_upto"] spRaised := by
  refine T.F_law_raised.ok sc_law_raised (fun vs H Q E h => ?_) (fun cdv A outer s H vs Q E hr h => ?_)
  · obtain ⟨b, p, m, rfl, _⟩ := h
    rfl
  obtain ⟨b, p, m, rfl, hb, h0, h1, k⟩ := h
  refine ⟨_, (pss_cons (ps_set (i := 2) sc_law_raised.nd rfl (Or.inl rfl) pe_int)
      (pss_cons (ps_for PassesOwn.never rfl (pi_range1 (by rfl) T.z_range (pa_cons (pv 1) pa_nil)) (pg_name (i := 3) sc_law_raised.nd rfl (Or.inl rfl)) (pss_one (ps_set (i := 2) sc_law_raised.nd rfl (Or.inl rfl) (pe_op op_mulW (pv 2) (pv 0)))))
      (pss_one (ps_ret (pv 2))))), ?_⟩
  have hp := raised_small h0 h1
  refine ⟨_, rfl, p, rfl, by omega, by omega, for_it walk_range (fun i σ H' => H' = H ∧ ∃ t, σ = [some (.int b), some (.int p), some (.int (b ^ i)), t]) ⟨rfl, none, by rw [Int.pow_zero]; rfl⟩ (fun _ _ _ _ _ => trivial) ?_ ?_⟩
  · rintro i x σ H1 H2 hi ⟨rfl, t, rfl⟩ ⟨rfl, rfl⟩
    refine ⟨_, rfl, _, rfl, _, _, rfl, rfl, raised_ok hb h0 h1 (by omega), rfl, some (.int ((0 : Int) + i)), ?_⟩
    rw [Int.pow_succ]
    rfl
  · rintro σ H1 ⟨rfl, t, rfl⟩
    exact ⟨_, rfl, k⟩
theorem ok_law_sums_at (T : Txt K mg) : FnOk P w K mg base CX0 3 T.a_law_sums_at T.d_law_sums_at ["_law_sums", "_law_size"] (spWorth P w K) := by
  refine T.F_law_sums_at.ok sc_law_sums_at (fun vs H Q E h => ?_) (fun cdv A outer s H vs Q E hr h => ?_)
  · obtain ⟨p, S, sz, _, _, _, rfl, _⟩ := h
    rfl
  obtain ⟨x, S, sz, top, deep, wide, rfl, dS, ok, h1, h2, h3, hz, k⟩ := h
  refine ⟨_, (pss_cons (ps_set (i := 2) sc_law_sums_at.nd rfl (Or.inl rfl) (pe_lst pa_nil))
      (pss_cons (ps_for PassesOwn.never rfl (pi_list (pv 0)) (pg_tup rfl (pgs_cons (pg_name (i := 3) sc_law_sums_at.nd rfl (Or.inl rfl)) (pgs_cons (pg_name (i := 4) sc_law_sums_at.nd rfl (Or.inl rfl)) pgs_nil))) (pss_one (ps_if (pt_cmpR op_le (pv 3) (pv 1) (nomark _)) (pss_one (ps_set (i := 2) sc_law_sums_at.nd rfl (Or.inl rfl) (pv 4))) pss_nil)))
      (pss_cons (ps_asg (pe_tup (pa_cons pe_int (pa_cons pe_int pa_nil))) (pg_tup rfl (pgs_cons (pg_name (i := 5) sc_law_sums_at.nd rfl (Or.inl rfl)) (pgs_cons (pg_name (i := 6) sc_law_sums_at.nd rfl (Or.inl rfl)) pgs_nil))))
      (pss_cons (ps_for PassesOwn.never rfl (pi_list (pv 2)) (pg_tup rfl (pgs_cons (pg_tup rfl (pgs_cons (pg_name (i := 7) sc_law_sums_at.nd rfl (Or.inl rfl)) (pgs_cons (pg_name (i := 8) sc_law_sums_at.nd rfl (Or.inl rfl)) pgs_nil))) (pgs_cons (pg_name (i := 9) sc_law_sums_at.nd rfl (Or.inl rfl)) pgs_nil))) (pss_cons (ps_set (i := 10) sc_law_sums_at.nd rfl (Or.inl rfl) (pe_op op_mulW (pe_op op_mulW (pe_ix ix_tup (pv 9) pe_int (fun _ _ => rfl)) (pe_call (ok_law_raised T) (hr.mono (by decide)) (by rfl) T.g_law_raised T.F_law_raised.kp T.b_law_raised .nil pass0 (pa_cons (pv 1) (pa_cons (pv 7) pa_nil)))) (pe_call (ok_law_raised T) (hr.mono (by decide)) (by rfl) T.g_law_raised T.F_law_raised.kp T.b_law_raised .nil pass0 (pa_cons (pe_bits (pv 1)) (pa_cons (pv 8) pa_nil)))))
      (pss_one (ps_par (i := 5) (j := 6) (by rfl) sc_law_sums_at.nd rfl rfl (by decide) rfl rfl (pa_cons (pe_op op_add (pe_op op_mulW (pv 5) (pe_ix ix_tup (pv 9) pe_int (fun _ _ => rfl))) (pe_op op_mulW (pv 10) (pv 6))) (pa_cons (pe_op op_mulW (pv 6) (pe_ix ix_tup (pv 9) pe_int (fun _ _ => rfl))) pa_nil)) (by rfl)))))
      (pss_one (ps_ret (pe_call (ok_law_lowest T) (hr.mono (by decide)) (by rfl) T.g_law_lowest T.F_law_lowest.kp T.b_law_lowest .nil pass0 (pa_cons (pv 5) (pa_cons (pv 6) pa_nil))))))))), ?_⟩
  obtain ⟨a, us, rfl, hs, dA⟩ := dS.lst'
  have lS : us.length = S.length := by
    have := dA.length
    rw [List.length_map] at this
    exact this
  have ss := sumSz_of h1 h2 h3 ok
  have hb := bits_b hz
  refine ⟨by show 0 ≤ sizeLine; decide, fun L hL => ?_⟩
  have sL := same_upd (o := .lst []) hL
  refine ⟨_, rfl, a, rfl, ⟨_, same_l sL hs⟩, for_it (walk_list (xs := us)) (fun i σ H' => Same H H' ∧ ∃ c v3 v4 v5 v6 v7 v8 v9 v10, Dp K H' (.ref c) (.list ((termsAt (S.take i) sz).map termD)) ∧ σ = [some (.ref a), some (.int sz), some (.ref c), v3, v4, v5, v6, v7, v8, v9, v10]) ⟨sL, L, _, _, _, _, _, _, _, _, .lst (SqL.of upd_same) .nil, rfl⟩ (fun i σ H' _ q => same_l q.1 hs) ?_ ?_⟩
  · rintro i x σ H1 H2 hi ⟨s2, c, v3, v4, v5, v6, v7, v8, v9, v10, dc, rfl⟩ ⟨rfl, hx⟩
    obtain ⟨r, hr', dr⟩ := DpAll.at_ dA hx
    obtain ⟨b, x1, x2, rfl, hb2, d1, d2⟩ := dr.tup2
    cases d1.int'
    obtain ⟨e, ws, rfl, he, hw⟩ := d2.lst'
    refine ⟨b, _, rfl, same_t s2 hb2, rfl, _, _, rfl, _, _, rfl, rfl, ?_⟩
    refine ⟨_, rfl, _, rfl, _, _, rfl, rfl, _, rfl, ?_⟩
    refine ite2 (fun q => ?_) (fun q => ?_)
    · have q' : r.1 ≤ sz := of_decide_eq_true q
      refine ⟨_, rfl, s2, e, _, _, _, _, _, _, _, _, ?_, rfl⟩
      rw [termsAt_snoc hr', if_pos q']
      exact .lst (same_l s2 he) (hw.mono s2)
    · have q' : ¬ r.1 ≤ sz := fun z => q (decide_eq_true z)
      refine ⟨s2, c, _, _, _, _, _, _, _, _, ?_, rfl⟩
      rw [termsAt_snoc hr', if_neg q']
      exact dc
  · rintro σ H1 ⟨s1, c, v3, v4, v5, v6, v7, v8, v9, v10, dc, rfl⟩
    have et : S.take us.length = S := by rw [lS, List.take_length]
    rw [et] at dc
    have tz : ∀ t ∈ termsAt S sz, TSz t := termsAt_ok (F := fun ts => ∀ t ∈ ts, TSz t) (fun _ h => nomatch h) fun r hr => (ss r hr).1
    have tl : (termsAt S sz).length ≤ 10 := termsAt_ok (F := fun ts => ts.length ≤ 10) (by decide) fun r hr => (ss r hr).2
    generalize htt : termsAt S sz = ts at dc tz tl
    rw [htt] at k
    obtain ⟨c', ws, ec, hc, dW⟩ := dc.lst'
    cases ec
    have lw : ws.length = ts.length := by
      have := dW.length
      rw [List.length_map] at this
      exact this
    refine ⟨by show 2 ≤ sizeLine; decide, fun q0 hq0 => ⟨q0, _, rfl, SqT.of upd_same, rfl, _, _, rfl, _, _, rfl, rfl, ?_⟩⟩
    have s0 := same_upd (o := .tup [.int 0, .int 1]) hq0
    refine ⟨_, rfl, c, rfl, ⟨_, same_l s0 hc⟩, for_it (walk_list (xs := ws)) (fun j σ H' => Same H1 H' ∧ ∃ v3 v4 v7 v8 v9 v10, σ = [some (.ref a), some (.int sz), some (.ref c), v3, v4, some (.int (rawL sz (Builtin.Int.intBits sz : Nat) (ts.take j)).1), some (.int (rawL sz (Builtin.Int.intBits sz : Nat) (ts.take j)).2), v7, v8, v9, v10]) ⟨s0, _, _, _, _, _, _, rfl⟩ (fun j σ H' _ q => same_l q.1 hc) ?_ ?_⟩
    · rintro j y σ H3 H4 hj ⟨s4, v3, v4, v7, v8, v9, v10, rfl⟩ ⟨rfl, hy⟩
      obtain ⟨t, ht, dt⟩ := DpAll.at_ dW hy
      have tk := tz t (List.mem_of_getElem? ht)
      obtain ⟨p, y1, y2, rfl, hp, e1, e2⟩ := dt.tup2
      obtain ⟨q, z1, z2, rfl, hq, e3, e4⟩ := e1.tup2
      obtain ⟨m, m1, m2, rfl, hm, e5, e6⟩ := e2.tup2
      cases e3.int'
      cases e4.int'
      cases e5.int'
      cases e6.int'
      have hm := same_t s4 hm
      have p0 := tk.p0
      have p1 := tk.p1
      have f0 := tk.f0
      have f1 := tk.f1
      have u0 := tk.u0
      have u1 := tk.u1
      have hj : j < ws.length := hj
      obtain ⟨r1, r2, r3⟩ := raw_b (ts := ts) hz hb tz j (by omega)
      have m0 : atI [V.int t.2.1, V.int t.2.2] 0 = some (.int t.2.1) := rfl
      have m1 : atI [V.int t.2.1, V.int t.2.2] 1 = some (.int t.2.2) := rfl
      have z1 := pow_b (k := t.1.1.toNat) hz (by omega)
      have z2 := pow_b (k := t.1.2.toNat) hb (by omega)
      have z3 := mul_b tk.o1 z1
      have nb := numI_b hz hb tk.o1 p1 f1
      refine ⟨p, _, rfl, same_t s4 hp, rfl, _, _, rfl, ⟨q, _, rfl, same_t s4 hq, rfl, _, _, rfl, _, _, rfl, rfl, _, _, rfl, rfl, ?_⟩⟩
      refine ⟨_, rfl, m, _, _, _, rfl, rfl, hm, m0, _, rfl, _, rfl, sz, t.1.1.toNat, 110, by rw [show ((t.1.1.toNat : Nat) : Int) = t.1.1 by omega]; rfl, hz, by decide, by omega, ?_⟩
      refine ⟨_, _, rfl, rfl, cmul_of tk.o1 z1 (by decide) (by decide) (by decide), ?_⟩
      refine ⟨_, rfl, _, rfl, _, rfl, _, t.1.2.toNat, 110, by rw [show ((t.1.2.toNat : Nat) : Int) = t.1.2 by omega]; rfl, hb, by decide, by omega, ?_⟩
      refine ⟨_, _, rfl, rfl, cmul_of z3 z2 (by decide) (by decide) (by decide), ?_⟩
      have u2 : t.2.2.natAbs < 2 ^ 2 := by omega
      have r2' : (rawL sz (Builtin.Int.intBits sz : Nat) (ts.take j)).2.natAbs < 2 ^ 21 := Nat.lt_of_lt_of_le r2 (Nat.pow_le_pow_right (by decide) (by omega))
      have r3' : (rawL sz (Builtin.Int.intBits sz : Nat) (ts.take j)).1.natAbs < 2 ^ 2400 := Nat.lt_of_lt_of_le r3 (Nat.pow_le_pow_right (by decide) (by omega))
      refine ⟨_, rfl, _, rfl, m, _, _, _, rfl, rfl, hm, m1, _, _, rfl, rfl, cmul_of r3' u2 (by decide) (by decide) (by decide), ?_⟩
      refine ⟨_, rfl, _, rfl, _, _, rfl, rfl, cmul_of nb r2' (by decide) (by decide) (by decide), _, _, rfl, rfl, ?_⟩
      refine ⟨_, rfl, _, rfl, m, _, _, _, rfl, rfl, hm, m1, _, _, rfl, rfl, cmul_of r2' u2 (by decide) (by decide) (by decide), ?_⟩
      try unfold tNil
      refine ⟨_, _, rfl, s4, v3, v4, some (.int t.1.1), some (.int t.1.2), some (.ref m), some (.int (numI sz (Builtin.Int.intBits sz : Nat) t)), ?_⟩
      have e : rawL sz (Builtin.Int.intBits sz : Nat) (ts.take (j + 1)) = rawStep sz (Builtin.Int.intBits sz : Nat) (rawL sz (Builtin.Int.intBits sz : Nat) (ts.take j)) t := by
        unfold rawL
        rw [take_snoc ht, List.foldl_append]
        rfl
      rw [e]
      rfl
    · rintro σ H3 ⟨s3, v3, v4, v7, v8, v9, v10, rfl⟩
      have et : ts.take ws.length = ts := by rw [lw, List.take_length]
      rw [et]
      have hw := worthL_eq (sz := sz) (bl := (Builtin.Int.intBits sz : Nat)) (ts := ts) fun t h => ⟨(tz t h).p0, (tz t h).f0, (tz t h).u0, (tz t h).low⟩
      obtain ⟨r1, r2, r3⟩ := raw_b (ts := ts) hz hb tz ts.length tl
      rw [List.take_length] at r1 r2 r3
      refine ⟨_, rfl, _, rfl, _, _, rfl, r1, ?_, fun p hp => ?_⟩
      · have c4 : (rawL sz (Builtin.Int.intBits sz : Nat) ts).2.natAbs < 2 ^ 21 := Nat.lt_of_lt_of_le r2 (Nat.pow_le_pow_right (by decide) (by omega))
        have c5 : ((2 : Int) ^ 21) < 2 ^ 8000 := by decide
        omega
      · refine k _ _ (s1.trans (s3.trans (same_upd hp))) ?_
        rw [hw]
        exact .tup (xs := [.int _, .int _]) (SqT.of upd_same) (.cons (.int _) (.cons (.int _) .nil))
def spDue (P : Program) (w : World) (K : PySem.W.Frag) : Sp := fun vs H Q _ => ∃ (v : V) (S : List Rw) (many bs top deep wide : Int), vs = [v, .int many, .int bs] ∧ Dp K H v (sumsD S) ∧ SumsOk top deep wide S ∧ top ≤ 9 ∧ deep ≤ 9 ∧ wide < 2 ^ 200 ∧ (bs = 2 ∨ bs = 3) ∧ 0 ≤ many ∧
  ∀ u H', Same H H' → Dp K H' u (dueD (growL S many bs)) → Q u H'
theorem ok_law_due_growth (T : Txt K mg) : FnOk P w K mg base CX0 4 T.a_law_due_growth T.d_law_due_growth ["_law_sums", "_law_often", "_law_by_it"] (spDue P w K) := by
  refine T.F_law_due_growth.ok sc_law_due_growth (fun vs H Q E h => ?_) (fun cdv A outer s H vs Q E hr h => ?_)
  · obtain ⟨v, S, many, bs, _, _, _, rfl, _⟩ := h
    rfl
  obtain ⟨v, S, many, bs, top, deep, wide, rfl, dv, okS, t9, d9, w2, hb, m0, k⟩ := h
  refine ⟨_, (pss_cons (ps_set (i := 3) sc_law_due_growth.nd rfl (Or.inl rfl) (pe_ix ix_seq (pe_ix ix_list (pv 0) (pe_un un_neg pe_int) (fun _ _ => rfl)) pe_int (fun _ _ => rfl)))
      (C8.pss_cut (ps_set (i := 4) sc_law_due_growth.nd rfl (Or.inl rfl) (pe_ifExp (pt_cmpR (op_neD hr.units) (pv 3) (pe_lst pa_nil) (nomark _)) (pe_callB (cr_maxP rfl hr.units) (by rfl) T.z_max (by decide +kernel) (pa_cons (pe_lc (own := [("_law_key", 7), ("_law_part", 8)]) (g := gTup K 2 ((gCons (gName 7) (gCons (gName 8) gNil)))) (tt := tYes) rfl sc_law_due_growth.nd (pi_list (pv 3)) (blkOk_by (N := N_law_due_growth) (sc := defScope s_law_due_growth) (by decide +kernel)) (fun _ _ _ _ _ => (pg_tup rfl (pgs_cons (pg_name (i := 7) sc_law_due_growth.nd rfl (Or.inl rfl)) (pgs_cons (pg_name (i := 8) sc_law_due_growth.nd rfl (Or.inl rfl)) pgs_nil)))) (fun _ _ _ _ _ => pts_nil) (fun _ _ _ _ _ => (pv 7))) pa_nil)) (pe_tup (pa_cons pe_int (pa_cons pe_int pa_nil)))))
      (C8.pss_cut (ps_if (pt_cmpR op_eq (pv 1) pe_int (nomark _)) (pss_one (ps_ret (pe_ifExp (pt_cmpR (op_eqD hr.units) (pv 3) (pe_lst pa_nil) (nomark _)) pe_non (pe_tup (pa_cons (pe_call (ok_law_raised T) (hr.mono (by decide)) (by rfl) T.g_law_raised T.F_law_raised.kp T.b_law_raised .nil pass0 (pa_cons pe_int (pa_cons (pe_ix ix_tup (pv 4) pe_int (fun _ _ => rfl)) pa_nil))) (pa_cons pe_int (pa_cons (pe_ix ix_tup (pv 4) pe_int (fun _ _ => rfl)) pa_nil))))))) pss_nil)
      (C8.pss_cut (ps_if (pt_cmpR (op_eqD hr.units) (pv 3) (pe_lst pa_nil) (nomark _)) (pss_cons (ps_if (pt_val (pe_callB (cr_all rfl) (by rfl) T.z_all (by decide +kernel) (pa_cons (pe_lc (own := [("_law_since", 9), ("_law_some", 10)]) (g := gTup K 2 ((gCons (gName 9) (gCons (gName 10) gNil)))) (tt := tYes) rfl sc_law_due_growth.nd (pi_list (pv 0)) (blkOk_by (N := N_law_due_growth) (sc := defScope s_law_due_growth) (by decide +kernel)) (fun _ _ _ _ _ => (pg_tup rfl (pgs_cons (pg_name (i := 9) sc_law_due_growth.nd rfl (Or.inl rfl)) (pgs_cons (pg_name (i := 10) sc_law_due_growth.nd rfl (Or.inl rfl)) pgs_nil)))) (fun _ _ _ _ _ => pts_nil) (fun _ _ _ _ _ => (pe_cmpR (r := rEqD K) (op_eqD hr.units) (pv 10) (pe_lst pa_nil) (nomark _)))) pa_nil))) (pss_one (ps_ret pe_non)) pss_nil)
      (pss_one (ps_if (pt_cmpR (op_eqD hr.units) (pe_call (ok_law_sums_at T) (hr.mono (by decide)) (by rfl) T.g_law_sums_at T.F_law_sums_at.kp T.b_law_sums_at .nil pass0 (pa_cons (pv 0) (pa_cons pe_int pa_nil))) (pe_tup (pa_cons pe_int (pa_cons pe_int pa_nil))) (nomark _)) (pss_one (ps_ret pe_str)) pss_nil))) pss_nil)
      (C8.pss_cut (ps_set (i := 5) sc_law_due_growth.nd rfl (Or.inl rfl) (pe_call (ok_law_raised T) (hr.mono (by decide)) (by rfl) T.g_law_raised T.F_law_raised.kp T.b_law_raised .nil pass0 (pa_cons (pv 2) (pa_cons (pe_ix ix_tup (pv 4) pe_int (fun _ _ => rfl)) pa_nil))))
      (C8.pss_cut (ps_if (PW.pt (pw_and (pt_cmpR (op_neD hr.units) (pv 3) (pe_lst pa_nil) (nomark _)) (pw_and1 (pt_cmpR op_lt (pv 1) (pv 5) (nomark _))))) (pss_one (ps_ret (pe_tup (pa_cons (pe_call (ok_law_raised T) (hr.mono (by decide)) (by rfl) T.g_law_raised T.F_law_raised.kp T.b_law_raised .nil pass0 (pa_cons pe_int (pa_cons (pe_ix ix_tup (pv 4) pe_int (fun _ _ => rfl)) pa_nil))) (pa_cons pe_int (pa_cons (pe_ix ix_tup (pv 4) pe_int (fun _ _ => rfl)) pa_nil)))))) pss_nil)
      (C8.pss_cut (ps_set (i := 6) sc_law_due_growth.nd rfl (Or.inl rfl) (pe_ifExp (PW.pt (pw_and (pt_cmpR (op_neD hr.units) (pv 3) (pe_lst pa_nil) (nomark _)) (pw_and1 (pt_cmpR op_eq (pv 1) (pv 5) (nomark _))))) (pe_op op_add (pe_ix ix_tup (pv 4) pe_int (fun _ _ => rfl)) pe_int) pe_int))
      (pss_one (ps_ret (pe_ifExp (PW.pt (pw_and (pt_cmpR op_eq (pv 2) pe_int (nomark _)) (pw_and1 (pt_cmpR op_in_seq (pv 1) (pe_lst (pa_cons pe_int (pa_cons pe_int (pa_cons pe_int pa_nil)))) (by rfl))))) (pe_tup (pa_cons (pe_dget (hu_of hr) (pe_disp (pps_cons pe_int pe_int (pps_cons pe_int pe_int (pps_cons pe_int pe_int pps_nil))) (by rfl) (by rfl) (by simp) (by decide)) (pv 1) (fun _ _ => rfl)) (pa_cons pe_int (pa_cons (pv 6) pa_nil)))) (pe_tup (pa_cons (pv 1) (pa_cons (pv 2) (pa_cons (pv 6) pa_nil)))))))))))))), ?_⟩
  obtain ⟨S0, r, rfl⟩ := snoc_l (sums_ne okS)
  obtain ⟨va, us, rfl, hva, dus⟩ := dv.lst'
  have lus : us.length = (S0 ++ [r]).length := by
    have := dus.length
    rw [List.length_map] at this
    exact this
  have hl : lastT (S0 ++ [r]) = r.2 := lastT_snoc _ _
  have tok := (okS.each r (List.mem_append_right _ (List.mem_singleton.mpr rfl))).1
  have l4 := okS.len
  obtain ⟨us0, u, rfl⟩ : ∃ us0 u, us = us0 ++ [u] := snoc_l (by intro z; rw [z, List.length_append] at lus; simp at lus)
  have l0 : us0.length = S0.length := by simpa using lus
  obtain ⟨q, hq, du⟩ := DpAll.at_ (l := S0 ++ [r]) dus (i := us0.length) (x := u) (by simp)
  have eq : q = r := by
    rw [l0] at hq
    simpa using hq.symm
  subst eq
  obtain ⟨ua, x1, x2, rfl, hua, d1, d2⟩ := du.tup2
  cases d1.int'
  obtain ⟨ta, ws, rfl, hta, dB⟩ := d2.lst'
  have lw : ws.length = q.2.length := by
    have := dB.length
    rw [List.length_map] at this
    exact this
  have l3 := tok.len
  have dta : Dp K H (.ref ta) (.list (q.2.map termD)) := .lst hta dB
  let tk : Int × Int := if q.2 = [] then (0, 0) else topK q.2
  have htk : ∃ n : Nat, tk.1 = (n : Int) ∧ n ≤ 9 ∧ 0 ≤ tk.2 := by
    by_cases hz : q.2 = []
    · exact ⟨0, by show (if q.2 = [] then ((0, 0) : Int × Int) else topK q.2).1 = _; rw [if_pos hz]; rfl, by decide, by show 0 ≤ (if q.2 = [] then ((0, 0) : Int × Int) else topK q.2).2; rw [if_pos hz]; decide⟩
    · obtain ⟨q0, q1, q2, q3⟩ := topK_ok tok hz
      have e : tk = topK q.2 := if_neg hz
      rw [e]
      exact ⟨(topK q.2).1.toNat, by omega, by omega, q2⟩
  obtain ⟨n, hn, n9, tk2⟩ := htk
  have ktop : q.2 ≠ [] → plainG q.2 = (2 ^ n, 2, tk.2) := fun hz => by
    have e : tk = topK q.2 := if_neg hz
    unfold plainG
    rw [← e, hn]
    rfl
  have ktop2 : q.2 ≠ [] → (topK q.2).1.toNat = n ∧ (topK q.2).2 = tk.2 := fun hz => by
    have e : tk = topK q.2 := if_neg hz
    rw [← e, hn]
    exact ⟨by omega, rfl⟩
  let S11 : Option V → Option V → Option V → Option V → Option V → Option V → Option V → L2.St := fun v4 v5 v6 v7 v8 v9 v10 => [some (.ref va), some (.int many), some (.int bs), some (.ref ta), v4, v5, v6, v7, v8, v9, v10]
  let MdT : L2.St → Hp → Prop := fun σ H' => ∃ (tb : Addr) (v5 v6 v7 v8 v9 v10 : Option V), Same H H' ∧ SqT K H' tb [.int tk.1, .int tk.2] ∧ σ = S11 (some (.ref tb)) v5 v6 v7 v8 v9 v10
  refine ⟨_, rfl, _, rfl, va, _, _, _, rfl, rfl, hva, atI_lastV, .inr (.inl ⟨ua, _, _, _, rfl, rfl, hua, (rfl : atI [V.int q.1, .ref ta] 1 = some (.ref ta)), ?_⟩)⟩
  refine ⟨MdT, ?_, ?_⟩
  · refine neE_ q.2 rfl dta fun H1 s1 => ⟨_, rfl, ?_⟩
    refine ite2 (fun c => ?_) (fun c => ?_)
    · have hz : q.2 ≠ [] := by simpa using c
      have e : tk = topK q.2 := if_neg hz
      refine ⟨_, rfl, ta, rfl, ⟨_, same_l s1 hta⟩, fun R hR => ?_⟩
      have hR1 : H R = none := s1.free hR
      refine lc_it (walk_list (xs := ws)) (fun i H' => Same H1 H' ∧ ∃ vs, H' R = some (.lst vs) ∧ vs.length = i ∧ DpAll K H vs (((q.2.map (fun t : Trm => t.1)).take i).map pairD)) ⟨same_upd hR, [], upd_same, rfl, .nil⟩ (fun i H' _ q => same_l (s1.trans q.1) hta) ?_ ?_
      · rintro i x H2 H3 hi ⟨s2, vs, eR, lv, dv⟩ ⟨rfl, hx⟩
        obtain ⟨t, ht, dt⟩ := DpAll.at_ dB hx
        obtain ⟨pt, y1, y2, rfl, hp, e1, e2⟩ := dt.tup2
        refine ⟨pt, _, rfl, same_t (s1.trans s2) hp, rfl, _, _, rfl, _, _, rfl, rfl, rfl, ?_⟩
        have ht' : (q.2.map (fun t : Trm => t.1))[i]? = some t.1 := by rw [List.getElem?_map, ht]; rfl
        refine ⟨_, rfl, vs, eR, small1000 (by omega), same_put s2 hR, vs ++ [y1], upd_same, by simp [lv], ?_⟩
        rw [take_snoc ht', List.map_append]
        exact DpAll.snoc dv e1
      · rintro H2 ⟨s2, vs, eR, lv, dv⟩
        rw [List.take_of_length_le (by rw [List.length_map]; omega)] at dv
        have s12 := s1.trans s2
        refine ⟨R, vs, q.2.map (fun t : Trm => t.1), rfl, SqL.of eR, dv.mono s12, by simpa using hz, fun v dv' => ?_⟩
        obtain ⟨b, z1, z2, rfl, hb2, g1, g2⟩ := Dp.tup2 (d := .int (topK q.2).1) (e := .int (topK q.2).2) dv'
        cases g1.int'
        cases g2.int'
        refine ⟨b, _, _, _, _, _, _, s12, ?_, rfl⟩
        rw [e]
        exact hb2
    · have hz : q.2 = [] := by simpa using c
      have e : tk = (0, 0) := if_pos hz
      refine ⟨by show 2 ≤ sizeLine; decide, fun tb htb => ⟨tb, _, _, _, _, _, _, s1.trans (same_upd htb), ?_, rfl⟩⟩
      rw [e]
      exact SqT.of upd_same
  rintro σ H1 ⟨tb, v5, v6, v7, v8, v9, v10, s1, htb, rfl⟩
  refine ⟨fun σ H' => many ≠ 0 ∧ MdT σ H', ?_, ?_⟩
  · refine ⟨_, rfl, rfl, _, rfl, ?_⟩
    refine ite2 (fun c => ?_) (fun c => ⟨fun z => c (decide_eq_true (by rw [z])), tb, v5, v6, v7, v8, v9, v10, s1, htb, rfl⟩)
    have hm : many = 0 := V.int.inj (of_decide_eq_true c)
    have hG : growL (S0 ++ [q]) many bs = some (if q.2 = [] then none else some (plainG q.2)) := by
      unfold growL
      rw [hl, if_pos (by omega)]
    rw [hG] at k
    refine eqE_ q.2 rfl (dta.mono s1) fun H2 s2 => ⟨_, rfl, ?_⟩
    have s12 := s1.trans s2
    refine ite2 (fun c2 => ?_) (fun c2 => ?_)
    · have hz : q.2 = [] := by simpa using c2
      rw [if_pos hz] at k
      exact k _ _ s12 .non
    · have hz : q.2 ≠ [] := by simpa using c2
      rw [if_neg hz, ktop hz] at k
      have htb2 := same_t s2 htb
      refine ⟨_, rfl, tb, _, _, _, rfl, rfl, htb2, (rfl : atI [V.int tk.1, V.int tk.2] 0 = some (.int tk.1)), 2, n, 2, by rw [hn]; rfl, by decide, by decide, by omega, ?_⟩
      refine ⟨_, rfl, tb, _, _, _, rfl, rfl, htb2, (rfl : atI [V.int tk.1, V.int tk.2] 1 = some (.int tk.2)), by show 3 ≤ sizeLine; decide, fun p hp => ?_⟩
      exact k _ _ (s12.trans (same_upd hp)) (.tup (SqT.of upd_same) (.cons (.int _) (.cons (.int _) (.cons (.int _) .nil))))
  rintro σ H2 ⟨mn, tb, v5, v6, v7, v8, v9, v10, s2, htb, rfl⟩
  have m1 : ¬ many ≤ 0 := by omega
  have wN : Dp K H2 (.ref va) (sumsD (S0 ++ [q])) := dv.mono s2
  let A3 : Prop := q.2 = [] → (¬ ∀ y ∈ S0 ++ [q], y.2 = []) ∧ worthL 0 (Builtin.Int.intBits 0 : Nat) (termsAt (S0 ++ [q]) 0) ≠ (0, 1)
  refine ⟨fun σ H' => A3 ∧ MdT σ H', ?_, ?_⟩
  · refine eqE_ q.2 rfl (dta.mono s2) fun H3 s3 => ⟨_, rfl, ?_⟩
    have s23 := s2.trans s3
    refine ite2 (fun c => ?_) (fun c => ⟨fun z => absurd (decide_eq_true z) c, tb, v5, v6, v7, v8, v9, v10, s23, same_t s3 htb, rfl⟩)
    have hz : q.2 = [] := by simpa using c
    have hG0 : growL (S0 ++ [q]) many bs = (if ∀ y ∈ S0 ++ [q], y.2 = [] then some none else if worthL 0 (Builtin.Int.intBits 0 : Nat) (termsAt (S0 ++ [q]) 0) = (0, 1) then none else some (some (evenG many bs 0))) := by
      unfold growL
      rw [hl, if_neg m1, if_pos hz]
    refine ⟨_, rfl, va, rfl, ⟨_, same_l s23 hva⟩, fun R hR => ?_⟩
    have hR1 : H R = none := s23.free hR
    refine lc_it (walk_list (xs := us0 ++ [V.ref ua])) (fun i H' => Same H3 H' ∧ H' R = some (.lst ((((S0 ++ [q]).take i).map fun y : Rw => decide (y.2 = [])).map V.bl))) ⟨same_upd hR, upd_same⟩ (fun i H' _ z => same_l (s23.trans z.1) hva) ?_ ?_
    · rintro i x H4 H5 hi ⟨s4, eR⟩ ⟨rfl, hx⟩
      obtain ⟨y, hy, dy⟩ := DpAll.at_ (l := S0 ++ [q]) dus hx
      obtain ⟨ya, z1, z2, rfl, hya, g1, g2⟩ := dy.tup2
      have s24 := s23.trans s4
      obtain ⟨yc, yw, rfl, hyc, dyc⟩ := g2.lst'
      refine ⟨ya, _, rfl, same_t s24 hya, rfl, _, _, rfl, _, _, rfl, rfl, rfl, ?_⟩
      refine eqE_ y.2 rfl ((Dp.lst hyc dyc).mono s24) fun H6 s6 => ?_
      refine ⟨_, s6 _ _ eR, small1000 (by rw [List.length_map, List.length_map, List.length_take]; omega), same_put (s4.trans s6) hR, ?_⟩
      rw [upd_same, take_snoc hy, List.map_append, List.map_append]
      rfl
    rintro H4 ⟨s4, eR⟩
    rw [List.take_of_length_le (by omega)] at eR
    refine ⟨R, _, rfl, SqL.of eR, _, rfl, ?_⟩
    have s24 := s23.trans s4
    refine ite2 (fun c1 => ?_) (fun c1 => ?_)
    · rw [hG0, if_pos (fun y hy => by simpa using (List.all_eq_true.mp c1) _ (List.mem_map.mpr ⟨y, hy, rfl⟩))] at k
      exact k _ _ s24 .non
    · have na : ¬ ∀ y ∈ S0 ++ [q], y.2 = [] := fun z => c1 (List.all_eq_true.mpr fun b hb => by
          obtain ⟨y, hy, rfl⟩ := List.mem_map.mp hb
          simpa using z y hy)
      rw [if_neg na] at hG0
      refine ⟨_, rfl, .ref va, S0 ++ [q], 0, top, deep, wide, rfl, dv.mono s24, okS, t9, d9, w2, by decide, fun v H5 s5 dv' => ?_⟩
      refine ⟨by show 2 ≤ sizeLine; decide, fun p hp => ?_⟩
      have sp := same_upd (o := .tup [.int 0, .int 1]) hp
      refine ⟨_, _, dv'.mono sp, .tup (SqT.of upd_same) (.cons (.int _) (.cons (.int _) .nil)), rfl, rfl, _, rfl, ?_⟩
      rw [part_nought]
      have s26 := (s24.trans s5).trans sp
      refine ite2 (fun c2 => ?_) (fun c2 => ?_)
      · rw [hG0, if_pos (of_decide_eq_true c2)] at k
        exact k _ _ s26 (.str _)
      · exact ⟨fun _ => ⟨na, fun z => c2 (decide_eq_true z)⟩, tb, v5, v6, v7, v8, v9, v10, s26, same_t (s3.trans (s4.trans (s5.trans sp))) htb, rfl⟩
  rintro σ H3 ⟨a3, tb, v5, v6, v7, v8, v9, v10, s3, htb, rfl⟩
  let MdL : L2.St → Hp → Prop := fun σ H' => ∃ (tb : Addr) (v6 v7 v8 v9 v10 : Option V), Same H H' ∧ SqT K H' tb [.int tk.1, .int tk.2] ∧ σ = S11 (some (.ref tb)) (some (.int (bs ^ n))) v6 v7 v8 v9 v10
  have bm : (bs.natAbs < 2 ^ 2) := by rcases hb with rfl | rfl <;> decide
  refine ⟨MdL, ?_, ?_⟩
  · refine ⟨_, rfl, _, rfl, tb, _, _, _, rfl, rfl, htb, (rfl : atI [V.int tk.1, V.int tk.2] 0 = some (.int tk.1)), bs, n, 2, by rw [hn]; rfl, bm, by decide, by omega, ?_⟩
    exact ⟨tb, v6, v7, v8, v9, v10, s3, htb, rfl⟩
  rintro σ H4 ⟨tb, v6, v7, v8, v9, v10, s4, htb, rfl⟩
  refine ⟨fun σ H' => (q.2 ≠ [] → bs ^ n ≤ many) ∧ MdL σ H', ?_, ?_⟩
  · refine neE_ q.2 rfl (dta.mono s4) fun H5 s5 => ⟨_, rfl, ?_⟩
    have s45 := s4.trans s5
    refine ite2 (fun c => ?_) (fun c => ?_)
    · have hz : q.2 ≠ [] := by simpa using c
      refine ⟨_, rfl, _, rfl, _, _, rfl, rfl, _, rfl, ?_⟩
      refine ite2 (fun c2 => ?_) (fun c2 => ?_)
      · have hlt : many < bs ^ n := of_decide_eq_true c2
        have hG : growL (S0 ++ [q]) many bs = some (some (2 ^ n, 2, tk.2)) := by
          unfold growL
          obtain ⟨h1, h2⟩ := ktop2 hz
          rw [hl, if_neg m1, if_neg hz, h1, if_neg (by omega), if_pos hlt, ktop hz]
        rw [hG] at k
        have htb5 := same_t s5 htb
        refine ⟨_, rfl, tb, _, _, _, rfl, rfl, htb5, (rfl : atI [V.int tk.1, V.int tk.2] 0 = some (.int tk.1)), 2, n, 2, by rw [hn]; rfl, by decide, by decide, by omega, ?_⟩
        refine ⟨_, rfl, tb, _, _, _, rfl, rfl, htb5, (rfl : atI [V.int tk.1, V.int tk.2] 1 = some (.int tk.2)), by show 3 ≤ sizeLine; decide, fun p hp => ?_⟩
        exact k _ _ (s45.trans (same_upd hp)) (.tup (SqT.of upd_same) (.cons (.int _) (.cons (.int _) (.cons (.int _) .nil))))
      · exact ⟨fun _ => by have : ¬ many < bs ^ n := fun z => c2 (decide_eq_true z); omega, tb, v6, v7, v8, v9, v10, s45, same_t s5 htb, rfl⟩
    · have hz : q.2 = [] := by simpa using c
      exact iteF ⟨fun z => absurd hz z, tb, v6, v7, v8, v9, v10, s45, same_t s5 htb, rfl⟩
  rintro σ H5 ⟨a5, tb, v6, v7, v8, v9, v10, s5, htb, rfl⟩
  let figs : Int := if q.2 ≠ [] ∧ many = bs ^ n then tk.2 + 1 else 0
  have hG : growL (S0 ++ [q]) many bs = some (some (evenG many bs figs)) := by
    unfold growL
    rw [hl, if_neg m1]
    by_cases hz : q.2 = []
    · obtain ⟨h1, h2⟩ := a3 hz
      rw [if_pos hz, if_neg h1, if_neg h2, show figs = 0 from if_neg (fun z => z.1 hz)]
    · obtain ⟨h1, h2⟩ := ktop2 hz
      have h3 := a5 hz
      rw [if_neg hz, h1, h2]
      by_cases h4 : bs ^ n < many
      · rw [if_pos h4, show figs = 0 from if_neg (fun z => by omega)]
      · rw [if_neg h4, if_neg (by omega), show figs = tk.2 + 1 from if_pos ⟨hz, by omega⟩]
  rw [hG] at k
  refine ⟨fun σ H' => ∃ (tb : Addr) (v5 v7 v8 v9 v10 : Option V), Same H H' ∧ σ = S11 (some (.ref tb)) v5 (some (.int figs)) v7 v8 v9 v10, ?_, ?_⟩
  · refine neE_ q.2 rfl (dta.mono s5) fun H6 s6 => ⟨_, rfl, ?_⟩
    have s56 := s5.trans s6
    refine ite2 (fun c => ?_) (fun c => ?_)
    · have hz : q.2 ≠ [] := by simpa using c
      refine ⟨_, rfl, _, rfl, rfl, _, rfl, ?_⟩
      refine ite2 (fun c2 => ?_) (fun c2 => ?_)
      · have hm : many = bs ^ n := V.int.inj (of_decide_eq_true c2)
        refine ⟨_, rfl, tb, _, _, _, rfl, rfl, same_t s6 htb, (rfl : atI [V.int tk.1, V.int tk.2] 1 = some (.int tk.2)), _, _, rfl, rfl, ?_⟩
        refine ⟨tb, some (.int (bs ^ n)), v7, v8, v9, v10, s56, ?_⟩
        rw [show figs = tk.2 + 1 from if_pos ⟨hz, hm⟩]
        rfl
      · refine ⟨tb, some (.int (bs ^ n)), v7, v8, v9, v10, s56, ?_⟩
        rw [show figs = 0 from if_neg (fun z => c2 (decide_eq_true (by rw [z.2])))]
        rfl
    · have hz : q.2 = [] := by simpa using c
      refine iteF ⟨tb, some (.int (bs ^ n)), v7, v8, v9, v10, s56, ?_⟩
      rw [show figs = 0 from if_neg (fun z => z.1 hz)]
      rfl
  rintro σ H6 ⟨tb, v5, v7, v8, v9, v10, s6, rfl⟩
  have fin : ∀ {H' : Hp} (x y z : Int) (p : Addr), Same H H' → H' p = none → evenG many bs figs = (x, y, z) → Q (.ref p) (upd H' p (.tup [.int x, .int y, .int z])) := fun {H'} x y z p s hp e => by
    refine k _ _ (s.trans (same_upd hp)) ?_
    show Dp K _ _ (trD (evenG many bs figs))
    rw [e]
    exact .tup (SqT.of upd_same) (.cons (.int _) (.cons (.int _) (.cons (.int _) .nil)))
  refine ⟨_, rfl, rfl, _, rfl, ?_⟩
  refine ite2 (fun c => ?_) (fun c => ?_)
  · have hb3 : bs = 3 := V.int.inj (of_decide_eq_true c)
    refine ⟨_, rfl, by show 3 ≤ sizeLine; decide, fun L hL => ?_⟩
    have sL := same_upd (o := .lst [.int 1, .int 3, .int 9]) hL
    refine ⟨L, _, rfl, .inl (SqL.of upd_same), rfl, rfl, _, rfl, ?_⟩
    have ein : (if false = true then !inV (V.int many) [V.int 1, V.int 3, V.int 9] else inV (V.int many) [V.int 1, V.int 3, V.int 9]) = decide (many = 1 ∨ many = 3 ∨ many = 9) := by
      rw [if_neg (by decide)]
      show (eqV (V.int 1) (V.int many) || (eqV (V.int 3) (V.int many) || (eqV (V.int 9) (V.int many) || false))) = _
      have e : ∀ z : Int, eqV (V.int z) (V.int many) = decide (many = z) := fun z => by
        unfold eqV
        by_cases h : many = z
        · subst h
          simp
        · rw [decide_eq_false h]
          simp [Ne.symm h]
      rw [e, e, e]
      by_cases h1 : many = 1 <;> by_cases h2 : many = 3 <;> by_cases h3 : many = 9 <;> simp [h1, h2, h3]
    rw [ein]
    refine ite2 (fun c2 => ?_) (fun c2 => ?_)
    · have hm := of_decide_eq_true c2
      intro D hD
      refine ⟨upd_same, [(Sum.inl 1, V.int 1), (Sum.inl 3, V.int 2), (Sum.inl 9, V.int 4)], rfl, (by show 3 ≤ 15; decide), ?_⟩
      rw [upd_upd]
      have sD := same_upd (o := .dK (mergeK [] [(Sum.inl 1, V.int 1), (Sum.inl 3, V.int 2), (Sum.inl 9, V.int 4)])) hD
      have sx := (s6.trans sL).trans sD
      have dg := DGet.k (k := Sum.inl many) (upd_same (H := upd H6 L (.lst [.int 1, .int 3, .int 9])) (a := D) (o := .dK (mergeK [] [(Sum.inl 1, V.int 1), (Sum.inl 3, V.int 2), (Sum.inl 9, V.int 4)])))
      rcases hm with rfl | rfl | rfl
      · refine ⟨_, rfl, D, _, rfl, dg, _, rfl, by show 3 ≤ sizeLine; decide, fun p hp => fin 1 2 figs p sx hp ?_⟩
        unfold evenG
        rw [if_pos hb3, if_pos rfl]
      · refine ⟨_, rfl, D, _, rfl, dg, _, rfl, by show 3 ≤ sizeLine; decide, fun p hp => fin 2 2 figs p sx hp ?_⟩
        unfold evenG
        rw [if_pos hb3, if_neg (by decide), if_pos rfl]
      · refine ⟨_, rfl, D, _, rfl, dg, _, rfl, by show 3 ≤ sizeLine; decide, fun p hp => fin 4 2 figs p sx hp ?_⟩
        unfold evenG
        rw [if_pos hb3, if_neg (by decide), if_neg (by decide), if_pos rfl]
    · have hm : ¬ (many = 1 ∨ many = 3 ∨ many = 9) := fun z => c2 (decide_eq_true z)
      refine ⟨_, rfl, _, rfl, _, rfl, by show 3 ≤ sizeLine; decide, fun p hp => fin many bs figs p (s6.trans sL) hp ?_⟩
      unfold evenG
      rw [if_pos hb3, if_neg (by omega), if_neg (by omega), if_neg (by omega)]
  · refine iteF ⟨_, rfl, _, rfl, _, rfl, by show 3 ≤ sizeLine; decide, fun p hp => fin many bs figs p s6 hp ?_⟩
    unfold evenG
    rw [if_neg (fun z => c (decide_eq_true (by rw [z])))]
/-- what the law asks of an exception's class -/
structure UfC (T : Txt K mg) (C : Addr) : Prop where
  cls : ClsE K C
  word : PySem.W.findIn K (.ref C) "word" = some none
  kind : ∃ b, PySem.W.kitOne K (.ref C) (.ref T.x_Misread) = some b ∧ PySem.W.kitOne K (.ref C) (.ref T.x_Unfit) = some (!b)
  ve : PySem.W.kitOne K (.ref C) (.type "ValueError") = some true
def spClass (T : Txt K mg) : Addr → Value → Option Addr → Sp := fun a cls d vs H Q _ => ∃ (C dd : Addr) (fs : List (Str × V)) (wd : Str), vs = [.ref a] ∧ cls = .ref C ∧ d = some dd ∧ UfC T C ∧ H dd = some (.xd fs) ∧ fs.lookup (Str.ofString "word") = some (V.str wd) ∧ Q (.str wd) H
theorem ok_law_class (T : Txt K mg) : FnE P w K mg base 1 T.a_law_class T.d_law_class ["_law_e"] (spClass T) := by
  refine fn_ofE T.F_law_class sc_law_class (fun a cls d vs H Q E h => ?_) (fun cdv A outer s H vs Q E p cls d hz hf hr h => ?_)
  · obtain ⟨C, dd, fs, wd, rfl, _⟩ := h
    rfl
  obtain ⟨C, dd, fs, wd, rfl, rfl, rfl, U, ed, lw, k⟩ := h
  have hp : p ∈ (L2H.cxH CX0 P w K mg base N_law_class (Str.ofString "_law_class") (defScope s_law_class) T.a_law_class cdv A outer s H E p).nox.pn := List.mem_singleton.mpr rfl
  refine ⟨_, (pss_cons (ps_if (PW.pt (pw_or (pt_cmpR op_eq (pe_callB (call_isP U.cls hp hz hf) (by rfl) T.z_isinstance (by decide +kernel) (pa_cons (pv 0) (pa_cons (pe_glob (v := .ref T.x_Misread) rfl T.gx_Misread rfl) pa_nil))) (pe_callB (call_isP U.cls hp hz hf) (by rfl) T.z_isinstance (by decide +kernel) (pa_cons (pv 0) (pa_cons (pe_glob (v := .ref T.x_Unfit) rfl T.gx_Unfit rfl) pa_nil))) (nomark _)) (pw_or1 (pt_not (pt_val (pe_callB (call_isP U.cls hp hz hf) (by rfl) T.z_isinstance (by decide +kernel) (pa_cons (pv 0) (pa_cons (pe_bltn (v := .ty "ValueError") (by rfl) T.z_ValueError (by decide +kernel) rfl) pa_nil)))))))) (pss_one (ps_ret pe_str)) pss_nil)
      (pss_one (ps_ret (pe_xp U.cls U.word hp hz hf (pv 0))))), ?_⟩
  obtain ⟨b, k1, k2⟩ := U.kind
  refine ⟨_, rfl, _, _, b, fs, rfl, fun u hu => hu, ed, k1, ?_⟩
  refine ⟨_, rfl, _, _, !b, fs, rfl, fun u hu => hu, ed, k2, ?_⟩
  refine ⟨rfl, _, rfl, ?_⟩
  rw [show decide (V.bl b = V.bl (!b)) = false by cases b <;> decide]
  refine iteF ?_
  refine ⟨_, rfl, _, _, true, fs, rfl, fun u hu => hu, ed, U.ve, _, rfl, ?_⟩
  refine iteF ?_
  exact ⟨_, rfl, rfl, fs, _, ed, lw, k⟩
theorem pss_ex {X : Cx} {ss : List Stmt} {α : Type} {p : α → Prop} {t : α → TS} (h : ∀ x, p x → PSs X ss (t x)) : PSs X ss (fun D σ H => ∃ x, p x ∧ t x D σ H) :=
  ⟨fun pins s σ H D I ⟨x, hx, q⟩ => (h x hx).run pins s σ H D I q⟩
/-- what the law makes of an exception -/
def EXTried (T : Txt K mg) (Q : VK) : XK := fun cls d H' => ∃ (C dd : Addr) (fs : List (Str × V)) (wd : Str), cls = .ref C ∧ d = some dd ∧ UfC T C ∧ H' dd = some (.xd fs) ∧ fs.lookup (Str.ofString "word") = some (V.str wd) ∧
  PySem.W.exmOne K (.ref C) (.ref T.x_BadText) = some false ∧ PySem.W.exmOne K (.ref C) (.ref T.x_BadPage) = some false ∧ PySem.W.exmOne K (.ref C) (.ref T.x_Stopped) = some false ∧
  ((PySem.W.exmAny K (.ref C) [.ref T.x_NoName, .ref T.x_Twice, .ref T.x_NoPlan, .ref T.x_NoLabel, .ref T.x_Taken, .ref T.x_Ring, .ref T.x_NotPlain, .ref T.x_Tangled, .ref T.x_Breaks, .ref T.x_InUse, .ref T.x_Uneven] = some true ∧ PySem.W.findIn K (.ref C) "name" = some none ∧ ∃ v, fs.lookup (Str.ofString "name") = some v ∧ ∀ p, H' p = none → Q (.ref p) (upd H' p (.tup [.str wd, v]))) ∨
    (PySem.W.exmAny K (.ref C) [.ref T.x_NoName, .ref T.x_Twice, .ref T.x_NoPlan, .ref T.x_NoLabel, .ref T.x_Taken, .ref T.x_Ring, .ref T.x_NotPlain, .ref T.x_Tangled, .ref T.x_Breaks, .ref T.x_InUse, .ref T.x_Uneven] = some false ∧ PySem.W.exmOne K (.ref C) (.ref T.x_Refused) = some true ∧ ∀ p, H' p = none → Q (.ref p) (upd H' p (.tup [.str wd, .non]))))
def TTried (T : Txt K mg) : (XK → Hp → VK → Prop) → Hp → VK → Prop := fun tl H Q =>
  tl (EXTried T Q) H fun v H' => 2 ≤ sizeLine ∧ ∀ p, H' p = none → Q (.ref p) (upd H' p (.tup [.str "told", v]))
theorem tried_gives {X : Cx} (T : Txt X.K X.mg) (cdg : Value) (q : Str) (hr : Room 3 X.A) : LamX.GivesTo X N_law_tried "_law_tried" (defScope s_law_tried) T.a_law_tried cdg (defBody s_law_tried) "_law_ask" q (TTried T) := by
  intro f c' s H Q tl act hc h
  have hr1 : Room 2 (cxOf C8.CX0 X.prog X.w X.K X.mg X.base N_law_tried "_law_tried" (defScope s_law_tried) T.a_law_tried cdg X.A X.stack s H C8.E0).nox.A := hr.deeper _
  refine ⟨_, pss_one (ps_try_manyA (X := (cxOf C8.CX0 X.prog X.w X.K X.mg X.base N_law_tried "_law_tried" (defScope s_law_tried) T.a_law_tried cdg X.A X.stack s H C8.E0).nox) (n := "_law_e") (i := 1)
      (tb := fun W D σ H => ∃ Ech : XK, (∀ cls d σ' H', Ech cls d H' → W cls d σ' H') ∧ tRet (tTup (tCons (tC (V.str "told")) (tCons (fun σZ HZ Q => σZ[0]? = some (some (V.ref f)) ∧ HZ c' = some (LamX.CodeO c' q) ∧ tl Ech HZ Q) tNil))) D σ H)
      rfl rfl sc_law_tried.nd rfl rfl LamX.takes0 (fun W pn xe tk _ => ?_)
      (.one ⟨rfl, by decide, .inl T.gx_BadText⟩ (fun _ _ _ _ _ _ _ => pss_one ps_never) <| .one ⟨rfl, by decide, .inl T.gx_BadPage⟩ (fun _ _ _ _ _ _ _ => pss_one ps_never) <| .one ⟨rfl, by decide, .inl T.gx_Stopped⟩ (fun _ _ _ _ _ _ _ => pss_one ps_never) <|
        .tup (.cons ⟨rfl, by decide, .inl T.gx_NoName⟩ (.cons ⟨rfl, by decide, .inl T.gx_Twice⟩ (.cons ⟨rfl, by decide, .inl T.gx_NoPlan⟩ (.cons ⟨rfl, by decide, .inl T.gx_NoLabel⟩ (.cons ⟨rfl, by decide, .inl T.gx_Taken⟩ (.cons ⟨rfl, by decide, .inl T.gx_Ring⟩ (.cons ⟨rfl, by decide, .inl T.gx_NotPlain⟩ (.cons ⟨rfl, by decide, .inl T.gx_Tangled⟩ (.cons ⟨rfl, by decide, .inl T.gx_Breaks⟩ (.cons ⟨rfl, by decide, .inl T.gx_InUse⟩ (.cons ⟨rfl, by decide, .inl T.gx_Uneven⟩ .nil))))))))))) (by simp) (fun a oe cls d pn hz hf => pss_ex (p := fun x : Addr × Addr => cls = .ref x.1 ∧ d = some x.2 ∧ UfC T x.1 ∧ PySem.W.findIn X.K (.ref x.1) "name" = some none) (t := fun x => tRet (tTup (tCons (tCallE a (.ref x.1) (some x.2) (spClass T) (tCons (tVar 1) tNil)) (tCons (tXp a x.2 "name" (tVar 1)) tNil)))) fun x hx => by
            obtain ⟨rfl, rfl, U, hn⟩ := hx
            exact pss_one (ps_ret (pe_tup (pa_cons (pe_callE (ok_law_class T) (L2H.roomH_of (hr1.mono (by decide))) hz hf (by rfl) T.g_law_class T.F_law_class.kp T.b_law_class (pa_cons (pv 1) pa_nil)) (pa_cons (pe_xp (p := (a, oe)) U.cls hn List.mem_cons_self hz hf (pv 1)) pa_nil))))) <|
        .one ⟨rfl, by decide, .inl T.gx_Refused⟩ (ts := fun a cls d => tRet (tTup (tCons (tCallE a cls d (spClass T) (tCons (tVar 1) tNil)) (tCons (tC .non) tNil)))) (fun a oe cls d pn hz hf => pss_one (ps_ret (pe_tup (pa_cons (pe_callE (ok_law_class T) (L2H.roomH_of (hr1.mono (by decide))) hz hf (by rfl) T.g_law_class T.F_law_class.kp T.b_law_class (pa_cons (pv 1) pa_nil)) (pa_cons pe_non pa_nil))))) .nil)), ?_⟩
  · refine ⟨fun pins s' σ H' D I h' => ?_⟩
    obtain ⟨Ech, hW, h3⟩ := h'
    exact (pss_one (ps_ret (pe_tup (pa_cons pe_str (pa_cons (act W pn xe Ech _ _ tk hW) pa_nil))))).run pins s' σ H' D I h3
  · refine ⟨EXTried T Q, fun cls d σ' H' hx => ?_, rfl, hc, h⟩
    obtain ⟨C, dd, fs, wd, rfl, rfl, U, ed, lw, m1, m2, m3, hx⟩ := hx
    refine ⟨false, m1, (fun z => nomatch z), fun _ => ⟨false, m2, (fun z => nomatch z), fun _ => ⟨false, m3, (fun z => nomatch z), fun _ => ?_⟩⟩⟩
    rcases hx with ⟨mt, hn, v, lv, k⟩ | ⟨mt, mr, k⟩
    · refine ⟨true, mt, fun _ a ha hi => ?_, (fun z => nomatch z)⟩
      have hg : (σ'.set 1 (some (V.ref a)))[1]? = some (some (V.ref a)) := by rw [List.getElem?_set_self hi]
      refine ⟨(C, dd), ⟨rfl, rfl, U, hn⟩, ?_⟩
      exact ⟨_, hg, C, dd, fs, wd, rfl, rfl, rfl, U, ed, lw, _, hg, rfl, fs, v, ed, lv, by show 2 ≤ sizeLine; decide, k⟩
    · refine ⟨false, mt, (fun z => nomatch z), fun _ => ⟨true, mr, fun _ a ha hi => ?_, (fun z => nomatch z)⟩⟩
      have hg : (σ'.set 1 (some (V.ref a)))[1]? = some (some (V.ref a)) := by rw [List.getElem?_set_self hi]
      exact ⟨_, hg, C, dd, fs, wd, rfl, rfl, rfl, U, ed, lw, by show 2 ≤ sizeLine; decide, k⟩
/-- alike data are the same -/
def spSame (K : PySem.W.Frag) (n : Nat) : Sp := fun vs H Q _ => ∃ (x y : V) (d : PyData), vs = [x, y] ∧ Dp K H x d ∧ Dp K H y d ∧ dep d < n ∧ wid d ≤ 100000 ∧ ∀ H', Same H H' → Q (.bl true) H'
theorem same_step (T : Txt K mg) (n : Nat) (G_law_same : FnOk P w K mg base CX0 n T.a_law_same T.d_law_same ["_law_found", "_law_due"] (spSame K n)) :
    FnOk P w K mg base CX0 (n + 1) T.a_law_same T.d_law_same ["_law_found", "_law_due"] (spSame K (n + 1)) := by
  refine T.F_law_same.ok sc_law_same (fun vs H Q E h => ?_) (fun cdv A outer s H vs Q E hr h => ?_)
  · obtain ⟨x, y, d, rfl, _⟩ := h
    rfl
  obtain ⟨x, y, d, rfl, dx, dy, hn, hw, k⟩ := h
  refine ⟨_, (pss_cons (ps_if (pt_val (pe_callB call_isiT (by rfl) T.z_isinstance (by decide +kernel) (pa_cons (pv 1) (pa_cons (pe_tup (pa_cons (pe_bltn (v := .ty "list") (by rfl) T.z_list (by decide +kernel) rfl) (pa_cons (pe_bltn (v := .ty "tuple") (by rfl) T.z_tuple (by decide +kernel) rfl) pa_nil))) pa_nil)))) (pss_cons (ps_if (PW.pt (pw_or (pt_cmpR op_ne (pe_callB call_isi (by rfl) T.z_isinstance (by decide +kernel) (pa_cons (pv 0) (pa_cons (pe_bltn (v := .ty "list") (by rfl) T.z_list (by decide +kernel) rfl) pa_nil))) (pe_callB call_isi (by rfl) T.z_isinstance (by decide +kernel) (pa_cons (pv 1) (pa_cons (pe_bltn (v := .ty "list") (by rfl) T.z_list (by decide +kernel) rfl) pa_nil))) (nomark _)) (pw_or1 (pt_not (pt_val (pe_callB call_isiT (by rfl) T.z_isinstance (by decide +kernel) (pa_cons (pv 0) (pa_cons (pe_tup (pa_cons (pe_bltn (v := .ty "list") (by rfl) T.z_list (by decide +kernel) rfl) (pa_cons (pe_bltn (v := .ty "tuple") (by rfl) T.z_tuple (by decide +kernel) rfl) pa_nil))) pa_nil)))))))) (pss_one (ps_ret pe_bl)) pss_nil)
      (pss_one (ps_ret (pe_and (pe_cmpR op_eq (pe_callB call_len (by rfl) T.z_len (by decide +kernel) (pa_cons (pv 0) pa_nil)) (pe_callB call_len (by rfl) T.z_len (by decide +kernel) (pa_cons (pv 1) pa_nil)) (nomark _)) (pe_one (pe_callB (cr_all rfl) (by rfl) T.z_all (by decide +kernel) (pa_cons (pe_lc (own := [("_law_one", 2), ("_law_other", 3)]) (g := gTup K 2 ((gCons (gName 2) (gCons (gName 3) gNil)))) (tt := tYes) rfl sc_law_same.nd (RZ.pi_zipA (by rfl) T.z_zip (pa_cons (pv 0) (pa_cons (pv 1) pa_nil))) (blkOk_by (N := N_law_same) (sc := defScope s_law_same) (by decide +kernel)) (fun _ _ _ _ _ => (pg_tup rfl (pgs_cons (pg_name (i := 2) sc_law_same.nd rfl (Or.inl rfl)) (pgs_cons (pg_name (i := 3) sc_law_same.nd rfl (Or.inl rfl)) pgs_nil)))) (fun _ _ _ _ _ => pts_nil) (fun _ _ _ _ _ => (pe_call G_law_same hr (by rfl) T.g_law_same T.F_law_same.kp T.b_law_same .nil pass0 (pa_cons (pv 2) (pa_cons (pv 3) pa_nil))))) pa_nil))))))) pss_nil)
      (pss_cons (ps_if (pt_cmpR op_isN (pv 1) pe_non (nomark _)) (pss_one (ps_ret (pe_cmpR op_isN (pv 0) pe_non (nomark _)))) pss_nil)
      (pss_cons (ps_if (PW.pt (pw_or (pt_cmpR op_ne (pe_callB call_isi (by rfl) T.z_isinstance (by decide +kernel) (pa_cons (pv 0) (pa_cons (pe_bltn (v := .ty "bool") (by rfl) T.z_bool (by decide +kernel) rfl) pa_nil))) (pe_callB call_isi (by rfl) T.z_isinstance (by decide +kernel) (pa_cons (pv 1) (pa_cons (pe_bltn (v := .ty "bool") (by rfl) T.z_bool (by decide +kernel) rfl) pa_nil))) (nomark _)) (pw_or1 (pt_cmpR op_ne (pe_callB call_isi (by rfl) T.z_isinstance (by decide +kernel) (pa_cons (pv 0) (pa_cons (pe_bltn (v := .ty "int") (by rfl) T.z_int (by decide +kernel) rfl) pa_nil))) (pe_callB call_isi (by rfl) T.z_isinstance (by decide +kernel) (pa_cons (pv 1) (pa_cons (pe_bltn (v := .ty "int") (by rfl) T.z_int (by decide +kernel) rfl) pa_nil))) (nomark _))))) (pss_one (ps_ret pe_bl)) pss_nil)
      (pss_one (ps_ret (pe_and (pe_cmpR op_eq (pe_callB call_isi (by rfl) T.z_isinstance (by decide +kernel) (pa_cons (pv 0) (pa_cons (pe_bltn (v := .ty "str") (by rfl) T.z_str (by decide +kernel) rfl) pa_nil))) (pe_callB call_isi (by rfl) T.z_isinstance (by decide +kernel) (pa_cons (pv 1) (pa_cons (pe_bltn (v := .ty "str") (by rfl) T.z_str (by decide +kernel) rfl) pa_nil))) (nomark _)) (pe_one (pe_cmpR op_eq (pv 0) (pv 1) (nomark _))))))))), ?_⟩
  have kd := fun d => kit_d (K := K) d
  -- isinstance(due, (list, tuple))
  refine ⟨_, rfl, by show 2 ≤ sizeLine; decide, fun p hp => ?_⟩
  have s1 : Same H (upd H p (.tup clsLT)) := same_upd hp
  refine ⟨y, p, clsLT, _, _, _, rfl, upd_same, pairLT, dp_ty (Dp.mono s1 dy), kit2 (kd d).1 (kd d).2.1, _, rfl, ?_⟩
  refine ite2 (fun c1 => ?_) (fun c1 => ?_)
  · -- lists, tuples
    refine ⟨_, rfl, x, _, _, _, _, rfl, .ty _, dp_ty (Dp.mono s1 dx), (kd d).1, ?_⟩
    refine ⟨_, rfl, y, _, _, _, _, rfl, .ty _, dp_ty (Dp.mono s1 dy), (kd d).1, rfl, _, rfl, ?_⟩
    refine iteNS rfl ?_
    refine ⟨_, rfl, by show 2 ≤ sizeLine; decide, fun p2 hp2 => ?_⟩
    have s2 := s1.trans (same_upd (o := .tup clsLT) hp2)
    refine ⟨x, p2, clsLT, _, _, _, rfl, upd_same, pairLT, dp_ty (Dp.mono s2 dx), kit2 (kd d).1 (kd d).2.1, _, rfl, ?_⟩
    rw [c1]
    refine iteF ?_
    generalize hH : upd (upd H p (.tup clsLT)) p2 (.tup clsLT) = H2 at s2
    have dx2 := Dp.mono s2 dx
    have dy2 := Dp.mono s2 dy
    -- the turns of the comprehension
    have turn : ∀ (D : Addr) (xs ys : List V) (ds : List PyData), H2 D = none → DpAll K H2 xs ds → DpAll K H2 ys ds → depAll ds < n → widAll ds ≤ 100000 → ds.length ≤ 100000 → ∀ (i : Nat) (z : V) (H H' : Hp), i < min xs.length ys.length →
        (Same H2 H ∧ H D = some (.lst (List.replicate i (V.bl true)))) → YPair (fun i => xs[i]?) (fun i => ys[i]?) i H z H' → ∃ T u v du, z = .ref T ∧ H' T = some (.tup [u, v]) ∧ Dp K H' u du ∧ Dp K H' v du ∧ dep du < n ∧ wid du ≤ 100000 ∧ i < 100000 ∧ Same H2 H' ∧ H' D = some (.lst (List.replicate i (V.bl true))) := by
      rintro D xs ys ds hD ax ay hdp hwd hln i z H3 H4 hi ⟨sm, eD⟩ ⟨Tt, u, v, rfl, nT, rfl, gx, gy⟩
      have lx := ax.length
      obtain ⟨du, gd, pu⟩ := ax.get gx
      obtain ⟨dv, gd', pv⟩ := ay.get gy
      rw [gd] at gd'
      cases gd'
      have sm' := sm.trans (same_upd (o := .tup [u, v]) nT)
      have := dep_get gd
      have := wid_get gd
      refine ⟨Tt, u, v, du, rfl, upd_same, Dp.mono sm' pu, Dp.mono sm' pv, by omega, by omega, by omega, sm', ?_⟩
      rw [upd_ne (ne_of_none eD nT)]
      exact eD
    have fin : ∀ (m : Nat) (H' : Hp) (D : Addr), Same H2 H' → H' D = some (.lst (List.replicate m (V.bl true))) → ∃ (a : Addr) (bs : List Bool), ([.ref D] : List V) = [V.ref a] ∧ SqL K H' a (bs.map V.bl) ∧ Q (.bl (bs.all id)) H' := by
      intro m H' D sm eD
      refine ⟨D, List.replicate m true, rfl, SqL.of (by rw [List.map_replicate]; exact eD), ?_⟩
      rw [show (List.replicate m true).all id = true by simp]
      exact k _ (s2.trans sm)
    have body : ∀ (D : Addr) (i : Nat) (u v : V) (du : PyData) (H' : Hp), H2 D = none → Dp K H' u du → Dp K H' v du → dep du < n → wid du ≤ 100000 → i < 100000 → Same H2 H' → H' D = some (.lst (List.replicate i (V.bl true))) →
        spSame K n [u, v] H' (fun y H4 => ∃ acc, H4 D = some (.lst acc) ∧ acc.length < sizeLine ∧ (Same H2 (upd H4 D (.lst (acc ++ [y]))) ∧ (upd H4 D (.lst (acc ++ [y]))) D = some (.lst (List.replicate (i + 1) (V.bl true))))) E0 := by
      intro D i u v du H' hD pu pv hdp hwd hi sm eD
      refine ⟨u, v, du, rfl, pu, pv, hdp, hwd, fun H4 sm4 => ?_⟩
      refine ⟨List.replicate i (V.bl true), sm4 _ _ eD, ?_, ?_, ?_⟩
      · rw [List.length_replicate]
        exact Nat.lt_of_lt_of_le hi (by decide)
      · intro b o e
        rw [upd_ne (ne_of_none e hD)]
        exact sm4 _ _ (sm _ _ e)
      · rw [upd_same, List.replicate_succ']
    cases dx2 with
    | @lst a xs ds hs ha =>
      cases dy2 with
      | @lst b ys _ hs' ha' =>
        have hdp : depAll ds < n := by
          rw [dep] at hn
          omega
        have hwd : widAll ds ≤ 100000 ∧ ds.length ≤ 100000 := by
          rw [wid] at hw
          omega
        have lx := ha.length
        have ly := ha'.length
        have el : decide (V.int ((xs.length : Nat) : Int) = V.int ((ys.length : Nat) : Int)) = true := by
          rw [lx, ly]
          exact decide_eq_true rfl
        refine ⟨_, rfl, _, _, rfl, .inl ⟨xs, hs, rfl⟩, _, rfl, _, _, rfl, .inl ⟨ys, hs', rfl⟩, rfl, _, rfl, ?_⟩
        rw [el]
        refine iteT ?_
        refine ⟨_, rfl, _, rfl, a, b, xs, ys, rfl, .inl ⟨hs, hs', fun D hD => ?_⟩⟩
        refine lc_it (walk_zip rfl) (fun i H => Same H2 H ∧ H D = some (.lst (List.replicate i (V.bl true)))) ⟨same_upd hD, upd_same⟩ (fun i H _ p => ⟨same_l p.1 hs, same_l p.1 hs'⟩) ?_ (fun H' p => fin _ H' D p.1 p.2)
        intro i z H3 H4 hi p y
        obtain ⟨Tt, u, v, du, rfl, eT, pu, pv, h1, h2, h3, sm, eD⟩ := turn D xs ys ds hD ha ha' hdp hwd.1 hwd.2 i z H3 H4 hi p y
        refine ⟨Tt, [u, v], rfl, SqT.of eT, rfl, u, [v], rfl, v, [], rfl, rfl, rfl, ?_⟩
        exact ⟨_, rfl, _, rfl, body D i u v du H4 hD pu pv h1 h2 h3 sm eD⟩
    | @tup a xs ds hs ha =>
      cases dy2 with
      | @tup b ys _ hs' ha' =>
        have hdp : depAll ds < n := by
          rw [dep] at hn
          omega
        have hwd : widAll ds ≤ 100000 ∧ ds.length ≤ 100000 := by
          rw [wid] at hw
          omega
        have lx := ha.length
        have ly := ha'.length
        have el : decide (V.int ((xs.length : Nat) : Int) = V.int ((ys.length : Nat) : Int)) = true := by
          rw [lx, ly]
          exact decide_eq_true rfl
        refine ⟨_, rfl, _, _, rfl, .inr ⟨xs, hs, rfl⟩, _, rfl, _, _, rfl, .inr ⟨ys, hs', rfl⟩, rfl, _, rfl, ?_⟩
        rw [el]
        refine iteT ?_
        refine ⟨_, rfl, _, rfl, a, b, xs, ys, rfl, .inr ⟨hs, hs', fun D hD => ?_⟩⟩
        refine lc_it (walk_zipT rfl) (fun i H => Same H2 H ∧ H D = some (.lst (List.replicate i (V.bl true)))) ⟨same_upd hD, upd_same⟩ (fun i H _ p => ⟨same_t p.1 hs, same_t p.1 hs'⟩) ?_ (fun H' p => fin _ H' D p.1 p.2)
        intro i z H3 H4 hi p y
        obtain ⟨Tt, u, v, du, rfl, eT, pu, pv, h1, h2, h3, sm, eD⟩ := turn D xs ys ds hD ha ha' hdp hwd.1 hwd.2 i z H3 H4 hi p y
        refine ⟨Tt, [u, v], rfl, SqT.of eT, rfl, u, [v], rfl, v, [], rfl, rfl, rfl, ?_⟩
        exact ⟨_, rfl, _, rfl, body D i u v du H4 hD pu pv h1 h2 h3 sm eD⟩
    | non => exact absurd c1 (by decide)
    | bl b => exact absurd c1 (by decide : ¬ (isTn "list" "bool" || isTn "tuple" "bool") = true)
    | int i => exact absurd c1 (by decide : ¬ (isTn "list" "int" || isTn "tuple" "int") = true)
    | str x => exact absurd c1 (by decide : ¬ (isTn "list" "str" || isTn "tuple" "str") = true)
  · generalize upd H p (.tup clsLT) = H2 at s1
    have dx2 := Dp.mono s1 dx
    have dy2 := Dp.mono s1 dy
    cases dx2 with
    | lst hs ha => exact absurd rfl c1
    | tup hs ha => exact absurd rfl c1
    | non =>
      cases dy2
      refine ⟨_, rfl, rfl, _, rfl, ?_⟩
      refine iteT ?_
      exact ⟨_, rfl, rfl, k _ s1⟩
    | bl b =>
      cases dy2
      refine ⟨_, rfl, rfl, _, rfl, ?_⟩
      refine iteF ?_
      -- isinstance(.., bool), isinstance(.., int)
      refine ⟨_, rfl, _, _, _, _, _, rfl, .ty _, .base (.bl b), (kd (.bool b)).2.2.1, _, rfl, _, _, _, _, _, rfl, .ty _, .base (.bl b), (kd (.bool b)).2.2.1, rfl, _, rfl, ?_⟩
      refine iteNS rfl ?_
      refine ⟨_, rfl, _, _, _, _, _, rfl, .ty _, .base (.bl b), (kd (.bool b)).2.2.2.1, _, rfl, _, _, _, _, _, rfl, .ty _, .base (.bl b), (kd (.bool b)).2.2.2.1, rfl, _, rfl, ?_⟩
      refine iteNS rfl ?_
      refine ⟨_, rfl, _, _, _, _, _, rfl, .ty _, .base (.bl b), (kd (.bool b)).2.2.2.2, _, rfl, _, _, _, _, _, rfl, .ty _, .base (.bl b), (kd (.bool b)).2.2.2.2, rfl, _, rfl, ?_⟩
      rw [decide_eq_true rfl]
      refine iteT ?_
      refine ⟨_, rfl, _, rfl, rfl, ?_⟩
      rw [decide_eq_true rfl]
      exact k _ s1
    | int b =>
      cases dy2
      refine ⟨_, rfl, rfl, _, rfl, ?_⟩
      refine iteF ?_
      -- isinstance(.., bool), isinstance(.., int)
      refine ⟨_, rfl, _, _, _, _, _, rfl, .ty _, .base (.int b), (kd (.int b)).2.2.1, _, rfl, _, _, _, _, _, rfl, .ty _, .base (.int b), (kd (.int b)).2.2.1, rfl, _, rfl, ?_⟩
      refine iteNS rfl ?_
      refine ⟨_, rfl, _, _, _, _, _, rfl, .ty _, .base (.int b), (kd (.int b)).2.2.2.1, _, rfl, _, _, _, _, _, rfl, .ty _, .base (.int b), (kd (.int b)).2.2.2.1, rfl, _, rfl, ?_⟩
      refine iteNS rfl ?_
      refine ⟨_, rfl, _, _, _, _, _, rfl, .ty _, .base (.int b), (kd (.int b)).2.2.2.2, _, rfl, _, _, _, _, _, rfl, .ty _, .base (.int b), (kd (.int b)).2.2.2.2, rfl, _, rfl, ?_⟩
      rw [decide_eq_true rfl]
      refine iteT ?_
      refine ⟨_, rfl, _, rfl, rfl, ?_⟩
      rw [decide_eq_true rfl]
      exact k _ s1
    | str b =>
      cases dy2
      refine ⟨_, rfl, rfl, _, rfl, ?_⟩
      refine iteF ?_
      -- isinstance(.., bool), isinstance(.., int)
      refine ⟨_, rfl, _, _, _, _, _, rfl, .ty _, .base (.str b), (kd (.str b)).2.2.1, _, rfl, _, _, _, _, _, rfl, .ty _, .base (.str b), (kd (.str b)).2.2.1, rfl, _, rfl, ?_⟩
      refine iteNS rfl ?_
      refine ⟨_, rfl, _, _, _, _, _, rfl, .ty _, .base (.str b), (kd (.str b)).2.2.2.1, _, rfl, _, _, _, _, _, rfl, .ty _, .base (.str b), (kd (.str b)).2.2.2.1, rfl, _, rfl, ?_⟩
      refine iteNS rfl ?_
      refine ⟨_, rfl, _, _, _, _, _, rfl, .ty _, .base (.str b), (kd (.str b)).2.2.2.2, _, rfl, _, _, _, _, _, rfl, .ty _, .base (.str b), (kd (.str b)).2.2.2.2, rfl, _, rfl, ?_⟩
      rw [decide_eq_true rfl]
      refine iteT ?_
      refine ⟨_, rfl, _, rfl, rfl, ?_⟩
      rw [decide_eq_true rfl]
      exact k _ s1
theorem same_all (T : Txt K mg) : ∀ n, FnOk P w K mg base CX0 n T.a_law_same T.d_law_same ["_law_found", "_law_due"] (spSame K n)
  | 0 => by
    have no : ∀ vs H Q E, ¬ spSame K 0 vs H Q E := fun vs H Q E h => by
      obtain ⟨x, y, d, _, _, _, h, _⟩ := h
      omega
    exact ⟨fun vs H Q E h => absurd h (no vs H Q E), fun A outer s H args us vs Q E _ _ _ _ h => absurd h (no vs H Q E)⟩
  | n + 1 => same_step T n (same_all T n)
theorem ok_law_same (T : Txt K mg) : FnOk P w K mg base CX0 12 T.a_law_same T.d_law_same ["_law_found", "_law_due"] (spSame K 12) := same_all T 12
/-- an exception in the making: its word is set -/
def spRefI (K : PySem.W.Frag) : Sp := fun vs H Q _ => ∃ (a C : Addr) (z : Str), vs = [.ref a, .str z] ∧ H a = some (exo a C none) ∧ OexC K C ∧ PySem.W.findIn K (.ref C) "word" = some none ∧
  ∀ dx, H dx = none → dx ≠ a → Q .non (upd (upd H dx (exd dx [(Str.ofString "word", .str z)])) a (exo a C (some dx)))
theorem ok_Refused_init (T : Txt K mg) : FnOk P w K mg base CX0 1 T.a_Refused_init T.d_Refused_init ["self", "word"] (spRefI K) := by
  refine T.F_Refused_init.ok sc_Refused_init (fun vs H Q E h => ?_) (fun cdv A outer s H vs Q E hr h => ?_)
  · obtain ⟨a, C, z, rfl, _⟩ := h
    rfl
  obtain ⟨a, C, z, rfl, ea, oc, nf, k⟩ := h
  refine ⟨_, PSs.nox (pss_one (ps_ost (pv 0) (pv 1))), ?_⟩
  exact ⟨_, rfl, _, rfl, a, C, rfl, oc, nf, .inl ⟨ea, fun dx hdx ne => k dx hdx ne⟩⟩
theorem ok_Uneven_init (T : Txt K mg) : FnOk P w K mg base CX0 2 T.a_Uneven_init T.d_Uneven_init ["self", "name"] (spNameI K T.x_Uneven "Uneven") := by
  refine T.F_Uneven_init.ok sc_Uneven_init (fun vs H Q E h => ?_) (fun cdv A outer s H vs Q E hr h => ?_)
  · obtain ⟨a, z, rfl, _⟩ := h
    rfl
  obtain ⟨a, z, rfl, ea, k⟩ := h
  refine ⟨_, PSs.nox (pss_cons (ps_expr (pe_cinit (by rfl) T.gx_Unfit T.sg_Unfit T.rd_Unfit T.fc_Unfit (ok_Refused_init T) (hr.mono (by decide)) T.F_Refused_init.kp T.b_Refused_init .nil pass0 (pa_cons (pv 0) (pa_cons pe_str pa_nil))))
      (pss_one (ps_ost (pv 0) (pv 1)))), ?_⟩
  refine ⟨_, rfl, a, T.x_Uneven, _, rfl, ea, T.ox_Uneven, T.nf_Uneven_word, fun dx hdx ne => ?_⟩
  exact ⟨_, rfl, _, rfl, a, T.x_Uneven, rfl, T.ox_Uneven, T.nf_Uneven_name, .inr ⟨dx, _, upd_same, (upd_ne ne).trans upd_same, by show 1 ≤ 900; decide, k dx _ hdx ne ((upd_ne (Ne.symm ne)).trans upd_same) upd_same fun b n1 n2 => (upd_ne n2).trans ((upd_ne n1).trans (upd_ne n2))⟩⟩
def spGreatest (P : Program) (w : World) (K : PySem.W.Frag) : Sp := fun vs H Q _ => ∃ (d : Addr) (ts : List Trm), vs = [.ref d] ∧ PolyAt P w H d ts ∧ ts ≠ [] ∧ ts.length ≤ 10 ∧ (∀ t ∈ ts, 0 ≤ t.1.1 ∧ 0 ≤ t.1.2) ∧ ∀ v H', Same H H' → Dp K H' v (pairD (topK ts)) → Q v H'
theorem ok_greatest_powers (T : Txt K mg) : FnOk P w K mg base CX0 1 T.a_greatest_powers T.d_greatest_powers ["poly"] (spGreatest P w K) := by
  refine T.F_greatest_powers.ok sc_greatest_powers (fun vs H Q E h => ?_) (fun cdv A outer s H vs Q E hr h => ?_)
  · obtain ⟨d, ts, rfl, _⟩ := h
    rfl
  obtain ⟨d, ts, rfl, ⟨kvs, nd, pr⟩, hne, hl, ht, k⟩ := h
  refine ⟨_, (pss_one (ps_ret (pe_callB (cr_maxP rfl hr.units) (by rfl) T.z_max (by decide +kernel) (pa_cons (pe_lc (own := [("key", 1)]) (g := gName 1) (tt := tYes) rfl sc_greatest_powers.nd (pi_nd (pv 0)) (blkOk_by (N := N_greatest_powers) (sc := defScope s_greatest_powers) (by decide +kernel)) (fun _ _ _ _ _ => (pg_name (i := 1) sc_greatest_powers.nd rfl (Or.inl rfl))) (fun _ _ _ _ _ => pts_nil) (fun _ _ _ _ _ => (pe_tup (pa_cons (pe_dget2 (hu_of hr) (pe_callTy (T := "dict") (r := rDictT K) (call_dictT rfl) (by rfl) T.z_dict (by decide +kernel) (pa_cons (pv 1) pa_nil)) (pe_glob rfl T.m_SIZE T.r_SIZE) pe_int ⟨rfl, rfl, rfl, rfl⟩) (pa_cons (pe_dget2 (hu_of hr) (pe_callTy (T := "dict") (r := rDictT K) (call_dictT rfl) (by rfl) T.z_dict (by decide +kernel) (pa_cons (pv 1) pa_nil)) (pe_glob rfl T.m_FIGURES T.r_FIGURES) pe_int ⟨rfl, rfl, rfl, rfl⟩) pa_nil))))) pa_nil)))), ?_⟩
  have lk : kvs.length = ts.length := Paired.length pr
  refine ⟨_, rfl, d, kvs, rfl, nd, fun φ eφ => fun R hR => ?_⟩
  refine lc_it walk_nd (fun i H' => Same H H' ∧ ∃ vs, H' R = some (.lst vs) ∧ vs.length = i ∧ DpAll K (hid R H') vs (((ts.map (·.1)).take i).map pairD)) ⟨same_upd hR, [], upd_same, rfl, .nil⟩ (fun i H' _ q => q.1 _ _ eφ) ?_ ?_
  · rintro i x H1 H2 hi ⟨s2, vs, eR, lv, dv⟩ ⟨rfl, key, ka, xv, hkv, rfl⟩
    obtain ⟨t, hti, e1, pt, e2, e3⟩ := prel_get pr hkv
    have e1 : key = keyN t.1 := e1
    have e2 : xv = .ref pt := e2
    subst e1 e2
    obtain ⟨tp, tf⟩ := ht t (List.mem_of_getElem? hti)
    have nk := (nd.keys _ (List.mem_of_getElem? hkv)).1
    obtain ⟨o, xs, eka, hod⟩ := nd.plain _ (List.mem_of_getElem? hkv)
    have eka : H ka = some (.frz o (.tup xs)) := eka
    obtain ⟨items, hit, hnks⟩ : ∃ items, Rd H ka (.tup items) ∧ NKs H (keyL t.1) items := by
      cases nk with
      | tup a b => exact ⟨_, a, b⟩
    have ei : xs = items := by
      rcases hit with z | ⟨o', z⟩
      · rw [eka] at z
        cases z
      · rw [eka] at z
        cases z
        rfl
    subst ei
    rw [keyL_eq] at hnks
    obtain ⟨ps, rfl, prs⟩ := nks_pairs (K := K) hnks
    have prm : ∀ {H' : Hp}, Same H H' → Paired (fun (p : Addr) (kv : L2.Key × V) => SqT K H' p [kV kv.1, kv.2]) ps ((keyP t.1).map fun x => ((Sum.inr x.1 : L2.Key), V.int x.2)) := fun s => L2.Paired.mapP prs fun a b q => same_t s q
    refine ⟨rfl, ?_⟩
    refine ⟨_, rfl, ka, o, ps, _, rfl, s2 _ _ eka, hod, prm s2, fun D1 hD1 => ?_⟩
    have s3 := same_upd (o := .dK (kvK t.1)) hD1
    refine ⟨D1, rfl, .inl ⟨_, .inl upd_same⟩, _, DGet.k (k := Sum.inr (Str.ofString "n")) upd_same, ?_⟩
    have en := kvK_n tp
    have ef := kvK_f tf
    unfold kvK at en ef
    rw [en]
    have s23 : Same H (upd H2 D1 (.dK (kvK t.1))) := s2.trans s3
    refine ⟨_, rfl, ka, o, ps, _, rfl, s23 _ _ eka, hod, prm s23, fun D2 hD2 => ?_⟩
    refine ⟨D2, rfl, .inl ⟨_, .inl upd_same⟩, _, DGet.k (k := Sum.inr (Str.ofString "#")) upd_same, ?_⟩
    rw [ef]
    have s4 := same_upd (o := .dK (kvK t.1)) hD2
    refine ⟨by show 2 ≤ sizeLine; decide, fun q hq => ?_⟩
    have sq := same_upd (o := .tup [.int t.1.1, .int t.1.2]) hq
    have s24 := (s3.trans s4).trans sq
    have nqR : q ≠ R := fun z => by
      rw [z] at hq
      exact absurd (hq.symm.trans ((s3.trans s4) _ _ eR)) (fun z => nomatch z)
    have hti' : (ts.map (·.1))[i]? = some t.1 := by rw [List.getElem?_map, hti]; rfl
    refine ⟨vs, s24 _ _ eR, small1000 (by omega), same_put (s2.trans s24) hR, vs ++ [.ref q], upd_same, by simp [lv], ?_⟩
    rw [take_snoc hti', List.map_append]
    have sF : Same (hid R H2) (hid R (upd (upd (upd (upd H2 D1 (.dK (kvK t.1))) D2 (.dK (kvK t.1))) q (.tup [.int t.1.1, .int t.1.2])) R (.lst (vs ++ [.ref q])))) := hid_put (hid_same.trans s24)
    refine DpAll.snoc (dv.mono sF) ?_
    refine .tup (xs := [.int t.1.1, .int t.1.2]) (SqT.of ?_) (.cons (.int _) (.cons (.int _) .nil))
    rw [hid_ne nqR, upd_ne nqR]
    exact upd_same
  · rintro H1 ⟨s1, vs, eR, lv, dv⟩
    rw [List.take_of_length_le (by rw [List.length_map]; omega)] at dv
    exact ⟨R, vs, ts.map (fun t : Trm => t.1), rfl, SqL.of eR, dv.mono hid_same, by simpa using hne, fun v dv' => k v H1 s1 dv'⟩
theorem ok_raised (T : Txt K mg) : FnOk P w K mg base CX0 1 T.a_raised T.d_raised ["base", "power"] spRaised := by
  refine T.F_raised.ok sc_raised (fun vs H Q E h => ?_) (fun cdv A outer s H vs Q E hr h => ?_)
  · obtain ⟨b, p, m, rfl, _⟩ := h
    rfl
  obtain ⟨b, p, m, rfl, hb, h0, h1, k⟩ := h
  refine ⟨_, (pss_cons (ps_set (i := 2) sc_raised.nd rfl (Or.inl rfl) pe_int)
      (pss_cons (ps_for PassesOwn.never rfl (pi_range1 (by rfl) T.z_range (pa_cons (pv 1) pa_nil)) (pg_name (i := 3) sc_raised.nd rfl (Or.inl rfl)) (pss_one (ps_aug (i := 2) sc_raised.nd rfl (Or.inl rfl) (pv 0) ip_mulW)))
      (pss_one (ps_ret (pv 2))))), ?_⟩
  have hp := raised_small h0 h1
  refine ⟨_, rfl, p, rfl, by omega, by omega, for_it walk_range (fun i σ H' => H' = H ∧ ∃ t, σ = [some (.int b), some (.int p), some (.int (b ^ i)), t]) ⟨rfl, none, by rw [Int.pow_zero]; rfl⟩ (fun _ _ _ _ _ => trivial) ?_ ?_⟩
  · rintro i x σ H1 H2 hi ⟨rfl, t, rfl⟩ ⟨rfl, rfl⟩
    refine ⟨_, rfl, _, rfl, _, _, rfl, rfl, raised_ok hb h0 h1 (by omega), rfl, some (.int ((0 : Int) + i)), ?_⟩
    rw [Int.pow_succ]
    rfl
  · rintro σ H1 ⟨rfl, t, rfl⟩
    exact ⟨_, rfl, k⟩
def spEven (K : PySem.W.Frag) : Sp := fun vs H Q _ => ∃ (m b f : Int), vs = [.int m, .int b, .int f] ∧ ∀ v H', Same H H' → Dp K H' v (trD (evenG m b f)) → Q v H'
theorem ok_even_growth (T : Txt K mg) : FnOk P w K mg base CX0 2 T.a_even_growth T.d_even_growth ["many", "base", "figures"] (spEven K) := by
  refine T.F_even_growth.ok sc_even_growth (fun vs H Q E h => ?_) (fun cdv A outer s H vs Q E hr h => ?_)
  · obtain ⟨m, b, f, rfl, _⟩ := h
    rfl
  obtain ⟨m, b, f, rfl, k⟩ := h
  refine ⟨_, (C8.pss_cut (ps_if (pt_cmpR op_eq (pv 1) pe_int (nomark _)) (pss_one (ps_for PassesOwn.never rfl (pi_range1 (by rfl) T.z_range (pa_cons pe_int pa_nil)) (pg_name (i := 3) sc_even_growth.nd rfl (Or.inl rfl)) (pss_one (ps_if (pt_cmpR op_eq (pv 0) (pe_call (ok_raised T) (hr.mono (by decide)) (by rfl) T.g_raised T.F_raised.kp T.b_raised .nil pass0 (pa_cons pe_int (pa_cons (pv 3) pa_nil))) (nomark _)) (pss_one (ps_ret (pe_tup (pa_cons (pe_call (ok_raised T) (hr.mono (by decide)) (by rfl) T.g_raised T.F_raised.kp T.b_raised .nil pass0 (pa_cons pe_int (pa_cons (pv 3) pa_nil))) (pa_cons pe_int (pa_cons (pv 2) pa_nil)))))) pss_nil)))) pss_nil)
      (pss_one (ps_ret (pe_tup (pa_cons (pv 0) (pa_cons (pv 1) (pa_cons (pv 2) pa_nil))))))), ?_⟩
  have fin : ∀ {H' : Hp} (x y z : Int) (p : Addr), Same H H' → H' p = none → evenG m b f = (x, y, z) → Q (.ref p) (upd H' p (.tup [.int x, .int y, .int z])) := fun {H'} x y z p s hp e => by
    refine k _ _ (s.trans (same_upd hp)) ?_
    rw [e]
    exact .tup (SqT.of upd_same) (.cons (.int _) (.cons (.int _) (.cons (.int _) .nil)))
  have pw : ∀ i : Nat, i < 3 → ((3 : Int) ^ i = 1 ∨ (3 : Int) ^ i = 3 ∨ (3 : Int) ^ i = 9) := fun i hi => by
    rcases (by omega : i = 0 ∨ i = 1 ∨ i = 2) with rfl | rfl | rfl <;> simp
  refine ⟨fun σ H' => Same H H' ∧ (b = 3 → m ≠ 1 ∧ m ≠ 3 ∧ m ≠ 9) ∧ ∃ v3, σ = [some (.int m), some (.int b), some (.int f), v3], ?_, ?_⟩
  · refine ⟨_, rfl, rfl, _, rfl, ?_⟩
    refine ite2 (fun c => ?_) (fun c => ⟨Same.refl _, fun e => absurd (decide_eq_true (by rw [e])) c, _, rfl⟩)
    have hb : b = 3 := by
      have := of_decide_eq_true c
      exact V.int.inj this
    subst hb
    refine ⟨3, rfl, by decide, by decide, for_it walk_range (fun i σ H' => Same H H' ∧ (∀ j : Nat, j < i → m ≠ 3 ^ j) ∧ ∃ v3, σ = [some (.int m), some (.int 3), some (.int f), v3]) ⟨Same.refl _, (fun j hj => absurd hj (Nat.not_lt_zero _)), _, rfl⟩ (fun _ _ _ _ _ => trivial) ?_ ?_⟩
    · rintro i x σ H1 H2 hi ⟨s1, hn, v3, rfl⟩ ⟨rfl, rfl⟩
      have hi : i < 3 := hi
      refine ⟨_, rfl, _, rfl, 3, i, 2, by simp, by decide, by decide, by omega, rfl, _, rfl, ?_⟩
      refine ite2 (fun c => ?_) (fun c => ⟨s1, fun j hj => ?_, _, rfl⟩)
      · have hm : m = 3 ^ i := V.int.inj (of_decide_eq_true c)
        refine ⟨_, rfl, 2, i, 2, by simp, by decide, by decide, by omega, _, rfl, by show 3 ≤ sizeLine; decide, fun p hp => fin _ _ _ p s1 hp ?_⟩
        unfold evenG
        rcases (by omega : i = 0 ∨ i = 1 ∨ i = 2) with rfl | rfl | rfl <;> (subst hm; rfl)
      · rcases Nat.lt_succ_iff_lt_or_eq.mp hj with h | rfl
        · exact hn j h
        · exact fun e => c (decide_eq_true (by rw [e]))
    · rintro σ H1 ⟨s1, hn, v3, rfl⟩
      refine ⟨s1, fun _ => ⟨hn 0 (by decide), hn 1 (by decide), hn 2 (by decide)⟩, _, rfl⟩
  · rintro σ H1 ⟨s1, hn, v3, rfl⟩
    refine ⟨_, rfl, _, rfl, _, rfl, by show 3 ≤ sizeLine; decide, fun p hp => fin m b f p s1 hp ?_⟩
    unfold evenG
    by_cases hb : b = 3
    · obtain ⟨n1, n2, n3⟩ := hn hb
      rw [if_pos hb, if_neg n1, if_neg n2, if_neg n3]
    · rw [if_neg hb]
theorem ok_common_part (T : Txt K mg) : FnOk P w K mg base CX0 1 T.a_common_part T.d_common_part ["one", "other"] spGcd := by
  refine T.F_common_part.ok sc_common_part (fun vs H Q E h => ?_) (fun cdv A outer s H vs Q E hr h => ?_)
  · obtain ⟨n, b, rfl, _⟩ := h
    rfl
  obtain ⟨a, b, rfl, k⟩ := h
  refine ⟨_, (pss_cons (ps_par (i := 0) (j := 1) (by rfl) sc_common_part.nd rfl rfl (by decide) rfl rfl (pa_cons (pe_callB call_abs (by rfl) T.z_abs (by decide +kernel) (pa_cons (pv 0) pa_nil)) (pa_cons (pe_callB call_abs (by rfl) T.z_abs (by decide +kernel) (pa_cons (pv 1) pa_nil)) pa_nil)) (by rfl))
      (pss_cons (ps_while PassesOwn.never (pt_cmpR op_gt (pv 1) pe_int (nomark _)) (pss_one (ps_par (i := 0) (j := 1) (by rfl) sc_common_part.nd rfl rfl (by decide) rfl rfl (pa_cons (pv 1) (pa_cons (pe_op op_mod (pv 0) (pv 1)) pa_nil)) (by rfl))))
      (pss_one (ps_ret (pv 0))))), ?_⟩
  refine ⟨_, rfl, _, rfl, _, rfl, _, rfl, _, _, rfl, ?_⟩
  refine while_by (fun σ H' => H' = H ∧ ∃ (m n : Int), σ = [some (.int m), some (.int n)] ∧ 0 ≤ m ∧ 0 ≤ n ∧ Int.gcd m n = Int.gcd a b) (fun σ _ => match σ with | _ :: some (.int m) :: _ => m.toNat | _ => 0) ⟨rfl, _, _, rfl, by split <;> omega, by split <;> omega, gcd_abs a b⟩ ?_ ?_
  · rintro σ H1 ⟨rfl, m, n, rfl, hm, hn, e⟩
    refine ⟨_, rfl, _, _, rfl, rfl, _, rfl, ?_⟩
    refine ite2 (fun t => ?_) (fun t => ?_)
    · have t' : (0 : Int) < n := of_decide_eq_true t
      refine ⟨_, rfl, _, rfl, _, rfl, _, _, rfl, rfl, t', _, _, rfl, ?_⟩
      refine ⟨⟨rfl, n, m % n, rfl, hn, Int.emod_nonneg _ (by omega), by rw [gcd_step hm t', e]⟩, ?_⟩
      have := Int.emod_lt_of_pos m t'
      have := Int.emod_nonneg m (show n ≠ 0 by omega)
      show (m % n).toNat < n.toNat
      omega
    · have t' : ¬ (0 : Int) < n := fun z => t (decide_eq_true z)
      have e0 : n = 0 := by omega
      subst e0
      refine ⟨_, rfl, ?_⟩
      rw [← e, Int.gcd_zero_right, show ((m.natAbs : Nat) : Int) = m by omega] at k
      exact k
  · rintro σ H Q Q' hQ ⟨v, e1, i, j, e3, e4, kk, e5, q⟩
    exact ⟨v, e1, i, j, e3, e4, kk, e5, hQ _ _ q⟩
theorem ok_lowest (T : Txt K mg) : FnOk P w K mg base CX0 2 T.a_lowest T.d_lowest ["over", "under"] spLowest := by
  refine T.F_lowest.ok sc_lowest (fun vs H Q E h => ?_) (fun cdv A outer s H vs Q E hr h => ?_)
  · obtain ⟨n, b, rfl, _⟩ := h
    rfl
  obtain ⟨o, u, rfl, h0, h1, k⟩ := h
  refine ⟨_, (pss_cons (ps_set (i := 2) sc_lowest.nd rfl (Or.inl rfl) (pe_call (ok_common_part T) (hr.mono (by decide)) (by rfl) T.g_common_part T.F_common_part.kp T.b_common_part .nil pass0 (pa_cons (pv 0) (pa_cons (pv 1) pa_nil))))
      (pss_cons (ps_if (pt_cmpR op_lt (pv 1) pe_int (nomark _)) (pss_one (ps_set (i := 2) sc_lowest.nd rfl (Or.inl rfl) (pe_op op_sub pe_int (pv 2)))) pss_nil)
      (pss_one (ps_ret (pe_tup (pa_cons (pe_op op_fdivW (pv 0) (pv 2)) (pa_cons (pe_op op_fdivW (pv 1) (pv 2)) pa_nil))))))), ?_⟩
  obtain ⟨g0, g1⟩ := gcd_le (o := o) h0
  have cw : CDivW 0 (Int.gcd o u : Nat) := log_small (k := 8000) g0 (Int.lt_of_le_of_lt g1 h1) (by decide) (by decide)
  refine ⟨_, rfl, _, rfl, o, u, rfl, ?_⟩
  refine ⟨_, rfl, _, _, rfl, rfl, _, rfl, ?_⟩
  rw [decide_eq_false (show ¬ u < 0 by omega)]
  refine iteF ?_
  refine ⟨_, rfl, _, rfl, _, _, rfl, rfl, cw, _, rfl, _, rfl, _, _, rfl, rfl, cw, by show 2 ≤ sizeLine; decide, fun p hp => ?_⟩
  exact k p hp
def spSumTwo (K : PySem.W.Frag) : Sp := fun vs H Q _ => ∃ (x y : V) (p q : Prt), vs = [x, y] ∧ Dp K H x (partD p) ∧ Dp K H y (partD q) ∧ 0 < p.2 ∧ 0 < q.2 ∧ p.2 * q.2 < 2 ^ 8000 ∧ CMulW p.1 q.2 ∧ CMulW q.1 p.2 ∧ CMulW p.2 q.2 ∧
  ∀ (v : V) (H' : Hp), Same H H' → Dp K H' v (partD (sumL p q)) → Q v H'
theorem ok_sum_of_two (T : Txt K mg) : FnOk P w K mg base CX0 3 T.a_sum_of_two T.d_sum_of_two ["one", "other"] (spSumTwo K) := by
  refine T.F_sum_of_two.ok sc_sum_of_two (fun vs H Q E h => ?_) (fun cdv A outer s H vs Q E hr h => ?_)
  · obtain ⟨x, y, p, q, rfl, _⟩ := h
    rfl
  obtain ⟨x, y, p, q, rfl, dx, dy, p0, q0, hb, c1, c3, c2, k⟩ := h
  obtain ⟨a, x1, x2, rfl, ha, e1, e2⟩ := dx.tup2
  obtain ⟨b, y1, y2, rfl, hb', e3, e4⟩ := dy.tup2
  cases e1.int'
  cases e2.int'
  cases e3.int'
  cases e4.int'
  refine ⟨_, (pss_one (ps_ret (pe_call (ok_lowest T) (hr.mono (by decide)) (by rfl) T.g_lowest T.F_lowest.kp T.b_lowest .nil pass0 (pa_cons (pe_op op_add (pe_op op_mulW (pe_ix ix_tup (pv 0) pe_int (fun _ _ => rfl)) (pe_ix ix_tup (pv 1) pe_int (fun _ _ => rfl))) (pe_op op_mulW (pe_ix ix_tup (pv 1) pe_int (fun _ _ => rfl)) (pe_ix ix_tup (pv 0) pe_int (fun _ _ => rfl)))) (pa_cons (pe_op op_mulW (pe_ix ix_tup (pv 0) pe_int (fun _ _ => rfl)) (pe_ix ix_tup (pv 1) pe_int (fun _ _ => rfl))) pa_nil))))), ?_⟩
  have a0 : atI [V.int p.1, V.int p.2] 0 = some (.int p.1) := rfl
  have a1 : atI [V.int p.1, V.int p.2] 1 = some (.int p.2) := rfl
  have b0 : atI [V.int q.1, V.int q.2] 0 = some (.int q.1) := rfl
  have b1 : atI [V.int q.1, V.int q.2] 1 = some (.int q.2) := rfl
  refine ⟨_, rfl, a, _, _, _, rfl, rfl, ha, a0, _, rfl, b, _, _, _, rfl, rfl, hb', b1, _, _, rfl, rfl, c1, ?_⟩
  refine ⟨_, rfl, b, _, _, _, rfl, rfl, hb', b0, _, rfl, a, _, _, _, rfl, rfl, ha, a1, _, _, rfl, rfl, c3, _, _, rfl, rfl, ?_⟩
  refine ⟨_, rfl, a, _, _, _, rfl, rfl, ha, a1, _, rfl, b, _, _, _, rfl, rfl, hb', b1, _, _, rfl, rfl, c2, ?_⟩
  refine ⟨_, _, rfl, Int.mul_pos p0 q0, hb, fun r hr' => ?_⟩
  exact k _ _ (same_upd hr') (.tup (xs := [.int (sumL p q).1, .int (sumL p q).2]) (SqT.of upd_same) (.cons (.int _) (.cons (.int _) .nil)))
def spProduct (K : PySem.W.Frag) : Sp := fun vs H Q _ => ∃ (x y : V) (p q : Prt), vs = [x, y] ∧ Dp K H x (partD p) ∧ Dp K H y (partD q) ∧ 0 < p.2 ∧ 0 < q.2 ∧ p.2 * q.2 < 2 ^ 8000 ∧ CMulW p.1 q.1 ∧ CMulW p.2 q.2 ∧
  ∀ (v : V) (H' : Hp), Same H H' → Dp K H' v (partD (prodL p q)) → Q v H'
theorem ok_product (T : Txt K mg) : FnOk P w K mg base CX0 3 T.a_product T.d_product ["one", "other"] (spProduct K) := by
  refine T.F_product.ok sc_product (fun vs H Q E h => ?_) (fun cdv A outer s H vs Q E hr h => ?_)
  · obtain ⟨x, y, p, q, rfl, _⟩ := h
    rfl
  obtain ⟨x, y, p, q, rfl, dx, dy, p0, q0, hb, c1, c2, k⟩ := h
  obtain ⟨a, x1, x2, rfl, ha, e1, e2⟩ := dx.tup2
  obtain ⟨b, y1, y2, rfl, hb', e3, e4⟩ := dy.tup2
  cases e1.int'
  cases e2.int'
  cases e3.int'
  cases e4.int'
  refine ⟨_, (pss_one (ps_ret (pe_call (ok_lowest T) (hr.mono (by decide)) (by rfl) T.g_lowest T.F_lowest.kp T.b_lowest .nil pass0 (pa_cons (pe_op op_mulW (pe_ix ix_tup (pv 0) pe_int (fun _ _ => rfl)) (pe_ix ix_tup (pv 1) pe_int (fun _ _ => rfl))) (pa_cons (pe_op op_mulW (pe_ix ix_tup (pv 0) pe_int (fun _ _ => rfl)) (pe_ix ix_tup (pv 1) pe_int (fun _ _ => rfl))) pa_nil))))), ?_⟩
  refine ⟨_, rfl, a, _, _, _, rfl, rfl, ha, (rfl : atI [V.int p.1, V.int p.2] 0 = some (.int p.1)), _, rfl, b, _, _, _, rfl, rfl, hb', (rfl : atI [V.int q.1, V.int q.2] 0 = some (.int q.1)), _, _, rfl, rfl, c1, ?_⟩
  refine ⟨_, rfl, a, _, _, _, rfl, rfl, ha, (rfl : atI [V.int p.1, V.int p.2] 1 = some (.int p.2)), _, rfl, b, _, _, _, rfl, rfl, hb', (rfl : atI [V.int q.1, V.int q.2] 1 = some (.int q.2)), _, _, rfl, rfl, c2, ?_⟩
  refine ⟨_, _, rfl, Int.mul_pos p0 q0, hb, fun r hr' => ?_⟩
  exact k _ _ (same_upd hr') (.tup (xs := [.int (prodL p q).1, .int (prodL p q).2]) (SqT.of upd_same) (.cons (.int _) (.cons (.int _) .nil)))
/-- the dict of worths {n: size, #: figures} -/
def valsK (sz bl : Int) : List (L2.Key × V) := [(Sum.inr (Str.ofString "n"), .int sz), (Sum.inr (Str.ofString "#"), .int bl)]
def spWorthOf (P : Program) (w : World) (K : PySem.W.Frag) : Sp := fun vs H Q _ => ∃ (d vd : Addr) (ts : List Trm) (sz bl : Int), vs = [.ref d, .ref vd] ∧ PolyAt P w H d ts ∧ H vd = some (.dK (valsK sz bl)) ∧ sz.natAbs < 2 ^ 110 ∧ bl.natAbs < 2 ^ 110 ∧ (∀ t ∈ ts, TSz t) ∧ ts.length ≤ 10 ∧
  ∀ (v : V) (H' : Hp), Same H H' → Dp K H' v (partD (worthL sz bl ts)) → Q v H'
theorem vals_at (sz bl : Int) {nm : Str} (h : nm = "#" ∨ nm = "n") : valV (valsK sz bl) (Sum.inr nm) = some (.int (valOf sz bl nm)) := by
  rcases h with rfl | rfl
  · rfl
  · rfl
theorem ok_worth_of (T : Txt K mg) : FnOk P w K mg base CX0 4 T.a_worth_of T.d_worth_of ["poly", "values"] (spWorthOf P w K) := by
  refine T.F_worth_of.ok sc_worth_of (fun vs H Q E h => ?_) (fun cdv A outer s H vs Q E hr h => ?_)
  · obtain ⟨d, vd, ts, sz, bl, rfl, _⟩ := h
    rfl
  obtain ⟨d, vd, ts, sz, bl, rfl, ⟨kvs, nd, pr⟩, ev, b1, b2, ht, hl, k⟩ := h
  refine ⟨_, (pss_cons (ps_set (i := 2) sc_worth_of.nd rfl (Or.inl rfl) (pe_glob rfl T.m_NOUGHT T.r_NOUGHT))
      (pss_cons (ps_for PassesOwn.never rfl (pi_nd (pv 0)) (pg_name (i := 3) sc_worth_of.nd rfl (Or.inl rfl)) (pss_cons (ps_set (i := 4) sc_worth_of.nd rfl (Or.inl rfl) (pe_nget hr.units (pv 0) (pv 3) (fun _ _ => rfl)))
      (pss_cons (ps_for PassesOwn.never rfl (pi_tup (pv 3)) (pg_tup rfl (pgs_cons (pg_name (i := 5) sc_worth_of.nd rfl (Or.inl rfl)) (pgs_cons (pg_name (i := 6) sc_worth_of.nd rfl (Or.inl rfl)) pgs_nil))) (pss_one (ps_set (i := 4) sc_worth_of.nd rfl (Or.inl rfl) (pe_call (ok_product T) (hr.mono (by decide)) (by rfl) T.g_product T.F_product.kp T.b_product .nil pass0 (pa_cons (pv 4) (pa_cons (pe_tup (pa_cons (pe_call (ok_raised T) (hr.mono (by decide)) (by rfl) T.g_raised T.F_raised.kp T.b_raised .nil pass0 (pa_cons (pe_dget (hu_of hr) (pv 1) (pv 5) (fun _ _ => rfl)) (pa_cons (pv 6) pa_nil))) (pa_cons pe_int pa_nil))) pa_nil))))))
      (pss_one (ps_set (i := 2) sc_worth_of.nd rfl (Or.inl rfl) (pe_call (ok_sum_of_two T) (hr.mono (by decide)) (by rfl) T.g_sum_of_two T.F_sum_of_two.kp T.b_sum_of_two .nil pass0 (pa_cons (pv 2) (pa_cons (pv 4) pa_nil))))))))
      (pss_one (ps_ret (pv 2))))), ?_⟩
  have lk : kvs.length = ts.length := Paired.length pr
  have ht4 : ∀ t ∈ ts, 0 ≤ t.1.1 ∧ 0 ≤ t.1.2 ∧ 0 < t.2.2 ∧ Int.gcd t.2.1 t.2.2 = 1 := fun t h => ⟨(ht t h).p0, (ht t h).f0, (ht t h).u0, (ht t h).low⟩
  have accEq : ∀ i, worthL sz bl (ts.take i) = lowL (rawL sz bl (ts.take i)).1 (rawL sz bl (ts.take i)).2 := fun i => worthL_eq fun t h => ht4 t (List.mem_of_mem_take h)
  refine ⟨_, rfl, d, kvs, rfl, nd, fun φ eφ => for_it walk_nd (fun i σ H' => Same H H' ∧ ∃ x v3 v4 v5 v6, Dp K H' x (partD (worthL sz bl (ts.take i))) ∧ σ = [some (.ref d), some (.ref vd), some x, v3, v4, v5, v6]) ?_ (fun i σ H' _ p => p.1 _ _ eφ) ?_ ?_⟩
  · exact ⟨Same.refl _, _, _, _, _, _, .tup (T.q_NOUGHT H) (.cons (.int _) (.cons (.int _) .nil)), rfl⟩
  · rintro i x σ H1 H2 hi ⟨s2, acc, v3, v4, v5, v6, da, rfl⟩ ⟨rfl, key, ka, xv, hkv, rfl⟩
    obtain ⟨t, hti, e1, pt, e2, e3⟩ := prel_get pr hkv
    have e1 : key = keyN t.1 := e1
    have e2 : xv = .ref pt := e2
    subst e1 e2
    have tz := ht t (List.mem_of_getElem? hti)
    have nk := (nd.keys _ (List.mem_of_getElem? hkv)).1
    have hav := atN_get nd.nodup hkv
    have nd2 := nd.mono s2
    have nk2 := NK.mono (fun b xs e => rd_keepL (Same.keepL s2) e) _ _ nk
    refine ⟨_, rfl, _, rfl, d, ka, kvs, keyN t.1, _, rfl, rfl, nd2, nk2, keyN_depth _, hav, ?_⟩
    obtain ⟨items, hitems, hnks⟩ : ∃ items, Rd H2 ka (.tup items) ∧ NKs H2 (keyL t.1) items := by
      cases nk2 with
      | tup a b => exact ⟨_, a, b⟩
    rw [keyL_eq] at hnks
    have li : items.length = (keyP t.1).length := by
      have := nks_len hnks
      rw [List.length_map] at this
      exact this
    have part0 : Dp K H2 (.ref pt) (partD t.2) := .tup (SqT.of (s2 _ _ e3)) (.cons (.int _) (.cons (.int _) .nil))
    have pEq : ∀ j, ((keyP t.1).take j).foldl (stepP sz bl) t.2 = lowL (((keyP t.1).take j).foldl (stepI sz bl) t.2.1) t.2.2 := fun j => by
      have := foldP_low (sz := sz) (bl := bl) tz.u0 ((keyP t.1).take j) t.2.1
      rw [lowL_self tz.u0 tz.low] at this
      exact this
    have kl := keyP_len t.1
    have kb := keyP_le (k := t.1) tz.p1 tz.f1
    refine ⟨_, rfl, ka, rfl, ⟨_, Or.inl hitems⟩, for_it (walk_tup (xs := items)) (fun j σ H' => Same H2 H' ∧ ∃ y v5 v6, Dp K H' y (partD (((keyP t.1).take j).foldl (stepP sz bl) t.2)) ∧ σ = [some (.ref d), some (.ref vd), some acc, some (.ref ka), some y, v5, v6]) ?_ (fun j σ H' _ p => same_t p.1 (.inl hitems)) ?_ ?_⟩
    · exact ⟨Same.refl _, _, _, _, part0, rfl⟩
    · rintro j y σ H3 H4 hj ⟨s4, z, v5, v6, dz, rfl⟩ ⟨rfl, hy⟩
      obtain ⟨kx, bq, hkx, rfl, hbq⟩ := nks_at hnks hy
      obtain ⟨x0, x9, xn⟩ := kb kx (List.mem_of_getElem? hkx)
      refine ⟨bq, _, rfl, same_t s4 (.inl hbq), rfl, _, _, rfl, _, _, rfl, rfl, ?_⟩
      have dg : DGet H4 vd (.str kx.1) (some (.int (valOf sz bl kx.1))) := by
        have := DGet.k (k := Sum.inr kx.1) (s4 _ _ (s2 _ _ ev))
        rw [vals_at sz bl xn] at this
        exact this
      have vb := val_b b1 b2 kx.1
      refine ⟨_, rfl, _, rfl, _, rfl, vd, _, rfl, dg, _, rfl, valOf sz bl kx.1, kx.2.toNat, 110, by rw [show ((kx.2.toNat : Nat) : Int) = kx.2 by omega]; rfl, vb, by decide, by omega, ?_⟩
      refine ⟨by show 2 ≤ sizeLine; decide, fun q hq => ?_⟩
      have sq := same_upd (o := .tup [.int (valOf sz bl kx.1 ^ kx.2.toNat), .int 1]) hq
      have fb := foldI_b b1 b2 ((keyP t.1).take j) t.2.1 200 tz.o1 (fun x hx => (kb x (List.mem_of_mem_take hx)).2.1)
      have lj : ((keyP t.1).take j).length ≤ 2 := by
        rw [List.length_take]
        omega
      have ll := lowL_le (o := ((keyP t.1).take j).foldl (stepI sz bl) t.2.1) tz.u0
      rw [pEq j] at dz
      have u1 := tz.u1
      refine ⟨z, .ref q, _, (valOf sz bl kx.1 ^ kx.2.toNat, 1), rfl, dz.mono sq, .tup (xs := [.int (valOf sz bl kx.1 ^ kx.2.toNat), .int 1]) (SqT.of upd_same) (.cons (.int _) (.cons (.int _) .nil)), ll.2.1, (by show (0 : Int) < 1; decide), ?_, ?_, ?_, fun v H5 s5 dv => ?_⟩
      · show (lowL _ _).2 * 1 < 2 ^ 8000
        rw [Int.mul_one]
        exact Int.lt_of_le_of_lt (b := 2) (by omega) (by decide)
      · refine cmul_of (m := 200 + 1000 * 2) (n := 1000) (Nat.lt_of_le_of_lt ll.1 (Nat.lt_of_lt_of_le fb (Nat.pow_le_pow_right (by decide) (by omega)))) (pow_b vb (by omega)) (by decide) (by decide) (by decide)
      · refine cmul_of (m := 2) (n := 1) (by omega) (by show (1 : Int).natAbs < 2 ^ 1; decide) (by decide) (by decide) (by decide)
      · refine ⟨s4.trans (sq.trans s5), v, _, _, ?_, rfl⟩
        rw [take_snoc hkx, List.foldl_append, pEq j]
        exact dv
    · rintro σ H3 ⟨s3, z, v5, v6, dz, rfl⟩
      have et : (keyP t.1).take items.length = keyP t.1 := by rw [li, List.take_length]
      rw [et] at dz
      have dz : Dp K H3 z (partD (partK sz bl t)) := dz
      have pk := partK_low (sz := sz) (bl := bl) tz.p0 tz.f0 tz.u0 tz.low
      have ll := lowL_le (o := numI sz bl t) tz.u0
      have nb := numI_b b1 b2 tz.o1 tz.p1 tz.f1
      have hi : i < kvs.length := hi
      obtain ⟨r1, r2, r3⟩ := raw_b (ts := ts) b1 b2 ht i (by omega)
      have la := lowL_le (o := (rawL sz bl (ts.take i)).1) r1
      rw [accEq i] at da
      rw [pk] at dz
      have u1 := tz.u1
      refine ⟨_, rfl, _, rfl, acc, z, _, _, rfl, da.mono s3, dz, la.2.1, ll.2.1, ?_, ?_, ?_, ?_, fun v H5 s5 dv => ?_⟩
      · have c1 : (lowL (rawL sz bl (ts.take i)).1 (rawL sz bl (ts.take i)).2).2.natAbs < 2 ^ 21 := Nat.lt_of_le_of_lt (m := (rawL sz bl (ts.take i)).2.natAbs) (by omega) (Nat.lt_of_lt_of_le r2 (Nat.pow_le_pow_right (by decide) (by omega)))
        have c2 : (lowL (numI sz bl t) t.2.2).2.natAbs < 2 ^ 2 := by omega
        have c3 := mul_b c1 c2
        have c4 : (2 : Nat) ^ (21 + 2) < 2 ^ 30 := by decide
        have c5 : ((2 : Int) ^ 30) < 2 ^ 8000 := by decide
        omega
      · exact cmul_of (m := 2300 + 10 * 10) (n := 2) (Nat.lt_of_le_of_lt la.1 (Nat.lt_of_lt_of_le r3 (Nat.pow_le_pow_right (by decide) (by omega)))) (by omega) (by decide) (by decide) (by decide)
      · exact cmul_of (m := 2200) (n := 21) (Nat.lt_of_le_of_lt ll.1 nb) (Nat.lt_of_le_of_lt (m := (rawL sz bl (ts.take i)).2.natAbs) (by omega) (Nat.lt_of_lt_of_le r2 (Nat.pow_le_pow_right (by decide) (by omega)))) (by decide) (by decide) (by decide)
      · exact cmul_of (m := 21) (n := 2) (Nat.lt_of_le_of_lt (m := (rawL sz bl (ts.take i)).2.natAbs) (by omega) (Nat.lt_of_lt_of_le r2 (Nat.pow_le_pow_right (by decide) (by omega)))) (by omega) (by decide) (by decide) (by decide)
      · refine ⟨s2.trans (s3.trans s5), v, _, _, _, _, ?_, rfl⟩
        rw [take_snoc hti]
        unfold worthL
        rw [List.foldl_append]
        show Dp K H5 v (partD (sumL (worthL sz bl (ts.take i)) (partK sz bl t)))
        rw [accEq i, pk]
        exact dv
  · rintro σ H1 ⟨s1, x, v3, v4, v5, v6, da, rfl⟩
    have et : ts.take kvs.length = ts := by rw [lk, List.take_length]
    rw [et] at da
    exact ⟨_, rfl, k x _ s1 da⟩
def spRowsWorth (P : Program) (w : World) (K : PySem.W.Frag) : Sp := fun vs H Q _ => ∃ (p : Addr) (us : List V) (S : List Rw) (sz : Int), vs = [.ref p, .int sz] ∧ H p = some (.lst us) ∧ RowsAt P w H us S ∧ sz.natAbs < 2 ^ 110 ∧ SumSz S ∧
  ∀ (v : V) (H' : Hp), Same H H' → Dp K H' v (partD (worthL sz (Builtin.Int.intBits sz : Nat) (termsAt S sz))) → Q v H'
theorem ok_rows_worth (T : Txt K mg) : FnOk P w K mg base CX0 5 T.a_rows_worth T.d_rows_worth ["rows", "size"] (spRowsWorth P w K) := by
  refine T.F_rows_worth.ok sc_rows_worth (fun vs H Q E h => ?_) (fun cdv A outer s H vs Q E hr h => ?_)
  · obtain ⟨p, us, S, sz, rfl, _⟩ := h
    rfl
  obtain ⟨p, us, S, sz, rfl, ep, ra, hz, ss, k⟩ := h
  refine ⟨_, (pss_cons (ps_set (i := 2) sc_rows_worth.nd rfl (Or.inl rfl) pe_dnewN)
      (pss_cons (ps_for PassesOwn.never rfl (pi_list (pv 0)) (pg_tup rfl (pgs_cons (pg_name (i := 3) sc_rows_worth.nd rfl (Or.inl rfl)) (pgs_cons (pg_name (i := 4) sc_rows_worth.nd rfl (Or.inl rfl)) pgs_nil))) (pss_one (ps_if (pt_cmpR op_le (pv 3) (pv 1) (nomark _)) (pss_one (ps_set (i := 2) sc_rows_worth.nd rfl (Or.inl rfl) (pv 4))) pss_nil)))
      (pss_one (ps_ret (pe_call (ok_worth_of T) (hr.mono (by decide)) (by rfl) T.g_worth_of T.F_worth_of.kp T.b_worth_of .nil pass0 (pa_cons (pv 2) (pa_cons (pe_disp (pps_cons (pe_glob rfl T.m_SIZE T.r_SIZE) (pv 1) (pps_cons (pe_glob rfl T.m_FIGURES T.r_FIGURES) (pe_bits (pv 1)) pps_nil)) (by rfl) (by rfl) (by simp) (by decide)) pa_nil))))))), ?_⟩
  have lS : us.length = S.length := Paired.length ra
  intro d0 φ hd0 nd0
  have s0 := same_upd (o := .ext φ) hd0
  refine ⟨_, rfl, p, rfl, ⟨_, SqL.of (s0 _ _ ep)⟩, for_it (walk_list (xs := us)) (fun i σ H' => Same H H' ∧ ∃ d v3 v4, PolyAt P w H' d (termsAt (S.take i) sz) ∧ σ = [some (.ref p), some (.int sz), some (.ref d), v3, v4]) ⟨s0, d0, _, _, ⟨[], nd0, .nil⟩, rfl⟩ (fun i σ H' _ q => SqL.of (q.1 _ _ ep)) ?_ ?_⟩
  · rintro i x σ H1 H2 hi ⟨s2, d, v3, v4, pa, rfl⟩ ⟨rfl, hx⟩
    obtain ⟨r, hr', a, dd, rfl, ea, pd⟩ := rows_get ra hx
    refine ⟨a, _, rfl, SqT.of (s2 _ _ ea), rfl, _, _, rfl, _, _, rfl, rfl, ?_⟩
    refine ⟨_, rfl, _, rfl, _, _, rfl, rfl, _, rfl, ?_⟩
    refine ite2 (fun c => ?_) (fun c => ?_)
    · have c' : r.1 ≤ sz := of_decide_eq_true c
      refine ⟨_, rfl, s2, dd, _, _, ?_, rfl⟩
      rw [termsAt_snoc hr', if_pos c']
      exact pd.mono s2
    · have c' : ¬ r.1 ≤ sz := fun z => c (decide_eq_true z)
      refine ⟨s2, d, _, _, ?_, rfl⟩
      rw [termsAt_snoc hr', if_neg c']
      exact pa
  · rintro σ H1 ⟨s1, d, v3, v4, pa, rfl⟩
    have et : S.take us.length = S := by rw [lS, List.take_length]
    rw [et] at pa
    refine ⟨_, rfl, fun vd hvd => ?_⟩
    have sv := same_upd (o := .dK []) hvd
    refine ⟨_, rfl, _, rfl, _, rfl, ?_⟩
    refine ⟨upd_same, valsK sz (Builtin.Int.intBits sz : Nat), rfl, (by show 2 ≤ 15; decide), ?_⟩
    have em : mergeK [] (valsK sz (Builtin.Int.intBits sz : Nat)) = valsK sz (Builtin.Int.intBits sz : Nat) := rfl
    rw [em]
    have sp := same_put (o := .dK (valsK sz (Builtin.Int.intBits sz : Nat))) sv hvd
    try unfold tNil
    refine ⟨d, vd, termsAt S sz, sz, _, rfl, pa.mono sp, upd_same, hz, bits_b hz, termsAt_ok (F := fun ts => ∀ t ∈ ts, TSz t) (fun _ h => nomatch h) fun r hr => (ss r hr).1, termsAt_ok (F := fun ts => ts.length ≤ 10) (by decide) fun r hr => (ss r hr).2, fun v H' s' dv => k v H' (s1.trans (sp.trans s')) dv⟩
def GEnds (K : PySem.W.Frag) (C : Addr) (nm : Str) (H : Hp) (Q : VK) (E : XK) : Option Gr → Prop
  | some g => ∀ v H', Same H H' → Dp K H' v (grD g) → Q v H'
  | none => ∀ dd H', Same H H' → H dd = none → H' dd = some (.xd [(Str.ofString "name", .str nm), (Str.ofString "word", .str (Str.ofString "Uneven"))]) → E (.ref C) (some dd) H'
theorem GEnds.mono {K : PySem.W.Frag} {C : Addr} {nm : Str} {H H1 : Hp} {Q : VK} {E : XK} (s : Same H H1) {g : Option Gr} (h : GEnds K C nm H Q E g) : GEnds K C nm H1 Q E g := by
  cases g with
  | some g => exact fun v H' s' d => h v H' (s.trans s') d
  | none => exact fun dd H' s' n e => h dd H' (s.trans s') (s.free n) e
def wordB (b : Int) : Str := if b = 2 then Str.ofString "halves" else Str.ofString "thirds"
def spGrowthOf (P : Program) (w : World) (K : PySem.W.Frag) (C : Addr) : Sp := fun vs H Q E => ∃ (p : Addr) (us : List V) (S : List Rw) (wv : V) (nm : Str) (many bs top deep wide : Int), vs = [.ref p, wv, .str nm] ∧ H p = some (.lst us) ∧ RowsAt P w H us S ∧ SumsOk top deep wide S ∧ top ≤ 9 ∧ deep ≤ 9 ∧ wide < 2 ^ 200 ∧
  ((many ≤ 0 ∧ wv = .non) ∨ (0 < many ∧ ∃ wa, wv = .ref wa ∧ SqT K H wa [.int many, .str (wordB bs)])) ∧ (bs = 2 ∨ bs = 3) ∧ GEnds K C nm H Q E (growL S many bs)
theorem ok_growth_of (T : Txt K mg) : FnOk P w K mg base (L2.CX P w) 7 T.a_growth_of T.d_growth_of ["rows", "way", "name"] (spGrowthOf P w K T.x_Uneven) := by
  refine T.F_growth_of.okX sc_growth_of (fun vs H Q E h => ?_) (fun cdv A outer s H vs Q E hr h => ?_)
  · obtain ⟨p, us, S, wv, nm, _, _, _, _, _, rfl, _⟩ := h
    rfl
  obtain ⟨p, us, S, wv, nm, many, bs, top, deep, wide, rfl, ep, ra, okS, t9, d9, w2, hw, hb, k⟩ := h
  refine ⟨_, (pss_cons (ps_set (i := 3) sc_growth_of.nd rfl (Or.inl rfl) (pe_ix ix_seq (pe_ix ix_list (pv 0) (pe_un un_neg pe_int) (fun _ _ => rfl)) pe_int (fun _ _ => rfl)))
      (pss_cons (ps_if (PW.pt (pw_or (pt_cmpR op_isN (pv 1) pe_non (nomark _)) (pw_or1 (pt_cmpR op_eq (pe_ix ix_tup (pv 1) pe_int (fun _ _ => rfl)) pe_str (nomark _))))) (pss_cons (ps_if (pt_cmpR (op_eqE (Nat.lt_of_le_of_lt (Nat.le_add_right _ 64) hr.units)) (pv 3) pe_dnewN (nomark _)) (pss_one (ps_ret pe_non)) pss_nil)
      (pss_cons (ps_asg (pe_call (ok_greatest_powers T) (hr.mono (by decide)) (by rfl) T.g_greatest_powers T.F_greatest_powers.kp T.b_greatest_powers .nil pass0 (pa_cons (pv 3) pa_nil)) (pg_tup rfl (pgs_cons (pg_name (i := 4) sc_growth_of.nd rfl (Or.inl rfl)) (pgs_cons (pg_name (i := 5) sc_growth_of.nd rfl (Or.inl rfl)) pgs_nil))))
      (pss_one (ps_ret (pe_tup (pa_cons (pe_call (ok_raised T) (hr.mono (by decide)) (by rfl) T.g_raised T.F_raised.kp T.b_raised .nil pass0 (pa_cons pe_int (pa_cons (pv 4) pa_nil))) (pa_cons pe_int (pa_cons (pv 5) pa_nil)))))))) pss_nil)
      (pss_cons (ps_asg (pv 1) (pg_tup rfl (pgs_cons (pg_name (i := 6) sc_growth_of.nd rfl (Or.inl rfl)) (pgs_cons (pg_name (i := 7) sc_growth_of.nd rfl (Or.inl rfl)) pgs_nil))))
      (C8.pss_cut (ps_set (i := 8) sc_growth_of.nd rfl (Or.inl rfl) (pe_ifExp (pt_cmpR op_eq (pv 7) pe_str (nomark _)) pe_int pe_int))
      (pss_cons (ps_if (pt_cmpR (op_eqE (Nat.lt_of_le_of_lt (Nat.le_add_right _ 64) hr.units)) (pv 3) pe_dnewN (nomark _)) (pss_cons (ps_if (pt_val (pe_callB (cr_all rfl) (by rfl) T.z_all (by decide +kernel) (pa_cons (pe_lc (own := [("since", 9), ("more", 10)]) (g := gTup K 2 ((gCons (gName 9) (gCons (gName 10) gNil)))) (tt := tYes) rfl sc_growth_of.nd (pi_list (pv 0)) (blkOk_by (N := N_growth_of) (sc := defScope s_growth_of) (by decide +kernel)) (fun _ _ _ _ _ => (pg_tup rfl (pgs_cons (pg_name (i := 9) sc_growth_of.nd rfl (Or.inl rfl)) (pgs_cons (pg_name (i := 10) sc_growth_of.nd rfl (Or.inl rfl)) pgs_nil)))) (fun _ _ _ _ _ => pts_nil) (fun _ _ _ _ _ => (pe_cmpR (r := rEqE P w) (op_eqE (Nat.lt_of_le_of_lt (Nat.le_add_right _ 64) hr.units)) (pv 10) (show PE _ _ (tDNewN P w) from pe_dnewN) (nomark _)))) pa_nil))) (pss_one (ps_ret pe_non)) pss_nil)
      (pss_cons (ps_if (pt_cmpR (op_eqD hr.units) (pe_call (ok_rows_worth T) (hr.mono (by decide)) (by rfl) T.g_rows_worth T.F_rows_worth.kp T.b_rows_worth .nil pass0 (pa_cons (pv 0) (pa_cons pe_int pa_nil))) (pe_glob rfl T.m_NOUGHT T.r_NOUGHT) (nomark _)) (pss_one (ps_raise rfl (takes_of rfl rfl rfl rfl) (pmk_oex T.ox_Uneven T.in_Uneven T.ti_Uneven (ok_Uneven_init T) (hr.mono (by omega)) T.b_Uneven_init .nil pass0 (by rfl) T.gx_Uneven (pa_cons (pv 2) pa_nil)))) pss_nil)
      (pss_one (ps_ret (pe_call (ok_even_growth T) (hr.mono (by decide)) (by rfl) T.g_even_growth T.F_even_growth.kp T.b_even_growth .nil pass0 (pa_cons (pv 6) (pa_cons (pv 8) (pa_cons pe_int pa_nil)))))))) pss_nil)
      (pss_cons (ps_asg (pe_call (ok_greatest_powers T) (hr.mono (by decide)) (by rfl) T.g_greatest_powers T.F_greatest_powers.kp T.b_greatest_powers .nil pass0 (pa_cons (pv 3) pa_nil)) (pg_tup rfl (pgs_cons (pg_name (i := 4) sc_growth_of.nd rfl (Or.inl rfl)) (pgs_cons (pg_name (i := 5) sc_growth_of.nd rfl (Or.inl rfl)) pgs_nil))))
      (pss_cons (ps_if (pt_cmpR op_gt (pv 6) (pe_call (ok_raised T) (hr.mono (by decide)) (by rfl) T.g_raised T.F_raised.kp T.b_raised .nil pass0 (pa_cons (pv 8) (pa_cons (pv 4) pa_nil))) (nomark _)) (pss_one (ps_ret (pe_call (ok_even_growth T) (hr.mono (by decide)) (by rfl) T.g_even_growth T.F_even_growth.kp T.b_even_growth .nil pass0 (pa_cons (pv 6) (pa_cons (pv 8) (pa_cons pe_int pa_nil)))))) pss_nil)
      (pss_cons (ps_if (pt_cmpR op_lt (pv 6) (pe_call (ok_raised T) (hr.mono (by decide)) (by rfl) T.g_raised T.F_raised.kp T.b_raised .nil pass0 (pa_cons (pv 8) (pa_cons (pv 4) pa_nil))) (nomark _)) (pss_one (ps_ret (pe_tup (pa_cons (pe_call (ok_raised T) (hr.mono (by decide)) (by rfl) T.g_raised T.F_raised.kp T.b_raised .nil pass0 (pa_cons pe_int (pa_cons (pv 4) pa_nil))) (pa_cons pe_int (pa_cons (pv 5) pa_nil)))))) pss_nil)
      (pss_one (ps_ret (pe_call (ok_even_growth T) (hr.mono (by decide)) (by rfl) T.g_even_growth T.F_even_growth.kp T.b_even_growth .nil pass0 (pa_cons (pv 6) (pa_cons (pv 8) (pa_cons (pe_op op_add (pv 5) pe_int) pa_nil)))))))))))))), ?_⟩
  have ss := sumSz_of t9 d9 w2 okS
  obtain ⟨S0, r, rfl⟩ := snoc_l (sums_ne okS)
  obtain ⟨us0, u, rfl, ra0, ⟨ua, dp, rfl, eu, pa⟩⟩ := paired_last ra
  have hl : lastT (S0 ++ [r]) = r.2 := lastT_snoc _ _
  have tok := (okS.each r (List.mem_append_right _ (List.mem_singleton.mpr rfl))).1
  unfold growL at k
  rw [hl] at k
  refine ⟨_, rfl, _, rfl, p, _, _, _, rfl, rfl, SqL.of ep, atI_lastV, .inr (.inl ⟨ua, _, _, _, rfl, rfl, SqT.of eu, (rfl : atI [V.int r.1, .ref dp] 1 = some (.ref dp)), ?_⟩)⟩
  have pw : ∀ (ts : List Trm), ts ≠ [] → TrmsOk top deep wide ts → ∃ n : Nat, (topK ts).1 = (n : Int) ∧ n ≤ 9 := fun ts hn ht => by
    obtain ⟨q0, q1, _⟩ := topK_ok ht hn
    exact ⟨(topK ts).1.toNat, by omega, by omega⟩
  obtain ⟨kvs, nd, pr⟩ := pa
  have lk : kvs.length = r.2.length := Paired.length pr
  have l3 := tok.len
  have hts : ∀ t ∈ r.2, 0 ≤ t.1.1 ∧ 0 ≤ t.1.2 := fun t ht => ⟨(tok.each t ht).p0, (tok.each t ht).f0⟩
  rcases hw with ⟨hm, rfl⟩ | ⟨hm, wa, rfl, hwa⟩
  · rw [if_pos hm] at k
    refine ⟨_, rfl, rfl, _, rfl, ?_⟩
    rw [show decide (V.non = V.non) = true from rfl]
    refine iteT (iteT ?_)
    refine ⟨_, rfl, fun e φ he nde => ⟨dp, e, kvs, rfl, rfl, nd.mono (same_upd he), nde, _, rfl, ?_⟩⟩
    have s1 := same_upd (o := .ext φ) he
    refine ite2 (fun c => ?_) (fun c => ?_)
    · have hz : r.2 = [] := List.length_eq_zero_iff.mp (by rw [← lk]; exact of_decide_eq_true c)
      rw [if_pos hz] at k
      exact k .non _ s1 .non
    · have hz : r.2 ≠ [] := fun z => c (decide_eq_true (by rw [lk, z]; rfl))
      rw [if_neg hz] at k
      obtain ⟨n, en, n9⟩ := pw r.2 hz tok
      refine ⟨_, rfl, dp, r.2, rfl, ⟨kvs, nd.mono s1, L2.Paired.mapP pr fun a b q => ⟨q.1, by obtain ⟨pt, q2, q3⟩ := q.2; exact ⟨pt, q2, s1 _ _ q3⟩⟩⟩, hz, by omega, hts, fun v H2 s2 dv => ?_⟩
      obtain ⟨b, x1, x2, rfl, hb2, d1, d2⟩ := Dp.tup2 (d := .int (topK r.2).1) (e := .int (topK r.2).2) dv
      cases d1.int'
      cases d2.int'
      refine ⟨b, _, rfl, hb2, rfl, _, _, rfl, _, _, rfl, rfl, ?_⟩
      refine ⟨_, rfl, 2, n, 2, by rw [en]; rfl, by decide, by decide, by omega, _, rfl, by show 3 ≤ sizeLine; decide, fun q hq => ?_⟩
      refine k (.ref q) _ ((s1.trans s2).trans (same_upd hq)) ?_
      show Dp K _ _ (trD (plainG r.2))
      unfold plainG trD
      rw [en]
      exact .tup (SqT.of upd_same) (.cons (.int _) (.cons (.int _) (.cons (.int _) .nil)))
  · rw [if_neg (by omega)] at k
    refine ⟨_, rfl, rfl, _, rfl, ?_⟩
    rw [show decide (V.ref wa = V.non) = false from decide_eq_false (fun z => nomatch z)]
    refine iteF ?_
    refine ⟨_, rfl, wa, _, _, _, rfl, rfl, hwa, (rfl : atI [V.int many, V.str (wordB bs)] 1 = some (.str (wordB bs))), rfl, _, rfl, ?_⟩
    have hless : decide (V.str (wordB bs) = V.str (Str.ofString "less")) = false := by
      rcases hb with rfl | rfl <;> decide
    rw [hless]
    refine iteF ?_
    refine ⟨_, rfl, wa, _, rfl, hwa, rfl, _, _, rfl, _, _, rfl, rfl, ?_⟩
    refine ⟨fun σ H' => H' = H ∧ σ = [some (.ref p), some (.ref wa), some (.str nm), some (.ref dp), none, none, some (.int many), some (.str (wordB bs)), some (.int bs), none, none], ?_, ?_⟩
    · refine ⟨_, rfl, rfl, _, rfl, ?_⟩
      rcases hb with rfl | rfl
      · exact iteT ⟨rfl, rfl⟩
      · exact iteF ⟨rfl, rfl⟩
    rintro σ H1 ⟨rfl, rfl⟩
    have ev : ∀ (f : Int) {H3 : Hp}, Same H1 H3 → GEnds K T.x_Uneven nm H1 Q E (some (some (evenG many bs f))) → spEven K [.int many, .int bs, .int f] H3 Q E0 := fun f H3 s3 kk =>
      ⟨many, bs, f, rfl, fun v H' s' dv => kk v H' (s3.trans s') dv⟩
    refine ⟨_, rfl, fun e φ he nde => ⟨dp, e, kvs, rfl, rfl, nd.mono (same_upd he), nde, _, rfl, ?_⟩⟩
    have s1 := same_upd (o := .ext φ) he
    refine ite2 (fun c => ?_) (fun c => ?_)
    · have hz : r.2 = [] := List.length_eq_zero_iff.mp (by rw [← lk]; exact of_decide_eq_true c)
      rw [if_pos hz] at k
      have raA : RowsAt P w H1 (us0 ++ [.ref ua]) (S0 ++ [r]) := ra
      have lus : (us0 ++ [V.ref ua]).length = (S0 ++ [r]).length := Paired.length raA
      have l4 := okS.len
      refine ⟨_, rfl, p, rfl, ⟨_, SqL.of (s1 _ _ ep)⟩, fun R hR => ?_⟩
      refine lc_it (walk_list (xs := us0 ++ [.ref ua])) (fun i H' => Same (upd H1 e (.ext φ)) H' ∧ H' R = some (.lst ((((S0 ++ [r]).take i).map fun q => decide (q.2 = [])).map V.bl))) ⟨same_upd hR, upd_same⟩ (fun i H' _ q => SqL.of (q.1 _ _ (s1 _ _ ep))) ?_ ?_
      · rintro i x H2 H3 hi ⟨s2, eR⟩ ⟨rfl, hx⟩
        obtain ⟨q, hq, ⟨qa, qd, rfl, eq1, ⟨kv2, nd2, pr2⟩⟩⟩ := paired_at raA hx
        have s12 := s1.trans s2
        refine ⟨qa, _, rfl, SqT.of (s12 _ _ eq1), rfl, _, _, rfl, _, _, rfl, rfl, rfl, ?_⟩
        refine ⟨_, rfl, fun e2 φ2 he2 nde2 => ⟨qd, e2, kv2, rfl, rfl, nd2.mono (s12.trans (same_upd he2)), nde2, ?_⟩⟩
        have s3 := same_upd (o := .ext φ2) he2
        refine ⟨_, s3 _ _ eR, small1000 (by rw [List.length_map, List.length_map, List.length_take]; omega), same_put (s2.trans s3) hR, ?_⟩
        rw [upd_same, take_snoc hq, List.map_append, List.map_append]
        have lq : kv2.length = q.2.length := Paired.length pr2
        rw [show decide (kv2.length = 0) = decide (q.2 = []) by
          rw [lq]
          cases q.2 <;> rfl]
        rfl
      rintro H2 ⟨s2, eR⟩
      rw [List.take_of_length_le (by omega)] at eR
      refine ⟨R, _, rfl, SqL.of eR, _, rfl, ?_⟩
      have s12 := s1.trans s2
      refine ite2 (fun c1 => ?_) (fun c1 => ?_)
      · rw [if_pos (fun q hq => by simpa using (List.all_eq_true.mp c1) _ (List.mem_map.mpr ⟨q, hq, rfl⟩))] at k
        exact k .non _ s12 .non
      · rw [if_neg (fun z => c1 (List.all_eq_true.mpr fun b hb => by
          obtain ⟨q, hq, rfl⟩ := List.mem_map.mp hb
          simpa using z q hq))] at k
        refine ⟨_, rfl, p, _, _, 0, rfl, s12 _ _ ep, raA.mono s12, by decide, ss, fun v H3 s3 dv => ?_⟩
        refine ⟨_, _, dv, .tup (T.q_NOUGHT H3) (.cons (.int _) (.cons (.int _) .nil)), rfl, rfl, _, rfl, ?_⟩
        rw [part_nought]
        have s13 := s12.trans s3
        refine ite2 (fun c2 => ?_) (fun c2 => ?_)
        · rw [if_pos (of_decide_eq_true c2)] at k
          refine ⟨_, rfl, by show 1 ≤ 1000; decide, fun b hb => ⟨b, nm, rfl, upd_same, fun dd H4 hdd ne q1 q2 fr => ?_⟩⟩
          obtain ⟨h1, s4⟩ := made_sameG (fs := [(Str.ofString "name", .str nm), (Str.ofString "word", .str (Str.ofString "Uneven"))]) hb ne hdd fr
          exact ⟨rfl, dd, _, q1, q2, h1, k dd _ (s13.trans s4) (s13.free h1) upd_same⟩
        · rw [if_neg (fun z => c2 (decide_eq_true z))] at k
          exact ⟨_, rfl, _, rfl, ev 0 s13 k⟩
    · have hz : r.2 ≠ [] := fun z => c (decide_eq_true (by rw [lk, z]; rfl))
      rw [if_neg hz] at k
      obtain ⟨n, en, n9⟩ := pw r.2 hz tok
      have bm : (bs.natAbs < 2 ^ 2) := by rcases hb with rfl | rfl <;> decide
      refine ⟨_, rfl, dp, r.2, rfl, ⟨kvs, nd.mono s1, L2.Paired.mapP pr fun a b q => ⟨q.1, by obtain ⟨pt, q2, q3⟩ := q.2; exact ⟨pt, q2, s1 _ _ q3⟩⟩⟩, hz, by omega, hts, fun v H2 s2 dv => ?_⟩
      obtain ⟨b, x1, x2, rfl, hb2, d1, d2⟩ := Dp.tup2 (d := .int (topK r.2).1) (e := .int (topK r.2).2) dv
      cases d1.int'
      cases d2.int'
      have s12 := s1.trans s2
      rw [en] at k
      refine ⟨b, _, rfl, hb2, rfl, _, _, rfl, _, _, rfl, rfl, ?_⟩
      refine ⟨_, rfl, _, rfl, _, rfl, bs, n, 2, by rw [en]; rfl, bm, by decide, by omega, _, _, rfl, rfl, _, rfl, ?_⟩
      have kn : ((n : Int)).toNat = n := by omega
      rw [kn] at k
      refine ite2 (fun c1 => ?_) (fun c1 => ?_)
      · rw [if_pos (of_decide_eq_true c1)] at k
        exact ⟨_, rfl, _, rfl, ev 0 s12 k⟩
      · rw [if_neg (fun z => c1 (decide_eq_true z))] at k
        refine ⟨_, rfl, _, rfl, _, rfl, bs, n, 2, by rw [en]; rfl, bm, by decide, by omega, _, _, rfl, rfl, _, rfl, ?_⟩
        refine ite2 (fun c2 => ?_) (fun c2 => ?_)
        · rw [if_pos (of_decide_eq_true c2)] at k
          refine ⟨_, rfl, 2, n, 2, by rw [en]; rfl, by decide, by decide, by omega, _, rfl, by show 3 ≤ sizeLine; decide, fun q hq => ?_⟩
          refine k (.ref q) _ (s12.trans (same_upd hq)) ?_
          show Dp K _ _ (trD (plainG r.2))
          unfold plainG trD
          rw [en]
          exact .tup (SqT.of upd_same) (.cons (.int _) (.cons (.int _) (.cons (.int _) .nil)))
        · rw [if_neg (fun z => c2 (decide_eq_true z))] at k
          exact ⟨_, rfl, _, rfl, _, rfl, _, _, rfl, rfl, ev _ s12 k⟩
def spReadRows (P : Program) (w : World) (K : PySem.W.Frag) : Sp := fun vs H Q _ => ∃ (v : V) (S : List Rw) (top deep wide : Int), vs = [v] ∧ Dp K H v (sumsD S) ∧ SumsOk top deep wide S ∧
  ∀ (p : Addr) (us : List V) (H' : Hp), Same H H' → H p = none → H' p = some (.lst us) → RowsAt P w H' us S → Q (.ref p) H'
theorem rep_int (x : V) (c : Prop) [Decidable c] : (List.replicate (if decide c = true then (1 : Int) else 0).toNat [x]).flatten = if c then [x] else [] := by
  by_cases h : c
  · simp [h]
  · simp [h]
theorem ok_read_rows (T : Txt K mg) : FnOk P w K mg base CX0 3 T.a_read_rows T.d_read_rows ["told"] (spReadRows P w K) := by
  refine T.F_read_rows.ok sc_read_rows (fun vs H Q E h => ?_) (fun cdv A outer s H vs Q E hr h => ?_)
  · obtain ⟨v, S, _, _, _, rfl, _⟩ := h
    rfl
  obtain ⟨v, S, top, deep, wide, rfl, dS, ok, k⟩ := h
  obtain ⟨a, us, rfl, hs, dA⟩ := dS.lst'
  have lS : us.length = S.length := by
    have := dA.length
    rw [List.length_map] at this
    exact this
  have l4 := ok.len
  refine ⟨_, (pss_cons (ps_set (i := 1) sc_read_rows.nd rfl (Or.inl rfl) (pe_lst pa_nil))
      (pss_cons (ps_for PassesOwn.never rfl (pi_list (pv 0)) (pg_tup rfl (pgs_cons (pg_name (i := 2) sc_read_rows.nd rfl (Or.inl rfl)) (pgs_cons (pg_name (i := 3) sc_read_rows.nd rfl (Or.inl rfl)) pgs_nil))) (pss_cons (ps_set (i := 4) sc_read_rows.nd rfl (Or.inl rfl) pe_dnewN)
      (pss_cons (ps_for PassesOwn.never rfl (pi_list (pv 3)) (pg_tup rfl (pgs_cons (pg_tup rfl (pgs_cons (pg_name (i := 5) sc_read_rows.nd rfl (Or.inl rfl)) (pgs_cons (pg_name (i := 6) sc_read_rows.nd rfl (Or.inl rfl)) pgs_nil))) (pgs_cons (pg_name (i := 7) sc_read_rows.nd rfl (Or.inl rfl)) pgs_nil))) (pss_cons (ps_set (i := 8) sc_read_rows.nd rfl (Or.inl rfl) (pe_op op_cat (pe_op op_rep (pe_lst (pa_cons (pe_tup (pa_cons (pe_glob rfl T.m_FIGURES T.r_FIGURES) (pa_cons (pv 6) pa_nil))) pa_nil)) (pe_callTy call_int1 (by rfl) T.z_int (by decide +kernel) (pa_cons (pe_cmpR op_gt (pv 6) pe_int (nomark _)) pa_nil))) (pe_op op_rep (pe_lst (pa_cons (pe_tup (pa_cons (pe_glob rfl T.m_SIZE T.r_SIZE) (pa_cons (pv 5) pa_nil))) pa_nil)) (pe_callTy call_int1 (by rfl) T.z_int (by decide +kernel) (pa_cons (pe_cmpR op_gt (pv 5) pe_int (nomark _)) pa_nil)))))
      (pss_one (ps_nput hr.units (pv 4) (pe_callTy call_tuple_ofZ (by rfl) T.z_tuple (by decide +kernel) (pa_cons (pv 8) pa_nil)) (pe_call (ok_lowest T) (hr.mono (by decide)) (by rfl) T.g_lowest T.F_lowest.kp T.b_lowest .nil pass0 (pa_cons (pe_ix ix_tup (pv 7) pe_int (fun _ _ => rfl)) (pa_cons (pe_ix ix_tup (pv 7) pe_int (fun _ _ => rfl)) pa_nil))) rfl))))
      (pss_one (ps_expr (pe_bm PySem.F.plainAttrs_list PySem.F.slot_list_append PySem.F.type_list_append mt_append (pv 1) (pa_cons (pe_tup (pa_cons (pv 2) (pa_cons (pv 4) pa_nil))) pa_nil)))))))
      (pss_one (ps_ret (pv 1))))), ?_⟩
  refine ⟨by show 0 ≤ sizeLine; decide, fun L hL => ?_⟩
  refine ⟨_, rfl, a, rfl, ⟨_, same_l (same_upd hL) hs⟩, for_it (walk_list (xs := us)) (fun i σ H' => Same H H' ∧ (∃ rs, H' L = some (.lst rs) ∧ rs.length = i ∧ RowsAt P w H' rs (S.take i)) ∧ ∃ v2 v3 v4 v5 v6 v7 v8, σ = [some (.ref a), some (.ref L), v2, v3, v4, v5, v6, v7, v8]) ?_ ?_ ?_ ?_⟩
  · exact ⟨same_upd hL, ⟨[], upd_same, rfl, .nil⟩, _, _, _, _, _, _, _, rfl⟩
  · rintro i σ H5 _ ⟨s5, _⟩
    exact same_l s5 hs
  · rintro i z σ H5 H6 hi ⟨s6, ⟨rs, eL, lr, ra⟩, v2, v3, v4, v5, v6, v7, v8, rfl⟩ ⟨rfl, hx⟩
    obtain ⟨r, hr', dr⟩ := DpAll.at_ dA hx
    obtain ⟨tok, r0, r1⟩ := ok.each r (List.mem_of_getElem? hr')
    obtain ⟨b, x1, x2, rfl, hb, d1, d2⟩ := dr.tup2
    cases d1.int'
    obtain ⟨c, ws, rfl, hc, dB⟩ := d2.lst'
    have lw : ws.length = r.2.length := by
      have := dB.length
      rw [List.length_map] at this
      exact this
    have l3 := tok.len
    refine ⟨b, _, rfl, same_t s6 hb, rfl, _, _, rfl, _, _, rfl, rfl, ?_⟩
    intro d φ hd nd0
    have sd := same_upd (o := .ext φ) hd
    refine ⟨_, rfl, c, rfl, ⟨ws, same_l (s6.trans sd) hc⟩, for_it (walk_list (xs := ws)) (fun j σ H' => Same H6 H' ∧ PolyAt P w H' d (r.2.take j) ∧ ∃ v5 v6 v7 v8, σ = [some (.ref a), some (.ref L), some (.int r.1), some (.ref c), some (.ref d), v5, v6, v7, v8]) ?_ ?_ ?_ ?_⟩
    · exact ⟨sd, ⟨[], nd0, .nil⟩, _, _, _, _, rfl⟩
    · rintro j σ H7 _ ⟨s7, _⟩
      exact same_l (s6.trans s7) hc
    · rintro j z σ H7 H8 hj ⟨s8, pa, v5, v6, v7, v8, rfl⟩ ⟨rfl, hy⟩
      obtain ⟨t, ht, dt⟩ := DpAll.at_ dB hy
      have tk := tok.each t (List.mem_of_getElem? ht)
      obtain ⟨p, y1, y2, rfl, hp, e1, e2⟩ := dt.tup2
      obtain ⟨q, z1, z2, rfl, hq, e3, e4⟩ := e1.tup2
      obtain ⟨m, m1, m2, rfl, hm, e5, e6⟩ := e2.tup2
      cases e3.int'
      cases e4.int'
      cases e5.int'
      cases e6.int'
      have s68 := s6.trans s8
      refine ⟨p, _, rfl, same_t s68 hp, rfl, _, _, rfl, ⟨q, _, rfl, same_t s68 hq, rfl, _, _, rfl, _, _, rfl, rfl, _, _, rfl, rfl, ?_⟩⟩
      refine ⟨_, rfl, by show 2 ≤ sizeLine; decide, fun p1 hp1 => ⟨by show 1 ≤ sizeLine; decide, fun q1 hq1 => ?_⟩⟩
      have sA := (same_upd (o := .tup [.str "#", .int t.1.2]) hp1).trans (same_upd (o := .lst [.ref p1]) hq1)
      have bd : ∀ b : Bool, -(2 ^ 63) ≤ (if b = true then (1 : Int) else 0) ∧ (if b = true then (1 : Int) else 0) < 2 ^ 63 ∧ 1 * (if b = true then (1 : Int) else 0).toNat ≤ 16777216 := fun b => by cases b <;> decide
      refine ⟨_, rfl, _, _, rfl, rfl, .inr ⟨_, rfl, q1, _, _, rfl, rfl, upd_same, (bd _).1, (bd _).2.1, (bd _).2.2, fun l1 hl1 => ?_⟩⟩
      rw [rep_int (.ref p1) (0 < t.1.2)]
      have sB := sA.trans (same_upd (o := .lst (if 0 < t.1.2 then [.ref p1] else [])) hl1)
      refine ⟨_, rfl, by show 2 ≤ sizeLine; decide, fun p2 hp2 => ⟨by show 1 ≤ sizeLine; decide, fun q2 hq2 => ?_⟩⟩
      have sC := (same_upd (o := .tup [.str "n", .int t.1.1]) hp2).trans (same_upd (o := .lst [.ref p2]) hq2)
      refine ⟨_, rfl, _, _, rfl, rfl, .inr ⟨_, rfl, q2, _, _, rfl, rfl, upd_same, (bd _).1, (bd _).2.1, (bd _).2.2, fun l2 hl2 => ?_⟩⟩
      rw [rep_int (.ref p2) (0 < t.1.1)]
      have sD := sC.trans (same_upd (o := .lst (if 0 < t.1.1 then [.ref p2] else [])) hl2)
      refine ⟨l1, l2, _, _, rfl, rfl, sD _ _ upd_same, upd_same, ?_, fun l3 hl3 => ?_⟩
      · split <;> split <;> (show _ ≤ 16777216; simp)
      have sE := sD.trans (same_upd (o := .lst ((if 0 < t.1.2 then [V.ref p1] else []) ++ (if 0 < t.1.1 then [.ref p2] else []))) hl3)
      -- where the pairs stand
      have at1 : _ = some (HO.tup [.str "#", .int t.1.2]) := (same_upd (o := .lst (if 0 < t.1.2 then [.ref p1] else [])) hl1) _ _ ((same_upd (o := .lst [.ref p1]) hq1) _ _ (upd_same (H := H8) (a := p1) (o := .tup [.str "#", .int t.1.2])))
      have at1 := sE _ _ at1
      have at2 : _ = some (HO.tup [.str "n", .int t.1.1]) := (same_upd (o := .lst ((if 0 < t.1.2 then [V.ref p1] else []) ++ (if 0 < t.1.1 then [.ref p2] else []))) hl3) _ _ ((same_upd (o := .lst (if 0 < t.1.1 then [.ref p2] else [])) hl2) _ _ ((same_upd (o := .lst [.ref p2]) hq2) _ _ (upd_same (a := p2) (o := .tup [.str "n", .int t.1.1]))))
      have s8E := sB.trans sE
      have s9 := s68.trans s8E
      have hm9 := same_t s9 hm
      have lo : lowL t.2.1 t.2.2 = (t.2.1, t.2.2) := by
        unfold lowL
        rw [tk.low]
        simp
      have u2 := tk.u1
      refine ⟨_, rfl, m, _, _, _, rfl, rfl, hm9, (rfl : atI [V.int t.2.1, V.int t.2.2] 0 = some (.int t.2.1)), _, rfl, m, _, _, _, rfl, rfl, hm9, (rfl : atI [V.int t.2.1, V.int t.2.2] 1 = some (.int t.2.2)), ?_⟩
      refine ⟨t.2.1, t.2.2, rfl, tk.u0, Int.lt_of_le_of_lt u2 (by decide), fun pt hpt => ?_⟩
      rw [lo]
      have sF := same_upd (o := .tup [.int t.2.1, .int t.2.2]) hpt
      refine ⟨_, rfl, _, rfl, l3, (if 0 < t.1.2 then [V.ref p1] else []) ++ (if 0 < t.1.1 then [.ref p2] else []), rfl, SqL.of (sF _ _ upd_same), fun kt ok1 hkt hok => ?_⟩
      have sG := same_upd (o := .frz ok1 (.tup ((if 0 < t.1.2 then [V.ref p1] else []) ++ (if 0 < t.1.1 then [.ref p2] else [])))) hkt
      have s8G := s8E.trans (sF.trans sG)
      obtain ⟨kvs, nd, pr⟩ := pa.mono s8G
      have nk : ∀ H10 : Hp, Rd H10 kt (.tup ((if 0 < t.1.2 then [V.ref p1] else []) ++ (if 0 < t.1.1 then [.ref p2] else []))) → H10 p1 = some (.tup [.str "#", .int t.1.2]) → H10 p2 = some (.tup [.str "n", .int t.1.1]) → NK H10 (keyN t.1) (.ref kt) := fun H10 k0 k1 k2 => by
        refine .tup k0 ?_
        have n1 : NK H10 (.tup [.text "#", .num t.1.2]) (.ref p1) := .tup (.inl k1) (.cons (.str _) (.cons (.int _) .nil))
        have n2 : NK H10 (.tup [.text "n", .num t.1.1]) (.ref p2) := .tup (.inl k2) (.cons (.str _) (.cons (.int _) .nil))
        unfold keyL
        by_cases c1 : 0 < t.1.2 <;> by_cases c2 : 0 < t.1.1
        · simp only [c1, c2, if_true]
          exact .cons n1 (.cons n2 .nil)
        · simp only [c1, c2, if_true, if_false]
          exact .cons n1 .nil
        · simp only [c1, c2, if_true, if_false]
          exact .cons n2 .nil
        · simp only [c1, c2, if_false]
          exact .nil
      have ltk : (r.2.take j).length ≤ 3 := by
        rw [List.length_take]
        omega
      have lk : kvs.length = (r.2.take j).length := Paired.length pr
      refine ⟨d, kt, kvs, keyN t.1, rfl, rfl, nd, nk _ (.inr ⟨ok1, upd_same⟩) (sG _ _ (sF _ _ at1)) (sG _ _ (sF _ _ at2)), keyN_depth _, ⟨ok1, _, upd_same, hok⟩, by omega, fun φ2 nd2 => ?_⟩
      have fresh : atN kvs (keyN t.1) = none := by
        refine atN_none ⟨tk.p0, tk.f0⟩ pr (fun t' ht' => ?_) ?_
        · have := tok.each t' (List.mem_of_mem_take ht')
          exact ⟨this.p0, this.f0⟩
        · intro hmem
          have nd1 := tok.nd
          have e := take_snoc ht
          have : ((r.2.take (j + 1)).map (·.1)).Nodup := by
            rw [List.map_take]
            exact nd1.sublist (List.take_sublist _ _)
          rw [e, List.map_append, List.nodup_append] at this
          exact this.2.2 _ hmem _ (List.mem_singleton.mpr rfl) rfl
      have ep : putN kvs (keyN t.1) kt (.ref pt) = kvs ++ [(keyN t.1, kt, .ref pt)] := by
        unfold putN
        rw [fresh]
        rfl
      rw [ep] at nd2
      have sH : Same H6 _ := same_put (o := .ext φ2) (s8.trans s8G) hd
      obtain ⟨ob, _, _, _, ed, _⟩ := nd.ex
      refine ⟨sH, ⟨_, nd2, ?_⟩, _, _, _, _, rfl⟩
      rw [take_snoc ht]
      refine paired_snoc (L2.Paired.mapP pr fun kv t' ⟨e1, pt', e2, e3⟩ => ⟨e1, pt', e2, ?_⟩) ⟨rfl, pt, rfl, ?_⟩
      · exact (upd_ne (L2.ne_of e3 ed (fun h => nomatch h))).trans e3
      · have ept := sG _ _ (upd_same (a := pt) (o := .tup [.int t.2.1, .int t.2.2]))
        exact (upd_ne (L2.ne_of ept ed (fun h => nomatch h))).trans ept
    · rintro σ H7 ⟨s7, pa, v5, v6, v7, v8, rfl⟩
      have et : r.2.take ws.length = r.2 := by rw [lw, List.take_length]
      rw [et] at pa
      have eL7 := s7 _ _ eL
      refine ⟨_, rfl, .inl ⟨rfl, _, SqL.of eL7⟩, _, rfl, _, rfl, by show 2 ≤ sizeLine; decide, fun q hq => ?_⟩
      have sq := same_upd (o := .tup [.int r.1, .ref d]) hq
      have eL8 := sq _ _ eL7
      refine ⟨L, _, _, rfl, rfl, eL8, small1000 (by rw [lr]; omega), ?_⟩
      have s67 := s7.trans sq
      refine ⟨same_put (s6.trans s67) hL, ⟨_, upd_same, by rw [List.length_append, lr]; rfl, ?_⟩, _, _, _, _, _, _, _, rfl⟩
      have kl := KeepL.put (ys := rs ++ [.ref q]) eL8
      rw [take_snoc hr']
      refine paired_snoc (ra.keep ((Same.keepL s67).trans kl)) ⟨q, d, rfl, kl _ _ upd_same (fun _ => nofun), (pa.mono sq).keep kl⟩
  · rintro σ H5 ⟨s5, ⟨rs, eL, lr, ra⟩, v2, v3, v4, v5, v6, v7, v8, rfl⟩
    have et : S.take us.length = S := by rw [lS, List.take_length]
    rw [et] at ra
    exact ⟨_, rfl, k L rs _ s5 hL eL ra⟩
def spGrowth (P : Program) (w : World) (K : PySem.W.Frag) (C : Addr) : Sp := fun vs H Q E => ∃ (v : V) (S : List Rw) (many bs top deep wide : Int), vs = [v, .int many, .int bs] ∧ Dp K H v (sumsD S) ∧ SumsOk top deep wide S ∧ top ≤ 9 ∧ deep ≤ 9 ∧ wide < 2 ^ 200 ∧ (bs = 2 ∨ bs = 3) ∧ GEnds K C (Str.ofString "") H Q E (growL S many bs)
theorem ok_growth (T : Txt K mg) : FnOk P w K mg base (L2.CX P w) 8 T.a_growth T.d_growth ["sums", "many", "base"] (spGrowth P w K T.x_Uneven) := by
  refine T.F_growth.okX sc_growth (fun vs H Q E h => ?_) (fun cdv A outer s H vs Q E hr h => ?_)
  · obtain ⟨v, S, many, bs, _, _, _, rfl, _⟩ := h
    rfl
  obtain ⟨v, S, many, bs, top, deep, wide, rfl, dv, okS, t9, d9, w2, hb, k⟩ := h
  refine ⟨_, (C8.pss_cut (ps_set (i := 3) sc_growth.nd rfl (Or.inl rfl) (pe_ifExp (pt_cmpR op_gt (pv 1) pe_int (nomark _)) (pe_tup (pa_cons (pv 1) (pa_cons (pe_ifExp (pt_cmpR op_eq (pv 2) pe_int (nomark _)) pe_str pe_str) pa_nil))) pe_non))
      (pss_one (ps_ret (pe_call (ok_growth_of T) (hr.mono (by decide)) (by rfl) T.g_growth_of T.F_growth_of.kp T.b_growth_of .nil (passes_call (takes_of rfl rfl rfl rfl) fun _ _ _ _ h => h) (pa_cons (pe_call (ok_read_rows T) (hr.mono (by decide)) (by rfl) T.g_read_rows T.F_read_rows.kp T.b_read_rows .nil pass0 (pa_cons (pv 0) pa_nil)) (pa_cons (pv 3) (pa_cons pe_str pa_nil))))))), ?_⟩
  refine ⟨fun σ H' => ∃ wv, Same H H' ∧ ((many ≤ 0 ∧ wv = .non) ∨ (0 < many ∧ ∃ wa, wv = .ref wa ∧ SqT K H' wa [.int many, .str (wordB bs)])) ∧ σ = [some v, some (.int many), some (.int bs), some wv], ?_, ?_⟩
  · refine ⟨_, rfl, _, _, rfl, rfl, _, rfl, ?_⟩
    refine ite2 (fun c => ?_) (fun c => ⟨.non, Same.refl _, .inl ⟨by have : ¬ 0 < many := fun z => c (decide_eq_true z); omega, rfl⟩, rfl⟩)
    have hm : 0 < many := of_decide_eq_true c
    refine ⟨_, rfl, ?_⟩
    refine ⟨_, rfl, rfl, _, rfl, ?_⟩
    have fin : ∀ z, z = wordB bs → 2 ≤ sizeLine ∧ ∀ p : Addr, H p = none → ∃ wv, Same H (upd H p (.tup [.int many, .str z])) ∧ ((many ≤ 0 ∧ wv = V.non) ∨ (0 < many ∧ ∃ wa, wv = .ref wa ∧ SqT K (upd H p (.tup [.int many, .str z])) wa [.int many, .str (wordB bs)])) ∧ [some v, some (.int many), some (.int bs), some (V.ref p)] = [some v, some (.int many), some (.int bs), some wv] := fun z ez =>
      ⟨by decide, fun p hp => ⟨.ref p, same_upd hp, .inr ⟨hm, p, rfl, by rw [ez]; exact SqT.of upd_same⟩, rfl⟩⟩
    rcases hb with rfl | rfl
    · exact iteT (fin _ rfl)
    · exact iteF (fin _ rfl)
  · rintro σ H1 ⟨wv, s1, hw, rfl⟩
    refine ⟨_, rfl, v, S, top, deep, wide, rfl, dv.mono s1, okS, fun p us H2 s2 np ep ra => ?_⟩
    refine ⟨_, rfl, p, us, S, wv, Str.ofString "", many, bs, top, deep, wide, rfl, ep, ra, okS, t9, d9, w2, ?_, hb, (k.mono s1).mono s2⟩
    rcases hw with h | ⟨h, wa, rfl, q⟩
    · exact .inl h
    · exact .inr ⟨h, wa, rfl, same_t s2 q⟩
def LV : Nat := 14
def spLaw (K : PySem.W.Frag) (Pt : Addr) : Sp := fun vs H Q _ => ∃ (a : Addr) (ns : List Int), vs = [.ref a] ∧ H Pt = some (.tbl #[]) ∧ SqL K H a (ns.map V.int) ∧ ns.length ≤ 63 ∧ ∀ H', Q (.bl true) H'
def toldG : Option Gr → PyData
  | none => .tuple [.str "Uneven", .str ""]
  | some g => .tuple [.str "told", grD g]
theorem due_uneven (g : Option Gr) : PyData.eqv (dueD g) (.str "uneven") = decide (g = none) := by
  cases g with
  | none => rfl
  | some g => cases g <;> rfl
theorem shaped_uneven : SeqAt.shaped (.str "uneven") = true := by decide +kernel
theorem due_shaped (g : Option Gr) : SeqAt.shaped (dueD g) = true := by
  cases g with
  | none => exact shaped_uneven
  | some g => cases g <;> rfl
theorem told_small (g : Option Gr) : dep (toldG g) < 12 ∧ wid (toldG g) ≤ 100000 := by
  cases g with
  | none => simp [toldG, dep, depAll, wid, widAll]
  | some g => cases g <;> simp [toldG, grD, trD, dep, depAll, wid, widAll]
theorem grD_small (g : Gr) : dep (grD g) < 12 ∧ wid (grD g) ≤ 100000 := by
  cases g <;> simp [grD, trD, dep, depAll, wid, widAll]
theorem ok_law (T : Txt K mg) (c Pt : Addr) (hc : T.d_law.code = .ref c) (TB : LamX.TabB base mg c Pt) : FnOk P w K mg base CX0 LV T.a_law T.d_law ["_law_script"] (spLaw K Pt) := by
  refine okC T.F_law sc_law (fun vs H Q E h => ?_) hc (fun A outer s H vs Q E hr h => ?_)
  · obtain ⟨a, ns, rfl, _⟩ := h
    rfl
  obtain ⟨a, ns, rfl, hP, hS, hl, k⟩ := h
  obtain ⟨ocT, odT, kVT, docT, pmT, anT, cdT, ctT, oslT, eT, lkT, hcT⟩ := T.F_law_tried.ex
  have hbT := T.b_law_tried
  rw [eT] at lkT hbT
  let TT : List (Addr × Str) := [(Pt, (cxOf CX0 P w K mg base N_law (Str.ofString "law") (defScope s_law) T.a_law (.ref c) A outer s H E).env.qual ++ "<lambda>")]
  have hcode : (cxOf CX0 P w K mg base N_law (Str.ofString "law") (defScope s_law) T.a_law (.ref c) A outer s H E).nox.env.code = .ref c := rfl
  have gv := tried_gives (X := (cxOf CX0 P w K mg base N_law (Str.ofString "law") (defScope s_law) T.a_law (.ref c) A outer s H E).nox) T cdT ((cxOf CX0 P w K mg base N_law (Str.ofString "law") (defScope s_law) T.a_law (.ref c) A outer s H E).env.qual ++ "<lambda>") (hr.mono (by decide))
  refine ⟨_, (pss_cons (ps_set (i := 1) sc_law.nd rfl (Or.inl rfl) (pe_call (ok_law_begin T) (hr.mono (by decide)) (by rfl) T.g_law_begin T.F_law_begin.kp T.b_law_begin .nil pass0 (pa_cons (pv 0) pa_nil)))
      (pss_cons (ps_for PassesOwn.never rfl (pi_range1 (by rfl) T.z_range (pa_cons pe_int pa_nil)) (pg_name (i := 2) sc_law.nd rfl (Or.inl rfl)) (pss_cons (ps_set (i := 7) sc_law.nd rfl (Or.inr rfl) (pe_call (ok_law_plus_sums T) (hr.mono (by decide)) (by rfl) T.g_law_plus_sums T.F_law_plus_sums.kp T.b_law_plus_sums .nil pass0 (pa_cons (pv 1) (pa_cons (pe_ix ix_list (pe_lst (pa_cons pe_int (pa_cons pe_int (pa_cons pe_int (pa_cons pe_int pa_nil))))) (pe_call (ok_law_take T) (hr.mono (by decide)) (by rfl) T.g_law_take T.F_law_take.kp T.b_law_take .nil pass0 (pa_cons (pv 1) (pa_cons pe_int pa_nil))) (fun _ _ => rfl)) (pa_cons (pe_ix ix_list (pe_lst (pa_cons pe_int (pa_cons pe_int pa_nil))) (pe_call (ok_law_take T) (hr.mono (by decide)) (by rfl) T.g_law_take T.F_law_take.kp T.b_law_take .nil pass0 (pa_cons (pv 1) (pa_cons pe_int pa_nil))) (fun _ _ => rfl)) (pa_cons pe_int pa_nil))))))
      (C8.pss_cut (ps_if (pt_cmpR op_eq (pe_call (ok_law_take T) (hr.mono (by decide)) (by rfl) T.g_law_take T.F_law_take.kp T.b_law_take .nil pass0 (pa_cons (pv 1) (pa_cons pe_int pa_nil))) pe_int (nomark _)) (pss_one (ps_set (i := 7) sc_law.nd rfl (Or.inr rfl) (pe_op op_cat (pe_slice sl_list (pv 7) po_none (po_some (pe_un un_neg pe_int))) (pe_lst (pa_cons (pe_tup (pa_cons (pe_ix ix_seq (pe_ix ix_list (pv 7) (pe_un un_neg pe_int) (fun _ _ => rfl)) pe_int (fun _ _ => rfl)) (pa_cons (pe_lst pa_nil) pa_nil))) pa_nil))))) pss_nil)
      (C8.pss_cut (ps_if (pt_cmpR op_eq (pe_call (ok_law_take T) (hr.mono (by decide)) (by rfl) T.g_law_take T.F_law_take.kp T.b_law_take .nil pass0 (pa_cons (pv 1) (pa_cons pe_int pa_nil))) pe_int (nomark _)) (pss_one (ps_set (i := 7) sc_law.nd rfl (Or.inr rfl) (pe_lc (own := [("_law_since", 8), ("_law_terms_here", 9)]) (g := gTup K 2 ((gCons (gName 8) (gCons (gName 9) gNil)))) (tt := tYes) rfl sc_law.nd (pi_list (pv 7)) (blkOk_by (N := N_law) (sc := defScope s_law) (by decide +kernel)) (fun _ _ _ _ _ => (pg_tup rfl (pgs_cons (pg_name (i := 8) sc_law.nd rfl (Or.inl rfl)) (pgs_cons (pg_name (i := 9) sc_law.nd rfl (Or.inl rfl)) pgs_nil)))) (fun _ _ _ _ _ => pts_nil) (fun _ _ _ _ _ => (pe_tup (pa_cons (pv 8) (pa_cons (pe_lst pa_nil) pa_nil))))))) pss_nil)
      (C8.pss_cut (ps_asg (pe_tup (pa_cons (pe_call (ok_law_take T) (hr.mono (by decide)) (by rfl) T.g_law_take T.F_law_take.kp T.b_law_take .nil pass0 (pa_cons (pv 1) (pa_cons pe_int pa_nil))) (pa_cons (pe_op op_add pe_int (pe_call (ok_law_take T) (hr.mono (by decide)) (by rfl) T.g_law_take T.F_law_take.kp T.b_law_take .nil pass0 (pa_cons (pv 1) (pa_cons pe_int pa_nil)))) pa_nil))) (pg_tup rfl (pgs_cons (pg_name (i := 5) sc_law.nd rfl (Or.inr rfl)) (pgs_cons (pg_name (i := 6) sc_law.nd rfl (Or.inr rfl)) pgs_nil))))
      (C8.pss_cut (ps_set (i := 3) sc_law.nd rfl (Or.inl rfl) (pe_call (ok_law_due_growth T) (hr.mono (by decide)) (by rfl) T.g_law_due_growth T.F_law_due_growth.kp T.b_law_due_growth .nil pass0 (pa_cons (pv 7) (pa_cons (pv 5) (pa_cons (pv 6) pa_nil)))))
      (C8.pss_cut (ps_set (i := 4) sc_law.nd rfl (Or.inl rfl) (LamX.pe_lamcall (T := TT) (by rfl) T.g_law_tried T.F_law_tried.kp lkT hcT hbT sc_law_tried rfl (.inl rfl) gv TB hcode (List.mem_singleton.mpr rfl) (fun p hp _ => by rw [List.mem_singleton.mp hp]) (k := 8) (hr.mono (by decide)) (LamX.lamS_by (sc := defScope s_law) (by decide +kernel)) rfl (fun _ _ _ _ _ => rfl) (fun A' outer' s' H' E' f' c' hrL => (pe_callN (ok_growth T) (hrL.mono (by decide)) (by rfl) T.g_growth T.F_growth.kp T.kb_growth_base_many (passes_call (takes_of rfl rfl rfl rfl) fun _ _ _ _ h => h) (pa_cons (pv 7) pa_nil) (pk_cons (pv 6) (pk_cons (pv 5) pk_nil))))))
      (C8.pss_cut (ps_if (pt_not (pt_val (pe_call (ok_law_same T) (hr.mono (by decide)) (by rfl) T.g_law_same T.F_law_same.kp T.b_law_same .nil pass0 (pa_cons (pv 4) (pa_cons (pe_ifExp (pt_cmpR (op_eqD hr.units) (pv 3) pe_str (nomark _)) (pe_tup (pa_cons pe_str (pa_cons pe_str pa_nil))) (pe_tup (pa_cons pe_str (pa_cons (pv 3) pa_nil)))) pa_nil))))) (pss_one (ps_ret pe_bl)) pss_nil)
      (C8.pss_cut (ps_if (pt_not (pt_val (pe_call (ok_law_same T) (hr.mono (by decide)) (by rfl) T.g_law_same T.F_law_same.kp T.b_law_same .nil pass0 (pa_cons (pe_call (ok_growth T) (hr.mono (by decide)) (by rfl) T.g_growth T.F_growth.kp T.b_growth T.dv_growth passX0 (pa_cons (pv 7) pa_nil)) (pa_cons (pe_call (ok_law_due_growth T) (hr.mono (by decide)) (by rfl) T.g_law_due_growth T.F_law_due_growth.kp T.b_law_due_growth .nil pass0 (pa_cons (pv 7) (pa_cons pe_int (pa_cons pe_int pa_nil)))) pa_nil))))) (pss_one (ps_ret pe_bl)) pss_nil)
      (pss_one (ps_if (PW.pt (pw_and (pt_cmpR op_gt (pv 5) pe_int (nomark _)) (pw_and1 (pt_cmpR (op_neD hr.units) (pe_call (ok_law_due_growth T) (hr.mono (by decide)) (by rfl) T.g_law_due_growth T.F_law_due_growth.kp T.b_law_due_growth .nil pass0 (pa_cons (pv 7) (pa_cons (pv 5) (pa_cons pe_int pa_nil)))) pe_str (nomark _))))) (pss_one (ps_if (pt_not (pt_val (pe_call (ok_law_same T) (hr.mono (by decide)) (by rfl) T.g_law_same T.F_law_same.kp T.b_law_same .nil pass0 (pa_cons (pe_callN (ok_growth T) (hr.mono (by decide)) (by rfl) T.g_growth T.F_growth.kp T.kb_growth_many passX0 (pa_cons (pv 7) pa_nil) (pk_cons (pv 5) pk_nil)) (pa_cons (pe_call (ok_law_due_growth T) (hr.mono (by decide)) (by rfl) T.g_law_due_growth T.F_law_due_growth.kp T.b_law_due_growth .nil pass0 (pa_cons (pv 7) (pa_cons (pv 5) (pa_cons pe_int pa_nil)))) pa_nil))))) (pss_one (ps_ret pe_bl)) pss_nil)) pss_nil)))))))))))
      (pss_one (ps_ret pe_bl)))), ?_⟩
  have t0 : LamX.Tabs TT H := fun p hp => by
    rw [List.mem_singleton.mp hp]
    exact LamX.TabS.nil hP
  refine ⟨_, rfl, a, ns, rfl, hS, hl, fun d l H1 nd _ s1 D1 => ?_⟩
  have t1 := t0.ext s1
  let SS : Option V → Option V → Option V → Option V → Option V → Option V → Option V → Option V → L2.St := fun v2 v3 v4 v5 v6 v7 v8 v9 => [some (.ref a), some (.ref d), v2, v3, v4, v5, v6, v7, v8, v9]
  let MdS : L2.St → Hp → Prop := fun σ H' => ∃ (p : Addr) (S : List Rw) (top deep : Int) (v2 v3 v4 v5 v6 v8 v9 : Option V), DrawAt H' d l ∧ LamX.Tabs TT H' ∧ Dp K (hid d H') (.ref p) (sumsD S) ∧ SumsOk top deep 20 S ∧ top ≤ 9 ∧ deep ≤ 9 ∧ σ = SS v2 v3 v4 v5 v6 (some (.ref p)) v8 v9
  let MdN : L2.St → Hp → Prop := fun σ H' => ∃ (p : Addr) (S : List Rw) (top deep n b : Int) (v2 v3 v4 v8 v9 : Option V), DrawAt H' d l ∧ LamX.Tabs TT H' ∧ Dp K H' (.ref p) (sumsD S) ∧ SumsOk top deep 20 S ∧ top ≤ 9 ∧ deep ≤ 9 ∧ 0 ≤ n ∧ (b = 2 ∨ b = 3) ∧ σ = SS v2 v3 v4 (some (.int n)) (some (.int b)) (some (.ref p)) v8 v9
  let MdD : L2.St → Hp → Prop := fun σ H' => ∃ (p : Addr) (S : List Rw) (top deep n b : Int) (u : V) (v2 v4 v8 v9 : Option V), DrawAt H' d l ∧ LamX.Tabs TT H' ∧ Dp K H' (.ref p) (sumsD S) ∧ SumsOk top deep 20 S ∧ top ≤ 9 ∧ deep ≤ 9 ∧ 0 ≤ n ∧ (b = 2 ∨ b = 3) ∧ Dp K H' u (dueD (growL S n b)) ∧ σ = SS v2 (some u) v4 (some (.int n)) (some (.int b)) (some (.ref p)) v8 v9
  let MdF : L2.St → Hp → Prop := fun σ H' => ∃ (p : Addr) (S : List Rw) (top deep n b : Int) (u f : V) (v2 v8 v9 : Option V), DrawAt H' d l ∧ LamX.Tabs TT H' ∧ Dp K H' (.ref p) (sumsD S) ∧ SumsOk top deep 20 S ∧ top ≤ 9 ∧ deep ≤ 9 ∧ 0 ≤ n ∧ (b = 2 ∨ b = 3) ∧ Dp K H' u (dueD (growL S n b)) ∧ Dp K H' f (toldG (growL S n b)) ∧ σ = SS v2 (some u) (some f) (some (.int n)) (some (.int b)) (some (.ref p)) v8 v9
  refine ⟨8, rfl, by decide, by decide, for_it walk_range (fun _ σ H => DrawAt H d l ∧ LamX.Tabs TT H ∧ ∃ v2 v3 v4 v5 v6 v7 v8 v9, σ = SS v2 v3 v4 v5 v6 v7 v8 v9) ⟨D1, t1, _, _, _, _, _, _, _, _, rfl⟩ (fun _ _ _ _ _ => trivial) ?_ ?_⟩
  · rintro i x σ H2 H3 hi ⟨D2, t2, v2, v3, v4, v5, v6, v7, v8, v9, rfl⟩ ⟨rfl, rfl⟩
    refine ⟨_, rfl, by show 4 ≤ sizeLine; decide, fun L hL => ?_⟩
    have D4 := D2.upd (o := .lst [.int 1, .int 2, .int 3, .int 9]) hL
    have t4 := t2.ext (same_upd (o := .lst [.int 1, .int 2, .int 3, .int 9]) hL)
    have nLd := D2.ned hL
    refine ⟨_, rfl, d, l, 4, rfl, D4, by decide, by decide, fun i1 H5 i10 i11 D5 b5 => ?_⟩
    have t5 := tabs_but t4 D4 b5
    obtain ⟨top, htop, top0, top9⟩ : ∃ top : Int, atI [V.int 1, V.int 2, V.int 3, V.int 9] i1 = some (.int top) ∧ 0 ≤ top ∧ top ≤ 9 := by
      rcases (by omega : i1 = 0 ∨ i1 = 1 ∨ i1 = 2 ∨ i1 = 3) with rfl | rfl | rfl | rfl
      · exact ⟨1, rfl, by decide, by decide⟩
      · exact ⟨2, rfl, by decide, by decide⟩
      · exact ⟨3, rfl, by decide, by decide⟩
      · exact ⟨9, rfl, by decide, by decide⟩
    refine ⟨L, _, _, _, rfl, rfl, SqL.of (b5 _ _ upd_same nLd), htop, ?_⟩
    refine ⟨by show 2 ≤ sizeLine; decide, fun L2 hL2 => ?_⟩
    have D6 := D5.upd (o := .lst [.int 0, .int 3]) hL2
    have t6 := t5.ext (same_upd (o := .lst [.int 0, .int 3]) hL2)
    have nL2d := D5.ned hL2
    refine ⟨_, rfl, d, l, 2, rfl, D6, by decide, by decide, fun i2 H7 i20 i21 D7 b7 => ?_⟩
    have t7 := tabs_but t6 D6 b7
    obtain ⟨deep, hdeep, deep0, deep9⟩ : ∃ deep : Int, atI [V.int 0, V.int 3] i2 = some (.int deep) ∧ 0 ≤ deep ∧ deep ≤ 9 := by
      rcases (by omega : i2 = 0 ∨ i2 = 1) with rfl | rfl
      · exact ⟨0, rfl, by decide, by decide⟩
      · exact ⟨3, rfl, by decide, by decide⟩
    refine ⟨L2, _, _, _, rfl, rfl, SqL.of (b7 _ _ upd_same nL2d), hdeep, ?_⟩
    refine ⟨d, l, top, deep, 20, rfl, D7, top0, by omega, deep0, by omega, by decide, by decide, fun p S H8 b8 D8 dS okS => ?_⟩
    have t8 := tabs_but t7 D7 b8
    refine ⟨MdS, ?_, ?_⟩
    · refine ⟨_, rfl, d, l, 3, rfl, D8, by decide, by decide, fun z H9 z0 z1 D9 b9 => ?_⟩
      have t9 := tabs_but t8 D8 b9
      have dS9 := dS.mono (hid_but b9)
      refine ⟨rfl, _, rfl, ?_⟩
      refine ite2 (fun c1 => ?_) (fun _ => ⟨p, S, top, deep, _, _, _, _, _, _, _, D9, t9, dS9, okS, top9, deep9, rfl⟩)
      obtain ⟨S0, r, rfl⟩ := snoc_l (sums_ne okS)
      obtain ⟨pa, us, epa, hus, dus⟩ := dS9.lst'
      cases epa
      have lus : us.length = (S0 ++ [r]).length := by
        have := dus.length
        rw [List.length_map] at this
        exact this
      have l4 := okS.len
      obtain ⟨us0, u, rfl⟩ : ∃ us0 u, us = us0 ++ [u] := snoc_l (by intro z; rw [z, List.length_append] at lus; simp at lus)
      have l0 : us0.length = S0.length := by simpa using lus
      have hus9 := same_l hid_same hus
      obtain ⟨q, hq, du⟩ := DpAll.at_ (l := S0 ++ [r]) dus (i := us0.length) (x := u) (by simp)
      have eq : q = r := by
        rw [l0] at hq
        simpa using hq.symm
      subst eq
      obtain ⟨ua, x1, x2, rfl, hua, d1, d2⟩ := du.tup2
      cases d1.int'
      refine ⟨_, rfl, 1, rfl, -1, rfl, p, _, rfl, hus9, fun Z hZ => ?_⟩
      rw [cut_init]
      have sZ := same_upd (o := .lst us0) hZ
      have DZ := D9.mono sZ
      have nZd := D9.ned hZ
      refine ⟨_, rfl, _, rfl, p, _, _, _, rfl, rfl, same_l sZ hus9, atI_lastV, .inr (.inl ⟨ua, _, _, _, rfl, rfl, same_t (hid_same.trans sZ) hua, (rfl : atI [V.int q.1, x2] 0 = some (.int q.1)), ?_⟩)⟩
      refine ⟨by show 0 ≤ sizeLine; decide, fun L0 hL0 => ?_⟩
      have sL0 := same_upd (o := .lst []) hL0
      have nL0 := DZ.ned hL0
      have DL0 := DZ.mono sL0
      refine ⟨by show 2 ≤ sizeLine; decide, fun tp htp => ?_⟩
      have stp := same_upd (o := .tup [.int q.1, .ref L0]) htp
      have ntp := DL0.ned htp
      have Dtp := DL0.mono stp
      refine ⟨by show 1 ≤ sizeLine; decide, fun L1 hL1 => ?_⟩
      have sL1 := same_upd (o := .lst [.ref tp]) hL1
      have DL1 := Dtp.mono sL1
      refine ⟨Z, L1, us0, [.ref tp], rfl, rfl, sL1 _ _ (stp _ _ (sL0 _ _ upd_same)), upd_same, by show us0.length + 1 ≤ _; exact Nat.le_of_lt (small1000 (by rw [List.length_append] at l4; omega)), fun Z3 hZ3 => ?_⟩
      have sZ3 := same_upd (o := .lst (us0 ++ [.ref tp])) hZ3
      have nZ3 := DL1.ned hZ3
      have s13 := ((sZ.trans sL0).trans stp).trans (sL1.trans sZ3)
      refine ⟨Z3, S0 ++ [(q.1, [])], top, deep, _, _, _, _, _, _, _, D9.mono s13, t9.ext s13, ?_, noLast_ok okS, top9, deep9, rfl⟩
      have sh := hid_mono (d := d) s13
      refine .lst (SqL.of (hid_at upd_same nZ3)) ?_
      rw [List.map_append]
      rw [List.map_append] at dus
      have du0 : DpAll K (hid d H9) us0 (S0.map rowD) := DpAll_init (by rw [List.length_map, l0]) dus
      have k1 := hid_at (d := d) (sZ3 _ _ (sL1 _ _ (upd_same (o := HO.tup [V.int q.1, V.ref L0])))) ntp
      have k2 := hid_at (d := d) (sZ3 _ _ (sL1 _ _ (stp _ _ (upd_same (o := HO.lst []))))) nL0
      exact DpAll.snoc (du0.mono sh) (.tup (xs := [.int q.1, .ref L0]) (SqT.of k1) (.cons (.int _) (.cons (.lst (SqL.of k2) .nil) .nil)))
    rintro σ H9 ⟨p, S, top, deep, v2, v3, v4, v5, v6, v8, v9, D9, t9, dS, okS, top9, deep9, rfl⟩
    refine ⟨MdS, ?_, ?_⟩
    · refine ⟨_, rfl, d, l, 9, rfl, D9, by decide, by decide, fun z H10 z0 z1 D10 b10 => ?_⟩
      have t10 := tabs_but t9 D9 b10
      have dS10 := dS.mono (hid_but b10)
      refine ⟨rfl, _, rfl, ?_⟩
      refine ite2 (fun c1 => ?_) (fun _ => ⟨p, S, top, deep, _, _, _, _, _, _, _, D10, t10, dS10, okS, top9, deep9, rfl⟩)
      obtain ⟨pa, us, epa, hus, dus⟩ := dS10.lst'
      cases epa
      have lus : us.length = S.length := by
        have := dus.length
        rw [List.length_map] at this
        exact this
      have l4 := okS.len
      have hus10 := same_l hid_same hus
      refine ⟨_, rfl, p, rfl, ⟨_, hus10⟩, fun R hR => ?_⟩
      have nRd := D10.ned hR
      have nR1 : hid d H10 R = none := hid_none hR
      refine lc_it (walk_list (xs := us)) (fun i H' => Same H10 H' ∧ ∃ vs, H' R = some (.lst vs) ∧ vs.length = i ∧ DpAll K (hid R (hid d H')) vs (((S.map fun r : Rw => ((r.1, []) : Rw)).take i).map rowD)) ⟨same_upd hR, [], upd_same, rfl, .nil⟩ (fun i H' _ q => same_l q.1 hus10) ?_ ?_
      · rintro i x H11 H12 hi ⟨s2, vs, eR, lv, dv⟩ ⟨rfl, hx⟩
        obtain ⟨r, hr', dr⟩ := DpAll.at_ dus hx
        obtain ⟨b, x1, x2, rfl, hb, d1, d2⟩ := dr.tup2
        cases d1.int'
        have D12 := D10.mono s2
        refine ⟨b, _, rfl, same_t (hid_same.trans s2) hb, rfl, _, _, rfl, _, _, rfl, rfl, rfl, ?_⟩
        refine ⟨_, rfl, by show 0 ≤ sizeLine; decide, fun L0 hL0 => ?_⟩
        have sL0 := same_upd (o := .lst []) hL0
        have nL0 := D12.ned hL0
        have nL0R : L0 ≠ R := fun z => by rw [z, eR] at hL0; cases hL0
        refine ⟨by show 2 ≤ sizeLine; decide, fun tp htp => ?_⟩
        have stp := same_upd (o := .tup [.int r.1, .ref L0]) htp
        have ntp := (D12.mono sL0).ned htp
        have ntpR : tp ≠ R := fun z => by rw [z, sL0 _ _ eR] at htp; cases htp
        have s3 := sL0.trans stp
        refine ⟨vs, s3 _ _ eR, small1000 (by omega), same_put (s2.trans s3) hR, vs ++ [.ref tp], upd_same, by simp [lv], ?_⟩
        rw [hid_upd nRd]
        have sF : Same (hid R (hid d H12)) (hid R (upd (hid d (upd (upd H12 L0 (.lst [])) tp (.tup [.int r.1, .ref L0]))) R (.lst (vs ++ [.ref tp])))) := hid_put (hid_same.trans (hid_mono s3))
        have k1 : (hid R (upd (hid d (upd (upd H12 L0 (.lst [])) tp (.tup [.int r.1, .ref L0]))) R (.lst (vs ++ [.ref tp])))) tp = some (.tup [.int r.1, .ref L0]) := by
          rw [hid_ne ntpR, upd_ne ntpR, hid_ne ntp]
          exact upd_same
        have k2 : (hid R (upd (hid d (upd (upd H12 L0 (.lst [])) tp (.tup [.int r.1, .ref L0]))) R (.lst (vs ++ [.ref tp])))) L0 = some (.lst []) := by
          rw [hid_ne nL0R, upd_ne nL0R, hid_ne nL0]
          exact stp _ _ upd_same
        have hr2 : (S.map fun r : Rw => ((r.1, []) : Rw))[i]? = some (r.1, []) := by rw [List.getElem?_map, hr']; rfl
        rw [take_snoc hr2, List.map_append]
        refine DpAll.snoc (dv.mono sF) ?_
        exact .tup (xs := [.int r.1, .ref L0]) (SqT.of k1) (.cons (.int _) (.cons (.lst (SqL.of k2) .nil) .nil))
      · rintro H11 ⟨s2, vs, eR, lv, dv⟩
        rw [List.take_of_length_le (by rw [List.length_map]; omega)] at dv
        exact ⟨R, S.map fun r : Rw => ((r.1, []) : Rw), top, deep, _, _, _, _, _, _, _, D10.mono s2, t10.ext s2, .lst (SqL.of (hid_at eR nRd)) (dv.mono hid_same), noAll_ok okS, top9, deep9, rfl⟩
    rintro σ H10 ⟨p, S, top, deep, v2, v3, v4, v5, v6, v8, v9, D10, t10, dS, okS, top9, deep9, rfl⟩
    refine ⟨MdN, ?_, ?_⟩
    · refine ⟨_, rfl, d, l, 10, rfl, D10, by decide, by decide, fun n H11 n0 n1 D11 b11 => ?_⟩
      have t11 := tabs_but t10 D10 b11
      have dS11 := dS.mono (hid_but b11)
      refine ⟨_, rfl, d, l, 2, rfl, D11, by decide, by decide, fun z H12 z0 z1 D12 b12 => ?_⟩
      have t12 := tabs_but t11 D11 b12
      have dS12 := dS11.mono (hid_but b12)
      refine ⟨_, _, rfl, rfl, by show 2 ≤ sizeLine; decide, fun tp htp => ?_⟩
      have stp := same_upd (o := .tup [.int n, .int (2 + z)]) htp
      refine ⟨tp, _, rfl, SqT.of upd_same, rfl, _, _, rfl, _, _, rfl, rfl, ?_⟩
      exact ⟨p, S, top, deep, n, 2 + z, _, _, _, _, _, D12.mono stp, t12.ext stp, (dS12.mono hid_same).mono stp, okS, top9, deep9, n0, by omega, rfl⟩
    rintro σ H11 ⟨p, S, top, deep, n, b, v2, v3, v4, v8, v9, D11, t11, dS, okS, top9, deep9, n0, hb, rfl⟩
    refine ⟨MdD, ?_, ?_⟩
    · refine ⟨_, rfl, _, rfl, _, rfl, .ref p, S, n, b, top, deep, 20, rfl, dS, okS, top9, deep9, by decide, hb, n0, fun u H12 s12 du => ?_⟩
      exact ⟨p, S, top, deep, n, b, u, _, _, _, _, D11.mono s12, t11.ext s12, dS.mono s12, okS, top9, deep9, n0, hb, du, rfl⟩
    rintro σ H12 ⟨p, S, top, deep, n, b, u, v2, v4, v8, v9, D12, t12, dS, okS, top9, deep9, n0, hb, du, rfl⟩
    refine ⟨MdF, ?_, ?_⟩
    · refine ⟨t12, fun H13 x13 t13 => ?_⟩
      have dS13 := dp_ext x13 dS
      have du13 := dp_ext x13 du
      have key : ∀ (Q' : VK), (∀ f H14, Same H13 H14 → Dp K H14 f (toldG (growL S n b)) → Q' f H14) →
          TTried T (fun E' H' Q2 => tCallN 1 [Str.ofString "base", Str.ofString "many"].length (spGrowth P w K T.x_Uneven) (fun vs zs => vs ++ (List.take 1 (List.drop 1 zs) ++ List.take 1 (List.drop 0 zs))) E' (tCons (tVar 7) tNil) (tCons (tVar 6) (tCons (tVar 5) tNil)) (SS v2 (some u) v4 (some (.int n)) (some (.int b)) (some (.ref p)) v8 v9) H' Q2) H13 Q' := by
        intro Q' kq
        refine ⟨_, rfl, _, rfl, _, rfl, rfl, rfl, .ref p, S, n, b, top, deep, 20, rfl, dS13, okS, top9, deep9, by decide, hb, ?_⟩
        cases hL : growL S n b with
        | some g =>
          rw [hL] at kq
          intro v H' s' dv
          refine ⟨by show 2 ≤ sizeLine; decide, fun p hp => kq (.ref p) _ (s'.trans (same_upd hp)) ?_⟩
          exact .tup (SqT.of upd_same) (.cons (.str _) (.cons (dv.mono (same_upd hp)) .nil))
        | none =>
          rw [hL] at kq
          intro dd H' s' hdd edd
          exact ⟨T.x_Uneven, dd, _, Str.ofString "Uneven", rfl, rfl, ⟨T.ce_Uneven, T.nf_Uneven_word, ⟨false, T.ki_Uneven_Misread, T.ki_Uneven_Unfit⟩, T.ki_Uneven_VE⟩, edd, rfl, T.em_Uneven_BadText, T.em_Uneven_BadPage, T.em_Uneven_Stopped,
            .inl ⟨T.et_Uneven, T.nf_Uneven_name, _, rfl, fun p hp => kq (.ref p) _ (s'.trans (same_upd hp)) (.tup (SqT.of upd_same) (.cons (.str _) (.cons (.str _) .nil)))⟩⟩
      refine key _ fun f H14 s14 df => ?_
      exact ⟨p, S, top, deep, n, b, u, f, _, _, _, (D12.ext x13).mono s14, t13.ext s14, dS13.mono s14, okS, top9, deep9, n0, hb, du13.mono s14, df, rfl⟩
    rintro σ H13 ⟨p, S, top, deep, n, b, u, f, v2, v8, v9, D13, t13, dS, okS, top9, deep9, n0, hb, du, df, rfl⟩
    refine ⟨MdN, ?_, ?_⟩
    · have go : ∀ {g : Option Gr} (y : Addr) (H14 : Hp), g = growL S n b → Same H13 H14 → Dp K H14 (.ref y) (toldG g) → spSame K 12 [f, .ref y] H14 (fun v H' => ∃ bb, v = .bl bb ∧ (bb = true → MdN (SS v2 (some u) (some f) (some (.int n)) (some (.int b)) (some (.ref p)) v8 v9) H')) E0 → True := fun _ _ _ _ _ _ => trivial
      have small := told_small (growL S n b)
      refine ⟨_, rfl, _, rfl, _, _, du, .str _, due_shaped _, shaped_uneven, _, rfl, ?_⟩
      rw [due_uneven]
      refine ite2 (fun c1 => ?_) (fun c1 => ?_)
      · have hg : growL S n b = none := of_decide_eq_true c1
        rw [hg] at df small
        refine ⟨by show 2 ≤ sizeLine; decide, fun y hy => ?_⟩
        have sy := same_upd (o := .tup [.str "Uneven", .str ""]) hy
        refine ⟨f, .ref y, _, rfl, df.mono sy, .tup (SqT.of upd_same) (.cons (.str _) (.cons (.str _) .nil)), small.1, small.2, fun H15 s15 => ⟨_, rfl, iteF ?_⟩⟩
        have s := sy.trans s15
        exact ⟨p, S, top, deep, n, b, _, _, _, _, _, D13.mono s, t13.ext s, dS.mono s, okS, top9, deep9, n0, hb, rfl⟩
      · cases hg : growL S n b with
        | none => exact absurd (decide_eq_true hg) c1
        | some g =>
          rw [hg] at df small du
          refine ⟨_, rfl, by show 2 ≤ sizeLine; decide, fun y hy => ?_⟩
          have sy := same_upd (o := .tup [.str "told", u]) hy
          refine ⟨f, .ref y, _, rfl, df.mono sy, .tup (SqT.of upd_same) (.cons (.str _) (.cons (du.mono sy) .nil)), small.1, small.2, fun H15 s15 => ⟨_, rfl, iteF ?_⟩⟩
          have s := sy.trans s15
          exact ⟨p, S, top, deep, n, b, _, _, _, _, _, D13.mono s, t13.ext s, dS.mono s, okS, top9, deep9, n0, hb, rfl⟩
    rintro σ H14 ⟨p, S, top, deep, n, b, v2, v3, v4, v8, v9, D14, t14, dS, okS, top9, deep9, n0, hb, rfl⟩
    refine ⟨MdN, ?_, ?_⟩
    · obtain ⟨g, hg⟩ : ∃ g, growL S 0 2 = some g := ⟨_, by unfold growL; rw [if_pos (by decide)]⟩
      have small := grD_small g
      refine ⟨_, rfl, .ref p, S, 0, 2, top, deep, 20, rfl, dS, okS, top9, deep9, by decide, .inl rfl, ?_⟩
      rw [hg]
      intro v H15 s15 dv
      refine ⟨_, rfl, .ref p, S, 0, 2, top, deep, 20, rfl, dS.mono s15, okS, top9, deep9, by decide, .inl rfl, by decide, fun u H16 s16 du => ?_⟩
      rw [hg] at du
      refine ⟨v, u, grD g, rfl, dv.mono s16, du, small.1, small.2, fun H17 s17 => ⟨_, rfl, iteF ?_⟩⟩
      have s := (s15.trans s16).trans s17
      exact ⟨p, S, top, deep, n, b, _, _, _, _, _, D14.mono s, t14.ext s, dS.mono s, okS, top9, deep9, n0, hb, rfl⟩
    rintro σ H15 ⟨p, S, top, deep, n, b, v2, v3, v4, v8, v9, D15, t15, dS, okS, top9, deep9, n0, hb, rfl⟩
    refine ⟨_, rfl, _, _, rfl, rfl, _, rfl, ?_⟩
    refine ite2 (fun c1 => ?_) (fun _ => iteF ⟨D15, t15, _, _, _, _, _, _, _, _, rfl⟩)
    have n1 : 0 < n := of_decide_eq_true c1
    refine ⟨_, rfl, _, rfl, .ref p, S, n, 2, top, deep, 20, rfl, dS, okS, top9, deep9, by decide, .inl rfl, n0, fun u H16 s16 du => ?_⟩
    refine ⟨_, _, du, .str _, due_shaped _, shaped_uneven, _, rfl, ?_⟩
    rw [due_uneven]
    cases hg : growL S n 2 with
    | none => exact iteF ⟨D15.mono s16, t15.ext s16, _, _, _, _, _, _, _, _, rfl⟩
    | some g =>
      have small := grD_small g
      rw [show (!decide (some g = (none : Option Gr))) = true from rfl]
      refine iteT ?_
      refine ⟨_, rfl, _, rfl, rfl, rfl, .ref p, S, n, 2, top, deep, 20, rfl, dS.mono s16, okS, top9, deep9, by decide, .inl rfl, ?_⟩
      rw [hg]
      intro v H17 s17 dv
      refine ⟨_, rfl, _, rfl, .ref p, S, n, 2, top, deep, 20, rfl, (dS.mono s16).mono s17, okS, top9, deep9, by decide, .inl rfl, n0, fun u2 H18 s18 du2 => ?_⟩
      rw [hg] at du2
      refine ⟨v, u2, grD g, rfl, dv.mono s18, du2, small.1, small.2, fun H19 s19 => ⟨_, rfl, iteF ?_⟩⟩
      have s := ((s16.trans s17).trans s18).trans s19
      exact ⟨D15.mono s, t15.ext s, _, _, _, _, _, _, _, _, rfl⟩
  · rintro σ H5 ⟨D5, t5, v2, v3, v4, v5, v6, v7, v8, v9, rfl⟩
    exact k _
end
theorem all_mk {l : PySem.W.OpenLaw} {w : World} {K : PySem.W.Frag} {h : Heap} {mg : Str → Option Value} {fa : Addr} (X : K.In h) (G : h.Ns mainGlobals mg) (hfa : mg "law" = some (.ref fa))
    {x_Refused : Addr} (gx_Refused : PySem.W.nsIn K mainGlobals "Refused" = some (some (.ref x_Refused)))
    {x_Misread : Addr} (gx_Misread : PySem.W.nsIn K mainGlobals "Misread" = some (some (.ref x_Misread)))
    {x_Unfit : Addr} (gx_Unfit : PySem.W.nsIn K mainGlobals "Unfit" = some (some (.ref x_Unfit)))
    {x_BadText : Addr} (gx_BadText : PySem.W.nsIn K mainGlobals "BadText" = some (some (.ref x_BadText)))
    {x_BadPage : Addr} (gx_BadPage : PySem.W.nsIn K mainGlobals "BadPage" = some (some (.ref x_BadPage)))
    {x_Stopped : Addr} (gx_Stopped : PySem.W.nsIn K mainGlobals "Stopped" = some (some (.ref x_Stopped)))
    {x_NoName : Addr} (gx_NoName : PySem.W.nsIn K mainGlobals "NoName" = some (some (.ref x_NoName)))
    {x_Twice : Addr} (gx_Twice : PySem.W.nsIn K mainGlobals "Twice" = some (some (.ref x_Twice)))
    {x_NoPlan : Addr} (gx_NoPlan : PySem.W.nsIn K mainGlobals "NoPlan" = some (some (.ref x_NoPlan)))
    {x_NoLabel : Addr} (gx_NoLabel : PySem.W.nsIn K mainGlobals "NoLabel" = some (some (.ref x_NoLabel)))
    {x_Taken : Addr} (gx_Taken : PySem.W.nsIn K mainGlobals "Taken" = some (some (.ref x_Taken)))
    {x_Ring : Addr} (gx_Ring : PySem.W.nsIn K mainGlobals "Ring" = some (some (.ref x_Ring)))
    {x_NotPlain : Addr} (gx_NotPlain : PySem.W.nsIn K mainGlobals "NotPlain" = some (some (.ref x_NotPlain)))
    {x_Tangled : Addr} (gx_Tangled : PySem.W.nsIn K mainGlobals "Tangled" = some (some (.ref x_Tangled)))
    {x_Breaks : Addr} (gx_Breaks : PySem.W.nsIn K mainGlobals "Breaks" = some (some (.ref x_Breaks)))
    {x_InUse : Addr} (gx_InUse : PySem.W.nsIn K mainGlobals "InUse" = some (some (.ref x_InUse)))
    {x_Uneven : Addr} (gx_Uneven : PySem.W.nsIn K mainGlobals "Uneven" = some (some (.ref x_Uneven)))
    {f0 : Addr} {od0 an0 : Option Addr} {sl0 : Array (Option Value)} {oc0 kV0 dc0 pm0 cd0 ct0 : Value}
    (a0 : PySem.W.nsIn K mainGlobals "_law_begin" = some (some (.ref f0)))
    (l0 : K.lookup f0 = some ⟨oc0, od0, .func (PySem.W.fnOf "_law_begin" "_law_begin" (defArgs s_law_begin) (defBody s_law_begin) (defScope s_law_begin) .none kV0 dc0 pm0 an0 cd0 ct0), sl0⟩) (c0 : PySem.W.codeIn K cd0 "_law_begin" = true) (k0 : PySem.W.keepIn K (.ref f0) = true)
    {f1 : Addr} {od1 an1 : Option Addr} {sl1 : Array (Option Value)} {oc1 kV1 dc1 pm1 cd1 ct1 : Value}
    (a1 : PySem.W.nsIn K mainGlobals "_law_take" = some (some (.ref f1)))
    (l1 : K.lookup f1 = some ⟨oc1, od1, .func (PySem.W.fnOf "_law_take" "_law_take" (defArgs s_law_take) (defBody s_law_take) (defScope s_law_take) .none kV1 dc1 pm1 an1 cd1 ct1), sl1⟩) (c1 : PySem.W.codeIn K cd1 "_law_take" = true) (k1 : PySem.W.keepIn K (.ref f1) = true)
    {f2 : Addr} {od2 an2 : Option Addr} {sl2 : Array (Option Value)} {oc2 kV2 dc2 pm2 cd2 ct2 : Value}
    (a2 : PySem.W.nsIn K mainGlobals "_law_gcd" = some (some (.ref f2)))
    (l2 : K.lookup f2 = some ⟨oc2, od2, .func (PySem.W.fnOf "_law_gcd" "_law_gcd" (defArgs s_law_gcd) (defBody s_law_gcd) (defScope s_law_gcd) .none kV2 dc2 pm2 an2 cd2 ct2), sl2⟩) (c2 : PySem.W.codeIn K cd2 "_law_gcd" = true) (k2 : PySem.W.keepIn K (.ref f2) = true)
    {f3 : Addr} {od3 an3 : Option Addr} {sl3 : Array (Option Value)} {oc3 kV3 dc3 pm3 cd3 ct3 : Value}
    (a3 : PySem.W.nsIn K mainGlobals "_law_lowest" = some (some (.ref f3)))
    (l3 : K.lookup f3 = some ⟨oc3, od3, .func (PySem.W.fnOf "_law_lowest" "_law_lowest" (defArgs s_law_lowest) (defBody s_law_lowest) (defScope s_law_lowest) .none kV3 dc3 pm3 an3 cd3 ct3), sl3⟩) (c3 : PySem.W.codeIn K cd3 "_law_lowest" = true) (k3 : PySem.W.keepIn K (.ref f3) = true)
    {f4 : Addr} {od4 an4 : Option Addr} {sl4 : Array (Option Value)} {oc4 kV4 dc4 pm4 cd4 ct4 : Value}
    (a4 : PySem.W.nsIn K mainGlobals "_law_terms" = some (some (.ref f4)))
    (l4 : K.lookup f4 = some ⟨oc4, od4, .func (PySem.W.fnOf "_law_terms" "_law_terms" (defArgs s_law_terms) (defBody s_law_terms) (defScope s_law_terms) .none kV4 dc4 pm4 an4 cd4 ct4), sl4⟩) (c4 : PySem.W.codeIn K cd4 "_law_terms" = true) (k4 : PySem.W.keepIn K (.ref f4) = true)
    {f5 : Addr} {od5 an5 : Option Addr} {sl5 : Array (Option Value)} {oc5 kV5 dc5 pm5 cd5 ct5 : Value}
    (a5 : PySem.W.nsIn K mainGlobals "_law_drawn_sums" = some (some (.ref f5)))
    (l5 : K.lookup f5 = some ⟨oc5, od5, .func (PySem.W.fnOf "_law_drawn_sums" "_law_drawn_sums" (defArgs s_law_drawn_sums) (defBody s_law_drawn_sums) (defScope s_law_drawn_sums) .none kV5 dc5 pm5 an5 cd5 ct5), sl5⟩) (c5 : PySem.W.codeIn K cd5 "_law_drawn_sums" = true) (k5 : PySem.W.keepIn K (.ref f5) = true)
    {f6 : Addr} {od6 an6 : Option Addr} {sl6 : Array (Option Value)} {oc6 kV6 dc6 pm6 cd6 ct6 : Value}
    (a6 : PySem.W.nsIn K mainGlobals "_law_plus_sums" = some (some (.ref f6)))
    (l6 : K.lookup f6 = some ⟨oc6, od6, .func (PySem.W.fnOf "_law_plus_sums" "_law_plus_sums" (defArgs s_law_plus_sums) (defBody s_law_plus_sums) (defScope s_law_plus_sums) .none kV6 dc6 pm6 an6 cd6 ct6), sl6⟩) (c6 : PySem.W.codeIn K cd6 "_law_plus_sums" = true) (k6 : PySem.W.keepIn K (.ref f6) = true)
    {f7 : Addr} {od7 an7 : Option Addr} {sl7 : Array (Option Value)} {oc7 kV7 dc7 pm7 cd7 ct7 : Value}
    (a7 : PySem.W.nsIn K mainGlobals "_law_raised" = some (some (.ref f7)))
    (l7 : K.lookup f7 = some ⟨oc7, od7, .func (PySem.W.fnOf "_law_raised" "_law_raised" (defArgs s_law_raised) (defBody s_law_raised) (defScope s_law_raised) .none kV7 dc7 pm7 an7 cd7 ct7), sl7⟩) (c7 : PySem.W.codeIn K cd7 "_law_raised" = true) (k7 : PySem.W.keepIn K (.ref f7) = true)
    {f8 : Addr} {od8 an8 : Option Addr} {sl8 : Array (Option Value)} {oc8 kV8 dc8 pm8 cd8 ct8 : Value}
    (a8 : PySem.W.nsIn K mainGlobals "_law_sums_at" = some (some (.ref f8)))
    (l8 : K.lookup f8 = some ⟨oc8, od8, .func (PySem.W.fnOf "_law_sums_at" "_law_sums_at" (defArgs s_law_sums_at) (defBody s_law_sums_at) (defScope s_law_sums_at) .none kV8 dc8 pm8 an8 cd8 ct8), sl8⟩) (c8 : PySem.W.codeIn K cd8 "_law_sums_at" = true) (k8 : PySem.W.keepIn K (.ref f8) = true)
    {f9 : Addr} {od9 an9 : Option Addr} {sl9 : Array (Option Value)} {oc9 kV9 dc9 pm9 cd9 ct9 : Value}
    (a9 : PySem.W.nsIn K mainGlobals "_law_due_growth" = some (some (.ref f9)))
    (l9 : K.lookup f9 = some ⟨oc9, od9, .func (PySem.W.fnOf "_law_due_growth" "_law_due_growth" (defArgs s_law_due_growth) (defBody s_law_due_growth) (defScope s_law_due_growth) .none kV9 dc9 pm9 an9 cd9 ct9), sl9⟩) (c9 : PySem.W.codeIn K cd9 "_law_due_growth" = true) (k9 : PySem.W.keepIn K (.ref f9) = true)
    {f10 : Addr} {od10 an10 : Option Addr} {sl10 : Array (Option Value)} {oc10 kV10 dc10 pm10 cd10 ct10 : Value}
    (a10 : PySem.W.nsIn K mainGlobals "_law_class" = some (some (.ref f10)))
    (l10 : K.lookup f10 = some ⟨oc10, od10, .func (PySem.W.fnOf "_law_class" "_law_class" (defArgs s_law_class) (defBody s_law_class) (defScope s_law_class) .none kV10 dc10 pm10 an10 cd10 ct10), sl10⟩) (c10 : PySem.W.codeIn K cd10 "_law_class" = true) (k10 : PySem.W.keepIn K (.ref f10) = true)
    {f11 : Addr} {od11 an11 : Option Addr} {sl11 : Array (Option Value)} {oc11 kV11 dc11 pm11 cd11 ct11 : Value}
    (a11 : PySem.W.nsIn K mainGlobals "_law_tried" = some (some (.ref f11)))
    (l11 : K.lookup f11 = some ⟨oc11, od11, .func (PySem.W.fnOf "_law_tried" "_law_tried" (defArgs s_law_tried) (defBody s_law_tried) (defScope s_law_tried) .none kV11 dc11 pm11 an11 cd11 ct11), sl11⟩) (c11 : PySem.W.codeIn K cd11 "_law_tried" = true) (k11 : PySem.W.keepIn K (.ref f11) = true)
    {f12 : Addr} {od12 an12 : Option Addr} {sl12 : Array (Option Value)} {oc12 kV12 dc12 pm12 cd12 ct12 : Value}
    (a12 : PySem.W.nsIn K mainGlobals "_law_same" = some (some (.ref f12)))
    (l12 : K.lookup f12 = some ⟨oc12, od12, .func (PySem.W.fnOf "_law_same" "_law_same" (defArgs s_law_same) (defBody s_law_same) (defScope s_law_same) .none kV12 dc12 pm12 an12 cd12 ct12), sl12⟩) (c12 : PySem.W.codeIn K cd12 "_law_same" = true) (k12 : PySem.W.keepIn K (.ref f12) = true)
    {f13 : Addr} {od13 an13 : Option Addr} {sl13 : Array (Option Value)} {oc13 kV13 dc13 pm13 cd13 ct13 : Value}
    (a13 : PySem.W.findIn K (.ref x_Refused) "__init__" = some (some (.ref f13)))
    {Td13 : Addr}    (l13 : K.lookup f13 = some ⟨oc13, od13, .func (PySem.W.fnOf "__init__" "Refused.__init__" (defArgs s_Refused_init) (defBody s_Refused_init) (defScope s_Refused_init) (.ref Td13) kV13 dc13 pm13 an13 cd13 ct13), sl13⟩) (c13 : PySem.W.codeIn K cd13 "Refused.__init__" = true) (k13 : PySem.W.keepIn K (.ref f13) = true)
    {oe13 : Option Addr} {nd13 : Nat} {sd13 : Array (Option Value)} {td13 : PySem.Tok} (q13 : K.lookup Td13 = some ⟨.type "tuple", oe13, .seq #[Value.str "Refused" td13] nd13, sd13⟩)
    {f14 : Addr} {od14 an14 : Option Addr} {sl14 : Array (Option Value)} {oc14 kV14 dc14 pm14 cd14 ct14 : Value}
    (a14 : PySem.W.findIn K (.ref x_Uneven) "__init__" = some (some (.ref f14)))
    {Td14 : Addr}    (l14 : K.lookup f14 = some ⟨oc14, od14, .func (PySem.W.fnOf "__init__" "Uneven.__init__" (defArgs s_Uneven_init) (defBody s_Uneven_init) (defScope s_Uneven_init) (.ref Td14) kV14 dc14 pm14 an14 cd14 ct14), sl14⟩) (c14 : PySem.W.codeIn K cd14 "Uneven.__init__" = true) (k14 : PySem.W.keepIn K (.ref f14) = true)
    {oe14 : Option Addr} {nd14 : Nat} {sd14 : Array (Option Value)} {td14 : PySem.Tok} (q14 : K.lookup Td14 = some ⟨.type "tuple", oe14, .seq #[Value.str "" td14] nd14, sd14⟩)
    {f15 : Addr} {od15 an15 : Option Addr} {sl15 : Array (Option Value)} {oc15 kV15 dc15 pm15 cd15 ct15 : Value}
    (a15 : PySem.W.nsIn K mainGlobals "greatest_powers" = some (some (.ref f15)))
    (l15 : K.lookup f15 = some ⟨oc15, od15, .func (PySem.W.fnOf "greatest_powers" "greatest_powers" (defArgs s_greatest_powers) (defBody s_greatest_powers) (defScope s_greatest_powers) .none kV15 dc15 pm15 an15 cd15 ct15), sl15⟩) (c15 : PySem.W.codeIn K cd15 "greatest_powers" = true) (k15 : PySem.W.keepIn K (.ref f15) = true)
    {f16 : Addr} {od16 an16 : Option Addr} {sl16 : Array (Option Value)} {oc16 kV16 dc16 pm16 cd16 ct16 : Value}
    (a16 : PySem.W.nsIn K mainGlobals "raised" = some (some (.ref f16)))
    (l16 : K.lookup f16 = some ⟨oc16, od16, .func (PySem.W.fnOf "raised" "raised" (defArgs s_raised) (defBody s_raised) (defScope s_raised) .none kV16 dc16 pm16 an16 cd16 ct16), sl16⟩) (c16 : PySem.W.codeIn K cd16 "raised" = true) (k16 : PySem.W.keepIn K (.ref f16) = true)
    {f17 : Addr} {od17 an17 : Option Addr} {sl17 : Array (Option Value)} {oc17 kV17 dc17 pm17 cd17 ct17 : Value}
    (a17 : PySem.W.nsIn K mainGlobals "even_growth" = some (some (.ref f17)))
    (l17 : K.lookup f17 = some ⟨oc17, od17, .func (PySem.W.fnOf "even_growth" "even_growth" (defArgs s_even_growth) (defBody s_even_growth) (defScope s_even_growth) .none kV17 dc17 pm17 an17 cd17 ct17), sl17⟩) (c17 : PySem.W.codeIn K cd17 "even_growth" = true) (k17 : PySem.W.keepIn K (.ref f17) = true)
    {f18 : Addr} {od18 an18 : Option Addr} {sl18 : Array (Option Value)} {oc18 kV18 dc18 pm18 cd18 ct18 : Value}
    (a18 : PySem.W.nsIn K mainGlobals "common_part" = some (some (.ref f18)))
    (l18 : K.lookup f18 = some ⟨oc18, od18, .func (PySem.W.fnOf "common_part" "common_part" (defArgs s_common_part) (defBody s_common_part) (defScope s_common_part) .none kV18 dc18 pm18 an18 cd18 ct18), sl18⟩) (c18 : PySem.W.codeIn K cd18 "common_part" = true) (k18 : PySem.W.keepIn K (.ref f18) = true)
    {f19 : Addr} {od19 an19 : Option Addr} {sl19 : Array (Option Value)} {oc19 kV19 dc19 pm19 cd19 ct19 : Value}
    (a19 : PySem.W.nsIn K mainGlobals "lowest" = some (some (.ref f19)))
    (l19 : K.lookup f19 = some ⟨oc19, od19, .func (PySem.W.fnOf "lowest" "lowest" (defArgs s_lowest) (defBody s_lowest) (defScope s_lowest) .none kV19 dc19 pm19 an19 cd19 ct19), sl19⟩) (c19 : PySem.W.codeIn K cd19 "lowest" = true) (k19 : PySem.W.keepIn K (.ref f19) = true)
    {f20 : Addr} {od20 an20 : Option Addr} {sl20 : Array (Option Value)} {oc20 kV20 dc20 pm20 cd20 ct20 : Value}
    (a20 : PySem.W.nsIn K mainGlobals "sum_of_two" = some (some (.ref f20)))
    (l20 : K.lookup f20 = some ⟨oc20, od20, .func (PySem.W.fnOf "sum_of_two" "sum_of_two" (defArgs s_sum_of_two) (defBody s_sum_of_two) (defScope s_sum_of_two) .none kV20 dc20 pm20 an20 cd20 ct20), sl20⟩) (c20 : PySem.W.codeIn K cd20 "sum_of_two" = true) (k20 : PySem.W.keepIn K (.ref f20) = true)
    {f21 : Addr} {od21 an21 : Option Addr} {sl21 : Array (Option Value)} {oc21 kV21 dc21 pm21 cd21 ct21 : Value}
    (a21 : PySem.W.nsIn K mainGlobals "product" = some (some (.ref f21)))
    (l21 : K.lookup f21 = some ⟨oc21, od21, .func (PySem.W.fnOf "product" "product" (defArgs s_product) (defBody s_product) (defScope s_product) .none kV21 dc21 pm21 an21 cd21 ct21), sl21⟩) (c21 : PySem.W.codeIn K cd21 "product" = true) (k21 : PySem.W.keepIn K (.ref f21) = true)
    {f22 : Addr} {od22 an22 : Option Addr} {sl22 : Array (Option Value)} {oc22 kV22 dc22 pm22 cd22 ct22 : Value}
    (a22 : PySem.W.nsIn K mainGlobals "worth_of" = some (some (.ref f22)))
    (l22 : K.lookup f22 = some ⟨oc22, od22, .func (PySem.W.fnOf "worth_of" "worth_of" (defArgs s_worth_of) (defBody s_worth_of) (defScope s_worth_of) .none kV22 dc22 pm22 an22 cd22 ct22), sl22⟩) (c22 : PySem.W.codeIn K cd22 "worth_of" = true) (k22 : PySem.W.keepIn K (.ref f22) = true)
    {f23 : Addr} {od23 an23 : Option Addr} {sl23 : Array (Option Value)} {oc23 kV23 dc23 pm23 cd23 ct23 : Value}
    (a23 : PySem.W.nsIn K mainGlobals "rows_worth" = some (some (.ref f23)))
    (l23 : K.lookup f23 = some ⟨oc23, od23, .func (PySem.W.fnOf "rows_worth" "rows_worth" (defArgs s_rows_worth) (defBody s_rows_worth) (defScope s_rows_worth) .none kV23 dc23 pm23 an23 cd23 ct23), sl23⟩) (c23 : PySem.W.codeIn K cd23 "rows_worth" = true) (k23 : PySem.W.keepIn K (.ref f23) = true)
    {f24 : Addr} {od24 an24 : Option Addr} {sl24 : Array (Option Value)} {oc24 kV24 dc24 pm24 cd24 ct24 : Value}
    (a24 : PySem.W.nsIn K mainGlobals "growth_of" = some (some (.ref f24)))
    (l24 : K.lookup f24 = some ⟨oc24, od24, .func (PySem.W.fnOf "growth_of" "growth_of" (defArgs s_growth_of) (defBody s_growth_of) (defScope s_growth_of) .none kV24 dc24 pm24 an24 cd24 ct24), sl24⟩) (c24 : PySem.W.codeIn K cd24 "growth_of" = true) (k24 : PySem.W.keepIn K (.ref f24) = true)
    {f25 : Addr} {od25 an25 : Option Addr} {sl25 : Array (Option Value)} {oc25 kV25 dc25 pm25 cd25 ct25 : Value}
    (a25 : PySem.W.nsIn K mainGlobals "read_rows" = some (some (.ref f25)))
    (l25 : K.lookup f25 = some ⟨oc25, od25, .func (PySem.W.fnOf "read_rows" "read_rows" (defArgs s_read_rows) (defBody s_read_rows) (defScope s_read_rows) .none kV25 dc25 pm25 an25 cd25 ct25), sl25⟩) (c25 : PySem.W.codeIn K cd25 "read_rows" = true) (k25 : PySem.W.keepIn K (.ref f25) = true)
    {f26 : Addr} {od26 an26 : Option Addr} {sl26 : Array (Option Value)} {oc26 dc26 pm26 cd26 ct26 : Value} {Dk26 : Addr}
    (a26 : PySem.W.nsIn K mainGlobals "growth" = some (some (.ref f26)))
    (l26 : K.lookup f26 = some ⟨oc26, od26, .func (PySem.W.fnOf "growth" "growth" (defArgs s_growth) (defBody s_growth) (defScope s_growth) .none (.ref Dk26) dc26 pm26 an26 cd26 ct26), sl26⟩) (c26 : PySem.W.codeIn K cd26 "growth" = true) (k26 : PySem.W.keepIn K (.ref f26) = true)
    {tk26_0 : PySem.Tok} (kd26_0 : PySem.W.nsIn K Dk26 "many" = some (some (Value.int 0 tk26_0)))
    {tk26_1 : PySem.Tok} (kd26_1 : PySem.W.nsIn K Dk26 "base" = some (some (Value.int 2 tk26_1)))
    {f27 : Addr} {od27 an27 : Option Addr} {sl27 : Array (Option Value)} {oc27 kV27 dc27 pm27 cd27 ct27 : Value}
    (a27 : PySem.W.nsIn K mainGlobals "law" = some (some (.ref f27)))
    (l27 : K.lookup f27 = some ⟨oc27, od27, .func (PySem.W.fnOf "law" "law" (defArgs s_law) (defBody s_law) (defScope s_law) .none kV27 dc27 pm27 an27 cd27 ct27), sl27⟩) (c27 : PySem.W.codeIn K cd27 "law" = true) (k27 : PySem.W.keepIn K (.ref f27) = true)
    {nm_Uneven qq_Uneven : Str} {N_Uneven : Addr} {bs_Uneven bm_Uneven : List Value} {sn_Uneven : List Str} {sub_Uneven : List Value} {ab_Uneven : Bool} {col_Uneven : Option Bool} {dd_Uneven : Option Addr} {m0_Uneven m1_Uneven m2_Uneven m3_Uneven m5_Uneven : Option Value}
    (xl_Uneven : K.lookup x_Uneven = some (PySem.excClassObj nm_Uneven qq_Uneven x_Uneven N_Uneven bs_Uneven bm_Uneven true sn_Uneven sub_Uneven ab_Uneven col_Uneven dd_Uneven m0_Uneven m1_Uneven m2_Uneven m3_Uneven m5_Uneven "ValueError.__new__"))
    (rv_Uneven : PySem.HandSPX.refsVE bm_Uneven = true)
    (sa_Uneven : PySem.W.findIn K (.ref x_Uneven) "__setattr__" = some (some (.builtin "object.__setattr__")))
    (sb_Uneven : PySem.W.subIn K (.ref x_Uneven) (.type "BaseException") = some true)
    (tc_Uneven : PySem.W.typeIn K (.ref x_Uneven) = some (.type "type"))
    (kc_Uneven : PySem.W.keepIn K (.ref x_Uneven) = true)
    (ti_Uneven : PySem.W.typeIn K (.ref f14) = some (.type "function"))
    (cl_Uneven : PySem.W.isClsIn K x_Uneven = true)
    (ga_Uneven : PySem.W.findIn K (.ref x_Uneven) "__getattribute__" = some (some (.builtin "BaseException.__getattribute__")))
    (gg_Uneven : PySem.W.findIn K (.ref x_Uneven) "__getattr__" = some none)
    (hd_Uneven : PySem.W.hasDictIn K x_Uneven = true)
    (ca_Uneven : PySem.W.findIn K (.ref x_Uneven) "__class__" = some (some (.builtin "object.__class__")))
    (mr_Uneven : PySem.W.mroIn K x_Uneven (.type "object") = some true)
    (nf_Uneven_word : PySem.W.findIn K (.ref x_Uneven) "word" = some none)
    (nf_Uneven_name : PySem.W.findIn K (.ref x_Uneven) "name" = some none)
    (em_Uneven_BadText : PySem.W.exmOne K (.ref x_Uneven) (.ref x_BadText) = some false)
    (em_Uneven_BadPage : PySem.W.exmOne K (.ref x_Uneven) (.ref x_BadPage) = some false)
    (em_Uneven_Stopped : PySem.W.exmOne K (.ref x_Uneven) (.ref x_Stopped) = some false)
    (em_Uneven_Refused : PySem.W.exmOne K (.ref x_Uneven) (.ref x_Refused) = some true)
    (et_Uneven : PySem.W.exmAny K (.ref x_Uneven) [.ref x_NoName, .ref x_Twice, .ref x_NoPlan, .ref x_NoLabel, .ref x_Taken, .ref x_Ring, .ref x_NotPlain, .ref x_Tangled, .ref x_Breaks, .ref x_InUse, .ref x_Uneven] = some true)
    (ki_Uneven_Misread : PySem.W.kitOne K (.ref x_Uneven) (.ref x_Misread) = some false)
    (ki_Uneven_Unfit : PySem.W.kitOne K (.ref x_Uneven) (.ref x_Unfit) = some true)
    (kv_Uneven : PySem.W.kitOne K (.ref x_Uneven) (.type "ValueError") = some true)
    (gt_cls : PySem.W.specialIn K (.builtin "object.__class__") "__get__" = some (some (.builtin "getset_descriptor.__get__")))
    (tk_cls : PySem.W.takesIn K (.builtin "object.__class__") = some true)
    (sg_Unfit : PySem.W.specialIn K (.ref x_Unfit) "__getattribute__" = some (some (.builtin "type.__getattribute__")))
    (rd_Unfit : PySem.W.readsIn K x_Unfit (.type "type") = true)
    (fc_Unfit : PySem.W.findCls K (.ref x_Unfit) (.type "type") "__init__" = some (.val (.ref f13)))
    (z_ValueError : PySem.W.nsIn K mainGlobals "ValueError" = some none)
    (z_abs : PySem.W.nsIn K mainGlobals "abs" = some none)
    (z_all : PySem.W.nsIn K mainGlobals "all" = some none)
    (z_bool : PySem.W.nsIn K mainGlobals "bool" = some none)
    (z_dict : PySem.W.nsIn K mainGlobals "dict" = some none)
    (z_int : PySem.W.nsIn K mainGlobals "int" = some none)
    (z_isinstance : PySem.W.nsIn K mainGlobals "isinstance" = some none)
    (z_len : PySem.W.nsIn K mainGlobals "len" = some none)
    (z_list : PySem.W.nsIn K mainGlobals "list" = some none)
    (z_max : PySem.W.nsIn K mainGlobals "max" = some none)
    (z_range : PySem.W.nsIn K mainGlobals "range" = some none)
    (z_sorted : PySem.W.nsIn K mainGlobals "sorted" = some none)
    (z_str : PySem.W.nsIn K mainGlobals "str" = some none)
    (z_tuple : PySem.W.nsIn K mainGlobals "tuple" = some none)
    (z_zip : PySem.W.nsIn K mainGlobals "zip" = some none)
    {t_FIGURES : PySem.Tok} (m_FIGURES : PySem.W.nsIn K mainGlobals "FIGURES" = some (some (Value.str "#" t_FIGURES)))
    {p_NOUGHT : Addr} {oa_NOUGHT : Option Addr} {n_NOUGHT : Nat} {sx_NOUGHT : Array (Option Value)} {t_NOUGHT_0 : PySem.Tok} {t_NOUGHT_1 : PySem.Tok}
    (m_NOUGHT : PySem.W.nsIn K mainGlobals "NOUGHT" = some (some (.ref p_NOUGHT))) (q_NOUGHT : K.lookup p_NOUGHT = some ⟨.type "tuple", oa_NOUGHT, .seq #[Value.int 0 t_NOUGHT_0, Value.int 1 t_NOUGHT_1] n_NOUGHT, sx_NOUGHT⟩)
    {t_SIZE : PySem.Tok} (m_SIZE : PySem.W.nsIn K mainGlobals "SIZE" = some (some (Value.str "n" t_SIZE)))
    {cL Pt : Addr} (hPt : h.get? Pt = some (PySem.W.tabObj #[])) (ec : cd27 = .ref cL) (hcL : PySem.W.codeHdIn K cL Pt = true) (nPt : K.lookup Pt = none)
    : LamX.LawAtS l w K CX0 LV 63 "_law_script" mg fa h := by
  have e := hfa.symm.trans (PySem.W.mg_of X G a27)
  cases e
  have F0 := fun_mk (st := s_law_begin) l0 c0 k0
  have b0 := F0.binds (ps := ["_law_script"]) fun _ _ _ _ _ _ us hl => match us, hl with | [_], _ => rfl
  have F1 := fun_mk (st := s_law_take) l1 c1 k1
  have b1 := F1.binds (ps := ["_law_draw", "_law_sides"]) fun _ _ _ _ _ _ us hl => match us, hl with | [_, _], _ => rfl
  have F2 := fun_mk (st := s_law_gcd) l2 c2 k2
  have b2 := F2.binds (ps := ["_law_a", "_law_b"]) fun _ _ _ _ _ _ us hl => match us, hl with | [_, _], _ => rfl
  have F3 := fun_mk (st := s_law_lowest) l3 c3 k3
  have b3 := F3.binds (ps := ["_law_over", "_law_under"]) fun _ _ _ _ _ _ us hl => match us, hl with | [_, _], _ => rfl
  have F4 := fun_mk (st := s_law_terms) l4 c4 k4
  have b4 := F4.binds (ps := ["_law_draw", "_law_top", "_law_deep", "_law_wide"]) fun _ _ _ _ _ _ us hl => match us, hl with | [_, _, _, _], _ => rfl
  have F5 := fun_mk (st := s_law_drawn_sums) l5 c5 k5
  have b5 := F5.binds (ps := ["_law_draw", "_law_top", "_law_deep", "_law_wide"]) fun _ _ _ _ _ _ us hl => match us, hl with | [_, _, _, _], _ => rfl
  have F6 := fun_mk (st := s_law_plus_sums) l6 c6 k6
  have b6 := F6.binds (ps := ["_law_draw", "_law_top", "_law_deep", "_law_wide"]) fun _ _ _ _ _ _ us hl => match us, hl with | [_, _, _, _], _ => rfl
  have F7 := fun_mk (st := s_law_raised) l7 c7 k7
  have b7 := F7.binds (ps := ["_law_part", "_law_upto"]) fun _ _ _ _ _ _ us hl => match us, hl with | [_, _], _ => rfl
  have F8 := fun_mk (st := s_law_sums_at) l8 c8 k8
  have b8 := F8.binds (ps := ["_law_sums", "_law_size"]) fun _ _ _ _ _ _ us hl => match us, hl with | [_, _], _ => rfl
  have F9 := fun_mk (st := s_law_due_growth) l9 c9 k9
  have b9 := F9.binds (ps := ["_law_sums", "_law_often", "_law_by_it"]) fun _ _ _ _ _ _ us hl => match us, hl with | [_, _, _], _ => rfl
  have F10 := fun_mk (st := s_law_class) l10 c10 k10
  have b10 := F10.binds (ps := ["_law_e"]) fun _ _ _ _ _ _ us hl => match us, hl with | [_], _ => rfl
  have F11 := fun_mk (st := s_law_tried) l11 c11 k11
  have b11 := F11.binds (ps := ["_law_ask"]) fun _ _ _ _ _ _ us hl => match us, hl with | [_], _ => rfl
  have F12 := fun_mk (st := s_law_same) l12 c12 k12
  have b12 := F12.binds (ps := ["_law_found", "_law_due"]) fun _ _ _ _ _ _ us hl => match us, hl with | [_, _], _ => rfl
  have F13 : FunD K "__init__" "Refused.__init__" (defArgs s_Refused_init) (defBody s_Refused_init) (defScope s_Refused_init) [V.str "Refused"] [] f13 _ := ⟨⟨_, _, _, _, _, _, _, _, _, _, rfl, l13, c13, .inr ⟨by simp, Td13, _, [Value.str "Refused" td13], _, rfl, q13, rfl, .cons ⟨_, rfl⟩ .nil⟩, .inl rfl⟩, k13⟩
  obtain ⟨ds13, dv13, b13⟩ := F13.binds1 (ps := ["self", "word"]) 2 1 (by simp) rfl fun _ _ _ _ _ _ _ us its h1 h2 => match us, its, h1, h2 with | [_, _], [_], _, _ => ⟨_, rfl, rfl⟩
  cases dv13
  have F14 : FunD K "__init__" "Uneven.__init__" (defArgs s_Uneven_init) (defBody s_Uneven_init) (defScope s_Uneven_init) [V.str ""] [] f14 _ := ⟨⟨_, _, _, _, _, _, _, _, _, _, rfl, l14, c14, .inr ⟨by simp, Td14, _, [Value.str "" td14], _, rfl, q14, rfl, .cons ⟨_, rfl⟩ .nil⟩, .inl rfl⟩, k14⟩
  obtain ⟨ds14, dv14, b14⟩ := F14.binds1 (ps := ["self", "name"]) 2 1 (by simp) rfl fun _ _ _ _ _ _ _ us its h1 h2 => match us, its, h1, h2 with | [_, _], [_], _, _ => ⟨_, rfl, rfl⟩
  cases dv14
  have F15 := fun_mk (st := s_greatest_powers) l15 c15 k15
  have b15 := F15.binds (ps := ["poly"]) fun _ _ _ _ _ _ us hl => match us, hl with | [_], _ => rfl
  have F16 := fun_mk (st := s_raised) l16 c16 k16
  have b16 := F16.binds (ps := ["base", "power"]) fun _ _ _ _ _ _ us hl => match us, hl with | [_, _], _ => rfl
  have F17 := fun_mk (st := s_even_growth) l17 c17 k17
  have b17 := F17.binds (ps := ["many", "base", "figures"]) fun _ _ _ _ _ _ us hl => match us, hl with | [_, _, _], _ => rfl
  have F18 := fun_mk (st := s_common_part) l18 c18 k18
  have b18 := F18.binds (ps := ["one", "other"]) fun _ _ _ _ _ _ us hl => match us, hl with | [_, _], _ => rfl
  have F19 := fun_mk (st := s_lowest) l19 c19 k19
  have b19 := F19.binds (ps := ["over", "under"]) fun _ _ _ _ _ _ us hl => match us, hl with | [_, _], _ => rfl
  have F20 := fun_mk (st := s_sum_of_two) l20 c20 k20
  have b20 := F20.binds (ps := ["one", "other"]) fun _ _ _ _ _ _ us hl => match us, hl with | [_, _], _ => rfl
  have F21 := fun_mk (st := s_product) l21 c21 k21
  have b21 := F21.binds (ps := ["one", "other"]) fun _ _ _ _ _ _ us hl => match us, hl with | [_, _], _ => rfl
  have F22 := fun_mk (st := s_worth_of) l22 c22 k22
  have b22 := F22.binds (ps := ["poly", "values"]) fun _ _ _ _ _ _ us hl => match us, hl with | [_, _], _ => rfl
  have F23 := fun_mk (st := s_rows_worth) l23 c23 k23
  have b23 := F23.binds (ps := ["rows", "size"]) fun _ _ _ _ _ _ us hl => match us, hl with | [_, _], _ => rfl
  have F24 := fun_mk (st := s_growth_of) l24 c24 k24
  have b24 := F24.binds (ps := ["rows", "way", "name"]) fun _ _ _ _ _ _ us hl => match us, hl with | [_, _, _], _ => rfl
  have F25 := fun_mk (st := s_read_rows) l25 c25 k25
  have b25 := F25.binds (ps := ["told"]) fun _ _ _ _ _ _ us hl => match us, hl with | [_], _ => rfl
  have F26 := fun_mk (st := s_growth) l26 c26 k26
  have FD26 : FunD K "growth" "growth" (defArgs s_growth) (defBody s_growth) (defScope s_growth) [] [("many", V.int 0), ("base", V.int 2)] f26 _ := ⟨⟨_, _, _, _, _, _, _, _, _, _, rfl, l26, c26, .inl ⟨rfl, rfl⟩, .inr ⟨Dk26, rfl, fun q hq => by
      simp only [List.mem_cons, List.not_mem_nil, or_false] at hq
      rcases hq with rfl | rfl
      · exact ⟨_, kd26_0, ⟨_, rfl⟩⟩
      · exact ⟨_, kd26_1, ⟨_, rfl⟩⟩
      ⟩⟩, k26⟩
  obtain ⟨ds26, dv26, b26⟩ := FD26.binds0 (ps := ["sums", "many", "base"]) 1 (by simp) rfl fun _ _ _ _ _ _ us ks h1 h2 => match us, ks, h1, h2 with | [_], [_, _], _, _ => ⟨_, _, _, _, _, _, rfl, rfl, ⟨_, _, _, _, _, _, rfl, rfl, rfl⟩⟩
  obtain ⟨mv26_0, kb26_0⟩ := FD26.kbinds0 (ps := ["sums", "many", "base"]) 1 ["base", "many"] [] (fun us mv ws => us ++ ((ws.drop 1).take 1 ++ ((ws.drop 0).take 1))) (by simp) (by simp) (fun r1 r2 r3 => r1.append (((r3.drop 1).take 1).append ((r3.drop 0).take 1))) fun _ _ _ _ _ _ us mv ws h1 h2 h3 => match us, mv, ws, h1, h2, h3 with | [_], [], [_, _], _, _, _ => rfl
  obtain ⟨mv26_1, kb26_1⟩ := FD26.kbinds0 (ps := ["sums", "many", "base"]) 1 ["many"] [("base", V.int 2)] (fun us mv ws => us ++ ((ws.drop 0).take 1 ++ ((mv.drop 0).take 1))) (by simp) (by simp) (fun r1 r2 r3 => r1.append (((r3.drop 0).take 1).append ((r2.drop 0).take 1))) fun _ _ _ _ _ _ us mv ws h1 h2 h3 => match us, mv, ws, h1, h2, h3 with | [_], [_], [_], _, _, _ => ⟨_, _, _, _, _, _, rfl, rfl, rfl⟩
  have F27 := fun_mk (st := s_law) l27 c27 k27
  have b27 := F27.binds (ps := ["_law_script"]) fun _ _ _ _ _ _ us hl => match us, hl with | [_], _ => rfl
  let T : Txt K mg := ⟨f0, _, F0, b0, PySem.W.mg_of X G a0,
    f1, _, F1, b1, PySem.W.mg_of X G a1,
    f2, _, F2, b2, PySem.W.mg_of X G a2,
    f3, _, F3, b3, PySem.W.mg_of X G a3,
    f4, _, F4, b4, PySem.W.mg_of X G a4,
    f5, _, F5, b5, PySem.W.mg_of X G a5,
    f6, _, F6, b6, PySem.W.mg_of X G a6,
    f7, _, F7, b7, PySem.W.mg_of X G a7,
    f8, _, F8, b8, PySem.W.mg_of X G a8,
    f9, _, F9, b9, PySem.W.mg_of X G a9,
    f10, _, F10, b10, PySem.W.mg_of X G a10,
    f11, _, F11, b11, PySem.W.mg_of X G a11,
    f12, _, F12, b12, PySem.W.mg_of X G a12,
    f13, _, F13, b13,
    f14, _, F14, b14,
    f15, _, F15, b15, PySem.W.mg_of X G a15,
    f16, _, F16, b16, PySem.W.mg_of X G a16,
    f17, _, F17, b17, PySem.W.mg_of X G a17,
    f18, _, F18, b18, PySem.W.mg_of X G a18,
    f19, _, F19, b19, PySem.W.mg_of X G a19,
    f20, _, F20, b20, PySem.W.mg_of X G a20,
    f21, _, F21, b21, PySem.W.mg_of X G a21,
    f22, _, F22, b22, PySem.W.mg_of X G a22,
    f23, _, F23, b23, PySem.W.mg_of X G a23,
    f24, _, F24, b24, PySem.W.mg_of X G a24,
    f25, _, F25, b25, PySem.W.mg_of X G a25,
    f26, _, F26, ds26, dv26, b26, _, kb26_0, _, kb26_1, PySem.W.mg_of X G a26,
    fa, _, F27, b27, PySem.W.mg_of X G a27,
    x_Refused, PySem.W.mg_of X G gx_Refused,
    x_Misread, PySem.W.mg_of X G gx_Misread,
    x_Unfit, PySem.W.mg_of X G gx_Unfit,
    x_BadText, PySem.W.mg_of X G gx_BadText,
    x_BadPage, PySem.W.mg_of X G gx_BadPage,
    x_Stopped, PySem.W.mg_of X G gx_Stopped,
    x_NoName, PySem.W.mg_of X G gx_NoName,
    x_Twice, PySem.W.mg_of X G gx_Twice,
    x_NoPlan, PySem.W.mg_of X G gx_NoPlan,
    x_NoLabel, PySem.W.mg_of X G gx_NoLabel,
    x_Taken, PySem.W.mg_of X G gx_Taken,
    x_Ring, PySem.W.mg_of X G gx_Ring,
    x_NotPlain, PySem.W.mg_of X G gx_NotPlain,
    x_Tangled, PySem.W.mg_of X G gx_Tangled,
    x_Breaks, PySem.W.mg_of X G gx_Breaks,
    x_InUse, PySem.W.mg_of X G gx_InUse,
    x_Uneven, PySem.W.mg_of X G gx_Uneven,
    ⟨⟨_, _, _, _, _, _, _, _, _, _, _, _, _, _, _, xl_Uneven, rv_Uneven⟩, sa_Uneven, sb_Uneven, tc_Uneven, kc_Uneven⟩, a14, ti_Uneven, ⟨cl_Uneven, ga_Uneven, gg_Uneven, sb_Uneven, hd_Uneven, ca_Uneven, gt_cls, tk_cls, mr_Uneven⟩,
    nf_Uneven_word,
    nf_Uneven_name,
    em_Uneven_BadText,
    em_Uneven_BadPage,
    em_Uneven_Stopped,
    em_Uneven_Refused,
    et_Uneven,
    ki_Uneven_Misread,
    ki_Uneven_Unfit,
    kv_Uneven,
    sg_Unfit, rd_Unfit, fc_Unfit,
    PySem.W.mg_none_of X G z_ValueError,
    PySem.W.mg_none_of X G z_abs,
    PySem.W.mg_none_of X G z_all,
    PySem.W.mg_none_of X G z_bool,
    PySem.W.mg_none_of X G z_dict,
    PySem.W.mg_none_of X G z_int,
    PySem.W.mg_none_of X G z_isinstance,
    PySem.W.mg_none_of X G z_len,
    PySem.W.mg_none_of X G z_list,
    PySem.W.mg_none_of X G z_max,
    PySem.W.mg_none_of X G z_range,
    PySem.W.mg_none_of X G z_sorted,
    PySem.W.mg_none_of X G z_str,
    PySem.W.mg_none_of X G z_tuple,
    PySem.W.mg_none_of X G z_zip,
    _, PySem.W.mg_of X G m_FIGURES, ⟨_, rfl⟩,
    _, PySem.W.mg_of X G m_NOUGHT, p_NOUGHT, rfl, fun H => Or.inr ⟨_, _, _, q_NOUGHT, rfl, rfl, (by show 2 ≤ sizeLine; decide), (.cons ⟨_, rfl⟩ (.cons ⟨_, rfl⟩ .nil))⟩,
    _, PySem.W.mg_of X G m_SIZE, ⟨_, rfl⟩⟩
  subst ec
  exact ⟨T.d_law, [(cL, Pt)], spLaw K Pt, fun p hp => by rw [List.mem_singleton.mp hp]; exact hPt, fun p hp => by rw [List.mem_singleton.mp hp]; exact nPt, fun p hp => by rw [List.mem_singleton.mp hp]; exact PySem.W.codeHd_of_K X hcL, fun s v => .of_eq rfl,
    fun H a ns hl _ hH hS => ⟨a, ns, rfl, hH _ List.mem_cons_self, hS, hl, fun _ => rfl⟩, fun base _ _ hT => ok_law T cL Pt rfl (hT _ List.mem_cons_self)⟩
end My
open PySem PySem.W PyProof.Rows
set_option maxHeartbeats 0 in
theorem PySem.Challenge.cw_outgrow_k14_growths_of_sums_holds : PySem.Challenge.rw_outgrow_k14_growths_of_sums.Holds := by
  w_on; o_law; k_head; (case hw => w_witness2)
  k_fill
  refine LamX.walk_ofTs (l := PySem.Challenge.rw_outgrow_k14_growths_of_sums) (n := 63) (k := My.LV) (x := "_law_script") (CX := fun _ => L2.CX0) rfl (by decide) rfl ⟨rfl, by decide, by decide⟩ (fun w h Y => PySem.W.km_in_of Y) ?F (fun _ _ _ _ _ h => h)
  case F =>
    intro w mg fa h Y KX G hmg
    refine' My.all_mk KX G hmg ?gx_Refused ?gx_Misread ?gx_Unfit ?gx_BadText ?gx_BadPage ?gx_Stopped ?gx_NoName ?gx_Twice ?gx_NoPlan ?gx_NoLabel ?gx_Taken ?gx_Ring ?gx_NotPlain ?gx_Tangled ?gx_Breaks ?gx_InUse ?gx_Uneven ?a0 ?l0 ?c0 ?k0 ?a1 ?l1 ?c1 ?k1 ?a2 ?l2 ?c2 ?k2 ?a3 ?l3 ?c3 ?k3 ?a4 ?l4 ?c4 ?k4 ?a5 ?l5 ?c5 ?k5 ?a6 ?l6 ?c6 ?k6 ?a7 ?l7 ?c7 ?k7 ?a8 ?l8 ?c8 ?k8 ?a9 ?l9 ?c9 ?k9 ?a10 ?l10 ?c10 ?k10 ?a11 ?l11 ?c11 ?k11 ?a12 ?l12 ?c12 ?k12 ?a13 ?l13 ?c13 ?k13 ?q13 ?a14 ?l14 ?c14 ?k14 ?q14 ?a15 ?l15 ?c15 ?k15 ?a16 ?l16 ?c16 ?k16 ?a17 ?l17 ?c17 ?k17 ?a18 ?l18 ?c18 ?k18 ?a19 ?l19 ?c19 ?k19 ?a20 ?l20 ?c20 ?k20 ?a21 ?l21 ?c21 ?k21 ?a22 ?l22 ?c22 ?k22 ?a23 ?l23 ?c23 ?k23 ?a24 ?l24 ?c24 ?k24 ?a25 ?l25 ?c25 ?k25 ?a26 ?l26 ?c26 ?k26 ?kd26_0 ?kd26_1 ?a27 ?l27 ?c27 ?k27 ?xl_Uneven ?rv_Uneven ?sa_Uneven ?sb_Uneven ?tc_Uneven ?kc_Uneven ?ti_Uneven ?cl_Uneven ?ga_Uneven ?gg_Uneven ?hd_Uneven ?ca_Uneven ?mr_Uneven ?nf_Uneven_word ?nf_Uneven_name ?em_Uneven_BadText ?em_Uneven_BadPage ?em_Uneven_Stopped ?em_Uneven_Refused ?et_Uneven ?ki_Uneven_Misread ?ki_Uneven_Unfit ?kv_Uneven ?gt_cls ?tk_cls ?sg_Unfit ?rd_Unfit ?fc_Unfit ?z_ValueError ?z_abs ?z_all ?z_bool ?z_dict ?z_int ?z_isinstance ?z_len ?z_list ?z_max ?z_range ?z_sorted ?z_str ?z_tuple ?z_zip ?m_FIGURES ?m_NOUGHT ?q_NOUGHT ?m_SIZE ?hPt ?ec ?hcL ?nPt
    (case gx_Refused => k_is)
    (case gx_Misread => k_is)
    (case gx_Unfit => k_is)
    (case gx_BadText => k_is)
    (case gx_BadPage => k_is)
    (case gx_Stopped => k_is)
    (case gx_NoName => k_is)
    (case gx_Twice => k_is)
    (case gx_NoPlan => k_is)
    (case gx_NoLabel => k_is)
    (case gx_Taken => k_is)
    (case gx_Ring => k_is)
    (case gx_NotPlain => k_is)
    (case gx_Tangled => k_is)
    (case gx_Breaks => k_is)
    (case gx_InUse => k_is)
    (case gx_Uneven => k_is)
    (case a0 => k_is)
    (case l0 => k_is)
    (case c0 => k_is)
    (case k0 => k_is)
    (case a1 => k_is)
    (case l1 => k_is)
    (case c1 => k_is)
    (case k1 => k_is)
    (case a2 => k_is)
    (case l2 => k_is)
    (case c2 => k_is)
    (case k2 => k_is)
    (case a3 => k_is)
    (case l3 => k_is)
    (case c3 => k_is)
    (case k3 => k_is)
    (case a4 => k_is)
    (case l4 => k_is)
    (case c4 => k_is)
    (case k4 => k_is)
    (case a5 => k_is)
    (case l5 => k_is)
    (case c5 => k_is)
    (case k5 => k_is)
    (case a6 => k_is)
    (case l6 => k_is)
    (case c6 => k_is)
    (case k6 => k_is)
    (case a7 => k_is)
    (case l7 => k_is)
    (case c7 => k_is)
    (case k7 => k_is)
    (case a8 => k_is)
    (case l8 => k_is)
    (case c8 => k_is)
    (case k8 => k_is)
    (case a9 => k_is)
    (case l9 => k_is)
    (case c9 => k_is)
    (case k9 => k_is)
    (case a10 => k_is)
    (case l10 => k_is)
    (case c10 => k_is)
    (case k10 => k_is)
    (case a11 => k_is)
    (case l11 => k_is)
    (case c11 => k_is)
    (case k11 => k_is)
    (case a12 => k_is)
    (case l12 => k_is)
    (case c12 => k_is)
    (case k12 => k_is)
    (case a13 => k_is)
    (case l13 => k_is)
    (case c13 => k_is)
    (case k13 => k_is)
    (case q13 => k_is)
    (case a14 => k_is)
    (case l14 => k_is)
    (case c14 => k_is)
    (case k14 => k_is)
    (case q14 => k_is)
    (case a15 => k_is)
    (case l15 => k_is)
    (case c15 => k_is)
    (case k15 => k_is)
    (case a16 => k_is)
    (case l16 => k_is)
    (case c16 => k_is)
    (case k16 => k_is)
    (case a17 => k_is)
    (case l17 => k_is)
    (case c17 => k_is)
    (case k17 => k_is)
    (case a18 => k_is)
    (case l18 => k_is)
    (case c18 => k_is)
    (case k18 => k_is)
    (case a19 => k_is)
    (case l19 => k_is)
    (case c19 => k_is)
    (case k19 => k_is)
    (case a20 => k_is)
    (case l20 => k_is)
    (case c20 => k_is)
    (case k20 => k_is)
    (case a21 => k_is)
    (case l21 => k_is)
    (case c21 => k_is)
    (case k21 => k_is)
    (case a22 => k_is)
    (case l22 => k_is)
    (case c22 => k_is)
    (case k22 => k_is)
    (case a23 => k_is)
    (case l23 => k_is)
    (case c23 => k_is)
    (case k23 => k_is)
    (case a24 => k_is)
    (case l24 => k_is)
    (case c24 => k_is)
    (case k24 => k_is)
    (case a25 => k_is)
    (case l25 => k_is)
    (case c25 => k_is)
    (case k25 => k_is)
    (case a26 => k_is)
    (case l26 => k_is)
    (case c26 => k_is)
    (case k26 => k_is)
    (case kd26_0 => k_is)
    (case kd26_1 => k_is)
    (case a27 => k_is)
    (case l27 => k_is)
    (case c27 => k_is)
    (case k27 => k_is)
    (case xl_Uneven => k_is)
    (case rv_Uneven => rfl)
    (case sa_Uneven => k_is)
    (case sb_Uneven => k_is)
    (case tc_Uneven => k_is)
    (case kc_Uneven => k_is)
    (case ti_Uneven => k_is)
    (case cl_Uneven => k_is)
    (case ga_Uneven => k_is)
    (case gg_Uneven => k_is)
    (case hd_Uneven => k_is)
    (case ca_Uneven => k_is)
    (case mr_Uneven => k_is)
    (case nf_Uneven_word => k_is)
    (case nf_Uneven_name => k_is)
    (case em_Uneven_BadText => kts_exm)
    (case em_Uneven_BadPage => kts_exm)
    (case em_Uneven_Stopped => kts_exm)
    (case em_Uneven_Refused => kts_exm)
    (case et_Uneven => kts_exm)
    (case ki_Uneven_Misread => kit_is)
    (case ki_Uneven_Unfit => kit_is)
    (case kv_Uneven => kit_is)
    (case gt_cls => k_is)
    (case tk_cls => k_is)
    (case sg_Unfit => k_is)
    (case rd_Unfit => k_is)
    (case fc_Unfit => k_is)
    (case z_ValueError => k_is)
    (case z_abs => k_is)
    (case z_all => k_is)
    (case z_bool => k_is)
    (case z_dict => k_is)
    (case z_int => k_is)
    (case z_isinstance => k_is)
    (case z_len => k_is)
    (case z_list => k_is)
    (case z_max => k_is)
    (case z_range => k_is)
    (case z_sorted => k_is)
    (case z_str => k_is)
    (case z_tuple => k_is)
    (case z_zip => k_is)
    (case m_FIGURES => k_is)
    (case m_NOUGHT => k_is)
    (case q_NOUGHT => k_is)
    (case m_SIZE => k_is)
    (case hPt => exact PySem.W.km_tabs_of Y _ List.mem_cons_self)
    (case ec => rfl)
    (case hcL => kernel_rfl)
    (case nPt => kernel_rfl)
#print axioms PySem.Challenge.cw_outgrow_k14_growths_of_sums_holds
