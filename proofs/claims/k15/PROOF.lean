import PyProof.Rows.All
import Wide.All
import OpenK.AllK
import Wide.FinOn
import HandS.ForMost
import HandS.Wide
import HandS.WideMore
import HandS.IsInst
import HandS.Style
import HandS.Codes
import HandS.Walk
import HandS.Zip
import PySem.Challenge.RW_outgrow_k15_whole_growths_are_ordered
set_option Elab.async false
set_option maxRecDepth 100000
set_option maxHeartbeats 4000000
namespace My
open PySem L2
/-! ### heaps: a frozen part G, a working part H; M: what may change of what stood -/
def NoM : Addr → Prop := fun _ => False
def Only1 (d : Addr) : Addr → Prop := fun b => b = d
def But (M : Addr → Prop) (H H' : Hp) : Prop := ∀ b o, H b = some o → ¬ M b → H' b = some o
structure Grow (M : Addr → Prop) (G H G' H' : Hp) : Prop where
  g : Same G G'
  gh : Same G' H'
  h : But M H H'
  old : ∀ b, H b ≠ none → G' b = G b
theorem But.refl (M : Addr → Prop) (H : Hp) : But M H H := fun _ _ e _ => e
theorem But.trans {M : Addr → Prop} {H H1 H2 : Hp} (a : But M H H1) (b : But M H1 H2) : But M H H2 := fun c o e n => b c o (a c o e n) n
theorem But.mono {M M' : Addr → Prop} {H H1 : Hp} (h : ∀ b, M b → M' b) (a : But M H H1) : But M' H H1 := fun c o e n => a c o e fun z => n (h c z)
theorem But.same {H H1 : Hp} (a : But NoM H H1) : Same H H1 := fun c o e => a c o e fun z => z
theorem same_but {M : Addr → Prop} {H H1 : Hp} (a : Same H H1) : But M H H1 := fun c o e _ => a c o e
theorem same_upd {H : Hp} {p : Addr} {o : HO} (h : H p = none) : Same H (upd H p o) := fun b x e => by
  rw [upd_ne (ne_of_none e h)]
  exact e
theorem But.new {M : Addr → Prop} {H : Hp} {p : Addr} {o : HO} (h : H p = none) : But M H (upd H p o) := same_but (same_upd h)
theorem But.put {M : Addr → Prop} {H H1 : Hp} {p : Addr} {o : HO} (a : But M H H1) (h : M p) : But M H (upd H1 p o) := fun b x e n => by
  rw [upd_ne (fun z => n (by rw [z]; exact h))]
  exact a b x e n
theorem But.put0 {M : Addr → Prop} {H H1 : Hp} {p : Addr} {o : HO} (a : But M H H1) (h : H p = none) : But M H (upd H1 p o) := fun b x e n => by
  rw [upd_ne (ne_of_none e h)]
  exact a b x e n
theorem But.some {M : Addr → Prop} {H H1 : Hp} (a : But M H H1) (hm : ∀ b, M b → H1 b ≠ none) {b : Addr} (h : H b ≠ none) : H1 b ≠ none := by
  cases e : H b with
  | none => exact absurd e h
  | some o =>
    by_cases n : M b
    · exact hm b n
    · rw [a b o e n]
      simp
theorem Grow.refl {M : Addr → Prop} {G H : Hp} (h : Same G H) : Grow M G H G H := ⟨Same.refl _, h, But.refl _ _, fun _ _ => rfl⟩
theorem Grow.trans {M : Addr → Prop} {G H G1 H1 G2 H2 : Hp} (a : Grow M G H G1 H1) (b : Grow M G1 H1 G2 H2) (hm : ∀ c, M c → H1 c ≠ none) : Grow M G H G2 H2 :=
  ⟨a.g.trans b.g, b.gh, a.h.trans b.h, fun c hc => (b.old c (a.h.some hm hc)).trans (a.old c hc)⟩
theorem Grow.mono {M M' : Addr → Prop} {G H G1 H1 : Hp} (h : ∀ b, M b → M' b) (a : Grow M G H G1 H1) : Grow M' G H G1 H1 := ⟨a.g, a.gh, a.h.mono h, a.old⟩
/-- a new cell -/
theorem Grow.cell {M : Addr → Prop} {G H G1 H1 : Hp} {p : Addr} {o : HO} (a : Grow M G H G1 H1) (h : H1 p = none) : Grow M G H G1 (upd H1 p o) :=
  ⟨a.g, a.gh.trans (same_upd h), a.h.trans (But.new h), a.old⟩
/-- a cell of one's own, or one of M, is written -/
theorem Grow.put {M : Addr → Prop} {G H G1 H1 : Hp} {p : Addr} {o : HO} (a : Grow M G H G1 H1) (hg : G1 p = none) (h : H p = none ∨ M p) : Grow M G H G1 (upd H1 p o) :=
  ⟨a.g, fun b x e => by rw [upd_ne (ne_of_none e hg)]; exact a.gh b x e, by rcases h with h | h; exact a.h.put0 h; exact a.h.put h, a.old⟩
/-- a cell is frozen -/
theorem Grow.pub {M : Addr → Prop} {G H G1 H1 : Hp} {p : Addr} {o : HO} (a : Grow M G H G1 H1) (h1 : H1 p = some o) (hg : G1 p = none) (h : H p = none) : Grow M G H (upd G1 p o) H1 :=
  ⟨a.g.trans (same_upd hg), fun b x e => by
    by_cases q : b = p
    · subst q
      rw [upd_same] at e
      rw [← e]
      exact h1
    · rw [upd_ne q] at e
      exact a.gh b x e, a.h, fun b hb => by
    have q : b ≠ p := fun z => hb (by rw [z]; exact h)
    rw [upd_ne q]
    exact a.old b hb⟩
/-- a new thing, frozen at once -/
theorem Grow.new {M : Addr → Prop} {G H G1 H1 : Hp} {p : Addr} {o : HO} (a : Grow M G H G1 H1) (h : H1 p = none) (hm : ∀ c, M c → H1 c ≠ none) : Grow M G H (upd G1 p o) (upd H1 p o) :=
  (a.cell h).pub upd_same (a.gh.free h) (by
    cases e : H p with
    | none => rfl
    | some x => exact absurd h (a.h.some hm (by rw [e]; simp)))
theorem Grow.none {M : Addr → Prop} {G H G1 H1 : Hp} {p : Addr} (a : Grow M G H G1 H1) (hg : G p = .none) (h : H p ≠ .none) : G1 p = .none := by
  rw [a.old p h]
  exact hg
theorem noM {P : Addr → Prop} : ∀ c, NoM c → P c := fun _ h => h.elim

theorem only1 {d : Addr} : Only1 d d := rfl

end My
namespace L2
open PySem
/-! ### data -/
theorem same_rd {H H' : Hp} {a : Addr} {u : HO} (e : Same H H') (h : Rd H a u) : Rd H' a u := by
  rcases h with h | ⟨o, h⟩
  · exact Or.inl (e a _ h)
  · exact Or.inr ⟨o, e a _ h⟩
theorem same_l {K : PySem.W.Frag} {H H' : Hp} {a : Addr} {xs : List V} (e : Same H H') (h : SqL K H a xs) : SqL K H' a xs := by
  rcases h with h | h
  · exact Or.inl (same_rd e h)
  · exact Or.inr h
theorem same_t {K : PySem.W.Frag} {H H' : Hp} {a : Addr} {xs : List V} (e : Same H H') (h : SqT K H a xs) : SqT K H' a xs := by
  rcases h with h | h
  · exact Or.inl (same_rd e h)
  · exact Or.inr h
mutual
theorem Dp.mono {K : PySem.W.Frag} {H H' : Hp} (e : Same H H') : ∀ {d : PyData} {v : V}, Dp K H v d → Dp K H' v d
  | _, _, .non => .non
  | _, _, .bl b => .bl b
  | _, _, .int i => .int i
  | _, _, .str x => .str x
  | _, _, .lst h a => .lst (same_l e h) (DpAll.mono e a)
  | _, _, .tup h a => .tup (same_t e h) (DpAll.mono e a)
theorem DpAll.mono {K : PySem.W.Frag} {H H' : Hp} (e : Same H H') : ∀ {ds : List PyData} {vs : List V}, DpAll K H vs ds → DpAll K H' vs ds
  | _, _, .nil => .nil
  | _, _, .cons a b => .cons (Dp.mono e a) (DpAll.mono e b)
end
theorem DpAll.length {K : PySem.W.Frag} {H : Hp} : ∀ {ds : List PyData} {vs : List V}, DpAll K H vs ds → vs.length = ds.length
  | _, _, .nil => rfl
  | _, _, .cons _ b => by
    rw [List.length_cons, List.length_cons, DpAll.length b]
theorem DpAll.snoc {K : PySem.W.Frag} {H : Hp} {d : PyData} {v : V} : ∀ {ds : List PyData} {vs : List V}, DpAll K H vs ds → Dp K H v d → DpAll K H (vs ++ [v]) (ds ++ [d])
  | _, _, .nil, h => .cons h .nil
  | _, _, .cons a b, h => .cons a (DpAll.snoc b h)
theorem DpAll.get {K : PySem.W.Frag} {H : Hp} : ∀ {ds : List PyData} {vs : List V} {i : Nat} {v : V}, DpAll K H vs ds → vs[i]? = some v → ∃ d, ds[i]? = some d ∧ Dp K H v d
  | _, _, _, _, .nil, h => by simp at h
  | _, _, 0, _, .cons a _, h => by
    simp at h
    subst h
    exact ⟨_, rfl, a⟩
  | _, _, i + 1, _, .cons _ b, h => by
    obtain ⟨d, e, q⟩ := DpAll.get (i := i) b (by simpa using h)
    exact ⟨d, by simpa using e, q⟩
theorem DpAll.get' {K : PySem.W.Frag} {H : Hp} : ∀ {ds : List PyData} {vs : List V} {i : Nat} {d : PyData}, DpAll K H vs ds → ds[i]? = some d → ∃ v, vs[i]? = some v ∧ Dp K H v d
  | _, _, _, _, .nil, h => by simp at h
  | _, _, 0, _, .cons a _, h => by
    simp at h
    subst h
    exact ⟨_, rfl, a⟩
  | _, _, i + 1, _, .cons _ b, h => by
    obtain ⟨d, e, q⟩ := DpAll.get' (i := i) b (by simpa using h)
    exact ⟨d, by simpa using e, q⟩

end L2
namespace My
open PySem L2
/-! ### the draw -/
structure DrawAt (H : Hp) (d l : Addr) : Prop where
  ex : ∃ (ns : List Int) (p g s : Int), H d = some (.lst [.ref l, .int p, .int g, .int s]) ∧ H l = some (.lst (ns.map V.int)) ∧ 0 ≤ p ∧ 0 ≤ g ∧ 0 ≤ s ∧ s < 2147483647 ∧ ns.length ≤ 63
theorem DrawAt.some {H : Hp} {d l : Addr} (h : DrawAt H d l) : H d ≠ none := by
  obtain ⟨ns, p, g, s, e, _⟩ := h.ex
  rw [e]
  simp
theorem DrawAt.some' {H : Hp} {d l : Addr} (h : DrawAt H d l) : ∀ c, Only1 d c → H c ≠ none := fun c e => by
  rw [show c = d from e]
  exact h.some
theorem DrawAt.ned {H : Hp} {d l p : Addr} (h : DrawAt H d l) (e : H p = none) : p ≠ d := fun q => h.some (by rw [← q]; exact e)
theorem DrawAt.nel {H : Hp} {d l p : Addr} (h : DrawAt H d l) (e : H p = none) : p ≠ l := fun q => by
  obtain ⟨ns, p, g, s, _, e2, _⟩ := h.ex
  rw [← q, e] at e2
  cases e2
theorem DrawAt.mono {H H' : Hp} {d l : Addr} (h : DrawAt H d l) (e : Same H H') : DrawAt H' d l := by
  obtain ⟨ns, p, g, s, e1, e2, r⟩ := h.ex
  exact ⟨⟨ns, p, g, s, e _ _ e1, e _ _ e2, r⟩⟩
theorem DrawAt.upd {H : Hp} {d l p : Addr} {o : HO} (h : DrawAt H d l) (e : H p = none) : DrawAt (upd H p o) d l := h.mono (same_upd e)
theorem DrawAt.put {H : Hp} {d l p : Addr} {o : HO} (h : DrawAt H d l) (hd : p ≠ d) (hl : p ≠ l) : DrawAt (L2.upd H p o) d l := by
  obtain ⟨ns, p', g, s, e1, e2, r⟩ := h.ex
  exact ⟨⟨ns, p', g, s, by rw [upd_ne hd.symm]; exact e1, by rw [upd_ne hl.symm]; exact e2, r⟩⟩
theorem log_small {n : Int} {k : Nat} (h0 : 0 < n) (h : n < 2 ^ k) (hk : k ≤ 9000) (k0 : 0 < k) : CDivW 0 n := by
  refine wide_div (i := 0) h0 (b := k) ?_ k0 hk
  have : ((n.natAbs : Nat) : Int) < ((2 ^ k : Nat) : Int) := by
    rw [Int.natAbs_of_nonneg (by omega)]
    simpa using h
  exact_mod_cast this
end My
namespace My
open PySem L2
/-! ### types and depth of data -/
def tyN : PyData → String
  | .none => "NoneType"
  | .bool _ => "bool"
  | .int _ => "int"
  | .str _ => "str"
  | .list _ => "list"
  | .tuple _ => "tuple"
  | .dict _ => "dict"
abbrev tyD (d : PyData) : Value := .type (tyN d)
theorem sql_ty {K : PySem.W.Frag} {H : Hp} {a : Addr} {xs : List V} (h : SqL K H a xs) : TyX K H (.ref a) (.type "list") := by
  rcases h with (h | ⟨o, h⟩) | ⟨o, its, n, h, c, _⟩
  · exact .base (.lst h)
  · exact .base (.frz h)
  · exact .kList h c
theorem sqt_ty {K : PySem.W.Frag} {H : Hp} {a : Addr} {xs : List V} (h : SqT K H a xs) : TyX K H (.ref a) (.type "tuple") := by
  rcases h with (h | ⟨o, h⟩) | ⟨o, its, n, h, c, _⟩
  · exact .base (.tup h)
  · exact .fTuple h
  · exact .kTuple h c
theorem dp_ty {K : PySem.W.Frag} {H : Hp} {v : V} {d : PyData} (h : Dp K H v d) : TyX K H v (tyD d) := by
  cases h with
  | non => exact .base .non
  | bl b => exact .base (.bl b)
  | int i => exact .base (.int i)
  | str x => exact .base (.str x)
  | lst h _ => exact sql_ty h
  | tup h _ => exact sqt_ty h
mutual
def dep : PyData → Nat
  | .list ds => depAll ds + 1
  | .tuple ds => depAll ds + 1
  | _ => 0
def depAll : List PyData → Nat
  | [] => 0
  | d :: ds => max (dep d) (depAll ds)
end
theorem dep_get : ∀ {ds : List PyData} {i : Nat} {d : PyData}, ds[i]? = some d → dep d ≤ depAll ds
  | [], _, _, h => by simp at h
  | x :: r, 0, d, h => by
    have e : x = d := by simpa using h
    rw [e, depAll]
    omega
  | x :: r, i + 1, d, h => by
    have q := dep_get (ds := r) (i := i) (d := d) (by simpa using h)
    rw [depAll]
    omega
mutual
def wid : PyData → Nat
  | .list ds => max ds.length (widAll ds)
  | .tuple ds => max ds.length (widAll ds)
  | _ => 0
def widAll : List PyData → Nat
  | [] => 0
  | d :: ds => max (wid d) (widAll ds)
end
theorem wid_get : ∀ {ds : List PyData} {i : Nat} {d : PyData}, ds[i]? = some d → wid d ≤ widAll ds
  | [], _, _, h => by simp at h
  | x :: r, 0, d, h => by
    have e : x = d := by simpa using h
    rw [e, widAll]
    omega
  | x :: r, i + 1, d, h => by
    have q := wid_get (ds := r) (i := i) (d := d) (by simpa using h)
    rw [widAll]
    omega
theorem kit2 {K : PySem.W.Frag} {t : Value} {a b : String} {r s : Bool} (h1 : PySem.W.kitOne K t (.type a) = some r) (h2 : PySem.W.kitOne K t (.type b) = some s) : PySem.W.kitAny K t [.type a, .type b] = some (r || s) := by
  refine kitAny_cons h1 (fun e => ?_) (fun e => by rw [e]; rfl)
  rw [e]
  refine kitAny_cons h2 (fun e => ?_) (fun e => by rw [e]; rfl)
  rw [e]
  exact kitAny_nil
/-- is a list, is a tuple, .. -/
def isTn (s t : String) : Bool := t == s || (t == "bool" && s == "int")
abbrev isTy (s : String) (d : PyData) : Bool := isTn s (tyN d)
theorem kit_n {K : PySem.W.Frag} (a b : String) (h : kitB a b = some (isTn b a)) : PySem.W.kitOne K (.type a) (.type b) = some (isTn b a) := kit_ty h
theorem kit_d {K : PySem.W.Frag} (d : PyData) : PySem.W.kitOne K (tyD d) (.type "list") = some (isTy "list" d) ∧ PySem.W.kitOne K (tyD d) (.type "tuple") = some (isTy "tuple" d) ∧
    PySem.W.kitOne K (tyD d) (.type "bool") = some (isTy "bool" d) ∧ PySem.W.kitOne K (tyD d) (.type "int") = some (isTy "int" d) ∧ PySem.W.kitOne K (tyD d) (.type "str") = some (isTy "str" d) := by
  cases d with
  | none => exact ⟨kit_n "NoneType" "list" (by decide +kernel), kit_n "NoneType" "tuple" (by decide +kernel), kit_n "NoneType" "bool" (by decide +kernel), kit_n "NoneType" "int" (by decide +kernel), kit_n "NoneType" "str" (by decide +kernel)⟩
  | bool _ => exact ⟨kit_n "bool" "list" (by decide +kernel), kit_n "bool" "tuple" (by decide +kernel), kit_n "bool" "bool" (by decide +kernel), kit_n "bool" "int" (by decide +kernel), kit_n "bool" "str" (by decide +kernel)⟩
  | int _ => exact ⟨kit_n "int" "list" (by decide +kernel), kit_n "int" "tuple" (by decide +kernel), kit_n "int" "bool" (by decide +kernel), kit_n "int" "int" (by decide +kernel), kit_n "int" "str" (by decide +kernel)⟩
  | str _ => exact ⟨kit_n "str" "list" (by decide +kernel), kit_n "str" "tuple" (by decide +kernel), kit_n "str" "bool" (by decide +kernel), kit_n "str" "int" (by decide +kernel), kit_n "str" "str" (by decide +kernel)⟩
  | list _ => exact ⟨kit_n "list" "list" (by decide +kernel), kit_n "list" "tuple" (by decide +kernel), kit_n "list" "bool" (by decide +kernel), kit_n "list" "int" (by decide +kernel), kit_n "list" "str" (by decide +kernel)⟩
  | tuple _ => exact ⟨kit_n "tuple" "list" (by decide +kernel), kit_n "tuple" "tuple" (by decide +kernel), kit_n "tuple" "bool" (by decide +kernel), kit_n "tuple" "int" (by decide +kernel), kit_n "tuple" "str" (by decide +kernel)⟩
  | dict _ => exact ⟨kit_n "dict" "list" (by decide +kernel), kit_n "dict" "tuple" (by decide +kernel), kit_n "dict" "bool" (by decide +kernel), kit_n "dict" "int" (by decide +kernel), kit_n "dict" "str" (by decide +kernel)⟩
abbrev clsLT : List V := [.ty "list", .ty "tuple"]
theorem pairLT : Paired ClsV clsLT [.type "list", .type "tuple"] := .cons (.ty _) (.cons (.ty _) .nil)
theorem walk_zipT {K : PySem.W.Frag} {a b : Addr} {xs ys : List V} {n : Nat} (hn : n = min xs.length ys.length) : Walk (RZ.ItzT K a b) n (fun H => SqT K H a xs ∧ SqT K H b ys) (YPair (fun i => xs[i]?) (fun i => ys[i]?)) := by
  subst hn
  refine ⟨fun i _ hi q => ?_, fun _ q => ⟨xs, ys, q.1, q.2, by omega⟩, fun i H v H' _ q y => ?_⟩
  · have h1 : i < xs.length := by omega
    have h2 : i < ys.length := by omega
    exact ⟨xs, ys, xs[i], ys[i], q.1, q.2, by simp [h1], by simp [h2]⟩
  · obtain ⟨T, x, z, h1, h2, h3, h4, h5⟩ := y
    exact ⟨T, x, z, h1, h2, h3, h4 xs q.1, h5 ys q.2⟩
theorem but_l {K : PySem.W.Frag} {M : Addr → Prop} {H H' : Hp} {a : Addr} {xs : List V} (e : But M H H') (n : ¬ M a) (h : SqL K H a xs) : SqL K H' a xs := by
  rcases h with (h | ⟨o, h⟩) | h
  · exact Or.inl (Or.inl (e a _ h n))
  · exact Or.inl (Or.inr ⟨o, e a _ h n⟩)
  · exact Or.inr h
theorem but_t {K : PySem.W.Frag} {M : Addr → Prop} {H H' : Hp} {a : Addr} {xs : List V} (e : But M H H') (n : ¬ M a) (h : SqT K H a xs) : SqT K H' a xs := by
  rcases h with (h | ⟨o, h⟩) | h
  · exact Or.inl (Or.inl (e a _ h n))
  · exact Or.inl (Or.inr ⟨o, e a _ h n⟩)
  · exact Or.inr h
end My
namespace My
open PySem L2
/-- [f sign for sign in text] -/
theorem lc_sign {te tz : TE} {σ : L2.St} {H : Hp} {Q : VK} {j : Nat} (z : Str) (f : Nat → Bool) (hz : z.length ≤ 100000) (hv : ∀ Q' : VK, Q' (.str z) H → tz σ H Q')
    (hw : ∀ x : V, wipe ((wipe σ [j]).set j (some x)) [j] = wipe σ [j]) (hs : ∀ (c : Nat) (H' : Hp) (Q' : VK), Q' (.bl (f c)) H' → te ((wipe σ [j]).set j (some (.str ⟨#[c]⟩))) H' Q')
    (k : ∀ (D : Addr) (H' : Hp), Same H H' → H D = none → H' D = some (.lst ((z.cps.toList.map f).map V.bl)) → Q (.ref D) H') : tLc (iStr tz) (gName j) tYes te [j] σ H Q := by
  refine hv _ ⟨z, rfl, fun D hD => ?_⟩
  refine lc_it walk_str (fun i H' => Same H H' ∧ H' D = some (.lst (((z.cps.toList.take i).map f).map V.bl))) ⟨same_upd hD, upd_same⟩ (fun _ _ _ _ => trivial) ?_ ?_
  · rintro i x H1 H2 hi ⟨sm, eD⟩ ⟨rfl, c, hc, rfl⟩
    refine ⟨hw _, ?_⟩
    refine hs c H2 _ ⟨_, eD, ?_, ?_, ?_⟩
    · rw [List.length_map, List.length_map, List.length_take]
      have : i < 100000 := Nat.lt_of_lt_of_le hi hz
      exact Nat.lt_of_le_of_lt (Nat.min_le_left _ _) (Nat.lt_of_lt_of_le this (by decide))
    · intro b o e
      rw [upd_ne (ne_of_none e hD)]
      exact sm b o e
    · rw [upd_same, List.take_add_one]
      have e : z.cps.toList[i]? = some c := by
        rw [Array.getElem?_toList]
        exact hc
      rw [e]
      simp
  · rintro H' ⟨sm, eD⟩
    refine k D H' sm hD ?_
    rw [eD, List.take_of_length_le (by rw [Array.length_toList]; exact Nat.le_refl _)]
theorem list_all_map {α : Type} (f : α → Bool) (l : List α) : (l.map f).all id = l.all f := by
  rw [List.all_map]
  rfl
end My
namespace My
open PySem L2
section
variable {X : Cx}
theorem iop_mulW : OpR X (inplaceOp .Mult) (rI CMulW fun i j => .int (i * j)) := opI fun _ _ _ _ _ _ _ hc q => PyProof.Rows.imul_int q hc.ok
theorem ip_mulW : PIp X .Mult (rI CMulW fun i j => .int (i * j)) := fun pins s σ H x y v u Q I rx ry h => iop_mulW pins s σ H x y v u Q I rx ry h
theorem ip_fdivW : PIp X .FloorDiv (rI CDivW fun i j => .int (i / j)) := fun pins s σ H x y v u Q I rx ry h => iop_fdivW pins s σ H x y v u Q I rx ry h
end
theorem pow_lt {b : Int} {m : Nat} (h : b.natAbs < 2 ^ m) : ∀ i : Nat, (b ^ i).natAbs < 2 ^ (m * i + 1)
  | 0 => by
    rw [Int.pow_zero, Nat.mul_zero]
    decide
  | i + 1 => by
    have q := pow_lt h i
    rw [Int.pow_succ]
    have e : m * (i + 1) + 1 = (m * i + 1) + m := by rw [Nat.mul_succ]; omega
    rw [e]
    exact wide_lt q h
/-- base, power: the power, by a product for each turn -/
def spRaised : Sp := fun vs H Q _ => ∃ (b : Int) (p m : Nat), vs = [.int b, .int p] ∧ b.natAbs < 2 ^ m ∧ 0 < m ∧ m * (p + 1) ≤ 900000 ∧ Q (.int (b ^ p)) H
theorem raised_ok {b : Int} {m p i : Nat} (h : b.natAbs < 2 ^ m) (h0 : 0 < m) (h1 : m * (p + 1) ≤ 900000) (hi : i < p) : CMulW (b ^ i) b := by
  have e1 : m * i + m ≤ m * (p + 1) := by
    rw [← Nat.mul_succ]
    exact Nat.mul_le_mul_left _ (by omega)
  exact wide_mul (pow_lt h i) h (by omega) h0 (by omega)
theorem raised_small {m p : Nat} (h0 : 0 < m) (h1 : m * (p + 1) ≤ 900000) : p < 900000 := by
  have : 1 * (p + 1) ≤ m * (p + 1) := Nat.mul_le_mul_right _ h0
  omega
end My
namespace My
open PySem L2
/-- a comprehension whose turns leave all that stood as it was: the values f i -/
theorem lc_pure {J : It} {n : Nat} {G : Hp → Prop} {Y : Nat → Hp → V → Hp → Prop} (w : Walk J n G Y) {g : TG} {te : TE} {vs : List Nat} {σ : L2.St} {H : Hp} {D : Addr} {Qd : Hp → Prop} (f : Nat → V) (hn : n ≤ 100000) (hD : H D = none) (hG : ∀ H', Same H H' → G H')
    (hs : ∀ (i : Nat) (x : V) (H1 H2 : Hp) (Q' : VK), i < n → Same H H1 → Y i H1 x H2 → (∀ H4, Same H1 H4 → Q' (f i) H4) → g x (wipe σ vs) H2 fun σ2 H3 => wipe σ2 vs = wipe σ vs ∧ te σ2 H3 Q')
    (k : ∀ H', Same H H' → H' D = some (.lst ((List.range n).map f)) → Qd H') :
    ∃ W : Nat → Nat → Hp → Prop, (∃ m, W 0 m (upd H D (.lst []))) ∧ ∀ i m H, W i m H →
      (J.stop i H ∧ Qd H) ∨ (J.go i H ∧ ∃ Nx : Hp → Prop, (∀ H', Nx H' → ∃ m', m' < m ∧ W (i + 1) m' H') ∧ ∀ x H', J.yld i H x H' → g x (wipe σ vs) H' fun σ2 H2 => wipe σ2 vs = wipe σ vs ∧ tYes σ2 H2 fun b H3 =>
        if b = true then te σ2 H3 fun y H4 => ∃ acc, H4 D = some (.lst acc) ∧ acc.length < sizeLine ∧ Nx (upd H4 D (.lst (acc ++ [y]))) else Nx H3) := by
  refine lc_it w (fun i H' => Same H H' ∧ H' D = some (.lst ((List.range i).map f))) ⟨same_upd hD, upd_same⟩ (fun i H' _ p => hG H' p.1) ?_ (fun H' p => k H' p.1 p.2)
  rintro i x H1 H2 hi ⟨sm, eD⟩ y
  refine hs i x H1 H2 _ hi sm y fun H4 s4 => ?_
  refine ⟨_, s4 _ _ eD, ?_, ?_, ?_⟩
  · rw [List.length_map, List.length_range]
    exact Nat.lt_of_lt_of_le hi (Nat.le_trans hn (by decide))
  · intro b o e
    rw [upd_ne (ne_of_none e hD)]
    exact s4 _ _ (sm b o e)
  · rw [upd_same, List.range_succ, List.map_append]
    rfl
/-- the draw's list and what was frozen -/
theorem Grow.draw {G H H' : Hp} {d : Addr} (sg : Same G H) (gd : G d = .none) (b : But (Only1 d) H H') : Grow (Only1 d) G H G H' :=
  ⟨Same.refl _, fun c o e => b c o (sg c o e) (fun q => by
    rw [show c = d from q, gd] at e
    cases e), b, fun _ _ => rfl⟩
end My
namespace My
open PySem L2
/-! ### growths: the mathematics -/
/-- how often b goes into n (at most f times) -/
def wp : Nat → Nat → Nat → Nat
  | 0, _, _ => 0
  | f + 1, n, b => if b ≤ n then wp f (n / b) b + 1 else 0
theorem wp_zero {f n b : Nat} (h : n < b) : wp f n b = 0 := by
  cases f with
  | zero => rfl
  | succ f =>
    unfold wp
    rw [if_neg (by omega)]
theorem wp_step {f n b : Nat} (h : b ≤ n) : wp (f + 1) n b = wp f (n / b) b + 1 := by
  rw [wp, if_pos h]
theorem half_lt {n b f : Nat} (hb : 2 ≤ b) (h : n < 2 ^ (f + 1)) : n / b < 2 ^ f := by
  have h1 : n / b ≤ n / 2 := Nat.div_le_div_left hb (by decide)
  rw [Nat.pow_succ] at h
  omega
abbrev Gr := Option (Nat × Nat × Nat)
def prs : List (Nat × Nat) := [(1, 2), (2, 3), (2, 2), (4, 3), (5, 3), (3, 2), (6, 3), (7, 3), (8, 3), (4, 2), (5, 2), (6, 2), (7, 2), (8, 2), (9, 2), (16, 2), (32, 2), (64, 2), (128, 2), (256, 2), (512, 2)]
def rkIn : List (Nat × Nat) → Nat × Nat → Nat → Nat
  | [], _, k => k
  | q :: r, p, k => if p = q then k else rkIn r p (k + 1)
def rk (p : Nat × Nat) : Nat := rkIn prs p 0
/-- the first power at which the whole roots are unlike -/
def fd (t b t' b' : Nat) : Nat → Nat → Option Int
  | _, 0 => none
  | p, k + 1 => if wp 600 (t ^ p) b = wp 600 (t' ^ p) b' then fd t b t' b' (p + 1) k else some (if wp 600 (t' ^ p) b' < wp 600 (t ^ p) b then 1 else -1)
def coreP (t b t' b' : Nat) : Option Int := if t = t' ∧ b = b' then none else if b = b' then some (if t' < t then 1 else -1) else fd t b t' b' 1 60
def coreL (t b t' b' : Nat) : Option Int := if t = t' ∧ b = b' then none else fd t b t' b' 1 60
def coreR (t b t' b' : Nat) : Option Int := if rk (t, b) = rk (t', b') then none else some (if rk (t', b') < rk (t, b) then 1 else -1)
theorem core_all : (prs.all fun x => prs.all fun y => decide (coreP x.1 x.2 y.1 y.2 = coreR x.1 x.2 y.1 y.2) && decide (coreL x.1 x.2 y.1 y.2 = coreR x.1 x.2 y.1 y.2)) = true := by decide +kernel
theorem core_eq {t b t' b' : Nat} (h : (t, b) ∈ prs) (h' : (t', b') ∈ prs) : coreP t b t' b' = coreR t b t' b' ∧ coreL t b t' b' = coreR t b t' b' := by
  have q := List.all_eq_true.mp (List.all_eq_true.mp core_all _ h) _ h'
  rw [Bool.and_eq_true] at q
  exact ⟨of_decide_eq_true q.1, of_decide_eq_true q.2⟩
theorem prs_small {t b : Nat} (h : (t, b) ∈ prs) : t ≤ 512 ∧ 2 ≤ b ∧ b ≤ 3 := by
  have q : ∀ x ∈ prs, x.1 ≤ 512 ∧ 2 ≤ x.2 ∧ x.2 ≤ 3 := by decide
  exact q _ h
theorem pow_small {t p : Nat} (h : t ≤ 512) (hp : p ≤ 60) : t ^ p < 2 ^ 600 := by
  have h1 : t ^ p ≤ 512 ^ p := Nat.pow_le_pow_left h p
  have h2 : 512 ^ p ≤ 512 ^ 60 := Nat.pow_le_pow_right (by decide) hp
  have h3 : (512 : Nat) ^ 60 < 2 ^ 600 := by decide
  omega
def sg (f f' : Nat) : Int := if f' < f then 1 else if f < f' then -1 else 0
/-- the order of growths -/
def cmpG : Gr → Gr → Int
  | none, none => 0
  | none, some _ => -1
  | some _, none => 1
  | some (t, b, f), some (t', b', f') => match coreR t b t' b' with
    | some r => r
    | none => sg f f'
theorem cmpG_some (t b f t' b' f' : Nat) : cmpG (some (t, b, f)) (some (t', b', f')) = (coreR t b t' b').getD (sg f f') := by
  show (match coreR t b t' b' with
    | some r => r
    | none => sg f f') = _
  cases coreR t b t' b' <;> rfl
theorem cmpG_anti (x y : Gr) : cmpG x y = 0 - cmpG y x := by
  match x, y with
  | none, none => rfl
  | none, some _ => rfl
  | some _, none => rfl
  | some (t, b, f), some (t', b', f') =>
    unfold cmpG coreR sg
    by_cases h : rk (t, b) = rk (t', b')
    · simp only [if_pos h, if_pos h.symm]
      split <;> split <;> omega
    · simp only [if_neg h, if_neg (Ne.symm h)]
      split <;> split <;> omega
theorem cmpG_ge (t b f t' b' f' : Nat) : 0 ≤ cmpG (some (t, b, f)) (some (t', b', f')) ↔ rk (t', b') < rk (t, b) ∨ (rk (t, b) = rk (t', b') ∧ f' ≤ f) := by
  unfold cmpG coreR sg
  by_cases h : rk (t, b) = rk (t', b')
  · simp only [if_pos h]
    split
    · omega
    · split <;> omega
  · simp only [if_neg h]
    split <;> omega
theorem cmpG_lt (t b f t' b' f' : Nat) : cmpG (some (t, b, f)) (some (t', b', f')) < 0 ↔ ¬ (rk (t', b') < rk (t, b) ∨ (rk (t, b) = rk (t', b') ∧ f' ≤ f)) := by
  rw [← cmpG_ge t b f t' b' f']
  omega
theorem cmpG_trans (x y z : Gr) (h : 0 ≤ cmpG x y) : cmpG y z < 0 ∨ 0 ≤ cmpG x z := by
  match x, y, z with
  | none, none, z => omega
  | none, some _, _ => exact absurd (show (0 : Int) ≤ -1 from h) (by decide)
  | some _, none, none => exact .inr (show (0 : Int) ≤ 1 by decide)
  | some _, none, some _ => exact .inl (show (-1 : Int) < 0 by decide)
  | some _, some _, none => exact .inr (show (0 : Int) ≤ 1 by decide)
  | some (t, b, f), some (t', b', f'), some (t'', b'', f'') =>
    rw [cmpG_ge] at h
    rw [cmpG_lt, cmpG_ge]
    omega
/-- a growth as data -/
def gD : Gr → PyData
  | none => .none
  | some (t, b, f) => .tuple [.int t, .int b, .int f]
def GOk : Gr → Prop
  | none => True
  | some (t, b, f) => (t, b) ∈ prs ∧ f ≤ 1000
/-- a growth as a value -/
def GAt (K : PySem.W.Frag) (H : Hp) (x : V) : Gr → Prop
  | none => x = .non
  | some (t, b, f) => ∃ a, x = .ref a ∧ SqT K H a [.int (t : Nat), .int (b : Nat), .int (f : Nat)]
theorem GAt.mono {K : PySem.W.Frag} {H H' : Hp} {x : V} {g : Gr} (e : Same H H') (h : GAt K H x g) : GAt K H' x g := by
  match g, h with
  | none, h => exact h
  | some (t, b, f), ⟨a, e1, e2⟩ => exact ⟨a, e1, same_t e e2⟩
theorem eqv_pair (a b c d : Int) : PyData.eqv (.tuple [.int a, .int b]) (.tuple [.int c, .int d]) = (decide (a = c) && decide (b = d)) := by
  simp [PyData.eqv, PyData.eqvAll]
  rfl
end My
namespace My
open PySem L2
def topS (i : Nat) : Stmt := PySem.Challenge.pw_outgrow_k15_whole_growths_are_ordered.main.body.getD i (.Pass ⟨0, 0, 0, 0⟩)
abbrev s_law_begin : Stmt := topS 9
abbrev N_law_begin : List Str := ["_law_script"]
theorem sc_law_begin : FnScope N_law_begin ["_law_script"] (defScope s_law_begin) := ⟨rfl, rfl, rfl, by decide +kernel, rfl, by decide +kernel, by decide +kernel⟩
abbrev s_law_take : Stmt := topS 10
abbrev N_law_take : List Str := ["_law_draw", "_law_sides", "_law_cell", "_law_got"]
theorem sc_law_take : FnScope N_law_take ["_law_draw", "_law_sides"] (defScope s_law_take) := ⟨rfl, rfl, rfl, by decide +kernel, rfl, by decide +kernel, by decide +kernel⟩
abbrev s_law_pick : Stmt := topS 12
abbrev N_law_pick : List Str := ["_law_draw", "_law_row"]
theorem sc_law_pick : FnScope N_law_pick ["_law_draw", "_law_row"] (defScope s_law_pick) := ⟨rfl, rfl, rfl, by decide +kernel, rfl, by decide +kernel, by decide +kernel⟩
abbrev s_law_raised : Stmt := topS 11
abbrev N_law_raised : List Str := ["_law_part", "_law_upto", "_law_found", "_law_k"]
theorem sc_law_raised : FnScope N_law_raised ["_law_part", "_law_upto"] (defScope s_law_raised) := ⟨rfl, rfl, rfl, by decide +kernel, rfl, by decide +kernel, by decide +kernel⟩
abbrev s_law_drawn_growth : Stmt := topS 13
abbrev N_law_drawn_growth : List Str := ["_law_draw", "_law_fork", "_law_figures"]
theorem sc_law_drawn_growth : FnScope N_law_drawn_growth ["_law_draw"] (defScope s_law_drawn_growth) := ⟨rfl, rfl, rfl, by decide +kernel, rfl, by decide +kernel, by decide +kernel⟩
abbrev s_whole_power : Stmt := topS 4
abbrev N_whole_power : List Str := ["number", "base", "found"]
theorem sc_whole_power : FnScope N_whole_power ["number", "base"] (defScope s_whole_power) := ⟨rfl, rfl, rfl, by decide +kernel, rfl, by decide +kernel, by decide +kernel⟩
abbrev s_raised : Stmt := topS 1
abbrev N_raised : List Str := ["base", "power", "found", "turn"]
theorem sc_raised : FnScope N_raised ["base", "power"] (defScope s_raised) := ⟨rfl, rfl, rfl, by decide +kernel, rfl, by decide +kernel, by decide +kernel⟩
abbrev s_order_of : Stmt := topS 5
abbrev N_order_of : List Str := ["one", "other", "power", "here", "there"]
theorem sc_order_of : FnScope N_order_of ["one", "other"] (defScope s_order_of) := ⟨rfl, rfl, rfl, by decide +kernel, rfl, by decide +kernel, by decide +kernel⟩
abbrev s_greater_growth : Stmt := topS 7
abbrev N_greater_growth : List Str := ["one", "other"]
theorem sc_greater_growth : FnScope N_greater_growth ["one", "other"] (defScope s_greater_growth) := ⟨rfl, rfl, rfl, by decide +kernel, rfl, by decide +kernel, by decide +kernel⟩
abbrev s_law_same : Stmt := topS 14
abbrev N_law_same : List Str := ["_law_found", "_law_due", "_law_one", "_law_other"]
theorem sc_law_same : FnScope N_law_same ["_law_found", "_law_due"] (defScope s_law_same) := ⟨rfl, rfl, rfl, by decide +kernel, rfl, by decide +kernel, by decide +kernel⟩
abbrev s_law_signum : Stmt := topS 15
abbrev N_law_signum : List Str := ["_law_number"]
theorem sc_law_signum : FnScope N_law_signum ["_law_number"] (defScope s_law_signum) := ⟨rfl, rfl, rfl, by decide +kernel, rfl, by decide +kernel, by decide +kernel⟩
abbrev s_law_whole_root : Stmt := topS 16
abbrev N_law_whole_root : List Str := ["_law_times_of", "_law_by_it", "_law_upto", "_law_found", "_law_number"]
theorem sc_law_whole_root : FnScope N_law_whole_root ["_law_times_of", "_law_by_it", "_law_upto"] (defScope s_law_whole_root) := ⟨rfl, rfl, rfl, by decide +kernel, rfl, by decide +kernel, by decide +kernel⟩
abbrev s_law_greater : Stmt := topS 17
abbrev N_law_greater : List Str := ["_law_one", "_law_other", "_law_upto", "_law_far"]
theorem sc_law_greater : FnScope N_law_greater ["_law_one", "_law_other"] (defScope s_law_greater) := ⟨rfl, rfl, rfl, by decide +kernel, rfl, by decide +kernel, by decide +kernel⟩
abbrev s_law : Stmt := topS 18
abbrev N_law : List Str := ["_law_script", "_law_draw", "_law_turn", "_law_some", "_law_marks", "_law_one", "_law_row", "_law_a", "_law_b", "_law_k", "_law_other", "_law_c"]
theorem sc_law : FnScope N_law ["_law_script"] (defScope s_law) := ⟨rfl, rfl, rfl, by decide +kernel, rfl, by decide +kernel, by decide +kernel⟩
structure Txt (K : PySem.W.Frag) (mg : Str → Option Value) : Type where
  a_law_begin : Addr
  d_law_begin : FuncData
  F_law_begin : Fun K "_law_begin" "_law_begin" s_law_begin a_law_begin d_law_begin
  b_law_begin : Binds K d_law_begin ["_law_script"] []
  g_law_begin : mg "_law_begin" = some (.ref a_law_begin)
  a_law_take : Addr
  d_law_take : FuncData
  F_law_take : Fun K "_law_take" "_law_take" s_law_take a_law_take d_law_take
  b_law_take : Binds K d_law_take ["_law_draw", "_law_sides"] []
  g_law_take : mg "_law_take" = some (.ref a_law_take)
  a_law_pick : Addr
  d_law_pick : FuncData
  F_law_pick : Fun K "_law_pick" "_law_pick" s_law_pick a_law_pick d_law_pick
  b_law_pick : Binds K d_law_pick ["_law_draw", "_law_row"] []
  g_law_pick : mg "_law_pick" = some (.ref a_law_pick)
  a_law_raised : Addr
  d_law_raised : FuncData
  F_law_raised : Fun K "_law_raised" "_law_raised" s_law_raised a_law_raised d_law_raised
  b_law_raised : Binds K d_law_raised ["_law_part", "_law_upto"] []
  g_law_raised : mg "_law_raised" = some (.ref a_law_raised)
  a_law_drawn_growth : Addr
  d_law_drawn_growth : FuncData
  F_law_drawn_growth : Fun K "_law_drawn_growth" "_law_drawn_growth" s_law_drawn_growth a_law_drawn_growth d_law_drawn_growth
  b_law_drawn_growth : Binds K d_law_drawn_growth ["_law_draw"] []
  g_law_drawn_growth : mg "_law_drawn_growth" = some (.ref a_law_drawn_growth)
  a_whole_power : Addr
  d_whole_power : FuncData
  F_whole_power : Fun K "whole_power" "whole_power" s_whole_power a_whole_power d_whole_power
  b_whole_power : Binds K d_whole_power ["number", "base"] []
  g_whole_power : mg "whole_power" = some (.ref a_whole_power)
  a_raised : Addr
  d_raised : FuncData
  F_raised : Fun K "raised" "raised" s_raised a_raised d_raised
  b_raised : Binds K d_raised ["base", "power"] []
  g_raised : mg "raised" = some (.ref a_raised)
  a_order_of : Addr
  d_order_of : FuncData
  F_order_of : Fun K "order_of" "order_of" s_order_of a_order_of d_order_of
  b_order_of : Binds K d_order_of ["one", "other"] []
  g_order_of : mg "order_of" = some (.ref a_order_of)
  a_greater_growth : Addr
  d_greater_growth : FuncData
  F_greater_growth : Fun K "greater_growth" "greater_growth" s_greater_growth a_greater_growth d_greater_growth
  b_greater_growth : Binds K d_greater_growth ["one", "other"] []
  g_greater_growth : mg "greater_growth" = some (.ref a_greater_growth)
  a_law_same : Addr
  d_law_same : FuncData
  F_law_same : Fun K "_law_same" "_law_same" s_law_same a_law_same d_law_same
  b_law_same : Binds K d_law_same ["_law_found", "_law_due"] []
  g_law_same : mg "_law_same" = some (.ref a_law_same)
  a_law_signum : Addr
  d_law_signum : FuncData
  F_law_signum : Fun K "_law_signum" "_law_signum" s_law_signum a_law_signum d_law_signum
  b_law_signum : Binds K d_law_signum ["_law_number"] []
  g_law_signum : mg "_law_signum" = some (.ref a_law_signum)
  a_law_whole_root : Addr
  d_law_whole_root : FuncData
  F_law_whole_root : Fun K "_law_whole_root" "_law_whole_root" s_law_whole_root a_law_whole_root d_law_whole_root
  b_law_whole_root : Binds K d_law_whole_root ["_law_times_of", "_law_by_it", "_law_upto"] []
  g_law_whole_root : mg "_law_whole_root" = some (.ref a_law_whole_root)
  a_law_greater : Addr
  d_law_greater : FuncData
  F_law_greater : Fun K "_law_greater" "_law_greater" s_law_greater a_law_greater d_law_greater
  b_law_greater : Binds K d_law_greater ["_law_one", "_law_other"] []
  g_law_greater : mg "_law_greater" = some (.ref a_law_greater)
  a_law : Addr
  d_law : FuncData
  F_law : Fun K "law" "law" s_law a_law d_law
  b_law : Binds K d_law ["_law_script"] []
  g_law : mg "law" = some (.ref a_law)
  z_abs : mg "abs" = none
  z_all : mg "all" = none
  z_bool : mg "bool" = none
  z_int : mg "int" = none
  z_isinstance : mg "isinstance" = none
  z_len : mg "len" = none
  z_list : mg "list" = none
  z_range : mg "range" = none
  z_str : mg "str" = none
  z_tuple : mg "tuple" = none
  z_zip : mg "zip" = none
  u_TRIES : Value
  m_TRIES : mg "TRIES" = some u_TRIES
  r_TRIES : RelV (.int 60) u_TRIES
section
variable {P : Program} {w : World} {K : PySem.W.Frag} {mg : Str → Option Value} {base : Heap}
/-- a fresh draw -/
def spBegin (K : PySem.W.Frag) : Sp := fun vs H Q _ => ∃ (a : Addr) (ns : List Int), vs = [.ref a] ∧ SqL K H a (ns.map V.int) ∧ ns.length ≤ 63 ∧
  ∀ d l H', H d = none → H l = none → Same H H' → DrawAt H' d l → Q (.ref d) H'
theorem ok_law_begin (T : Txt K mg) : FnOk P w K mg base CX0 1 T.a_law_begin T.d_law_begin ["_law_script"] (spBegin K) := by
  refine T.F_law_begin.ok sc_law_begin (fun vs H Q E h => ?_) (fun cdv A outer s H vs Q E hr h => ?_)
  · obtain ⟨a, ns, rfl, _⟩ := h
    rfl
  obtain ⟨a, ns, rfl, hS, hl, k⟩ := h
  refine ⟨_, (pss_one (ps_ret (pe_lst (pa_cons (pe_callTy call_list_of (by rfl) T.z_list (by decide +kernel) (pa_cons (pe_slice sl_list (pv 0) po_none (po_some pe_int)) pa_nil)) (pa_cons pe_int (pa_cons pe_int (pa_cons pe_int pa_nil))))))), ?_⟩
  refine ⟨.ref a, rfl, 63, rfl, a, _, rfl, hS, fun p hp => ?_⟩
  refine ⟨p, _, rfl, .inl (SqL.of upd_same), fun l hl2 => ?_⟩
  refine ⟨by show 4 ≤ sizeLine; decide, fun d hd => ?_⟩
  have s1 : Same H _ := (same_upd (o := .lst (cutV (ns.map V.int) none (some 63))) hp)
  have s2 := s1.trans (same_upd (o := .lst (cutV (ns.map V.int) none (some 63))) hl2)
  have s3 := s2.trans (same_upd (o := .lst [.ref l, .int 0, .int 0, .int 37]) hd)
  have nld : l ≠ d := fun e => by
    rw [← e, upd_same] at hd
    cases hd
  refine k d l _ (s2.free hd) (s1.free hl2) s3 ⟨⟨ns.take 63, 0, 0, 37, upd_same, ?_, by decide, by decide, by decide, by decide, ?_⟩⟩
  · rw [upd_ne nld, upd_same]
    have e : cutV (ns.map V.int) none (some 63) = (ns.take 63).map V.int := by
      unfold cutV
      rw [HT.sIx_none, show HT.sIx (ns.map V.int).length (ns.map V.int).length (some 63) = min 63 (ns.map V.int).length from HT.sIx_nat _ _ 63, List.drop_zero, Nat.sub_zero]
      rw [List.map_take, List.length_map, List.take_eq_take_iff]
      simp
    rw [e]
  · rw [List.length_take]
    omega
/-- a draw below n -/
def spTake : Sp := fun vs H Q _ => ∃ (d l : Addr) (n : Int), vs = [.ref d, .int n] ∧ DrawAt H d l ∧ 0 < n ∧ n < 2 ^ 200 ∧
  ∀ (r : Int) H', 0 ≤ r → r < n → DrawAt H' d l → But (Only1 d) H H' → Q (.int r) H'
theorem ok_law_take (T : Txt K mg) : FnOk P w K mg base CX0 1 T.a_law_take T.d_law_take ["_law_draw", "_law_sides"] spTake := by
  refine T.F_law_take.ok sc_law_take (fun vs H Q E h => ?_) (fun cdv A outer s H vs Q E hr h => ?_)
  · obtain ⟨d, l, n, rfl, _⟩ := h
    rfl
  obtain ⟨d, l, n, rfl, D, hn0, hn, k⟩ := h
  refine ⟨_, (C8.pss_cut (ps_if (PW.pt (pw_and (pt_cmpR op_lt (pe_ix ix_list (pv 0) pe_int (fun _ _ => rfl)) (pv 1) (nomark _)) (pw_and1 (pt_cmpR op_lt (pe_ix ix_list (pv 0) pe_int (fun _ _ => rfl)) (pe_callB call_len_seq (by rfl) T.z_len (by decide +kernel) (pa_cons (pe_ix ix_list (pv 0) pe_int (fun _ _ => rfl)) pa_nil)) (nomark _))))) (pss_cons (ps_set (i := 2) sc_law_take.nd rfl (Or.inl rfl) (pe_ix ix_list (pe_ix ix_list (pv 0) pe_int (fun _ _ => rfl)) (pe_ix ix_list (pv 0) pe_int (fun _ _ => rfl)) (fun _ _ => rfl)))
      (pss_cons (ps_asg (pe_op op_add (pe_ix ix_list (pv 0) pe_int (fun _ _ => rfl)) pe_int) (pg_sub (pv 0) pe_int set_list))
      (pss_cons (ps_asg pe_int (pg_sub (pv 0) pe_int set_list))
      (pss_one (ps_if (pt_cmpR op_ge (pe_callB call_abs (by rfl) T.z_abs (by decide +kernel) (pa_cons (pv 2) pa_nil)) (pe_op op_pow pe_int pe_int) (nomark _)) (pss_one (ps_asg (pe_callB call_abs (by rfl) T.z_abs (by decide +kernel) (pa_cons (pv 2) pa_nil)) (pg_sub (pv 0) pe_int set_list))) (pss_one (ps_asg (pe_op op_mod (pe_op op_add (pe_op op_add (pe_op op_mul (pe_ix ix_list (pv 0) pe_int (fun _ _ => rfl)) pe_int) (pe_op op_mul (pe_op op_mod (pv 2) pe_int) pe_int)) pe_int) pe_int) (pg_sub (pv 0) pe_int set_list)))))))) pss_nil)
      (pss_cons (ps_if (pt_cmpR op_ge (pe_ix ix_list (pv 0) pe_int (fun _ _ => rfl)) (pv 1) (nomark _)) (pss_cons (ps_set (i := 3) sc_law_take.nd rfl (Or.inl rfl) (pe_op op_mod (pe_ix ix_list (pv 0) pe_int (fun _ _ => rfl)) (pv 1)))
      (pss_cons (ps_asg (pe_op op_fdivW (pe_ix ix_list (pv 0) pe_int (fun _ _ => rfl)) (pv 1)) (pg_sub (pv 0) pe_int set_list))
      (pss_one (ps_ret (pv 3))))) pss_nil)
      (pss_cons (ps_asg (pe_op op_mod (pe_op op_add (pe_op op_add (pe_op op_mul (pe_op op_mod (pe_op op_mul (pe_ix ix_list (pv 0) pe_int (fun _ _ => rfl)) (pe_ix ix_list (pv 0) pe_int (fun _ _ => rfl))) pe_int) pe_int) (pe_op op_mul (pe_ix ix_list (pv 0) pe_int (fun _ _ => rfl)) pe_int)) pe_int) pe_int) (pg_sub (pv 0) pe_int set_list))
      (pss_one (ps_ret (pe_op op_mod (pe_op op_add (pe_op op_fdivW (pe_ix ix_list (pv 0) pe_int (fun _ _ => rfl)) pe_int) (pe_op op_mul (pe_op op_mod (pe_ix ix_list (pv 0) pe_int (fun _ _ => rfl)) pe_int) pe_int)) (pv 1))))))), ?_⟩
  obtain ⟨ns, p, g, s, e1, e2, p0, g0, s0, s1, hl⟩ := D.ex
  have nld : l ≠ d := fun e => by
    rw [e, e1] at e2
    cases ns with
    | nil => cases e2
    | cons x r => cases e2
  have cw : CDivW 0 n := log_small hn0 hn (by decide) (by decide)
  refine ⟨fun σ' H' => ∃ c p g s, σ' = [some (.ref d), some (.int n), c, none] ∧ H' d = some (.lst [.ref l, .int p, .int g, .int s]) ∧ H' l = some (.lst (ns.map V.int)) ∧ 0 ≤ p ∧ 0 ≤ g ∧ 0 ≤ s ∧ s < 2147483647 ∧ But (Only1 d) H H', ?_, ?_⟩
  · refine ⟨_, rfl, d, _, 2, .int g, rfl, rfl, SqL.of e1, rfl, _, rfl, g, n, rfl, rfl, _, rfl, ?_⟩
    refine ite2 (fun c1 => ?_) (fun _ => ⟨_, p, g, s, rfl, e1, e2, p0, g0, s0, s1, But.refl _ _⟩)
    refine ⟨_, rfl, d, _, 1, .int p, rfl, rfl, SqL.of e1, rfl, _, rfl, d, _, 0, .ref l, rfl, rfl, SqL.of e1, rfl, l, _, rfl, .inl (SqL.of e2), p, _, rfl, rfl, _, rfl, ?_⟩
    refine ite2 (fun c2 => ?_) (fun _ => ⟨_, p, g, s, rfl, e1, e2, p0, g0, s0, s1, But.refl _ _⟩)
    have c2' : p < (((ns.map V.int).length : Nat) : Int) := of_decide_eq_true c2
    rw [List.length_map] at c2'
    obtain ⟨j, ej⟩ : ∃ j : Nat, p = (j : Int) := ⟨p.toNat, by omega⟩
    have hj : j < ns.length := by omega
    have ha : atI (ns.map V.int) p = some (.int ns[j]) := by
      rw [ej]
      exact atI_nat (by rw [List.getElem?_map, List.getElem?_eq_getElem hj]; rfl)
    -- cell = draw[0][draw[1]]
    refine ⟨_, rfl, d, _, 0, .ref l, rfl, rfl, SqL.of e1, rfl, _, rfl, d, _, 1, .int p, rfl, rfl, SqL.of e1, rfl, l, _, p, _, rfl, rfl, SqL.of e2, ha, ?_⟩
    generalize ns[j] = x
    -- draw[1] = draw[1] + 1; draw[2] = 0
    refine ⟨_, rfl, d, _, 1, .int p, rfl, rfl, SqL.of e1, rfl, p, 1, rfl, rfl, _, rfl, d, _, 1, 1, rfl, rfl, e1, rfl, ?_⟩
    refine ⟨_, rfl, d, _, 2, 2, rfl, rfl, upd_same, rfl, ?_⟩
    have b2 : ∀ o, But (Only1 d) H (upd (upd H d (.lst [.ref l, .int (p + 1), .int g, .int s])) d o) := fun o => ((But.refl _ _).put only1).put only1
    have e2' : ∀ o o', upd (upd H d o) d o' l = some (.lst (ns.map V.int)) := fun o o' => by
      rw [upd_ne nld, upd_ne nld]
      exact e2
    -- abs(cell) >= 10 ** 18
    refine ⟨_, rfl, x, rfl, 10, 18, rfl, rfl, ⟨by decide, by decide, by decide⟩, _, _, rfl, rfl, _, rfl, ?_⟩
    refine ite2 (fun _ => ?_) (fun _ => ?_)
    · refine ⟨_, rfl, x, rfl, _, rfl, d, _, 2, 2, rfl, rfl, upd_same, rfl, ?_⟩
      refine ⟨_, p + 1, _, s, rfl, upd_same, ?_, by omega, ?_, s0, s1, ((b2 _).put only1)⟩
      · rw [upd_ne nld]
        exact e2' _ _
      · split <;> omega
    · refine ⟨_, rfl, d, _, 3, .int s, rfl, rfl, SqL.of upd_same, rfl, s, 48271, rfl, rfl, .inr ⟨by decide, by decide⟩, _, rfl, x, 2147483629, rfl, rfl, (by show (0 : Int) < 2147483629; decide), _, 69621, rfl, rfl, .inr ⟨by decide, by decide⟩, _, _, rfl, rfl, _, 12345, rfl, rfl, _, 2147483647, rfl, rfl, (by show (0 : Int) < 2147483647; decide), _, rfl, d, _, 3, 3, rfl, rfl, upd_same, rfl, ?_⟩
      refine ⟨_, p + 1, 0, _, rfl, upd_same, ?_, by omega, by omega, Int.emod_nonneg _ (by decide), Int.emod_lt_of_pos _ (by decide), ((b2 _).put only1)⟩
      rw [upd_ne nld]
      exact e2' _ _
  · rintro σ' H1 ⟨c, p, g, s, rfl, e1, e2, p0, g0, s0, s1, b⟩
    refine ⟨_, rfl, d, _, 2, .int g, rfl, rfl, SqL.of e1, rfl, _, rfl, g, n, rfl, rfl, _, rfl, ?_⟩
    refine ite2 (fun c1 => ?_) (fun _ => ?_)
    · refine ⟨_, rfl, d, _, 2, .int g, rfl, rfl, SqL.of e1, rfl, _, rfl, g, n, rfl, rfl, hn0, ?_⟩
      refine ⟨_, rfl, d, _, 2, .int g, rfl, rfl, SqL.of e1, rfl, _, rfl, g, n, rfl, rfl, cw, _, rfl, d, _, 2, 2, rfl, rfl, e1, rfl, ?_⟩
      refine ⟨_, rfl, k _ _ (Int.emod_nonneg _ (by omega)) (Int.emod_lt_of_pos _ hn0) ⟨⟨ns, p, _, s, upd_same, by rw [upd_ne nld]; exact e2, p0, Int.ediv_nonneg g0 (by omega), s0, s1, hl⟩⟩ (b.put only1)⟩
    · refine ⟨_, rfl, d, _, 3, .int s, rfl, rfl, SqL.of e1, rfl, _, rfl, d, _, 3, .int s, rfl, rfl, SqL.of e1, rfl, s, s, rfl, rfl, .inl ⟨by omega, by omega⟩, _, 2147483629, rfl, rfl, (by show (0 : Int) < 2147483629; decide), _, 5, rfl, rfl, .inr ⟨by decide, by decide⟩, _, rfl, d, _, 3, .int s, rfl, rfl, SqL.of e1, rfl, s, 16811, rfl, rfl, .inr ⟨by decide, by decide⟩, _, _, rfl, rfl, _, 2531011, rfl, rfl, _, 2147483647, rfl, rfl, (by show (0 : Int) < 2147483647; decide), _, rfl, d, _, 3, 3, rfl, rfl, e1, rfl, ?_⟩
      have z0 : ∀ x : Int, 0 ≤ x % 2147483647 := fun x => Int.emod_nonneg _ (by decide)
      have z1 : ∀ x : Int, x % 2147483647 < 2147483647 := fun x => Int.emod_lt_of_pos _ (by decide)
      refine ⟨_, rfl, d, _, 3, _, rfl, rfl, SqL.of upd_same, rfl, _, 61, rfl, rfl, log_small (k := 10) (by decide) (by decide) (by decide) (by decide), _, rfl, d, _, 3, _, rfl, rfl, SqL.of upd_same, rfl, _, 8191, rfl, rfl, (by show (0 : Int) < 8191; decide), _, 31, rfl, rfl, .inr ⟨by decide, by decide⟩, _, _, rfl, rfl, _, rfl, _, n, rfl, rfl, hn0, ?_⟩
      exact k _ _ (Int.emod_nonneg _ (by omega)) (Int.emod_lt_of_pos _ hn0) ⟨⟨ns, p, g, _, upd_same, by rw [upd_ne nld]; exact e2, p0, g0, z0 _, z1 _, hl⟩⟩ (b.put only1)
/-- one of a row: a text's sign, a list's or tuple's item -/
def spPick (K : PySem.W.Frag) : Sp := fun vs H Q _ => ∃ (d l : Addr) (x : V), vs = [.ref d, x] ∧ DrawAt H d l ∧
  ((∃ z : Str, x = .str z ∧ 0 < z.length ∧ z.length ≤ 100000 ∧ ∀ (c : Nat) H', c ∈ z.cps.toList → DrawAt H' d l → But (Only1 d) H H' → Q (.str ⟨#[c]⟩) H') ∨
   ∃ (a : Addr) (xs : List V), x = .ref a ∧ a ≠ d ∧ (SqL K H a xs ∨ SqT K H a xs) ∧ 0 < xs.length ∧ xs.length ≤ 100000 ∧ ∀ (v : V) H', v ∈ xs → DrawAt H' d l → But (Only1 d) H H' → Q v H')
theorem ok_law_pick (T : Txt K mg) : FnOk P w K mg base CX0 2 T.a_law_pick T.d_law_pick ["_law_draw", "_law_row"] (spPick K) := by
  refine T.F_law_pick.ok sc_law_pick (fun vs H Q E h => ?_) (fun cdv A outer s H vs Q E hr h => ?_)
  · obtain ⟨d, l, x, rfl, _⟩ := h
    rfl
  obtain ⟨d, l, x, rfl, D, h⟩ := h
  refine ⟨_, (pss_one (ps_ret (pe_ix ix_seq (pv 1) (pe_call (ok_law_take T) (hr.mono (by decide)) (by rfl) T.g_law_take T.F_law_take.kp T.b_law_take .nil pass0 (pa_cons (pv 0) (pa_cons (pe_callB call_len (by rfl) T.z_len (by decide +kernel) (pa_cons (pv 1) pa_nil)) pa_nil))) (fun _ _ => rfl)))), ?_⟩
  have big : (100000 : Int) < 2 ^ 200 := by decide
  rcases h with ⟨z, rfl, h0, h1, k⟩ | ⟨a, xs, rfl, na, hs, h0, h1, k⟩
  · refine ⟨_, rfl, _, rfl, _, rfl, _, z.length, rfl, ⟨Nat.le_trans h1 (by decide), rfl⟩, d, l, _, rfl, D, by omega, by omega, fun r H' r0 r1 D' b => ?_⟩
    obtain ⟨j, rfl⟩ : ∃ j : Nat, r = (j : Int) := ⟨r.toNat, by omega⟩
    have hj : j < z.cps.toList.length := by
      rw [Array.length_toList]
      show j < z.length
      omega
    exact .inr (.inr ⟨z, _, _, rfl, rfl, Nat.le_trans h1 (by decide), atI_nat (List.getElem?_eq_getElem hj), k _ H' (List.getElem_mem hj) D' b⟩)
  · have hl : LenV K (.ref a) H xs.length := by
      rcases hs with hs | hs
      · exact .inl ⟨xs, hs, rfl⟩
      · exact .inr ⟨xs, hs, rfl⟩
    refine ⟨_, rfl, _, rfl, _, rfl, _, xs.length, rfl, hl, d, l, _, rfl, D, by omega, by omega, fun r H' r0 r1 D' b => ?_⟩
    obtain ⟨j, rfl⟩ : ∃ j : Nat, r = (j : Int) := ⟨r.toNat, by omega⟩
    have hj : j < xs.length := by omega
    rcases hs with hs | hs
    · exact .inl ⟨a, xs, _, _, rfl, rfl, but_l b na hs, atI_nat (List.getElem?_eq_getElem hj), k _ H' (List.getElem_mem hj) D' b⟩
    · exact .inr (.inl ⟨a, xs, _, _, rfl, rfl, but_t b na hs, atI_nat (List.getElem?_eq_getElem hj), k _ H' (List.getElem_mem hj) D' b⟩)
theorem ok_law_raised (T : Txt K mg) : FnOk P w K mg base CX0 1 T.a_law_raised T.d_law_raised ["_law_part", "_law_upto"] spRaised := by
  refine T.F_law_raised.ok sc_law_raised (fun vs H Q E h => ?_) (fun cdv A outer s H vs Q E hr h => ?_)
  · obtain ⟨b, p, m, rfl, _⟩ := h
    rfl
  obtain ⟨b, p, m, rfl, hb, h0, h1, k⟩ := h
  refine ⟨_, (pss_cons (ps_set (i := 2) sc_law_raised.nd rfl (Or.inl rfl) pe_int)
      (pss_cons (ps_for PassesOwn.never rfl (pi_range1 (by rfl) T.z_range (pa_cons (pv 1) pa_nil)) (pg_name (i := 3) sc_law_raised.nd rfl (Or.inl rfl)) (pss_one (ps_set (i := 2) sc_law_raised.nd rfl (Or.inl rfl) (pe_op op_mulW (pv 2) (pv 0)))))
      (pss_one (ps_ret (pv 2))))), ?_⟩
  have hp := raised_small h0 h1
  refine ⟨_, rfl, p, rfl, by omega, by omega, for_it walk_range (fun i σ H' => H' = H ∧ ∃ t, σ = [some (.int b), some (.int p), some (.int (b ^ i)), t]) ⟨rfl, none, by rw [Int.pow_zero]; rfl⟩ (fun _ _ _ _ _ => trivial) ?_ ?_⟩
  · rintro i x σ H1 H2 hi ⟨rfl, t, rfl⟩ ⟨rfl, rfl⟩
    refine ⟨_, rfl, _, rfl, _, _, rfl, rfl, raised_ok hb h0 h1 (by omega), rfl, some (.int ((0 : Int) + i)), ?_⟩
    rw [Int.pow_succ]
    rfl
  · rintro σ H1 ⟨rfl, t, rfl⟩
    exact ⟨_, rfl, k⟩
/-- a drawn growth -/
def spDrawnG (K : PySem.W.Frag) : Sp := fun vs H Q _ => ∃ (d l : Addr) (G : Hp), vs = [.ref d] ∧ Same G H ∧ G d = none ∧ DrawAt H d l ∧
  ∀ (x : V) (g : Gr) (G' H' : Hp), Grow (Only1 d) G H G' H' → DrawAt H' d l → GOk g → GAt K G' x g → Q x H'
theorem pow2_in {k : Nat} (h : k < 10) : (2 ^ k, 2) ∈ prs := by
  have q : ∀ k < 10, (2 ^ k, 2) ∈ prs := by decide
  exact q k h
theorem nine_in {k : Nat} (h : k < 9) : (1 + k, 2) ∈ prs := by
  have q : ∀ k < 9, (1 + k, 2) ∈ prs := by decide
  exact q k h
theorem ok_law_drawn_growth (T : Txt K mg) : FnOk P w K mg base CX0 4 T.a_law_drawn_growth T.d_law_drawn_growth ["_law_draw"] (spDrawnG K) := by
  refine T.F_law_drawn_growth.ok sc_law_drawn_growth (fun vs H Q E h => ?_) (fun cdv A outer s H vs Q E hr h => ?_)
  · obtain ⟨d, l, G, rfl, _⟩ := h
    rfl
  obtain ⟨d, l, G, rfl, sg, gd, D, k⟩ := h
  refine ⟨_, (pss_cons (ps_set (i := 1) sc_law_drawn_growth.nd rfl (Or.inl rfl) (pe_call (ok_law_take T) (hr.mono (by decide)) (by rfl) T.g_law_take T.F_law_take.kp T.b_law_take .nil pass0 (pa_cons (pv 0) (pa_cons pe_int pa_nil))))
      (pss_cons (ps_set (i := 2) sc_law_drawn_growth.nd rfl (Or.inl rfl) (pe_call (ok_law_take T) (hr.mono (by decide)) (by rfl) T.g_law_take T.F_law_take.kp T.b_law_take .nil pass0 (pa_cons (pv 0) (pa_cons (pe_ix ix_list (pe_lst (pa_cons pe_int (pa_cons pe_int (pa_cons pe_int pa_nil)))) (pe_call (ok_law_take T) (hr.mono (by decide)) (by rfl) T.g_law_take T.F_law_take.kp T.b_law_take .nil pass0 (pa_cons (pv 0) (pa_cons pe_int pa_nil))) (fun _ _ => rfl)) pa_nil))))
      (pss_cons (ps_if (pt_cmpR op_eq (pv 1) pe_int (nomark _)) (pss_one (ps_ret pe_non)) pss_nil)
      (pss_cons (ps_if (pt_cmpR op_lt (pv 1) pe_int (nomark _)) (pss_one (ps_ret (pe_tup (pa_cons (pe_call (ok_law_raised T) (hr.mono (by decide)) (by rfl) T.g_law_raised T.F_law_raised.kp T.b_law_raised .nil pass0 (pa_cons pe_int (pa_cons (pe_call (ok_law_take T) (hr.mono (by decide)) (by rfl) T.g_law_take T.F_law_take.kp T.b_law_take .nil pass0 (pa_cons (pv 0) (pa_cons pe_int pa_nil))) pa_nil))) (pa_cons pe_int (pa_cons (pv 2) pa_nil)))))) pss_nil)
      (pss_cons (ps_if (pt_cmpR op_lt (pv 1) pe_int (nomark _)) (pss_one (ps_ret (pe_tup (pa_cons (pe_op op_add pe_int (pe_call (ok_law_take T) (hr.mono (by decide)) (by rfl) T.g_law_take T.F_law_take.kp T.b_law_take .nil pass0 (pa_cons (pv 0) (pa_cons pe_int pa_nil)))) (pa_cons pe_int (pa_cons pe_int pa_nil)))))) pss_nil)
      (pss_one (ps_ret (pe_tup (pa_cons (pe_call (ok_law_pick T) (hr.mono (by decide)) (by rfl) T.g_law_pick T.F_law_pick.kp T.b_law_pick .nil pass0 (pa_cons (pv 0) (pa_cons (pe_lst (pa_cons pe_int (pa_cons pe_int (pa_cons pe_int (pa_cons pe_int (pa_cons pe_int (pa_cons pe_int pa_nil))))))) pa_nil))) (pa_cons pe_int (pa_cons pe_int pa_nil))))))))))), ?_⟩
  -- fork, figures
  refine ⟨_, rfl, d, l, 7, rfl, D, by decide, by decide, fun r1 H1 a0 a1 D1 b1 => ?_⟩
  have g1 := Grow.draw sg gd b1
  refine ⟨_, rfl, by show 3 ≤ sizeLine; decide, fun p hp => ?_⟩
  have D2 := D1.upd (o := .lst [V.int 1, V.int 3, V.int 11]) hp
  have g2 := g1.cell (o := .lst [V.int 1, V.int 3, V.int 11]) hp
  refine ⟨_, rfl, d, l, 3, rfl, D2, by decide, by decide, fun r2 H2 c0 c1 D3 b3 => ?_⟩
  have g3 := g2.trans (Grow.draw g2.gh gd b3) D2.some'
  obtain ⟨y, hy, hy0, hy1⟩ : ∃ y : Int, atI [V.int 1, V.int 3, V.int 11] r2 = some (.int y) ∧ 0 < y ∧ y ≤ 11 := by
    have : r2 = 0 ∨ r2 = 1 ∨ r2 = 2 := by omega
    rcases this with e | e | e <;> subst e
    · exact ⟨1, rfl, by decide, by decide⟩
    · exact ⟨3, rfl, by decide, by decide⟩
    · exact ⟨11, rfl, by decide, by decide⟩
  refine ⟨p, _, r2, _, rfl, rfl, SqL.of (b3 _ _ upd_same (D1.ned hp)), hy, d, l, y, rfl, D3, hy0, (by omega), fun r4 H4 d0 d1 D4 b4 => ?_⟩
  have g4 := g3.trans (Grow.draw g3.gh gd b4) D3.some'
  obtain ⟨f, rfl⟩ : ∃ f : Nat, r4 = (f : Int) := ⟨r4.toNat, by omega⟩
  -- the forks
  have fin : ∀ (t b f : Nat) (Gx Hx : Hp) (p : Addr), Grow (Only1 d) G H Gx Hx → DrawAt Hx d l → (t, b) ∈ prs → f ≤ 1000 → Hx p = none → Q (.ref p) (upd Hx p (.tup [.int (t : Nat), .int (b : Nat), .int (f : Nat)])) := fun t b f Gx Hx p gx Dx hm hf hp =>
    k _ (some (t, b, f)) _ _ (gx.new hp Dx.some') (Dx.upd hp) ⟨hm, hf⟩ ⟨p, rfl, SqT.of upd_same⟩
  refine ⟨_, rfl, rfl, _, rfl, ?_⟩
  refine ite2 (fun _ => k .non none _ _ g4 D4 trivial rfl) (fun _ => ?_)
  refine ⟨_, rfl, _, _, rfl, rfl, _, rfl, ?_⟩
  refine ite2 (fun _ => ?_) (fun _ => ?_)
  · refine ⟨_, rfl, d, l, 10, rfl, D4, by decide, by decide, fun r5 H5 e0 e1 D5 b5 => ?_⟩
    have g5 := g4.trans (Grow.draw g4.gh gd b5) D4.some'
    obtain ⟨j, rfl⟩ : ∃ j : Nat, r5 = (j : Int) := ⟨r5.toNat, by omega⟩
    refine ⟨2, j, 2, rfl, by decide, by decide, by omega, ?_⟩
    refine ⟨_, rfl, by show 3 ≤ sizeLine; decide, fun q hq => ?_⟩
    rw [show ((2 : Int) ^ j) = ((2 ^ j : Nat) : Int) from (Int.natCast_pow 2 j).symm]
    exact fin (2 ^ j) 2 f _ _ q g5 D5 (pow2_in (by omega)) (by omega) hq
  · refine ⟨_, rfl, _, _, rfl, rfl, _, rfl, ?_⟩
    refine ite2 (fun _ => ?_) (fun _ => ?_)
    · refine ⟨_, rfl, d, l, 9, rfl, D4, by decide, by decide, fun r5 H5 e0 e1 D5 b5 => ?_⟩
      have g5 := g4.trans (Grow.draw g4.gh gd b5) D4.some'
      obtain ⟨j, rfl⟩ : ∃ j : Nat, r5 = (j : Int) := ⟨r5.toNat, by omega⟩
      refine ⟨_, _, rfl, rfl, by show 3 ≤ sizeLine; decide, fun q hq => ?_⟩
      exact fin (1 + j) 2 0 _ _ q g5 D5 (nine_in (by omega)) (by omega) hq
    · refine ⟨_, rfl, by show 6 ≤ sizeLine; decide, fun p2 hp2 => ?_⟩
      have D5 := D4.upd (o := .lst [V.int 2, V.int 4, V.int 5, V.int 6, V.int 7, V.int 8]) hp2
      have g5 := g4.cell (o := .lst [V.int 2, V.int 4, V.int 5, V.int 6, V.int 7, V.int 8]) hp2
      refine ⟨d, l, _, rfl, D5, .inr ⟨p2, _, rfl, D4.ned hp2, .inl (SqL.of upd_same), by decide, by decide, fun v H6 hv D6 b6 => ?_⟩⟩
      have g6 := g5.trans (Grow.draw g5.gh gd b6) D5.some'
      obtain ⟨t, rfl, ht⟩ : ∃ t : Nat, v = .int (t : Nat) ∧ (t, 3) ∈ prs := by
        simp at hv
        rcases hv with e | e | e | e | e | e <;> subst e
        · exact ⟨2, rfl, by decide⟩
        · exact ⟨4, rfl, by decide⟩
        · exact ⟨5, rfl, by decide⟩
        · exact ⟨6, rfl, by decide⟩
        · exact ⟨7, rfl, by decide⟩
        · exact ⟨8, rfl, by decide⟩
      refine ⟨by show 3 ≤ sizeLine; decide, fun q hq => ?_⟩
      exact fin t 3 0 _ _ q g6 D6 ht (by omega) hq
/-- how often b goes into n -/
def spWhole : Sp := fun vs H Q _ => ∃ (n b : Nat), vs = [.int n, .int b] ∧ 2 ≤ b ∧ b ≤ 3 ∧ n < 2 ^ 600 ∧ Q (.int (wp 600 n b)) H
theorem ok_whole_power (T : Txt K mg) : FnOk P w K mg base CX0 1 T.a_whole_power T.d_whole_power ["number", "base"] spWhole := by
  refine T.F_whole_power.ok sc_whole_power (fun vs H Q E h => ?_) (fun cdv A outer s H vs Q E hr h => ?_)
  · obtain ⟨n, b, rfl, _⟩ := h
    rfl
  obtain ⟨n, b, rfl, hb2, hb3, hn, k⟩ := h
  refine ⟨_, (pss_cons (ps_set (i := 2) sc_whole_power.nd rfl (Or.inl rfl) pe_int)
      (pss_cons (ps_while PassesOwn.never (pt_cmpR op_ge (pv 0) (pv 1) (nomark _)) (pss_cons (ps_aug (i := 0) sc_whole_power.nd rfl (Or.inl rfl) (pv 1) ip_fdivW)
      (pss_one (ps_aug (i := 2) sc_whole_power.nd rfl (Or.inl rfl) pe_int ip_add))))
      (pss_one (ps_ret (pv 2))))), ?_⟩
  refine while_by (fun σ H' => H' = H ∧ ∃ (m f c : Nat), σ = [some (.int m), some (.int b), some (.int c)] ∧ m < 2 ^ f ∧ wp 600 n b = wp f m b + c) (fun σ _ => match σ with | some (.int m) :: _ => m.toNat | _ => 0) ⟨rfl, n, 600, 0, rfl, hn, rfl⟩ ?_ ?_
  · rintro σ H1 ⟨rfl, m, f, c, rfl, hm, e⟩
    refine ⟨_, rfl, _, rfl, _, _, rfl, rfl, _, rfl, ?_⟩
    refine ite2 (fun t => ?_) (fun t => ?_)
    · have t' : (b : Int) ≤ (m : Int) := of_decide_eq_true t
      obtain ⟨g, rfl⟩ : ∃ g, f = g + 1 := by
        cases f with
        | zero =>
          rw [Nat.pow_zero] at hm
          omega
        | succ g => exact ⟨g, rfl⟩
      refine ⟨_, rfl, _, rfl, _, _, rfl, rfl, log_small (k := 2) (by omega) (by omega) (by decide) (by decide), _, rfl, _, _, rfl, rfl, ?_⟩
      refine ⟨⟨rfl, m / b, g, c + 1, rfl, half_lt hb2 hm, ?_⟩, ?_⟩
      · rw [e, wp_step (by omega)]
        omega
      · show ((m : Int) / (b : Int)).toNat < (m : Int).toNat
        have : m / b < m := Nat.div_lt_self (by omega) (by omega)
        have e2 : ((m : Int) / (b : Int)) = ((m / b : Nat) : Int) := rfl
        rw [e2]
        omega
    · have t' : ¬ (b : Int) ≤ (m : Int) := fun z => t (decide_eq_true z)
      refine ⟨_, rfl, ?_⟩
      rw [e, wp_zero (by omega), Nat.zero_add] at k
      exact k
  · rintro σ H Q Q' hQ ⟨v, e1, v2, e2, i, j, e3, e4, kk, e5, q⟩
    exact ⟨v, e1, v2, e2, i, j, e3, e4, kk, e5, hQ _ _ q⟩
theorem ok_raised (T : Txt K mg) : FnOk P w K mg base CX0 1 T.a_raised T.d_raised ["base", "power"] spRaised := by
  refine T.F_raised.ok sc_raised (fun vs H Q E h => ?_) (fun cdv A outer s H vs Q E hr h => ?_)
  · obtain ⟨b, p, m, rfl, _⟩ := h
    rfl
  obtain ⟨b, p, m, rfl, hb, h0, h1, k⟩ := h
  refine ⟨_, (pss_cons (ps_set (i := 2) sc_raised.nd rfl (Or.inl rfl) pe_int)
      (pss_cons (ps_for PassesOwn.never rfl (pi_range1 (by rfl) T.z_range (pa_cons (pv 1) pa_nil)) (pg_name (i := 3) sc_raised.nd rfl (Or.inl rfl)) (pss_one (ps_aug (i := 2) sc_raised.nd rfl (Or.inl rfl) (pv 0) ip_mulW)))
      (pss_one (ps_ret (pv 2))))), ?_⟩
  have hp := raised_small h0 h1
  refine ⟨_, rfl, p, rfl, by omega, by omega, for_it walk_range (fun i σ H' => H' = H ∧ ∃ t, σ = [some (.int b), some (.int p), some (.int (b ^ i)), t]) ⟨rfl, none, by rw [Int.pow_zero]; rfl⟩ (fun _ _ _ _ _ => trivial) ?_ ?_⟩
  · rintro i x σ H1 H2 hi ⟨rfl, t, rfl⟩ ⟨rfl, rfl⟩
    refine ⟨_, rfl, _, rfl, _, _, rfl, rfl, raised_ok hb h0 h1 (by omega), rfl, some (.int ((0 : Int) + i)), ?_⟩
    rw [Int.pow_succ]
    rfl
  · rintro σ H1 ⟨rfl, t, rfl⟩
    exact ⟨_, rfl, k⟩
/-- the order of two growths -/
def spOrder (K : PySem.W.Frag) : Sp := fun vs H Q _ => ∃ (x y : V) (g g' : Gr), vs = [x, y] ∧ GAt K H x g ∧ GAt K H y g' ∧ GOk g ∧ GOk g' ∧ ∀ H', Same H H' → Q (.int (cmpG g g')) H'
theorem sg_val (f f' : Nat) : ((if decide ((f' : Int) < (f : Int)) = true then (1 : Int) else 0) - (if decide ((f : Int) < (f' : Int)) = true then (1 : Int) else 0)) = sg f f' := by
  unfold sg
  by_cases h : f' < f
  · rw [if_pos h, if_pos (decide_eq_true (by omega)), if_neg (by rw [decide_eq_false (by omega)]; decide)]
    rfl
  · rw [if_neg h, if_neg (by rw [decide_eq_false (by omega)]; decide)]
    by_cases h2 : f < f'
    · rw [if_pos h2, if_pos (decide_eq_true (by omega))]
      rfl
    · rw [if_neg h2, if_neg (by rw [decide_eq_false (by omega)]; decide)]
      rfl
theorem ok_order_of (T : Txt K mg) : FnOk P w K mg base CX0 3 T.a_order_of T.d_order_of ["one", "other"] (spOrder K) := by
  refine T.F_order_of.ok sc_order_of (fun vs H Q E h => ?_) (fun cdv A outer s H vs Q E hr h => ?_)
  · obtain ⟨x, y, g, g', rfl, _⟩ := h
    rfl
  obtain ⟨x, y, g, g', rfl, hx, hy, ok, ok', k⟩ := h
  refine ⟨_, (pss_cons (ps_if (PW.pt (pw_or (pt_cmpR op_isN (pv 0) pe_non (nomark _)) (pw_or1 (pt_cmpR op_isN (pv 1) pe_non (nomark _))))) (pss_one (ps_ret (pe_op op_sub (pe_callTy call_int1 (by rfl) T.z_int (by decide +kernel) (pa_cons (pe_cmpR op_isN (pv 1) pe_non (nomark _)) pa_nil)) (pe_callTy call_int1 (by rfl) T.z_int (by decide +kernel) (pa_cons (pe_cmpR op_isN (pv 0) pe_non (nomark _)) pa_nil))))) pss_nil)
      (C8.pss_cut (ps_if (pt_cmpR (op_neD hr.units) (pe_slice sl_tup (pv 0) po_none (po_some pe_int)) (pe_slice sl_tup (pv 1) po_none (po_some pe_int)) (nomark _)) (pss_cons (ps_if (pt_cmpR op_eq (pe_ix ix_tup (pv 0) pe_int (fun _ _ => rfl)) (pe_ix ix_tup (pv 1) pe_int (fun _ _ => rfl)) (nomark _)) (pss_one (ps_ret (pe_ifExp (pt_cmpR op_gt (pe_ix ix_tup (pv 0) pe_int (fun _ _ => rfl)) (pe_ix ix_tup (pv 1) pe_int (fun _ _ => rfl)) (nomark _)) pe_int (pe_un un_neg pe_int)))) pss_nil)
      (pss_one (ps_for PassesOwn.never rfl (pi_range2 (by rfl) T.z_range (pa_cons pe_int (pa_cons (pe_op op_add (pe_glob rfl T.m_TRIES T.r_TRIES) pe_int) pa_nil))) (pg_name (i := 2) sc_order_of.nd rfl (Or.inl rfl)) (pss_cons (ps_set (i := 3) sc_order_of.nd rfl (Or.inl rfl) (pe_call (ok_whole_power T) (hr.mono (by decide)) (by rfl) T.g_whole_power T.F_whole_power.kp T.b_whole_power .nil pass0 (pa_cons (pe_call (ok_raised T) (hr.mono (by decide)) (by rfl) T.g_raised T.F_raised.kp T.b_raised .nil pass0 (pa_cons (pe_ix ix_tup (pv 0) pe_int (fun _ _ => rfl)) (pa_cons (pv 2) pa_nil))) (pa_cons (pe_ix ix_tup (pv 0) pe_int (fun _ _ => rfl)) pa_nil))))
      (pss_cons (ps_set (i := 4) sc_order_of.nd rfl (Or.inl rfl) (pe_call (ok_whole_power T) (hr.mono (by decide)) (by rfl) T.g_whole_power T.F_whole_power.kp T.b_whole_power .nil pass0 (pa_cons (pe_call (ok_raised T) (hr.mono (by decide)) (by rfl) T.g_raised T.F_raised.kp T.b_raised .nil pass0 (pa_cons (pe_ix ix_tup (pv 1) pe_int (fun _ _ => rfl)) (pa_cons (pv 2) pa_nil))) (pa_cons (pe_ix ix_tup (pv 1) pe_int (fun _ _ => rfl)) pa_nil))))
      (pss_one (ps_if (pt_cmpR op_ne (pv 3) (pv 4) (nomark _)) (pss_one (ps_ret (pe_ifExp (pt_cmpR op_gt (pv 3) (pv 4) (nomark _)) pe_int (pe_un un_neg pe_int)))) pss_nil))))))) pss_nil)
      (pss_one (ps_ret (pe_op op_sub (pe_callTy call_int1 (by rfl) T.z_int (by decide +kernel) (pa_cons (pe_cmpR op_gt (pe_ix ix_tup (pv 0) pe_int (fun _ _ => rfl)) (pe_ix ix_tup (pv 1) pe_int (fun _ _ => rfl)) (nomark _)) pa_nil)) (pe_callTy call_int1 (by rfl) T.z_int (by decide +kernel) (pa_cons (pe_cmpR op_lt (pe_ix ix_tup (pv 0) pe_int (fun _ _ => rfl)) (pe_ix ix_tup (pv 1) pe_int (fun _ _ => rfl)) (nomark _)) pa_nil))))))), ?_⟩
  rcases g with _ | ⟨t, b, f⟩
  · cases (show x = V.non from hx)
    rcases g' with _ | ⟨t, b, f⟩
    · cases (show y = V.non from hy)
      refine ⟨_, rfl, rfl, _, rfl, iteT (iteT ?_)⟩
      exact ⟨_, rfl, rfl, .inr ⟨_, rfl, _, rfl, rfl, .inr ⟨_, rfl, _, _, rfl, rfl, k H (Same.refl _)⟩⟩⟩
    · obtain ⟨a, rfl, e⟩ := hy
      refine ⟨_, rfl, rfl, _, rfl, iteT (iteT ?_)⟩
      exact ⟨_, rfl, rfl, .inr ⟨_, rfl, _, rfl, rfl, .inr ⟨_, rfl, _, _, rfl, rfl, k H (Same.refl _)⟩⟩⟩
  rcases g' with _ | ⟨t', b', f'⟩
  · cases (show y = V.non from hy)
    obtain ⟨a, rfl, e⟩ := hx
    refine ⟨_, rfl, rfl, _, rfl, iteF ⟨_, rfl, rfl, _, rfl, iteT ?_⟩⟩
    exact ⟨_, rfl, rfl, .inr ⟨_, rfl, _, rfl, rfl, .inr ⟨_, rfl, _, _, rfl, rfl, k H (Same.refl _)⟩⟩⟩
  · obtain ⟨a, rfl, e⟩ := hx
    obtain ⟨a', rfl, e'⟩ := hy
    obtain ⟨hm, hf⟩ := ok
    obtain ⟨hm', hf'⟩ := ok'
    refine ⟨_, rfl, rfl, _, rfl, iteF ⟨_, rfl, rfl, _, rfl, iteF ?_⟩⟩
    obtain ⟨s1, s2, s3⟩ := prs_small hm
    obtain ⟨s1', s2', s3'⟩ := prs_small hm'
    have kc : ∀ (H' : Hp) (r : Int), coreP t b t' b' = some r → Same H H' → Q (.int r) H' := fun H' r e sm => by
      have q := k H' sm
      rw [cmpG_some, ← (core_eq hm hm').1, e] at q
      exact q
    have kn : ∀ (H' : Hp), coreP t b t' b' = none → Same H H' → Q (.int (sg f f')) H' := fun H' e sm => by
      have q := k H' sm
      rw [cmpG_some, ← (core_eq hm hm').1, e] at q
      exact q
    refine ⟨fun σ H' => Same H H' ∧ coreP t b t' b' = none ∧ ∃ v2 v3 v4, σ = [some (.ref a), some (.ref a'), v2, v3, v4], ?_, ?_⟩
    · refine ⟨_, rfl, 2, rfl, a, _, rfl, e, (by show ¬ (HT.sIx 3 0 none = 0 ∧ HT.sIx 3 3 (some 2) = 3); decide), fun p hp => ?_⟩
      have m1 : Same H _ := same_upd (o := .tup (cutV [V.int t, V.int b, V.int f] none (some 2))) hp
      refine ⟨_, rfl, 2, rfl, a', _, rfl, same_t m1 e', (by show ¬ (HT.sIx 3 0 none = 0 ∧ HT.sIx 3 3 (some 2) = 3); decide), fun p2 hp2 => ?_⟩
      have m2 := m1.trans (same_upd (o := .tup (cutV [V.int t', V.int b', V.int f'] none (some 2))) hp2)
      refine ⟨.tuple [.int t, .int b], .tuple [.int t', .int b'], .tup (xs := [.int t, .int b]) (SqT.of ?_) (.cons (.int _) (.cons (.int _) .nil)), .tup (xs := [.int t', .int b']) (SqT.of ?_) (.cons (.int _) (.cons (.int _) .nil)), rfl, rfl, _, rfl, ?_⟩
      · rw [upd_ne (fun q => by rw [q, upd_same] at hp2; cases hp2)]
        exact upd_same
      · exact upd_same
      rw [eqv_pair]
      by_cases same : t = t' ∧ b = b'
      · obtain ⟨rfl, rfl⟩ := same
        rw [decide_eq_true rfl, decide_eq_true rfl]
        refine iteF ⟨m2, ?_, _, _, _, rfl⟩
        unfold coreP
        rw [if_pos ⟨rfl, rfl⟩]
      have ne : (!(decide ((t : Int) = (t' : Int)) && decide ((b : Int) = (b' : Int)))) = true := by
        rw [Bool.not_eq_true', Bool.and_eq_false_iff, decide_eq_false_iff_not, decide_eq_false_iff_not]
        omega
      rw [ne]
      refine iteT ?_
      refine ⟨_, rfl, a, _, 1, _, rfl, rfl, same_t m2 e, rfl, _, rfl, a', _, 1, _, rfl, rfl, same_t m2 e', rfl, rfl, _, rfl, ?_⟩
      refine ite2 (fun c => ?_) (fun c => ?_)
      · have eb : b = b' := by
          have q := V.int.inj (of_decide_eq_true c)
          omega
        refine ⟨_, rfl, a, _, 0, _, rfl, rfl, same_t m2 e, rfl, _, rfl, a', _, 0, _, rfl, rfl, same_t m2 e', rfl, _, _, rfl, rfl, _, rfl, ?_⟩
        have ec : coreP t b t' b' = some (if t' < t then 1 else -1) := by
          unfold coreP
          rw [if_neg same, if_pos eb]
        refine ite2 (fun q => ?_) (fun q => ?_)
        · have q' : (t' : Int) < (t : Int) := of_decide_eq_true q
          exact kc _ _ (by rw [ec, if_pos (by omega)]) m2
        · have q' : ¬ (t' : Int) < (t : Int) := fun z => q (decide_eq_true z)
          exact ⟨_, rfl, kc _ _ (by rw [ec, if_neg (by omega)]) m2⟩
      · have eb : ¬ b = b' := fun q => c (decide_eq_true (by rw [q]))
        have ec : coreP t b t' b' = fd t b t' b' 1 60 := by
          unfold coreP
          rw [if_neg same, if_neg eb]
        refine ⟨_, 1, rfl, rfl, 1, 61, rfl, by decide, ?_⟩
        refine for_it walk_range (fun i σ H' => Same H H' ∧ coreP t b t' b' = fd t b t' b' (1 + i) (60 - i) ∧ ∃ v2 v3 v4, σ = [some (.ref a), some (.ref a'), v2, v3, v4]) ⟨m2, ec, _, _, _, rfl⟩ (fun _ _ _ _ _ => trivial) ?_ ?_
        · rintro i x σ H1 H2 hi ⟨m3, e3, v2, v3, v4, rfl⟩ ⟨rfl, rfl⟩
          have hi' : i < 60 := hi
          have ep : ((1 : Int) + (i : Int)) = ((1 + i : Nat) : Int) := by omega
          show gName _ (V.int ((1 : Int) + (i : Int))) _ _ _
          rw [ep]
          refine ⟨_, rfl, a, _, 0, _, rfl, rfl, same_t m3 e, rfl, _, rfl, t, 1 + i, 10, rfl, by omega, by decide, by omega, ?_⟩
          rw [show ((t : Int) ^ (1 + i)) = ((t ^ (1 + i) : Nat) : Int) from (Int.natCast_pow _ _).symm]
          refine ⟨_, rfl, a, _, 1, _, rfl, rfl, same_t m3 e, rfl, _, b, rfl, s2, s3, pow_small s1 (by omega), ?_⟩
          refine ⟨_, rfl, a', _, 0, _, rfl, rfl, same_t m3 e', rfl, _, rfl, t', 1 + i, 10, rfl, by omega, by decide, by omega, ?_⟩
          rw [show ((t' : Int) ^ (1 + i)) = ((t' ^ (1 + i) : Nat) : Int) from (Int.natCast_pow _ _).symm]
          refine ⟨_, rfl, a', _, 1, _, rfl, rfl, same_t m3 e', rfl, _, b', rfl, s2', s3', pow_small s1' (by omega), ?_⟩
          have es : fd t b t' b' (1 + i) (60 - i) = if wp 600 (t ^ (1 + i)) b = wp 600 (t' ^ (1 + i)) b' then fd t b t' b' (1 + (i + 1)) (60 - (i + 1)) else some (if wp 600 (t' ^ (1 + i)) b' < wp 600 (t ^ (1 + i)) b then 1 else -1) := by
            rw [show 60 - i = (60 - (i + 1)) + 1 by omega, fd]
            rfl
          rw [es] at e3
          generalize wp 600 (t ^ (1 + i)) b = u at *
          generalize wp 600 (t' ^ (1 + i)) b' = u' at *
          refine ⟨_, rfl, _, rfl, rfl, _, rfl, ?_⟩
          by_cases c : u = u'
          · subst c
            refine iteNS rfl ?_
            rw [if_pos rfl] at e3
            exact ⟨m3, e3, _, _, _, rfl⟩
          · rw [if_neg c] at e3
            rw [show (!decide (V.int (u : Nat) = V.int (u' : Nat))) = true by
              rw [Bool.not_eq_true', decide_eq_false_iff_not]
              intro q
              have := V.int.inj q
              omega]
            refine iteT ⟨_, rfl, _, rfl, _, _, rfl, rfl, _, rfl, ?_⟩
            refine ite2 (fun q => ?_) (fun q => ?_)
            · have q' : (u' : Int) < (u : Int) := of_decide_eq_true q
              exact kc _ _ (by rw [e3, if_pos (by omega)]) m3
            · have q' : ¬ (u' : Int) < (u : Int) := fun z => q (decide_eq_true z)
              exact ⟨_, rfl, kc _ _ (by rw [e3, if_neg (by omega)]) m3⟩
        · rintro σ H1 ⟨m3, e3, v2, v3, v4, rfl⟩
          exact ⟨m3, e3, _, _, _, rfl⟩
    · rintro σ H1 ⟨m, ec, v2, v3, v4, rfl⟩
      refine ⟨_, rfl, a, _, 2, _, rfl, rfl, same_t m e, rfl, _, rfl, a', _, 2, _, rfl, rfl, same_t m e', rfl, _, _, rfl, rfl, .inr ⟨_, rfl, ?_⟩⟩
      refine ⟨_, rfl, a, _, 2, _, rfl, rfl, same_t m e, rfl, _, rfl, a', _, 2, _, rfl, rfl, same_t m e', rfl, _, _, rfl, rfl, .inr ⟨_, rfl, _, _, rfl, rfl, ?_⟩⟩
      have q := kn _ ec m
      rw [← sg_val] at q
      exact q
theorem ok_greater_growth (T : Txt K mg) : FnOk P w K mg base CX0 4 T.a_greater_growth T.d_greater_growth ["one", "other"] (spOrder K) := by
  refine T.F_greater_growth.ok sc_greater_growth (fun vs H Q E h => ?_) (fun cdv A outer s H vs Q E hr h => ?_)
  · obtain ⟨x, y, g, g', rfl, _⟩ := h
    rfl
  obtain ⟨x, y, g, g', rfl, hx, hy, ok, ok', k⟩ := h
  refine ⟨_, (pss_one (ps_ret (pe_call (ok_order_of T) (hr.mono (by decide)) (by rfl) T.g_order_of T.F_order_of.kp T.b_order_of .nil pass0 (pa_cons (pv 0) (pa_cons (pv 1) pa_nil))))), ?_⟩
  exact ⟨_, rfl, _, rfl, x, y, g, g', rfl, hx, hy, ok, ok', k⟩
/-- alike data are the same -/
def spSame (K : PySem.W.Frag) (n : Nat) : Sp := fun vs H Q _ => ∃ (x y : V) (d : PyData), vs = [x, y] ∧ Dp K H x d ∧ Dp K H y d ∧ dep d < n ∧ wid d ≤ 100000 ∧ ∀ H', Same H H' → Q (.bl true) H'
theorem same_step (T : Txt K mg) (n : Nat) (G_law_same : FnOk P w K mg base CX0 n T.a_law_same T.d_law_same ["_law_found", "_law_due"] (spSame K n)) :
    FnOk P w K mg base CX0 (n + 1) T.a_law_same T.d_law_same ["_law_found", "_law_due"] (spSame K (n + 1)) := by
  refine T.F_law_same.ok sc_law_same (fun vs H Q E h => ?_) (fun cdv A outer s H vs Q E hr h => ?_)
  · obtain ⟨x, y, d, rfl, _⟩ := h
    rfl
  obtain ⟨x, y, d, rfl, dx, dy, hn, hw, k⟩ := h
  refine ⟨_, (pss_cons (ps_if (pt_val (pe_callB call_isiT (by rfl) T.z_isinstance (by decide +kernel) (pa_cons (pv 1) (pa_cons (pe_tup (pa_cons (pe_bltn (v := .ty "list") (by rfl) T.z_list (by decide +kernel) rfl) (pa_cons (pe_bltn (v := .ty "tuple") (by rfl) T.z_tuple (by decide +kernel) rfl) pa_nil))) pa_nil)))) (pss_cons (ps_if (PW.pt (pw_or (pt_cmpR op_ne (pe_callB call_isi (by rfl) T.z_isinstance (by decide +kernel) (pa_cons (pv 0) (pa_cons (pe_bltn (v := .ty "list") (by rfl) T.z_list (by decide +kernel) rfl) pa_nil))) (pe_callB call_isi (by rfl) T.z_isinstance (by decide +kernel) (pa_cons (pv 1) (pa_cons (pe_bltn (v := .ty "list") (by rfl) T.z_list (by decide +kernel) rfl) pa_nil))) (nomark _)) (pw_or1 (pt_not (pt_val (pe_callB call_isiT (by rfl) T.z_isinstance (by decide +kernel) (pa_cons (pv 0) (pa_cons (pe_tup (pa_cons (pe_bltn (v := .ty "list") (by rfl) T.z_list (by decide +kernel) rfl) (pa_cons (pe_bltn (v := .ty "tuple") (by rfl) T.z_tuple (by decide +kernel) rfl) pa_nil))) pa_nil)))))))) (pss_one (ps_ret pe_bl)) pss_nil)
      (pss_one (ps_ret (pe_and (pe_cmpR op_eq (pe_callB call_len (by rfl) T.z_len (by decide +kernel) (pa_cons (pv 0) pa_nil)) (pe_callB call_len (by rfl) T.z_len (by decide +kernel) (pa_cons (pv 1) pa_nil)) (nomark _)) (pe_one (pe_callB (cr_all rfl) (by rfl) T.z_all (by decide +kernel) (pa_cons (pe_lc (own := [("_law_one", 2), ("_law_other", 3)]) (g := gTup K 2 ((gCons (gName 2) (gCons (gName 3) gNil)))) (tt := tYes) rfl sc_law_same.nd (RZ.pi_zipA (by rfl) T.z_zip (pa_cons (pv 0) (pa_cons (pv 1) pa_nil))) (blkOk_by (N := N_law_same) (sc := defScope s_law_same) (by decide +kernel)) (fun _ _ _ _ _ => (pg_tup rfl (pgs_cons (pg_name (i := 2) sc_law_same.nd rfl (Or.inl rfl)) (pgs_cons (pg_name (i := 3) sc_law_same.nd rfl (Or.inl rfl)) pgs_nil)))) (fun _ _ _ _ _ => pts_nil) (fun _ _ _ _ _ => (pe_call G_law_same hr (by rfl) T.g_law_same T.F_law_same.kp T.b_law_same .nil pass0 (pa_cons (pv 2) (pa_cons (pv 3) pa_nil))))) pa_nil))))))) pss_nil)
      (pss_cons (ps_if (pt_cmpR op_isN (pv 1) pe_non (nomark _)) (pss_one (ps_ret (pe_cmpR op_isN (pv 0) pe_non (nomark _)))) pss_nil)
      (pss_cons (ps_if (PW.pt (pw_or (pt_cmpR op_ne (pe_callB call_isi (by rfl) T.z_isinstance (by decide +kernel) (pa_cons (pv 0) (pa_cons (pe_bltn (v := .ty "bool") (by rfl) T.z_bool (by decide +kernel) rfl) pa_nil))) (pe_callB call_isi (by rfl) T.z_isinstance (by decide +kernel) (pa_cons (pv 1) (pa_cons (pe_bltn (v := .ty "bool") (by rfl) T.z_bool (by decide +kernel) rfl) pa_nil))) (nomark _)) (pw_or1 (pt_cmpR op_ne (pe_callB call_isi (by rfl) T.z_isinstance (by decide +kernel) (pa_cons (pv 0) (pa_cons (pe_bltn (v := .ty "int") (by rfl) T.z_int (by decide +kernel) rfl) pa_nil))) (pe_callB call_isi (by rfl) T.z_isinstance (by decide +kernel) (pa_cons (pv 1) (pa_cons (pe_bltn (v := .ty "int") (by rfl) T.z_int (by decide +kernel) rfl) pa_nil))) (nomark _))))) (pss_one (ps_ret pe_bl)) pss_nil)
      (pss_one (ps_ret (pe_and (pe_cmpR op_eq (pe_callB call_isi (by rfl) T.z_isinstance (by decide +kernel) (pa_cons (pv 0) (pa_cons (pe_bltn (v := .ty "str") (by rfl) T.z_str (by decide +kernel) rfl) pa_nil))) (pe_callB call_isi (by rfl) T.z_isinstance (by decide +kernel) (pa_cons (pv 1) (pa_cons (pe_bltn (v := .ty "str") (by rfl) T.z_str (by decide +kernel) rfl) pa_nil))) (nomark _)) (pe_one (pe_cmpR op_eq (pv 0) (pv 1) (nomark _))))))))), ?_⟩
  have kd := fun d => kit_d (K := K) d
  -- isinstance(due, (list, tuple))
  refine ⟨_, rfl, by show 2 ≤ sizeLine; decide, fun p hp => ?_⟩
  have s1 : Same H (upd H p (.tup clsLT)) := same_upd hp
  refine ⟨y, p, clsLT, _, _, _, rfl, upd_same, pairLT, dp_ty (Dp.mono s1 dy), kit2 (kd d).1 (kd d).2.1, _, rfl, ?_⟩
  refine ite2 (fun c1 => ?_) (fun c1 => ?_)
  · -- lists, tuples
    refine ⟨_, rfl, x, _, _, _, _, rfl, .ty _, dp_ty (Dp.mono s1 dx), (kd d).1, ?_⟩
    refine ⟨_, rfl, y, _, _, _, _, rfl, .ty _, dp_ty (Dp.mono s1 dy), (kd d).1, rfl, _, rfl, ?_⟩
    refine iteNS rfl ?_
    refine ⟨_, rfl, by show 2 ≤ sizeLine; decide, fun p2 hp2 => ?_⟩
    have s2 := s1.trans (same_upd (o := .tup clsLT) hp2)
    refine ⟨x, p2, clsLT, _, _, _, rfl, upd_same, pairLT, dp_ty (Dp.mono s2 dx), kit2 (kd d).1 (kd d).2.1, _, rfl, ?_⟩
    rw [c1]
    refine iteF ?_
    generalize hH : upd (upd H p (.tup clsLT)) p2 (.tup clsLT) = H2 at s2
    have dx2 := Dp.mono s2 dx
    have dy2 := Dp.mono s2 dy
    -- the turns of the comprehension
    have turn : ∀ (D : Addr) (xs ys : List V) (ds : List PyData), H2 D = none → DpAll K H2 xs ds → DpAll K H2 ys ds → depAll ds < n → widAll ds ≤ 100000 → ds.length ≤ 100000 → ∀ (i : Nat) (z : V) (H H' : Hp), i < min xs.length ys.length →
        (Same H2 H ∧ H D = some (.lst (List.replicate i (V.bl true)))) → YPair (fun i => xs[i]?) (fun i => ys[i]?) i H z H' → ∃ T u v du, z = .ref T ∧ H' T = some (.tup [u, v]) ∧ Dp K H' u du ∧ Dp K H' v du ∧ dep du < n ∧ wid du ≤ 100000 ∧ i < 100000 ∧ Same H2 H' ∧ H' D = some (.lst (List.replicate i (V.bl true))) := by
      rintro D xs ys ds hD ax ay hdp hwd hln i z H3 H4 hi ⟨sm, eD⟩ ⟨Tt, u, v, rfl, nT, rfl, gx, gy⟩
      have lx := ax.length
      obtain ⟨du, gd, pu⟩ := ax.get gx
      obtain ⟨dv, gd', pv⟩ := ay.get gy
      rw [gd] at gd'
      cases gd'
      have sm' := sm.trans (same_upd (o := .tup [u, v]) nT)
      have := dep_get gd
      have := wid_get gd
      refine ⟨Tt, u, v, du, rfl, upd_same, Dp.mono sm' pu, Dp.mono sm' pv, by omega, by omega, by omega, sm', ?_⟩
      rw [upd_ne (ne_of_none eD nT)]
      exact eD
    have fin : ∀ (m : Nat) (H' : Hp) (D : Addr), Same H2 H' → H' D = some (.lst (List.replicate m (V.bl true))) → ∃ (a : Addr) (bs : List Bool), ([.ref D] : List V) = [V.ref a] ∧ SqL K H' a (bs.map V.bl) ∧ Q (.bl (bs.all id)) H' := by
      intro m H' D sm eD
      refine ⟨D, List.replicate m true, rfl, SqL.of (by rw [List.map_replicate]; exact eD), ?_⟩
      rw [show (List.replicate m true).all id = true by simp]
      exact k _ (s2.trans sm)
    have body : ∀ (D : Addr) (i : Nat) (u v : V) (du : PyData) (H' : Hp), H2 D = none → Dp K H' u du → Dp K H' v du → dep du < n → wid du ≤ 100000 → i < 100000 → Same H2 H' → H' D = some (.lst (List.replicate i (V.bl true))) →
        spSame K n [u, v] H' (fun y H4 => ∃ acc, H4 D = some (.lst acc) ∧ acc.length < sizeLine ∧ (Same H2 (upd H4 D (.lst (acc ++ [y]))) ∧ (upd H4 D (.lst (acc ++ [y]))) D = some (.lst (List.replicate (i + 1) (V.bl true))))) E0 := by
      intro D i u v du H' hD pu pv hdp hwd hi sm eD
      refine ⟨u, v, du, rfl, pu, pv, hdp, hwd, fun H4 sm4 => ?_⟩
      refine ⟨List.replicate i (V.bl true), sm4 _ _ eD, ?_, ?_, ?_⟩
      · rw [List.length_replicate]
        exact Nat.lt_of_lt_of_le hi (by decide)
      · intro b o e
        rw [upd_ne (ne_of_none e hD)]
        exact sm4 _ _ (sm _ _ e)
      · rw [upd_same, List.replicate_succ']
    cases dx2 with
    | @lst a xs ds hs ha =>
      cases dy2 with
      | @lst b ys _ hs' ha' =>
        have hdp : depAll ds < n := by
          rw [dep] at hn
          omega
        have hwd : widAll ds ≤ 100000 ∧ ds.length ≤ 100000 := by
          rw [wid] at hw
          omega
        have lx := ha.length
        have ly := ha'.length
        have el : decide (V.int ((xs.length : Nat) : Int) = V.int ((ys.length : Nat) : Int)) = true := by
          rw [lx, ly]
          exact decide_eq_true rfl
        refine ⟨_, rfl, _, _, rfl, .inl ⟨xs, hs, rfl⟩, _, rfl, _, _, rfl, .inl ⟨ys, hs', rfl⟩, rfl, _, rfl, ?_⟩
        rw [el]
        refine iteT ?_
        refine ⟨_, rfl, _, rfl, a, b, xs, ys, rfl, .inl ⟨hs, hs', fun D hD => ?_⟩⟩
        refine lc_it (walk_zip rfl) (fun i H => Same H2 H ∧ H D = some (.lst (List.replicate i (V.bl true)))) ⟨same_upd hD, upd_same⟩ (fun i H _ p => ⟨same_l p.1 hs, same_l p.1 hs'⟩) ?_ (fun H' p => fin _ H' D p.1 p.2)
        intro i z H3 H4 hi p y
        obtain ⟨Tt, u, v, du, rfl, eT, pu, pv, h1, h2, h3, sm, eD⟩ := turn D xs ys ds hD ha ha' hdp hwd.1 hwd.2 i z H3 H4 hi p y
        refine ⟨Tt, [u, v], rfl, SqT.of eT, rfl, u, [v], rfl, v, [], rfl, rfl, rfl, ?_⟩
        exact ⟨_, rfl, _, rfl, body D i u v du H4 hD pu pv h1 h2 h3 sm eD⟩
    | @tup a xs ds hs ha =>
      cases dy2 with
      | @tup b ys _ hs' ha' =>
        have hdp : depAll ds < n := by
          rw [dep] at hn
          omega
        have hwd : widAll ds ≤ 100000 ∧ ds.length ≤ 100000 := by
          rw [wid] at hw
          omega
        have lx := ha.length
        have ly := ha'.length
        have el : decide (V.int ((xs.length : Nat) : Int) = V.int ((ys.length : Nat) : Int)) = true := by
          rw [lx, ly]
          exact decide_eq_true rfl
        refine ⟨_, rfl, _, _, rfl, .inr ⟨xs, hs, rfl⟩, _, rfl, _, _, rfl, .inr ⟨ys, hs', rfl⟩, rfl, _, rfl, ?_⟩
        rw [el]
        refine iteT ?_
        refine ⟨_, rfl, _, rfl, a, b, xs, ys, rfl, .inr ⟨hs, hs', fun D hD => ?_⟩⟩
        refine lc_it (walk_zipT rfl) (fun i H => Same H2 H ∧ H D = some (.lst (List.replicate i (V.bl true)))) ⟨same_upd hD, upd_same⟩ (fun i H _ p => ⟨same_t p.1 hs, same_t p.1 hs'⟩) ?_ (fun H' p => fin _ H' D p.1 p.2)
        intro i z H3 H4 hi p y
        obtain ⟨Tt, u, v, du, rfl, eT, pu, pv, h1, h2, h3, sm, eD⟩ := turn D xs ys ds hD ha ha' hdp hwd.1 hwd.2 i z H3 H4 hi p y
        refine ⟨Tt, [u, v], rfl, SqT.of eT, rfl, u, [v], rfl, v, [], rfl, rfl, rfl, ?_⟩
        exact ⟨_, rfl, _, rfl, body D i u v du H4 hD pu pv h1 h2 h3 sm eD⟩
    | non => exact absurd c1 (by decide)
    | bl b => exact absurd c1 (by decide : ¬ (isTn "list" "bool" || isTn "tuple" "bool") = true)
    | int i => exact absurd c1 (by decide : ¬ (isTn "list" "int" || isTn "tuple" "int") = true)
    | str x => exact absurd c1 (by decide : ¬ (isTn "list" "str" || isTn "tuple" "str") = true)
  · generalize upd H p (.tup clsLT) = H2 at s1
    have dx2 := Dp.mono s1 dx
    have dy2 := Dp.mono s1 dy
    cases dx2 with
    | lst hs ha => exact absurd rfl c1
    | tup hs ha => exact absurd rfl c1
    | non =>
      cases dy2
      refine ⟨_, rfl, rfl, _, rfl, ?_⟩
      refine iteT ?_
      exact ⟨_, rfl, rfl, k _ s1⟩
    | bl b =>
      cases dy2
      refine ⟨_, rfl, rfl, _, rfl, ?_⟩
      refine iteF ?_
      -- isinstance(.., bool), isinstance(.., int)
      refine ⟨_, rfl, _, _, _, _, _, rfl, .ty _, .base (.bl b), (kd (.bool b)).2.2.1, _, rfl, _, _, _, _, _, rfl, .ty _, .base (.bl b), (kd (.bool b)).2.2.1, rfl, _, rfl, ?_⟩
      refine iteNS rfl ?_
      refine ⟨_, rfl, _, _, _, _, _, rfl, .ty _, .base (.bl b), (kd (.bool b)).2.2.2.1, _, rfl, _, _, _, _, _, rfl, .ty _, .base (.bl b), (kd (.bool b)).2.2.2.1, rfl, _, rfl, ?_⟩
      refine iteNS rfl ?_
      refine ⟨_, rfl, _, _, _, _, _, rfl, .ty _, .base (.bl b), (kd (.bool b)).2.2.2.2, _, rfl, _, _, _, _, _, rfl, .ty _, .base (.bl b), (kd (.bool b)).2.2.2.2, rfl, _, rfl, ?_⟩
      rw [decide_eq_true rfl]
      refine iteT ?_
      refine ⟨_, rfl, _, rfl, rfl, ?_⟩
      rw [decide_eq_true rfl]
      exact k _ s1
    | int b =>
      cases dy2
      refine ⟨_, rfl, rfl, _, rfl, ?_⟩
      refine iteF ?_
      -- isinstance(.., bool), isinstance(.., int)
      refine ⟨_, rfl, _, _, _, _, _, rfl, .ty _, .base (.int b), (kd (.int b)).2.2.1, _, rfl, _, _, _, _, _, rfl, .ty _, .base (.int b), (kd (.int b)).2.2.1, rfl, _, rfl, ?_⟩
      refine iteNS rfl ?_
      refine ⟨_, rfl, _, _, _, _, _, rfl, .ty _, .base (.int b), (kd (.int b)).2.2.2.1, _, rfl, _, _, _, _, _, rfl, .ty _, .base (.int b), (kd (.int b)).2.2.2.1, rfl, _, rfl, ?_⟩
      refine iteNS rfl ?_
      refine ⟨_, rfl, _, _, _, _, _, rfl, .ty _, .base (.int b), (kd (.int b)).2.2.2.2, _, rfl, _, _, _, _, _, rfl, .ty _, .base (.int b), (kd (.int b)).2.2.2.2, rfl, _, rfl, ?_⟩
      rw [decide_eq_true rfl]
      refine iteT ?_
      refine ⟨_, rfl, _, rfl, rfl, ?_⟩
      rw [decide_eq_true rfl]
      exact k _ s1
    | str b =>
      cases dy2
      refine ⟨_, rfl, rfl, _, rfl, ?_⟩
      refine iteF ?_
      -- isinstance(.., bool), isinstance(.., int)
      refine ⟨_, rfl, _, _, _, _, _, rfl, .ty _, .base (.str b), (kd (.str b)).2.2.1, _, rfl, _, _, _, _, _, rfl, .ty _, .base (.str b), (kd (.str b)).2.2.1, rfl, _, rfl, ?_⟩
      refine iteNS rfl ?_
      refine ⟨_, rfl, _, _, _, _, _, rfl, .ty _, .base (.str b), (kd (.str b)).2.2.2.1, _, rfl, _, _, _, _, _, rfl, .ty _, .base (.str b), (kd (.str b)).2.2.2.1, rfl, _, rfl, ?_⟩
      refine iteNS rfl ?_
      refine ⟨_, rfl, _, _, _, _, _, rfl, .ty _, .base (.str b), (kd (.str b)).2.2.2.2, _, rfl, _, _, _, _, _, rfl, .ty _, .base (.str b), (kd (.str b)).2.2.2.2, rfl, _, rfl, ?_⟩
      rw [decide_eq_true rfl]
      refine iteT ?_
      refine ⟨_, rfl, _, rfl, rfl, ?_⟩
      rw [decide_eq_true rfl]
      exact k _ s1
theorem same_all (T : Txt K mg) : ∀ n, FnOk P w K mg base CX0 n T.a_law_same T.d_law_same ["_law_found", "_law_due"] (spSame K n)
  | 0 => by
    have no : ∀ vs H Q E, ¬ spSame K 0 vs H Q E := fun vs H Q E h => by
      obtain ⟨x, y, d, _, _, _, h, _⟩ := h
      omega
    exact ⟨fun vs H Q E h => absurd h (no vs H Q E), fun A outer s H args us vs Q E _ _ _ _ h => absurd h (no vs H Q E)⟩
  | n + 1 => same_step T n (same_all T n)
theorem ok_law_same (T : Txt K mg) : FnOk P w K mg base CX0 12 T.a_law_same T.d_law_same ["_law_found", "_law_due"] (spSame K 12) := same_all T 12
def sgnI (n : Int) : Int := (if decide (0 < n) = true then 1 else 0) - (if decide (n < 0) = true then 1 else 0)
def spSignum : Sp := fun vs H Q _ => ∃ n : Int, vs = [.int n] ∧ Q (.int (sgnI n)) H
theorem ok_law_signum (T : Txt K mg) : FnOk P w K mg base CX0 1 T.a_law_signum T.d_law_signum ["_law_number"] spSignum := by
  refine T.F_law_signum.ok sc_law_signum (fun vs H Q E h => ?_) (fun cdv A outer s H vs Q E hr h => ?_)
  · obtain ⟨n, rfl, _⟩ := h
    rfl
  obtain ⟨n, rfl, k⟩ := h
  refine ⟨_, (pss_one (ps_ret (pe_op op_sub (pe_callTy call_int1 (by rfl) T.z_int (by decide +kernel) (pa_cons (pe_cmpR op_gt (pv 0) pe_int (nomark _)) pa_nil)) (pe_callTy call_int1 (by rfl) T.z_int (by decide +kernel) (pa_cons (pe_cmpR op_lt (pv 0) pe_int (nomark _)) pa_nil))))), ?_⟩
  refine ⟨_, rfl, _, 0, rfl, rfl, .inr ⟨_, rfl, ?_⟩⟩
  refine ⟨_, rfl, _, 0, rfl, rfl, .inr ⟨_, rfl, ?_⟩⟩
  exact ⟨_, _, rfl, rfl, k⟩
def spRoot : Sp := fun vs H Q _ => ∃ (t b p : Nat), vs = [.int t, .int b, .int p] ∧ t ≤ 512 ∧ 2 ≤ b ∧ b ≤ 3 ∧ p ≤ 60 ∧ Q (.int (wp 600 (t ^ p) b)) H
theorem ok_law_whole_root (T : Txt K mg) : FnOk P w K mg base CX0 2 T.a_law_whole_root T.d_law_whole_root ["_law_times_of", "_law_by_it", "_law_upto"] spRoot := by
  refine T.F_law_whole_root.ok sc_law_whole_root (fun vs H Q E h => ?_) (fun cdv A outer s H vs Q E hr h => ?_)
  · obtain ⟨n, b, p, rfl, _⟩ := h
    rfl
  obtain ⟨t, b, p, rfl, ht, hb2, hb3, hp, k⟩ := h
  refine ⟨_, (pss_cons (ps_set (i := 3) sc_law_whole_root.nd rfl (Or.inl rfl) pe_int)
      (pss_cons (ps_set (i := 4) sc_law_whole_root.nd rfl (Or.inl rfl) (pe_call (ok_law_raised T) (hr.mono (by decide)) (by rfl) T.g_law_raised T.F_law_raised.kp T.b_law_raised .nil pass0 (pa_cons (pv 0) (pa_cons (pv 2) pa_nil))))
      (pss_cons (ps_while PassesOwn.never (pt_cmpR op_ge (pv 4) (pv 1) (nomark _)) (pss_cons (ps_set (i := 4) sc_law_whole_root.nd rfl (Or.inl rfl) (pe_op op_fdivW (pv 4) (pv 1)))
      (pss_one (ps_set (i := 3) sc_law_whole_root.nd rfl (Or.inl rfl) (pe_op op_add (pv 3) pe_int)))))
      (pss_one (ps_ret (pv 3)))))), ?_⟩
  refine ⟨_, rfl, _, rfl, t, p, 10, rfl, (by omega), by decide, by omega, ?_⟩
  have hn := pow_small ht hp
  generalize hN : t ^ p = n at *
  have eN : ((t : Int) ^ p) = (n : Int) := by
    rw [← hN]
    exact (Int.natCast_pow t p).symm
  rw [eN]
  refine while_by (fun σ H' => H' = H ∧ ∃ (m f c : Nat), σ = [some (.int t), some (.int b), some (.int p), some (.int c), some (.int m)] ∧ m < 2 ^ f ∧ wp 600 n b = wp f m b + c) (fun σ _ => match σ with | _ :: _ :: _ :: _ :: some (.int m) :: _ => m.toNat | _ => 0) ⟨rfl, n, 600, 0, rfl, hn, rfl⟩ ?_ ?_
  · rintro σ H1 ⟨rfl, m, f, c, rfl, hm, e⟩
    refine ⟨_, rfl, _, rfl, _, _, rfl, rfl, _, rfl, ?_⟩
    refine ite2 (fun t => ?_) (fun t => ?_)
    · have t' : (b : Int) ≤ (m : Int) := of_decide_eq_true t
      obtain ⟨g, rfl⟩ : ∃ g, f = g + 1 := by
        cases f with
        | zero =>
          rw [Nat.pow_zero] at hm
          omega
        | succ g => exact ⟨g, rfl⟩
      refine ⟨_, rfl, _, rfl, _, _, rfl, rfl, log_small (k := 2) (by omega) (by omega) (by decide) (by decide), _, rfl, _, _, rfl, rfl, ?_⟩
      refine ⟨⟨rfl, m / b, g, c + 1, rfl, half_lt hb2 hm, ?_⟩, ?_⟩
      · rw [e, wp_step (by omega)]
        omega
      · show ((m : Int) / (b : Int)).toNat < (m : Int).toNat
        have : m / b < m := Nat.div_lt_self (by omega) (by omega)
        have e2 : ((m : Int) / (b : Int)) = ((m / b : Nat) : Int) := rfl
        rw [e2]
        omega
    · have t' : ¬ (b : Int) ≤ (m : Int) := fun z => t (decide_eq_true z)
      refine ⟨_, rfl, ?_⟩
      rw [e, wp_zero (by omega), Nat.zero_add] at k
      exact k
  · rintro σ H Q Q' hQ ⟨v, e1, v2, e2, i, j, e3, e4, kk, e5, q⟩
    exact ⟨v, e1, v2, e2, i, j, e3, e4, kk, e5, hQ _ _ q⟩
theorem sgnI_eq (f f' : Nat) : sgnI ((f : Int) - (f' : Int)) = sg f f' := by
  unfold sgnI sg
  by_cases h : f' < f
  · rw [if_pos h, if_pos (decide_eq_true (by omega)), if_neg (by rw [decide_eq_false (by omega)]; decide)]
    rfl
  · rw [if_neg h, if_neg (by rw [decide_eq_false (by omega)]; decide)]
    by_cases h2 : f < f'
    · rw [if_pos h2, if_pos (decide_eq_true (by omega))]
      rfl
    · rw [if_neg h2, if_neg (by rw [decide_eq_false (by omega)]; decide)]
      rfl
theorem ok_law_greater (T : Txt K mg) : FnOk P w K mg base CX0 4 T.a_law_greater T.d_law_greater ["_law_one", "_law_other"] (spOrder K) := by
  refine T.F_law_greater.ok sc_law_greater (fun vs H Q E h => ?_) (fun cdv A outer s H vs Q E hr h => ?_)
  · obtain ⟨x, y, g, g', rfl, _⟩ := h
    rfl
  obtain ⟨x, y, g, g', rfl, hx, hy, ok, ok', k⟩ := h
  refine ⟨_, (pss_cons (ps_if (PW.pt (pw_or (pt_cmpR op_isN (pv 0) pe_non (nomark _)) (pw_or1 (pt_cmpR op_isN (pv 1) pe_non (nomark _))))) (pss_one (ps_ret (pe_op op_sub (pe_callTy call_int1 (by rfl) T.z_int (by decide +kernel) (pa_cons (pe_cmpR op_isN (pv 1) pe_non (nomark _)) pa_nil)) (pe_callTy call_int1 (by rfl) T.z_int (by decide +kernel) (pa_cons (pe_cmpR op_isN (pv 0) pe_non (nomark _)) pa_nil))))) pss_nil)
      (pss_cons (ps_if (pt_cmpR (op_eqD hr.units) (pe_slice sl_tup (pv 0) po_none (po_some pe_int)) (pe_slice sl_tup (pv 1) po_none (po_some pe_int)) (nomark _)) (pss_one (ps_ret (pe_call (ok_law_signum T) (hr.mono (by decide)) (by rfl) T.g_law_signum T.F_law_signum.kp T.b_law_signum .nil pass0 (pa_cons (pe_op op_sub (pe_ix ix_tup (pv 0) pe_int (fun _ _ => rfl)) (pe_ix ix_tup (pv 1) pe_int (fun _ _ => rfl))) pa_nil)))) pss_nil)
      (pss_cons (ps_for PassesOwn.never rfl (pi_range2 (by rfl) T.z_range (pa_cons pe_int (pa_cons pe_int pa_nil))) (pg_name (i := 2) sc_law_greater.nd rfl (Or.inl rfl)) (pss_cons (ps_set (i := 3) sc_law_greater.nd rfl (Or.inl rfl) (pe_op op_sub (pe_call (ok_law_whole_root T) (hr.mono (by decide)) (by rfl) T.g_law_whole_root T.F_law_whole_root.kp T.b_law_whole_root .nil pass0 (pa_cons (pe_ix ix_tup (pv 0) pe_int (fun _ _ => rfl)) (pa_cons (pe_ix ix_tup (pv 0) pe_int (fun _ _ => rfl)) (pa_cons (pv 2) pa_nil)))) (pe_call (ok_law_whole_root T) (hr.mono (by decide)) (by rfl) T.g_law_whole_root T.F_law_whole_root.kp T.b_law_whole_root .nil pass0 (pa_cons (pe_ix ix_tup (pv 1) pe_int (fun _ _ => rfl)) (pa_cons (pe_ix ix_tup (pv 1) pe_int (fun _ _ => rfl)) (pa_cons (pv 2) pa_nil))))))
      (pss_one (ps_if (pt_cmpR op_ne (pv 3) pe_int (nomark _)) (pss_one (ps_ret (pe_call (ok_law_signum T) (hr.mono (by decide)) (by rfl) T.g_law_signum T.F_law_signum.kp T.b_law_signum .nil pass0 (pa_cons (pv 3) pa_nil)))) pss_nil))))
      (pss_one (ps_ret (pe_call (ok_law_signum T) (hr.mono (by decide)) (by rfl) T.g_law_signum T.F_law_signum.kp T.b_law_signum .nil pass0 (pa_cons (pe_op op_sub (pe_ix ix_tup (pv 0) pe_int (fun _ _ => rfl)) (pe_ix ix_tup (pv 1) pe_int (fun _ _ => rfl))) pa_nil))))))), ?_⟩
  rcases g with _ | ⟨t, b, f⟩
  · cases (show x = V.non from hx)
    rcases g' with _ | ⟨t, b, f⟩
    · cases (show y = V.non from hy)
      refine ⟨_, rfl, rfl, _, rfl, iteT (iteT ?_)⟩
      exact ⟨_, rfl, rfl, .inr ⟨_, rfl, _, rfl, rfl, .inr ⟨_, rfl, _, _, rfl, rfl, k H (Same.refl _)⟩⟩⟩
    · obtain ⟨a, rfl, e⟩ := hy
      refine ⟨_, rfl, rfl, _, rfl, iteT (iteT ?_)⟩
      exact ⟨_, rfl, rfl, .inr ⟨_, rfl, _, rfl, rfl, .inr ⟨_, rfl, _, _, rfl, rfl, k H (Same.refl _)⟩⟩⟩
  rcases g' with _ | ⟨t', b', f'⟩
  · cases (show y = V.non from hy)
    obtain ⟨a, rfl, e⟩ := hx
    refine ⟨_, rfl, rfl, _, rfl, iteF ⟨_, rfl, rfl, _, rfl, iteT ?_⟩⟩
    exact ⟨_, rfl, rfl, .inr ⟨_, rfl, _, rfl, rfl, .inr ⟨_, rfl, _, _, rfl, rfl, k H (Same.refl _)⟩⟩⟩
  · obtain ⟨a, rfl, e⟩ := hx
    obtain ⟨a', rfl, e'⟩ := hy
    obtain ⟨hm, hf⟩ := ok
    obtain ⟨hm', hf'⟩ := ok'
    refine ⟨_, rfl, rfl, _, rfl, iteF ⟨_, rfl, rfl, _, rfl, iteF ?_⟩⟩
    obtain ⟨s1, s2, s3⟩ := prs_small hm
    obtain ⟨s1', s2', s3'⟩ := prs_small hm'
    have kc : ∀ (H' : Hp) (r : Int), coreL t b t' b' = some r → Same H H' → Q (.int r) H' := fun H' r e sm => by
      have q := k H' sm
      rw [cmpG_some, ← (core_eq hm hm').2, e] at q
      exact q
    have kn : ∀ (H' : Hp), coreL t b t' b' = none → Same H H' → Q (.int (sg f f')) H' := fun H' e sm => by
      have q := k H' sm
      rw [cmpG_some, ← (core_eq hm hm').2, e] at q
      exact q
    refine ⟨_, rfl, 2, rfl, a, _, rfl, e, (by show ¬ (HT.sIx 3 0 none = 0 ∧ HT.sIx 3 3 (some 2) = 3); decide), fun p hp => ?_⟩
    have m1 : Same H _ := same_upd (o := .tup (cutV [V.int t, V.int b, V.int f] none (some 2))) hp
    refine ⟨_, rfl, 2, rfl, a', _, rfl, same_t m1 e', (by show ¬ (HT.sIx 3 0 none = 0 ∧ HT.sIx 3 3 (some 2) = 3); decide), fun p2 hp2 => ?_⟩
    have m2 := m1.trans (same_upd (o := .tup (cutV [V.int t', V.int b', V.int f'] none (some 2))) hp2)
    refine ⟨.tuple [.int t, .int b], .tuple [.int t', .int b'], .tup (xs := [.int t, .int b]) (SqT.of ?_) (.cons (.int _) (.cons (.int _) .nil)), .tup (xs := [.int t', .int b']) (SqT.of ?_) (.cons (.int _) (.cons (.int _) .nil)), rfl, rfl, _, rfl, ?_⟩
    · rw [upd_ne (fun q => by rw [q, upd_same] at hp2; cases hp2)]
      exact upd_same
    · exact upd_same
    rw [eqv_pair]
    by_cases same : t = t' ∧ b = b'
    · obtain ⟨rfl, rfl⟩ := same
      rw [decide_eq_true rfl, decide_eq_true rfl]
      refine iteT ?_
      refine ⟨_, rfl, a, _, 2, _, rfl, rfl, same_t m2 e, rfl, _, rfl, a', _, 2, _, rfl, rfl, same_t m2 e', rfl, _, _, rfl, rfl, _, rfl, ?_⟩
      have q := kn _ (by unfold coreL; rw [if_pos ⟨rfl, rfl⟩]) m2
      rw [← sgnI_eq] at q
      exact q
    have ne : (decide ((t : Int) = (t' : Int)) && decide ((b : Int) = (b' : Int))) = false := by
      rw [Bool.and_eq_false_iff, decide_eq_false_iff_not, decide_eq_false_iff_not]
      omega
    rw [ne]
    refine iteF ?_
    have ec : coreL t b t' b' = fd t b t' b' 1 60 := by
      unfold coreL
      rw [if_neg same]
    refine ⟨1, 61, rfl, by decide, ?_⟩
    refine for_it walk_range (fun i σ H' => Same H H' ∧ coreL t b t' b' = fd t b t' b' (1 + i) (60 - i) ∧ ∃ v2 v3, σ = [some (.ref a), some (.ref a'), v2, v3]) ⟨m2, ec, _, _, rfl⟩ (fun _ _ _ _ _ => trivial) ?_ ?_
    · rintro i x σ H1 H2 hi ⟨m3, e3, v2, v3, rfl⟩ ⟨rfl, rfl⟩
      have hi' : i < 60 := hi
      have ep : ((1 : Int) + (i : Int)) = ((1 + i : Nat) : Int) := by omega
      show gName _ (V.int ((1 : Int) + (i : Int))) _ _ _
      rw [ep]
      refine ⟨_, rfl, a, _, 0, _, rfl, rfl, same_t m3 e, rfl, _, rfl, a, _, 1, _, rfl, rfl, same_t m3 e, rfl, _, rfl, t, b, 1 + i, rfl, s1, s2, s3, by omega, ?_⟩
      refine ⟨_, rfl, a', _, 0, _, rfl, rfl, same_t m3 e', rfl, _, rfl, a', _, 1, _, rfl, rfl, same_t m3 e', rfl, _, rfl, t', b', 1 + i, rfl, s1', s2', s3', by omega, ?_⟩
      have es : fd t b t' b' (1 + i) (60 - i) = if wp 600 (t ^ (1 + i)) b = wp 600 (t' ^ (1 + i)) b' then fd t b t' b' (1 + (i + 1)) (60 - (i + 1)) else some (if wp 600 (t' ^ (1 + i)) b' < wp 600 (t ^ (1 + i)) b then 1 else -1) := by
        rw [show 60 - i = (60 - (i + 1)) + 1 by omega, fd]
        rfl
      rw [es] at e3
      generalize wp 600 (t ^ (1 + i)) b = u at *
      generalize wp 600 (t' ^ (1 + i)) b' = u' at *
      refine ⟨_, _, rfl, rfl, _, rfl, rfl, _, rfl, ?_⟩
      by_cases c : u = u'
      · subst c
        rw [if_pos rfl] at e3
        rw [show (!decide (V.int ((fun i j : Int => i - j) (u : Nat) (u : Nat)) = V.int 0)) = false by
          rw [Bool.not_eq_false', decide_eq_true_eq]
          exact congrArg V.int (Int.sub_self _)]
        exact iteF ⟨m3, e3, _, _, rfl⟩
      · rw [if_neg c] at e3
        rw [show (!decide (V.int ((fun i j : Int => i - j) (u : Nat) (u' : Nat)) = V.int 0)) = true by
          rw [Bool.not_eq_true', decide_eq_false_iff_not]
          intro q
          have : (u : Int) - (u' : Int) = 0 := V.int.inj q
          omega]
        refine iteT ⟨_, rfl, _, rfl, ?_⟩
        have q := kc _ _ e3 m3
        have es : sgnI ((u : Int) - (u' : Int)) = (if u' < u then 1 else -1) := by
          rw [sgnI_eq]
          unfold sg
          by_cases z : u' < u
          · rw [if_pos z, if_pos z]
          · rw [if_neg z, if_neg z, if_pos (by omega)]
        rw [← es] at q
        exact q
    · rintro σ H1 ⟨m3, e3, v2, v3, rfl⟩
      refine ⟨_, rfl, a, _, 2, _, rfl, rfl, same_t m3 e, rfl, _, rfl, a', _, 2, _, rfl, rfl, same_t m3 e', rfl, _, _, rfl, rfl, _, rfl, ?_⟩
      have q := kn _ e3 m3
      rw [← sgnI_eq] at q
      exact q
def LV : Nat := 20
def spLaw (K : PySem.W.Frag) : Sp := fun vs H Q _ => ∃ (a : Addr) (ns : List Int), vs = [.ref a] ∧ SqL K H a (ns.map V.int) ∧ ns.length ≤ 63 ∧ ∀ H', Q (.bl true) H'
/-- growths at values -/
inductive GAts (K : PySem.W.Frag) (H : Hp) : List V → List Gr → Prop
  | nil : GAts K H [] []
  | cons {x : V} {g : Gr} {xs : List V} {gs : List Gr} : GAt K H x g → GOk g → GAts K H xs gs → GAts K H (x :: xs) (g :: gs)
theorem GAts.mono {K : PySem.W.Frag} {H H' : Hp} (e : Same H H') : ∀ {xs : List V} {gs : List Gr}, GAts K H xs gs → GAts K H' xs gs
  | _, _, .nil => .nil
  | _, _, .cons a o b => .cons (a.mono e) o (GAts.mono e b)
theorem GAts.snoc {K : PySem.W.Frag} {H : Hp} {x : V} {g : Gr} (h : GAt K H x g) (o : GOk g) : ∀ {xs : List V} {gs : List Gr}, GAts K H xs gs → GAts K H (xs ++ [x]) (gs ++ [g])
  | _, _, .nil => .cons h o .nil
  | _, _, .cons a o' b => .cons a o' (GAts.snoc h o b)
theorem GAts.len {K : PySem.W.Frag} {H : Hp} : ∀ {xs : List V} {gs : List Gr}, GAts K H xs gs → xs.length = gs.length
  | _, _, .nil => rfl
  | _, _, .cons _ _ b => congrArg (· + 1) (GAts.len b)
theorem GAts.get {K : PySem.W.Frag} {H : Hp} : ∀ {xs : List V} {gs : List Gr} {i : Nat} {x : V}, GAts K H xs gs → xs[i]? = some x → ∃ g, gs[i]? = some g ∧ GAt K H x g ∧ GOk g
  | _, _, _, _, .nil, h => by simp at h
  | _, _, 0, _, .cons a o b, h => by
    simp at h
    subst h
    exact ⟨_, rfl, a, o⟩
  | _, _, i + 1, _, .cons a o b, h => by
    obtain ⟨g, e, q⟩ := GAts.get (i := i) b (by simpa using h)
    exact ⟨g, by simpa using e, q⟩
/-- the marks of one growth against all -/
def rowOf (gs : List Gr) (i : Nat) : List Int := (List.range gs.length).map fun j => cmpG (gs.getD i none) (gs.getD j none)
theorem getD_of {gs : List Gr} {i : Nat} {g : Gr} (h : gs[i]? = some g) : gs.getD i none = g := by
  rw [List.getD_eq_getElem?_getD, h]
  rfl
theorem dp_ints {K : PySem.W.Frag} {H : Hp} : ∀ ns : List Int, DpAll K H (ns.map V.int) (ns.map PyData.int)
  | [] => .nil
  | n :: r => .cons (.int n) (dp_ints r)
theorem dep_ints : ∀ ns : List Int, depAll (ns.map PyData.int) = 0
  | [] => rfl
  | n :: r => by
    rw [List.map_cons, depAll, dep_ints r]
    rfl
theorem wid_ints : ∀ ns : List Int, widAll (ns.map PyData.int) = 0
  | [] => rfl
  | n :: r => by
    rw [List.map_cons, widAll, wid_ints r]
    rfl
theorem row_at (gs : List Gr) (i j : Nat) (h : j < gs.length) : (rowOf gs i)[j]? = some (cmpG (gs.getD i none) (gs.getD j none)) := by
  unfold rowOf
  rw [List.getElem?_map, List.getElem?_range h]
  rfl
/-- the table of marks stands at M -/
structure Marks (K : PySem.W.Frag) (H : Hp) (M : Addr) (gs : List Gr) (n : Nat) : Prop where
  ex : ∃ rs : List Addr, H M = some (.lst (rs.map V.ref)) ∧ rs.length = n ∧ ∀ (j : Nat) (r : Addr), rs[j]? = some r → r ≠ M ∧ H r = some (.lst ((rowOf gs j).map V.int))
theorem Marks.mono {K : PySem.W.Frag} {H H' : Hp} {M : Addr} {gs : List Gr} {n : Nat} (e : Same H H') (h : Marks K H M gs n) : Marks K H' M gs n := by
  obtain ⟨rs, e1, e2, e3⟩ := h.ex
  exact ⟨⟨rs, e _ _ e1, e2, fun j r hj => ⟨(e3 j r hj).1, e _ _ (e3 j r hj).2⟩⟩⟩
theorem Marks.at_ {K : PySem.W.Frag} {H : Hp} {M : Addr} {gs : List Gr} {n i j : Nat} (h : Marks K H M gs n) (hi : i < n) (hj : j < gs.length) : ∃ (rs : List Addr) (r : Addr), H M = some (.lst (rs.map V.ref)) ∧ atI (rs.map V.ref) (i : Int) = some (.ref r) ∧
    H r = some (.lst ((rowOf gs i).map V.int)) ∧ atI ((rowOf gs i).map V.int) (j : Int) = some (.int (cmpG (gs.getD i none) (gs.getD j none))) := by
  obtain ⟨rs, e1, e2, e3⟩ := h.ex
  have hr : rs[i]? = some rs[i] := List.getElem?_eq_getElem (by omega)
  exact ⟨rs, rs[i], e1, atI_nat (by rw [List.getElem?_map, hr]; rfl), (e3 i _ hr).2, atI_nat (by rw [List.getElem?_map, row_at gs i j hj]; rfl)⟩
theorem mark1 : cmpG (some (3, 2, 0)) (some (6, 3, 0)) = -1 := by decide +kernel
theorem mark2 : cmpG (some (2, 2, 1)) (some (2, 2, 0)) = 1 := by decide +kernel
theorem ok_law (T : Txt K mg) : FnOk P w K mg base CX0 LV T.a_law T.d_law ["_law_script"] (spLaw K) := by
  refine T.F_law.ok sc_law (fun vs H Q E h => ?_) (fun cdv A outer s H vs Q E hr h => ?_)
  · obtain ⟨a, ns, rfl, _⟩ := h
    rfl
  obtain ⟨a, ns, rfl, hS, hl, k⟩ := h
  refine ⟨_, (pss_cons (ps_set (i := 1) sc_law.nd rfl (Or.inr rfl) (pe_call (ok_law_begin T) (hr.mono (by decide)) (by rfl) T.g_law_begin T.F_law_begin.kp T.b_law_begin .nil pass0 (pa_cons (pv 0) pa_nil)))
      (pss_cons (ps_for PassesOwn.never rfl (pi_range1 (by rfl) T.z_range (pa_cons pe_int pa_nil)) (pg_name (i := 2) sc_law.nd rfl (Or.inl rfl)) (pss_cons (ps_setLc (i := 3) (own := [("_law_k", 9)]) (g := gName 9) (tt := tYes) rfl sc_law.nd rfl rfl (sw_true rfl rfl rfl (by decide +kernel)) (pi_range1 (by rfl) T.z_range (pa_cons pe_int pa_nil)) (blkOk_by (N := N_law) (sc := defScope s_law) (by decide +kernel)) (fun _ _ _ _ _ => (pg_name (i := 9) sc_law.nd rfl (Or.inl rfl))) (fun _ _ _ _ _ => pts_nil) (fun _ _ _ _ _ => (pe_call (ok_law_drawn_growth T) (hr.mono (by decide)) (by rfl) T.g_law_drawn_growth T.F_law_drawn_growth.kp T.b_law_drawn_growth .nil pass0 (pa_cons (pv 1) pa_nil))))
      (pss_cons (ps_set (i := 4) sc_law.nd rfl (Or.inr rfl) (pe_lst pa_nil))
      (pss_cons (ps_for PassesOwn.never rfl (pi_list (pv 3)) (pg_name (i := 5) sc_law.nd rfl (Or.inr rfl)) (pss_cons (ps_setLc (i := 6) (own := [("_law_other", 10)]) (g := gName 10) (tt := tYes) rfl sc_law.nd rfl rfl (sw_true rfl rfl rfl (by decide +kernel)) (pi_list (pv 3)) (blkOk_by (N := N_law) (sc := defScope s_law) (by decide +kernel)) (fun _ _ _ _ _ => (pg_name (i := 10) sc_law.nd rfl (Or.inl rfl))) (fun _ _ _ _ _ => pts_nil) (fun _ _ _ _ _ => (pe_call (ok_greater_growth T) (hr.mono (by decide)) (by rfl) T.g_greater_growth T.F_greater_growth.kp T.b_greater_growth .nil pass0 (pa_cons (pv 5) (pa_cons (pv 10) pa_nil)))))
      (pss_cons (ps_if (pt_not (pt_val (pe_call (ok_law_same T) (hr.mono (by decide)) (by rfl) T.g_law_same T.F_law_same.kp T.b_law_same .nil pass0 (pa_cons (pv 6) (pa_cons (pe_lc (own := [("_law_other", 10)]) (g := gName 10) (tt := tYes) rfl sc_law.nd (pi_list (pv 3)) (blkOk_by (N := N_law) (sc := defScope s_law) (by decide +kernel)) (fun _ _ _ _ _ => (pg_name (i := 10) sc_law.nd rfl (Or.inl rfl))) (fun _ _ _ _ _ => pts_nil) (fun _ _ _ _ _ => (pe_call (ok_law_greater T) (hr.mono (by decide)) (by rfl) T.g_law_greater T.F_law_greater.kp T.b_law_greater .nil pass0 (pa_cons (pv 5) (pa_cons (pv 10) pa_nil))))) pa_nil))))) (pss_one (ps_ret pe_bl)) pss_nil)
      (pss_one (ps_expr (pe_bm PySem.F.plainAttrs_list PySem.F.slot_list_append PySem.F.type_list_append mt_append (pv 4) (pa_cons (pv 6) pa_nil)))))))
      (pss_one (ps_for PassesOwn.never rfl (pi_range1 (by rfl) T.z_range (pa_cons pe_int pa_nil)) (pg_name (i := 7) sc_law.nd rfl (Or.inr rfl)) (pss_one (ps_for PassesOwn.never rfl (pi_range1 (by rfl) T.z_range (pa_cons pe_int pa_nil)) (pg_name (i := 8) sc_law.nd rfl (Or.inr rfl)) (pss_cons (ps_if (pt_cmpR op_ne (pe_ix ix_list (pe_ix ix_list (pv 4) (pv 7) (fun _ _ => rfl)) (pv 8) (fun _ _ => rfl)) (pe_op op_sub pe_int (pe_ix ix_list (pe_ix ix_list (pv 4) (pv 8) (fun _ _ => rfl)) (pv 7) (fun _ _ => rfl))) (nomark _)) (pss_one (ps_ret pe_bl)) pss_nil)
      (pss_one (ps_if (PW.pt (pw_and (pt_cmpR op_ge (pe_ix ix_list (pe_ix ix_list (pv 4) (pv 7) (fun _ _ => rfl)) (pv 8) (fun _ _ => rfl)) pe_int (nomark _)) (pw_and1 (pt_not (pt_val (pe_callB (cr_all rfl) (by rfl) T.z_all (by decide +kernel) (pa_cons (pe_lc (own := [("_law_c", 11)]) (g := gName 11) (tt := tYes) rfl sc_law.nd (pi_range1 (by rfl) T.z_range (pa_cons pe_int pa_nil)) (blkOk_by (N := N_law) (sc := defScope s_law) (by decide +kernel)) (fun _ _ _ _ _ => (pg_name (i := 11) sc_law.nd rfl (Or.inl rfl))) (fun _ _ _ _ _ => pts_nil) (fun _ _ _ _ _ => (pe_or (pe_cmpR op_lt (pe_ix (r := rIxL K) ix_list (pe_ix (r := rIxL K) ix_list (pv 4) (pv 8) (fun _ _ => rfl)) (pv 11) (fun _ _ => rfl)) pe_int (nomark _)) (pe_one (pe_cmpR op_ge (pe_ix (r := rIxL K) ix_list (pe_ix (r := rIxL K) ix_list (pv 4) (pv 7) (fun _ _ => rfl)) (pv 11) (fun _ _ => rfl)) pe_int (nomark _)))))) pa_nil))))))) (pss_one (ps_ret pe_bl)) pss_nil)))))))))))
      (pss_one (ps_ret (pe_and (pe_cmpR op_eq (pe_call (ok_greater_growth T) (hr.mono (by decide)) (by rfl) T.g_greater_growth T.F_greater_growth.kp T.b_greater_growth .nil pass0 (pa_cons (pe_tup (pa_cons pe_int (pa_cons pe_int (pa_cons pe_int pa_nil)))) (pa_cons (pe_tup (pa_cons pe_int (pa_cons pe_int (pa_cons pe_int pa_nil)))) pa_nil))) (pe_un un_neg pe_int) (nomark _)) (pe_one (pe_cmpR op_eq (pe_call (ok_greater_growth T) (hr.mono (by decide)) (by rfl) T.g_greater_growth T.F_greater_growth.kp T.b_greater_growth .nil pass0 (pa_cons (pe_tup (pa_cons pe_int (pa_cons pe_int (pa_cons pe_int pa_nil)))) (pa_cons (pe_tup (pa_cons pe_int (pa_cons pe_int (pa_cons pe_int pa_nil)))) pa_nil))) pe_int (nomark _)))))))), ?_⟩
  refine ⟨_, rfl, a, ns, rfl, hS, hl, fun d l H1 nd _ s1 D1 => ?_⟩
  refine ⟨5, rfl, by decide, by decide, for_it walk_range (fun _ σ H => DrawAt H d l ∧ ∃ v2 v3 v4 v5 v6 v7 v8 v9 v10 v11, σ = [some (.ref a), some (.ref d), v2, v3, v4, v5, v6, v7, v8, v9, v10, v11]) ⟨D1, _, _, _, _, _, _, _, _, _, _, rfl⟩ (fun _ _ _ _ _ => trivial) ?_ ?_⟩
  · rintro i x σ H2 H3 hi ⟨D2, v2, v3, v4, v5, v6, v7, v8, v9, v10, v11, rfl⟩ ⟨rfl, rfl⟩
    refine ⟨4, rfl, by decide, by decide, fun L hL => ?_⟩
    -- G: what is frozen; at first nothing
    refine lc_it walk_range (fun i H => DrawAt H d l ∧ ∃ (G : Hp) (vs : List V) (gs : List Gr), Same G H ∧ G d = none ∧ G L = none ∧ vs.length = i ∧ GAts K G vs gs ∧ H L = some (.lst vs)) ⟨D2.upd hL, fun _ => none, [], [], fun _ _ h => (nomatch h), rfl, rfl, rfl, .nil, upd_same⟩ (fun _ _ _ _ => trivial) ?_ ?_
    · rintro j x H5 H6 hj ⟨D5, G, vs, gs, sg, gd, gL, hv, ga, eL⟩ ⟨rfl, rfl⟩
      refine ⟨rfl, ?_⟩
      refine ⟨_, rfl, d, l, G, rfl, sg, gd, D5, fun y g G' H7 gr D7 og ag => ?_⟩
      have e7 := gr.h L _ eL (D2.ned hL)
      have gL' := gr.none gL (by rw [eL]; simp)
      refine ⟨vs, e7, by rw [hv]; exact small1000 (by omega), D7.put (D2.ned hL) (D2.nel hL), G', vs ++ [y], gs ++ [g], ?_, gr.none gd D5.some, gL', by rw [List.length_append, hv]; rfl, GAts.snoc ag og (ga.mono gr.g), upd_same⟩
      intro b o e
      rw [upd_ne (ne_of_none e gL')]
      exact gr.gh b o e
    · rintro H5 ⟨D5, G, vs, gs, sg, gd, gL, hv, ga, eL⟩
      have hg := ga.len
      have hv4 : vs.length = 4 := hv
      have hg4 : gs.length = 4 := by omega
      have ga := ga.mono sg
      clear sg gd gL
      refine ⟨Nat.zero_le _, fun M hM => ?_⟩
      have sM : Same H5 (upd H5 M (.lst [])) := same_upd hM
      have nLM : L ≠ M := ne_of_none eL hM
      -- what stays: H5
      have keepM : ∀ {H' : Hp} {o : HO}, Same H5 H' → Same H5 (upd H' M o) := fun {H' o} e b x h => by
        rw [upd_ne (ne_of_none h hM)]
        exact e b x h
      refine ⟨_, rfl, L, rfl, ⟨vs, sM.seq (SqL.of eL)⟩, for_it (walk_list (xs := vs)) (fun i σ H => Same H5 H ∧ Marks K H M gs i ∧ ∃ v2 v5 v6 v7 v8 v9 v10 v11, σ = [some (.ref a), some (.ref d), v2, some (.ref L), some (.ref M), v5, v6, v7, v8, v9, v10, v11]) ⟨sM, ⟨⟨[], upd_same, rfl, fun j r h => by simp at h⟩⟩, _, _, _, _, _, _, _, _, rfl⟩ (fun i σ H _ p => p.1.seq (SqL.of eL)) ?_ ?_⟩
      · rintro i x σ H6 H7 hi ⟨s6, mk, v2, v5, v6, v7, v8, v9, v10, v11, rfl⟩ ⟨rfl, hx⟩
        obtain ⟨g, hgi, gx, og⟩ := ga.get hx
        -- the two rows
        have turn : ∀ (H : Hp) (j : Nat) (y : V) (Q' : VK) (H8 : Hp), Same H5 H → vs[j]? = some y → (∀ H4, Same H8 H4 → Q' (.int (cmpG (gs.getD i none) (gs.getD j none))) H4) → Same H H8 → spOrder K [x, y] H8 Q' E0 := fun H j y Q' H8 sm hy kq s8 => by
          obtain ⟨g', hgj, gy, og'⟩ := ga.get hy
          refine ⟨x, y, g, g', rfl, gx.mono (sm.trans s8), gy.mono (sm.trans s8), og, og', fun H4 s4 => ?_⟩
          have q := kq H4 s4
          rw [getD_of hgi, getD_of hgj] at q
          exact q
        refine ⟨_, rfl, L, rfl, ⟨vs, s6.seq (SqL.of eL)⟩, fun R hR => ?_⟩
        refine lc_pure (walk_list (xs := vs)) (fun j => .int (cmpG (gs.getD i none) (gs.getD j none))) (by omega) hR (fun H' sm => sm.seq (s6.seq (SqL.of eL))) ?_ ?_
        · rintro j y H8 H9 Q' hj s8 ⟨rfl, hy⟩ kq
          refine ⟨rfl, ?_⟩
          exact ⟨_, rfl, _, rfl, turn _ j y Q' _ s6 hy kq s8⟩
        intro H8 s8 eR
        rw [show (List.range vs.length).map (fun j => V.int (cmpG (gs.getD i none) (gs.getD j none))) = (rowOf gs i).map V.int by
          unfold rowOf
          rw [List.map_map, hg]
          rfl] at eR
        have s58 := s6.trans s8
        have nRM : R ≠ M := fun q => by
          obtain ⟨rs, e1, _⟩ := mk.ex
          rw [q, e1] at hR
          cases hR
        refine ⟨_, rfl, _, rfl, L, rfl, ⟨vs, s58.seq (SqL.of eL)⟩, fun R2 hR2 => ?_⟩
        refine lc_pure (walk_list (xs := vs)) (fun j => .int (cmpG (gs.getD i none) (gs.getD j none))) (by omega) hR2 (fun H' sm => sm.seq (s58.seq (SqL.of eL))) ?_ ?_
        · rintro j y H9 H10 Q' hj s9 ⟨rfl, hy⟩ kq
          refine ⟨rfl, ?_⟩
          exact ⟨_, rfl, _, rfl, turn _ j y Q' _ s58 hy kq s9⟩
        intro H9 s9 eR2
        rw [show (List.range vs.length).map (fun j => V.int (cmpG (gs.getD i none) (gs.getD j none))) = (rowOf gs i).map V.int by
          unfold rowOf
          rw [List.map_map, hg]
          rfl] at eR2
        have lr : (rowOf gs i).length = 4 := by
          unfold rowOf
          rw [List.length_map, List.length_range, hg4]
        refine ⟨.ref R, .ref R2, .list ((rowOf gs i).map PyData.int), rfl, .lst (SqL.of (s9 _ _ eR)) (dp_ints _), .lst (SqL.of eR2) (dp_ints _), ?_, ?_, fun H10 s10 => ?_⟩
        · rw [dep, dep_ints]
          decide
        · rw [wid, wid_ints, List.length_map, lr]
          decide
        refine ⟨_, rfl, iteF ?_⟩
        have s6x := s8.trans (s9.trans s10)
        have mk' := mk.mono s6x
        obtain ⟨rs, e1, e2, e3⟩ := mk'.ex
        have eR' := s10 _ _ (s9 _ _ eR)
        refine ⟨_, rfl, .inl ⟨rfl, _, SqL.of e1⟩, _, rfl, M, _, _, rfl, rfl, e1, ?_, ?_⟩
        · rw [List.length_map, e2]
          exact small1000 (by omega)
        · refine ⟨keepM (s6.trans s6x), ⟨⟨rs ++ [R], by rw [upd_same, List.map_append]; rfl, by rw [List.length_append, e2]; rfl, fun j r hj => ?_⟩⟩, _, _, _, _, _, _, _, _, rfl⟩
          by_cases hjr : j < rs.length
          · rw [List.getElem?_append_left hjr] at hj
            obtain ⟨n1, n2⟩ := e3 j r hj
            exact ⟨n1, by rw [upd_ne n1]; exact n2⟩
          · have hj' : j = i := by
              have : j < (rs ++ [R]).length := (List.getElem?_eq_some_iff.mp hj).1
              rw [List.length_append, List.length_singleton] at this
              omega
            subst hj'
            rw [List.getElem?_append_right (by omega), show j - rs.length = 0 by omega] at hj
            have er : R = r := by simpa using hj
            subst er
            exact ⟨nRM, by rw [upd_ne nRM]; exact eR'⟩
      · rintro σ H6 ⟨s6, mk, v2, v5, v6, v7, v8, v9, v10, v11, rfl⟩
        rw [hv4] at mk
        have D6 := D5.mono s6
        have g4 : ∀ {i : Nat}, i < 4 → i < gs.length := fun h => by omega
        have zi : ∀ i : Nat, ((0 : Int) + (i : Int)) = (i : Int) := fun i => Int.zero_add _
        refine ⟨4, rfl, by decide, by decide, for_it walk_range (fun _ σ H => Same H6 H ∧ ∃ v2 v5 v6 v7 v8 v9 v10 v11, σ = [some (.ref a), some (.ref d), v2, some (.ref L), some (.ref M), v5, v6, v7, v8, v9, v10, v11]) ⟨Same.refl _, _, _, _, _, _, _, _, _, rfl⟩ (fun _ _ _ _ _ => trivial) ?_ ?_⟩
        · rintro ia x σ H7 H8 hia ⟨s7, v2, v5, v6, v7, v8, v9, v10, v11, rfl⟩ ⟨rfl, rfl⟩
          have hia : ia < 4 := hia
          show gName _ (V.int ((0 : Int) + (ia : Int))) _ _ _
          rw [zi]
          refine ⟨4, rfl, by decide, by decide, for_it walk_range (fun _ σ H => Same H6 H ∧ ∃ v2 v5 v6 v8 v9 v10 v11, σ = [some (.ref a), some (.ref d), v2, some (.ref L), some (.ref M), v5, v6, some (.int (ia : Nat)), v8, v9, v10, v11]) ⟨s7, _, _, _, _, _, _, _, rfl⟩ (fun _ _ _ _ _ => trivial) ?_ ?_⟩
          · rintro ib x σ H9 H10 hib ⟨s9, v2, v5, v6, v8, v9, v10, v11, rfl⟩ ⟨rfl, rfl⟩
            have hib : ib < 4 := hib
            show gName _ (V.int ((0 : Int) + (ib : Int))) _ _ _
            rw [zi]
            have mk9 := mk.mono s9
            obtain ⟨rs, r, m1, m2, m3, m4⟩ := mk9.at_ hia (g4 hib)
            obtain ⟨rs', r', n1, n2, n3, n4⟩ := mk9.at_ hib (g4 hia)
            refine ⟨_, rfl, _, rfl, M, _, _, _, rfl, rfl, SqL.of m1, m2, _, rfl, r, _, _, _, rfl, rfl, SqL.of m3, m4, ?_⟩
            refine ⟨_, rfl, _, rfl, M, _, _, _, rfl, rfl, SqL.of n1, n2, _, rfl, r', _, _, _, rfl, rfl, SqL.of n3, n4, _, _, rfl, rfl, rfl, _, rfl, ?_⟩
            have anti := cmpG_anti (gs.getD ia none) (gs.getD ib none)
            rw [show (!decide (V.int (cmpG (gs.getD ia none) (gs.getD ib none)) = V.int (0 - cmpG (gs.getD ib none) (gs.getD ia none)))) = false by
              rw [Bool.not_eq_false', decide_eq_true_eq]
              exact congrArg V.int anti]
            refine iteF ?_
            refine ⟨_, rfl, _, rfl, M, _, _, _, rfl, rfl, SqL.of m1, m2, _, rfl, r, _, _, _, rfl, rfl, SqL.of m3, m4, _, _, rfl, rfl, _, rfl, ?_⟩
            refine ite2 (fun c => ?_) (fun c => iteF ⟨s9, _, _, _, _, _, _, _, rfl⟩)
            have c' : 0 ≤ cmpG (gs.getD ia none) (gs.getD ib none) := of_decide_eq_true c
            refine ⟨4, rfl, by decide, by decide, fun A hA => ?_⟩
            refine lc_pure walk_range (fun ic => .bl true) (by decide) hA (fun _ _ => trivial) ?_ ?_
            · rintro ic x H11 H12 Q' hic s11 ⟨rfl, rfl⟩ kq
              have hic : ic < 4 := hic
              show gName _ (V.int ((0 : Int) + (ic : Int))) _ _ _
              rw [zi]
              refine ⟨rfl, ?_⟩
              have mk11 := mk9.mono s11
              obtain ⟨rs1, r1, p1, p2, p3, p4⟩ := mk11.at_ hib (g4 hic)
              obtain ⟨rs2, r2, q1, q2, q3, q4⟩ := mk11.at_ hia (g4 hic)
              refine ⟨_, rfl, _, rfl, M, _, _, _, rfl, rfl, SqL.of p1, p2, _, rfl, r1, _, _, _, rfl, rfl, SqL.of p3, p4, _, _, rfl, rfl, _, rfl, ?_⟩
              refine ite2 (fun _ => kq _ (Same.refl _)) (fun c2 => ?_)
              refine ⟨_, rfl, _, rfl, M, _, _, _, rfl, rfl, SqL.of q1, q2, _, rfl, r2, _, _, _, rfl, rfl, SqL.of q3, q4, _, _, rfl, rfl, ?_⟩
              have t := cmpG_trans _ _ (gs.getD ic none) c'
              have t' : 0 ≤ cmpG (gs.getD ia none) (gs.getD ic none) := by
                rcases t with t | t
                · exact absurd (decide_eq_true t) c2
                · exact t
              have q := kq _ (Same.refl _)
              rw [show true = decide (0 ≤ cmpG (gs.getD ia none) (gs.getD ic none)) from (decide_eq_true t').symm] at q
              exact q
            intro H11 s11 eA
            refine ⟨A, List.replicate 4 true, rfl, SqL.of eA, _, rfl, ?_⟩
            exact iteF ⟨s9.trans s11, _, _, _, _, _, _, _, rfl⟩
          · rintro σ H9 ⟨s9, v2, v5, v6, v8, v9, v10, v11, rfl⟩
            exact ⟨s9, _, _, _, _, _, _, _, _, rfl⟩
        · rintro σ H7 ⟨s7, v2, v5, v6, v7, v8, v9, v10, v11, rfl⟩
          exact ⟨D6.mono s7, _, _, _, _, _, _, _, _, _, _, rfl⟩
  · rintro σ H2 ⟨D2, v2, v3, v4, v5, v6, v7, v8, v9, v10, v11, rfl⟩
    have two : ∀ (t b f t' b' f' : Nat) (p q : Addr) (H : Hp) (Q' : VK), (t, b) ∈ prs → (t', b') ∈ prs → f ≤ 1000 → f' ≤ 1000 → H p = none → upd H p (.tup [V.int (t : Nat), V.int (b : Nat), V.int (f : Nat)]) q = none → (∀ H', Q' (.int (cmpG (some (t, b, f)) (some (t', b', f')))) H') →
        spOrder K [.ref p, .ref q] (upd (upd H p (.tup [V.int (t : Nat), V.int (b : Nat), V.int (f : Nat)])) q (.tup [V.int (t' : Nat), V.int (b' : Nat), V.int (f' : Nat)])) Q' E0 :=
      fun t b f t' b' f' p q H Q' h1 h2 h3 h4 hp hq kq => ⟨_, _, some (t, b, f), some (t', b', f'), rfl, ⟨p, rfl, SqT.of (by rw [upd_ne (fun z => by rw [z, upd_same] at hq; cases hq)]; exact upd_same)⟩, ⟨q, rfl, SqT.of upd_same⟩, ⟨h1, h3⟩, ⟨h2, h4⟩, fun H' _ => kq H'⟩
    refine ⟨by show 3 ≤ sizeLine; decide, fun p hp => ⟨by show 3 ≤ sizeLine; decide, fun q hq => ?_⟩⟩
    try unfold tNil
    refine two 3 2 0 6 3 0 p q H2 _ (by decide) (by decide) (by decide) (by decide) hp hq fun H3 => ?_
    refine ⟨_, rfl, rfl, _, rfl, ?_⟩
    rw [mark1]
    refine iteT ?_
    refine ⟨by show 3 ≤ sizeLine; decide, fun p hp => ⟨by show 3 ≤ sizeLine; decide, fun q hq => ?_⟩⟩
    try unfold tNil
    refine two 2 2 1 2 2 0 p q H3 _ (by decide) (by decide) (by decide) (by decide) hp hq fun H4 => ?_
    refine ⟨rfl, ?_⟩
    rw [mark2]
    exact k _
end
theorem all_mk {l : PySem.W.OpenLaw} {w : World} {K : PySem.W.Frag} {h : Heap} {mg : Str → Option Value} {fa : Addr} (X : K.In h) (G : h.Ns mainGlobals mg) (hfa : mg "law" = some (.ref fa))
    {f0 : Addr} {od0 an0 : Option Addr} {sl0 : Array (Option Value)} {oc0 kV0 dc0 pm0 cd0 ct0 : Value}
    (a0 : PySem.W.nsIn K mainGlobals "_law_begin" = some (some (.ref f0))) (l0 : K.lookup f0 = some ⟨oc0, od0, .func (PySem.W.fnOf "_law_begin" "_law_begin" (defArgs s_law_begin) (defBody s_law_begin) (defScope s_law_begin) .none kV0 dc0 pm0 an0 cd0 ct0), sl0⟩) (c0 : PySem.W.codeIn K cd0 "_law_begin" = true) (k0 : PySem.W.keepIn K (.ref f0) = true)
    {f1 : Addr} {od1 an1 : Option Addr} {sl1 : Array (Option Value)} {oc1 kV1 dc1 pm1 cd1 ct1 : Value}
    (a1 : PySem.W.nsIn K mainGlobals "_law_take" = some (some (.ref f1))) (l1 : K.lookup f1 = some ⟨oc1, od1, .func (PySem.W.fnOf "_law_take" "_law_take" (defArgs s_law_take) (defBody s_law_take) (defScope s_law_take) .none kV1 dc1 pm1 an1 cd1 ct1), sl1⟩) (c1 : PySem.W.codeIn K cd1 "_law_take" = true) (k1 : PySem.W.keepIn K (.ref f1) = true)
    {f2 : Addr} {od2 an2 : Option Addr} {sl2 : Array (Option Value)} {oc2 kV2 dc2 pm2 cd2 ct2 : Value}
    (a2 : PySem.W.nsIn K mainGlobals "_law_pick" = some (some (.ref f2))) (l2 : K.lookup f2 = some ⟨oc2, od2, .func (PySem.W.fnOf "_law_pick" "_law_pick" (defArgs s_law_pick) (defBody s_law_pick) (defScope s_law_pick) .none kV2 dc2 pm2 an2 cd2 ct2), sl2⟩) (c2 : PySem.W.codeIn K cd2 "_law_pick" = true) (k2 : PySem.W.keepIn K (.ref f2) = true)
    {f3 : Addr} {od3 an3 : Option Addr} {sl3 : Array (Option Value)} {oc3 kV3 dc3 pm3 cd3 ct3 : Value}
    (a3 : PySem.W.nsIn K mainGlobals "_law_raised" = some (some (.ref f3))) (l3 : K.lookup f3 = some ⟨oc3, od3, .func (PySem.W.fnOf "_law_raised" "_law_raised" (defArgs s_law_raised) (defBody s_law_raised) (defScope s_law_raised) .none kV3 dc3 pm3 an3 cd3 ct3), sl3⟩) (c3 : PySem.W.codeIn K cd3 "_law_raised" = true) (k3 : PySem.W.keepIn K (.ref f3) = true)
    {f4 : Addr} {od4 an4 : Option Addr} {sl4 : Array (Option Value)} {oc4 kV4 dc4 pm4 cd4 ct4 : Value}
    (a4 : PySem.W.nsIn K mainGlobals "_law_drawn_growth" = some (some (.ref f4))) (l4 : K.lookup f4 = some ⟨oc4, od4, .func (PySem.W.fnOf "_law_drawn_growth" "_law_drawn_growth" (defArgs s_law_drawn_growth) (defBody s_law_drawn_growth) (defScope s_law_drawn_growth) .none kV4 dc4 pm4 an4 cd4 ct4), sl4⟩) (c4 : PySem.W.codeIn K cd4 "_law_drawn_growth" = true) (k4 : PySem.W.keepIn K (.ref f4) = true)
    {f5 : Addr} {od5 an5 : Option Addr} {sl5 : Array (Option Value)} {oc5 kV5 dc5 pm5 cd5 ct5 : Value}
    (a5 : PySem.W.nsIn K mainGlobals "whole_power" = some (some (.ref f5))) (l5 : K.lookup f5 = some ⟨oc5, od5, .func (PySem.W.fnOf "whole_power" "whole_power" (defArgs s_whole_power) (defBody s_whole_power) (defScope s_whole_power) .none kV5 dc5 pm5 an5 cd5 ct5), sl5⟩) (c5 : PySem.W.codeIn K cd5 "whole_power" = true) (k5 : PySem.W.keepIn K (.ref f5) = true)
    {f6 : Addr} {od6 an6 : Option Addr} {sl6 : Array (Option Value)} {oc6 kV6 dc6 pm6 cd6 ct6 : Value}
    (a6 : PySem.W.nsIn K mainGlobals "raised" = some (some (.ref f6))) (l6 : K.lookup f6 = some ⟨oc6, od6, .func (PySem.W.fnOf "raised" "raised" (defArgs s_raised) (defBody s_raised) (defScope s_raised) .none kV6 dc6 pm6 an6 cd6 ct6), sl6⟩) (c6 : PySem.W.codeIn K cd6 "raised" = true) (k6 : PySem.W.keepIn K (.ref f6) = true)
    {f7 : Addr} {od7 an7 : Option Addr} {sl7 : Array (Option Value)} {oc7 kV7 dc7 pm7 cd7 ct7 : Value}
    (a7 : PySem.W.nsIn K mainGlobals "order_of" = some (some (.ref f7))) (l7 : K.lookup f7 = some ⟨oc7, od7, .func (PySem.W.fnOf "order_of" "order_of" (defArgs s_order_of) (defBody s_order_of) (defScope s_order_of) .none kV7 dc7 pm7 an7 cd7 ct7), sl7⟩) (c7 : PySem.W.codeIn K cd7 "order_of" = true) (k7 : PySem.W.keepIn K (.ref f7) = true)
    {f8 : Addr} {od8 an8 : Option Addr} {sl8 : Array (Option Value)} {oc8 kV8 dc8 pm8 cd8 ct8 : Value}
    (a8 : PySem.W.nsIn K mainGlobals "greater_growth" = some (some (.ref f8))) (l8 : K.lookup f8 = some ⟨oc8, od8, .func (PySem.W.fnOf "greater_growth" "greater_growth" (defArgs s_greater_growth) (defBody s_greater_growth) (defScope s_greater_growth) .none kV8 dc8 pm8 an8 cd8 ct8), sl8⟩) (c8 : PySem.W.codeIn K cd8 "greater_growth" = true) (k8 : PySem.W.keepIn K (.ref f8) = true)
    {f9 : Addr} {od9 an9 : Option Addr} {sl9 : Array (Option Value)} {oc9 kV9 dc9 pm9 cd9 ct9 : Value}
    (a9 : PySem.W.nsIn K mainGlobals "_law_same" = some (some (.ref f9))) (l9 : K.lookup f9 = some ⟨oc9, od9, .func (PySem.W.fnOf "_law_same" "_law_same" (defArgs s_law_same) (defBody s_law_same) (defScope s_law_same) .none kV9 dc9 pm9 an9 cd9 ct9), sl9⟩) (c9 : PySem.W.codeIn K cd9 "_law_same" = true) (k9 : PySem.W.keepIn K (.ref f9) = true)
    {f10 : Addr} {od10 an10 : Option Addr} {sl10 : Array (Option Value)} {oc10 kV10 dc10 pm10 cd10 ct10 : Value}
    (a10 : PySem.W.nsIn K mainGlobals "_law_signum" = some (some (.ref f10))) (l10 : K.lookup f10 = some ⟨oc10, od10, .func (PySem.W.fnOf "_law_signum" "_law_signum" (defArgs s_law_signum) (defBody s_law_signum) (defScope s_law_signum) .none kV10 dc10 pm10 an10 cd10 ct10), sl10⟩) (c10 : PySem.W.codeIn K cd10 "_law_signum" = true) (k10 : PySem.W.keepIn K (.ref f10) = true)
    {f11 : Addr} {od11 an11 : Option Addr} {sl11 : Array (Option Value)} {oc11 kV11 dc11 pm11 cd11 ct11 : Value}
    (a11 : PySem.W.nsIn K mainGlobals "_law_whole_root" = some (some (.ref f11))) (l11 : K.lookup f11 = some ⟨oc11, od11, .func (PySem.W.fnOf "_law_whole_root" "_law_whole_root" (defArgs s_law_whole_root) (defBody s_law_whole_root) (defScope s_law_whole_root) .none kV11 dc11 pm11 an11 cd11 ct11), sl11⟩) (c11 : PySem.W.codeIn K cd11 "_law_whole_root" = true) (k11 : PySem.W.keepIn K (.ref f11) = true)
    {f12 : Addr} {od12 an12 : Option Addr} {sl12 : Array (Option Value)} {oc12 kV12 dc12 pm12 cd12 ct12 : Value}
    (a12 : PySem.W.nsIn K mainGlobals "_law_greater" = some (some (.ref f12))) (l12 : K.lookup f12 = some ⟨oc12, od12, .func (PySem.W.fnOf "_law_greater" "_law_greater" (defArgs s_law_greater) (defBody s_law_greater) (defScope s_law_greater) .none kV12 dc12 pm12 an12 cd12 ct12), sl12⟩) (c12 : PySem.W.codeIn K cd12 "_law_greater" = true) (k12 : PySem.W.keepIn K (.ref f12) = true)
    {f13 : Addr} {od13 an13 : Option Addr} {sl13 : Array (Option Value)} {oc13 kV13 dc13 pm13 cd13 ct13 : Value}
    (a13 : PySem.W.nsIn K mainGlobals "law" = some (some (.ref f13))) (l13 : K.lookup f13 = some ⟨oc13, od13, .func (PySem.W.fnOf "law" "law" (defArgs s_law) (defBody s_law) (defScope s_law) .none kV13 dc13 pm13 an13 cd13 ct13), sl13⟩) (c13 : PySem.W.codeIn K cd13 "law" = true) (k13 : PySem.W.keepIn K (.ref f13) = true)
    (z_abs : PySem.W.nsIn K mainGlobals "abs" = some none)
    (z_all : PySem.W.nsIn K mainGlobals "all" = some none)
    (z_bool : PySem.W.nsIn K mainGlobals "bool" = some none)
    (z_int : PySem.W.nsIn K mainGlobals "int" = some none)
    (z_isinstance : PySem.W.nsIn K mainGlobals "isinstance" = some none)
    (z_len : PySem.W.nsIn K mainGlobals "len" = some none)
    (z_list : PySem.W.nsIn K mainGlobals "list" = some none)
    (z_range : PySem.W.nsIn K mainGlobals "range" = some none)
    (z_str : PySem.W.nsIn K mainGlobals "str" = some none)
    (z_tuple : PySem.W.nsIn K mainGlobals "tuple" = some none)
    (z_zip : PySem.W.nsIn K mainGlobals "zip" = some none)
    {t_TRIES : Tok} (m_TRIES : PySem.W.nsIn K mainGlobals "TRIES" = some (some (Value.int 60 t_TRIES)))
    : ∃ fd : FuncData, (∀ (s : Shared) (v : Value), BindsTo s fd ⟨[v], []⟩ [("_law_script", v)]) ∧ ∀ base : Heap, K.In base → base.Ns mainGlobals mg → FnOk l.prog w K mg base CX0 LV fa fd ["_law_script"] (spLaw K) := by
  have e := hfa.symm.trans (PySem.W.mg_of X G a13)
  cases e
  have F0 := fun_mk (st := s_law_begin) l0 c0 k0
  have b0 := F0.binds (ps := ["_law_script"]) fun _ _ _ _ _ _ us hl => match us, hl with | [_], _ => rfl
  have F1 := fun_mk (st := s_law_take) l1 c1 k1
  have b1 := F1.binds (ps := ["_law_draw", "_law_sides"]) fun _ _ _ _ _ _ us hl => match us, hl with | [_, _], _ => rfl
  have F2 := fun_mk (st := s_law_pick) l2 c2 k2
  have b2 := F2.binds (ps := ["_law_draw", "_law_row"]) fun _ _ _ _ _ _ us hl => match us, hl with | [_, _], _ => rfl
  have F3 := fun_mk (st := s_law_raised) l3 c3 k3
  have b3 := F3.binds (ps := ["_law_part", "_law_upto"]) fun _ _ _ _ _ _ us hl => match us, hl with | [_, _], _ => rfl
  have F4 := fun_mk (st := s_law_drawn_growth) l4 c4 k4
  have b4 := F4.binds (ps := ["_law_draw"]) fun _ _ _ _ _ _ us hl => match us, hl with | [_], _ => rfl
  have F5 := fun_mk (st := s_whole_power) l5 c5 k5
  have b5 := F5.binds (ps := ["number", "base"]) fun _ _ _ _ _ _ us hl => match us, hl with | [_, _], _ => rfl
  have F6 := fun_mk (st := s_raised) l6 c6 k6
  have b6 := F6.binds (ps := ["base", "power"]) fun _ _ _ _ _ _ us hl => match us, hl with | [_, _], _ => rfl
  have F7 := fun_mk (st := s_order_of) l7 c7 k7
  have b7 := F7.binds (ps := ["one", "other"]) fun _ _ _ _ _ _ us hl => match us, hl with | [_, _], _ => rfl
  have F8 := fun_mk (st := s_greater_growth) l8 c8 k8
  have b8 := F8.binds (ps := ["one", "other"]) fun _ _ _ _ _ _ us hl => match us, hl with | [_, _], _ => rfl
  have F9 := fun_mk (st := s_law_same) l9 c9 k9
  have b9 := F9.binds (ps := ["_law_found", "_law_due"]) fun _ _ _ _ _ _ us hl => match us, hl with | [_, _], _ => rfl
  have F10 := fun_mk (st := s_law_signum) l10 c10 k10
  have b10 := F10.binds (ps := ["_law_number"]) fun _ _ _ _ _ _ us hl => match us, hl with | [_], _ => rfl
  have F11 := fun_mk (st := s_law_whole_root) l11 c11 k11
  have b11 := F11.binds (ps := ["_law_times_of", "_law_by_it", "_law_upto"]) fun _ _ _ _ _ _ us hl => match us, hl with | [_, _, _], _ => rfl
  have F12 := fun_mk (st := s_law_greater) l12 c12 k12
  have b12 := F12.binds (ps := ["_law_one", "_law_other"]) fun _ _ _ _ _ _ us hl => match us, hl with | [_, _], _ => rfl
  have F13 := fun_mk (st := s_law) l13 c13 k13
  have b13 := F13.binds (ps := ["_law_script"]) fun _ _ _ _ _ _ us hl => match us, hl with | [_], _ => rfl
  let T : Txt K mg := ⟨f0, _, F0, b0, PySem.W.mg_of X G a0,
    f1, _, F1, b1, PySem.W.mg_of X G a1,
    f2, _, F2, b2, PySem.W.mg_of X G a2,
    f3, _, F3, b3, PySem.W.mg_of X G a3,
    f4, _, F4, b4, PySem.W.mg_of X G a4,
    f5, _, F5, b5, PySem.W.mg_of X G a5,
    f6, _, F6, b6, PySem.W.mg_of X G a6,
    f7, _, F7, b7, PySem.W.mg_of X G a7,
    f8, _, F8, b8, PySem.W.mg_of X G a8,
    f9, _, F9, b9, PySem.W.mg_of X G a9,
    f10, _, F10, b10, PySem.W.mg_of X G a10,
    f11, _, F11, b11, PySem.W.mg_of X G a11,
    f12, _, F12, b12, PySem.W.mg_of X G a12,
    fa, _, F13, b13, PySem.W.mg_of X G a13,
    PySem.W.mg_none_of X G z_abs,
    PySem.W.mg_none_of X G z_all,
    PySem.W.mg_none_of X G z_bool,
    PySem.W.mg_none_of X G z_int,
    PySem.W.mg_none_of X G z_isinstance,
    PySem.W.mg_none_of X G z_len,
    PySem.W.mg_none_of X G z_list,
    PySem.W.mg_none_of X G z_range,
    PySem.W.mg_none_of X G z_str,
    PySem.W.mg_none_of X G z_tuple,
    PySem.W.mg_none_of X G z_zip,
    _, PySem.W.mg_of X G m_TRIES, ⟨_, rfl⟩⟩
  exact ⟨_, fun s v => .of_eq rfl, fun base _ _ => ok_law T⟩
end My
open PySem PySem.W PyProof.Rows
set_option maxHeartbeats 0 in
theorem PySem.Challenge.cw_outgrow_k15_whole_growths_are_ordered_holds : PySem.Challenge.rw_outgrow_k15_whole_growths_are_ordered.Holds := by
  w_on; o_law; k_head; (case hw => w_witness2)
  k_fill
  refine L2.walk_of (l := PySem.Challenge.rw_outgrow_k15_whole_growths_are_ordered) (n := 63) (k := My.LV) (x := "_law_script") (CX := fun _ => L2.CX0) (sp := fun w => My.spLaw _) rfl (by decide) rfl ⟨rfl, by decide, by decide⟩ (fun w h Y => PySem.W.kIn_of Y) ?F (fun _ _ a ns hl _ hS => ⟨a, ns, rfl, hS, hl, fun _ => rfl⟩) (fun _ _ _ _ _ h => h)
  case F =>
    intro w mg fa h KX G hmg
    refine' My.all_mk KX G hmg ?a0 ?l0 ?c0 ?k0 ?a1 ?l1 ?c1 ?k1 ?a2 ?l2 ?c2 ?k2 ?a3 ?l3 ?c3 ?k3 ?a4 ?l4 ?c4 ?k4 ?a5 ?l5 ?c5 ?k5 ?a6 ?l6 ?c6 ?k6 ?a7 ?l7 ?c7 ?k7 ?a8 ?l8 ?c8 ?k8 ?a9 ?l9 ?c9 ?k9 ?a10 ?l10 ?c10 ?k10 ?a11 ?l11 ?c11 ?k11 ?a12 ?l12 ?c12 ?k12 ?a13 ?l13 ?c13 ?k13 ?z_abs ?z_all ?z_bool ?z_int ?z_isinstance ?z_len ?z_list ?z_range ?z_str ?z_tuple ?z_zip ?m_TRIES
    (case a0 => k_is)
    (case l0 => k_is)
    (case c0 => k_is)
    (case k0 => k_is)
    (case a1 => k_is)
    (case l1 => k_is)
    (case c1 => k_is)
    (case k1 => k_is)
    (case a2 => k_is)
    (case l2 => k_is)
    (case c2 => k_is)
    (case k2 => k_is)
    (case a3 => k_is)
    (case l3 => k_is)
    (case c3 => k_is)
    (case k3 => k_is)
    (case a4 => k_is)
    (case l4 => k_is)
    (case c4 => k_is)
    (case k4 => k_is)
    (case a5 => k_is)
    (case l5 => k_is)
    (case c5 => k_is)
    (case k5 => k_is)
    (case a6 => k_is)
    (case l6 => k_is)
    (case c6 => k_is)
    (case k6 => k_is)
    (case a7 => k_is)
    (case l7 => k_is)
    (case c7 => k_is)
    (case k7 => k_is)
    (case a8 => k_is)
    (case l8 => k_is)
    (case c8 => k_is)
    (case k8 => k_is)
    (case a9 => k_is)
    (case l9 => k_is)
    (case c9 => k_is)
    (case k9 => k_is)
    (case a10 => k_is)
    (case l10 => k_is)
    (case c10 => k_is)
    (case k10 => k_is)
    (case a11 => k_is)
    (case l11 => k_is)
    (case c11 => k_is)
    (case k11 => k_is)
    (case a12 => k_is)
    (case l12 => k_is)
    (case c12 => k_is)
    (case k12 => k_is)
    (case a13 => k_is)
    (case l13 => k_is)
    (case c13 => k_is)
    (case k13 => k_is)
    (case z_abs => k_is)
    (case z_all => k_is)
    (case z_bool => k_is)
    (case z_int => k_is)
    (case z_isinstance => k_is)
    (case z_len => k_is)
    (case z_list => k_is)
    (case z_range => k_is)
    (case z_str => k_is)
    (case z_tuple => k_is)
    (case z_zip => k_is)
    (case m_TRIES => k_is)
#print axioms PySem.Challenge.cw_outgrow_k15_whole_growths_are_ordered_holds
