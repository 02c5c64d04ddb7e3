import PyProof.Rows.All
import Wide.All
import OpenK.AllK
import Wide.FinOn
import HandS.ForMost
import HandS.Walk
import HandS.Conv
import HandS.Codes
import HandS.Deep
import HandS.Flow
import HandS.Style
import KE.KDictPairs
import HandS.IsInst
import HandS.TupSets
import KE.GoesMore
import KE.DatumOrd
import KE.KDictSum
import HandS.DictSubView
import HandS.DictTup
import KE.KDictList
import HandS.SetKeys
import HandS.Defaults
import HandS.ForExc
import HandS.ExcIs
import KE.SortData
import HandS.Wide
import HandS.Zip
import HandS.TupMul
import KE.KIsAll
import PySem.Challenge.RW_laidandeaten_k13_whole_two_sections_laid
set_option Elab.async false
set_option linter.all false
set_option maxRecDepth 100000
/-! Plain definitions: cells, grids, orders. -/
namespace DL
abbrev Cell := Int × Int
abbrev Grid := List (List Int)
def ht (g : Grid) : Nat := (g.headD []).length
def inG (g : Grid) (c : Cell) : Bool := (decide (0 ≤ c.1) && decide (c.1 < (g.length : Int))) && (decide (0 ≤ c.2) && decide (c.2 < (ht g : Int)))
def around (c : Cell) : List Cell := [(c.1 - 1, c.2), (c.1, c.2 - 1), (c.1, c.2 + 1), (c.1 + 1, c.2)]
def near (g : Grid) (c : Cell) : List Cell := (around c).filter (inG g)
def atG (g : Grid) (c : Cell) : Int := (g.getD c.1.toNat []).getD c.2.toNat 0
def allC (g : Grid) : List Cell := (List.range g.length).flatMap fun (i : Nat) => (List.range (ht g)).map fun (j : Nat) => ((i : Int), (j : Int))
/-- a grid of one height, of a size that the law draws -/
structure Shp (g : Grid) : Prop where
  ne : g ≠ []
  hp : 0 < ht g
  col : ∀ c ∈ g, c.length = ht g
  wid : g.length ≤ 12
  hgt : ht g ≤ 9
  few : g.length * ht g < 64
  nn : ∀ c ∈ g, ∀ x ∈ c, (0 : Int) ≤ x
theorem inG_iff {g : Grid} {c : Cell} : inG g c = true ↔ (0 ≤ c.1 ∧ c.1 < (g.length : Int)) ∧ 0 ≤ c.2 ∧ c.2 < (ht g : Int) := by
  unfold inG
  simp only [Bool.and_eq_true, decide_eq_true_eq]
theorem mem_allC {g : Grid} {c : Cell} : c ∈ allC g ↔ inG g c = true := by
  rw [inG_iff]
  unfold allC
  simp only [List.mem_flatMap, List.mem_range, List.mem_map]
  constructor
  · rintro ⟨i, hi, j, hj, rfl⟩
    show (0 ≤ (i : Int) ∧ (i : Int) < _) ∧ 0 ≤ (j : Int) ∧ (j : Int) < _
    omega
  · rintro ⟨⟨h1, h2⟩, h3, h4⟩
    refine ⟨c.1.toNat, by omega, c.2.toNat, by omega, ?_⟩
    refine Prod.ext ?_ ?_
    · show ((c.1.toNat : Nat) : Int) = c.1
      omega
    · show ((c.2.toNat : Nat) : Int) = c.2
      omega
theorem nodup_map_int (n : Nat) (f : Nat → Cell) (hf : ∀ i j, f i = f j → i = j) : ((List.range n).map f).Nodup := by
  rw [List.Nodup, List.pairwise_map]
  exact List.Pairwise.imp (fun h e => h (hf _ _ e)) List.nodup_range
theorem allC_nodup (g : Grid) : (allC g).Nodup := by
  unfold allC
  have h : ∀ l : List Nat, l.Nodup → (l.flatMap fun (i : Nat) => (List.range (ht g)).map fun (j : Nat) => ((i : Int), (j : Int))).Nodup := by
    intro l
    induction l with
    | nil => intro _; exact List.Pairwise.nil
    | cons i r ih =>
      intro hn
      rw [List.nodup_cons] at hn
      rw [List.flatMap_cons, List.nodup_append]
      refine ⟨nodup_map_int _ _ (fun a b e => by injection e with _ e; omega), ih hn.2, ?_⟩
      intro a ha b hb e
      subst e
      obtain ⟨j, _, rfl⟩ := List.mem_map.mp ha
      obtain ⟨k, hk, hb⟩ := List.mem_flatMap.mp hb
      obtain ⟨m, _, e⟩ := List.mem_map.mp hb
      injection e with e _
      have : k = i := by omega
      subst this
      exact hn.1 hk
  exact h _ List.nodup_range
theorem allC_len (g : Grid) : (allC g).length = g.length * ht g := by
  unfold allC
  have h : ∀ l : List Nat, (l.flatMap fun (i : Nat) => (List.range (ht g)).map fun (j : Nat) => ((i : Int), (j : Int))).length = l.length * ht g := by
    intro l
    induction l with
    | nil => simp
    | cons i r ih => rw [List.flatMap_cons, List.length_append, ih, List.length_map, List.length_range, List.length_cons, Nat.succ_mul, Nat.add_comm]
  rw [h, List.length_range]
/-- cells in order -/
def cc (c : Cell) : Int := c.1 * 64 + c.2
/-- a cell of a small grid -/
def Bc (c : Cell) : Prop := (0 ≤ c.1 ∧ c.1 < 64) ∧ (0 ≤ c.2 ∧ c.2 < 64)
theorem Shp.bc {g : Grid} (h : Shp g) {c : Cell} (hc : inG g c = true) : Bc c := by
  rw [inG_iff] at hc
  obtain ⟨⟨h1, h2⟩, h3, h4⟩ := hc
  have := h.wid
  have := h.hgt
  exact ⟨⟨h1, by omega⟩, h3, by omega⟩
theorem atG_col {g : Grid} {c : Cell} (h : inG g c = true) : ∃ col, g[c.1.toNat]? = some col ∧ col ∈ g := by
  rw [inG_iff] at h
  have hl : c.1.toNat < g.length := by omega
  exact ⟨g[c.1.toNat], by simp [hl], List.getElem_mem hl⟩
theorem atG_get {g : Grid} (S : Shp g) {c : Cell} (h : inG g c = true) {col : List Int} (hc : g[c.1.toNat]? = some col) : col[c.2.toNat]? = some (atG g c) := by
  have hm : col ∈ g := List.mem_of_getElem? hc
  have hl := S.col col hm
  rw [inG_iff] at h
  have : c.2.toNat < col.length := by omega
  unfold atG
  rw [List.getD_eq_getElem?_getD, List.getD_eq_getElem?_getD, hc]
  simp [this]
end DL
set_option maxHeartbeats 1000000
/-! The data layer: plain data told at the heap, environments of slots, what expressions and statements do to them. -/
namespace DL
open PySem PySem.Spec PyProof.Rows L2

def ck (c : Cell) : List Key := [.inl c.1, .inl c.2]
def rawD (kvs : List (Cell × V)) : List (List Key × V) := kvs.map fun p => (ck p.1, p.2)

inductive Dt where
  | non | bl (b : Bool) | int (i : Int) | str (x : Str)
  | seq (l : Bool) (ds : List Dt)
  | dic (kvs : List (Cell × V))
def dCell (c : Cell) : Dt := .seq false [.int c.1, .int c.2]

mutual
inductive Is (H : Hp) : V → Dt → Prop where
  | non : Is H .non .non
  | bl (b : Bool) : Is H (.bl b) (.bl b)
  | int (i : Int) : Is H (.int i) (.int i)
  | str (x : Str) : Is H (.str x) (.str x)
  | tup {a : Addr} {xs : List V} {ds : List Dt} : H a = some (.tup xs) → IsAll H xs ds → Is H (.ref a) (.seq false ds)
  | lst {a : Addr} {xs : List V} {ds : List Dt} : H a = some (.lst xs) → IsAll H xs ds → Is H (.ref a) (.seq true ds)
  | dic {a : Addr} {kvs : List (Cell × V)} : Rd H a (.dT (rawD kvs)) → Is H (.ref a) (.dic kvs)
inductive IsAll (H : Hp) : List V → List Dt → Prop where
  | nil : IsAll H [] []
  | cons {v : V} {d : Dt} {vs : List V} {ds : List Dt} : Is H v d → IsAll H vs ds → IsAll H (v :: vs) (d :: ds)
end

theorem rd_mono {H H' : Hp} {a : Addr} {u : HO} (e : Same H H') (h : Rd H a u) : Rd H' a u := by
  rcases h with h | ⟨o, h⟩
  · exact .inl (e a _ h)
  · exact .inr ⟨o, e a _ h⟩
mutual
theorem Is.mono {H H' : Hp} (e : Same H H') : ∀ {v : V} {d : Dt}, Is H v d → Is H' v d
  | _, _, .non => .non
  | _, _, .bl b => .bl b
  | _, _, .int i => .int i
  | _, _, .str x => .str x
  | _, _, .tup h a => .tup (e _ _ h) (IsAll.mono e a)
  | _, _, .lst h a => .lst (e _ _ h) (IsAll.mono e a)
  | _, _, .dic h => .dic (rd_mono e h)
theorem IsAll.mono {H H' : Hp} (e : Same H H') : ∀ {vs : List V} {ds : List Dt}, IsAll H vs ds → IsAll H' vs ds
  | _, _, .nil => .nil
  | _, _, .cons h t => .cons (Is.mono e h) (IsAll.mono e t)
end
theorem IsAll.length {H : Hp} : ∀ {vs : List V} {ds : List Dt}, IsAll H vs ds → vs.length = ds.length
  | _, _, .nil => rfl
  | _, _, .cons _ t => by rw [List.length_cons, List.length_cons, IsAll.length t]
theorem IsAll.get {H : Hp} : ∀ {vs : List V} {ds : List Dt} {i : Nat} {d : Dt}, IsAll H vs ds → ds[i]? = some d → ∃ v, vs[i]? = some v ∧ Is H v d
  | _, _, _, _, .nil, e => by simp at e
  | _, _, 0, _, .cons h _, e => by
    simp at e
    subst e
    exact ⟨_, rfl, h⟩
  | _, _, i + 1, _, .cons _ t, e => by
    obtain ⟨v, h1, h2⟩ := IsAll.get (i := i) t (by simpa using e)
    exact ⟨v, by simpa using h1, h2⟩
theorem IsAll.getV {H : Hp} : ∀ {vs : List V} {ds : List Dt} {i : Nat} {v : V}, IsAll H vs ds → vs[i]? = some v → ∃ d, ds[i]? = some d ∧ Is H v d
  | _, _, _, _, .nil, e => by simp at e
  | _, _, 0, _, .cons h _, e => by
    simp at e
    subst e
    exact ⟨_, rfl, h⟩
  | _, _, i + 1, _, .cons _ t, e => by
    obtain ⟨v, h1, h2⟩ := IsAll.getV (i := i) t (by simpa using e)
    exact ⟨v, by simpa using h1, h2⟩
theorem IsAll.append {H : Hp} : ∀ {vs ws : List V} {ds es : List Dt}, IsAll H vs ds → IsAll H ws es → IsAll H (vs ++ ws) (ds ++ es)
  | _, _, _, _, .nil, s => s
  | _, _, _, _, .cons h t, s => .cons h (IsAll.append t s)
theorem IsAll.one {H : Hp} {v : V} {d : Dt} (h : Is H v d) : IsAll H [v] [d] := .cons h .nil
theorem IsAll.inv1 {H : Hp} {vs : List V} {d : Dt} (h : IsAll H vs [d]) : ∃ v, vs = [v] ∧ Is H v d := by
  cases h with
  | cons h t => cases t; exact ⟨_, rfl, h⟩
theorem IsAll.inv2 {H : Hp} {vs : List V} {d e : Dt} (h : IsAll H vs [d, e]) : ∃ v u, vs = [v, u] ∧ Is H v d ∧ Is H u e := by
  cases h with
  | cons h t => cases t with
    | cons h' t' => cases t'; exact ⟨_, _, rfl, h, h'⟩
theorem is_int {H : Hp} {v : V} {i : Int} (h : Is H v (.int i)) : v = .int i := by cases h; rfl
theorem is_bl {H : Hp} {v : V} {b : Bool} (h : Is H v (.bl b)) : v = .bl b := by cases h; rfl
theorem is_str {H : Hp} {v : V} {b : Str} (h : Is H v (.str b)) : v = .str b := by cases h; rfl
theorem is_non {H : Hp} {v : V} (h : Is H v .non) : v = .non := by cases h; rfl
theorem is_tup {H : Hp} {v : V} {ds : List Dt} (h : Is H v (.seq false ds)) : ∃ a xs, v = .ref a ∧ H a = some (.tup xs) ∧ IsAll H xs ds := by cases h with | tup h a => exact ⟨_, _, rfl, h, a⟩
theorem is_lst {H : Hp} {v : V} {ds : List Dt} (h : Is H v (.seq true ds)) : ∃ a xs, v = .ref a ∧ H a = some (.lst xs) ∧ IsAll H xs ds := by cases h with | lst h a => exact ⟨_, _, rfl, h, a⟩
theorem is_dic {H : Hp} {v : V} {kvs : List (Cell × V)} (h : Is H v (.dic kvs)) : ∃ a, v = .ref a ∧ Rd H a (.dT (rawD kvs)) := by cases h with | dic h => exact ⟨_, rfl, h⟩
theorem is_cell {H : Hp} {v : V} {c : Cell} (h : Is H v (dCell c)) : ∃ a, v = .ref a ∧ H a = some (.tup ((ck c).map kV)) := by
  obtain ⟨a, xs, e, ha, hx⟩ := is_tup h
  obtain ⟨x, y, e2, hx, hy⟩ := hx.inv2
  rw [is_int hx, is_int hy] at e2
  exact ⟨a, e, by rw [ha, e2]; rfl⟩
theorem is_cell_of {H : Hp} {a : Addr} {c : Cell} (h : H a = some (.tup ((ck c).map kV))) : Is H (.ref a) (dCell c) := .tup h (.cons (.int _) (.cons (.int _) .nil))

/-! ### environments -/
inductive Sl where
  | un | im (d : Dt) | ow (p : Addr) (d : Dt) | raw (v : V)
def out (H : Hp) (ps : List Addr) : Hp := fun a => if a ∈ ps then none else H a
theorem out_some {H : Hp} {ps : List Addr} {a : Addr} {o : HO} (h : out H ps a = some o) : H a = some o ∧ a ∉ ps := by
  unfold out at h
  split at h
  · cases h
  · exact ⟨h, by assumption⟩
theorem out_of {H : Hp} {ps : List Addr} {a : Addr} {o : HO} (h : H a = some o) (n : a ∉ ps) : out H ps a = some o := by
  unfold out
  rw [if_neg n]
  exact h
theorem out_mono {H H' : Hp} {ps : List Addr} (e : Same H H') : Same (out H ps) (out H' ps) := fun a o h => by
  obtain ⟨h1, h2⟩ := out_some h
  exact out_of (e a o h1) h2
theorem out_le {H : Hp} {ps : List Addr} : Same (out H ps) H := fun a o h => (out_some h).1
theorem out_sub {H : Hp} {ps qs : List Addr} (h : ∀ a ∈ ps, a ∈ qs) : Same (out H qs) (out H ps) := fun a o e => by
  obtain ⟨h1, h2⟩ := out_some e
  exact out_of h1 fun z => h2 (h a z)
theorem out_upd {H : Hp} {ps : List Addr} {p : Addr} {o : HO} (h : p ∈ ps) : Same (out H ps) (out (upd H p o) ps) := fun a u e => by
  obtain ⟨h1, h2⟩ := out_some e
  have ne : a ≠ p := by
    rintro rfl
    exact h2 h
  exact out_of (by rw [upd_ne ne]; exact h1) h2
theorem out_updB {H : Hp} {ps : List Addr} {p : Addr} {o : HO} (h : p ∈ ps) : Same (out (upd H p o) ps) (out H ps) := fun a u e => by
  obtain ⟨h1, h2⟩ := out_some e
  have ne : a ≠ p := by
    rintro rfl
    exact h2 h
  rw [upd_ne ne] at h1
  exact out_of h1 h2
theorem same_new {H : Hp} {p : Addr} {o : HO} (h : H p = none) : Same H (upd H p o) := fun b x e => by
  rw [upd_ne (ne_of_none e h)]
  exact e
def Ow (H : Hp) (ps : List Addr) (p : Addr) : Dt → Prop
  | .seq true ds => ∃ xs, H p = some (.lst xs) ∧ IsAll (out H ps) xs ds
  | .dic kvs => H p = some (.dT (rawD kvs))
  | _ => False
theorem Ow.mono {H H' : Hp} {ps : List Addr} {p : Addr} {d : Dt} (e : Same H H') (h : Ow H ps p d) : Ow H' ps p d := by
  cases d with
  | seq l ds =>
    cases l with
    | true =>
      obtain ⟨xs, h1, h2⟩ := h
      exact ⟨xs, e _ _ h1, h2.mono (out_mono e)⟩
    | false => exact h.elim
  | dic kvs => exact e _ _ h
  | non => exact h.elim
  | bl _ => exact h.elim
  | int _ => exact h.elim
  | str _ => exact h.elim
def SlOk (H : Hp) (ps : List Addr) (o : Option V) : Sl → Prop
  | .un => True
  | .im d => ∃ v, o = some v ∧ Is (out H ps) v d
  | .ow p d => o = some (.ref p) ∧ p ∈ ps ∧ Ow H ps p d
  | .raw v => o = some v
theorem SlOk.mono {H H' : Hp} {ps : List Addr} {o : Option V} {s : Sl} (e : Same H H') (h : SlOk H ps o s) : SlOk H' ps o s := by
  cases s with
  | un => trivial
  | im d => obtain ⟨v, h1, h2⟩ := h; exact ⟨v, h1, h2.mono (out_mono e)⟩
  | ow p d => exact ⟨h.1, h.2.1, h.2.2.mono e⟩
  | raw v => exact h
/-- what may be owned: a list, a dict -/
def Mu : Option HO → Prop
  | some (.lst _) => True
  | some (.dT _) => True
  | some (.dK _) => True
  | _ => False
theorem Mu.mono {H H' : Hp} {q : Addr} (e : Same H H') (h : Mu (H q)) : Mu (H' q) := by
  cases z : H q with
  | none => rw [z] at h; exact h.elim
  | some o => rw [e q o z]; rw [z] at h; exact h
theorem ow_mu {H : Hp} {ps : List Addr} {p : Addr} {d : Dt} (h : Ow H ps p d) : Mu (H p) := by
  cases d with
  | seq l ds =>
    cases l with
    | true => obtain ⟨xs, a1, _⟩ := h; rw [a1]; trivial
    | false => exact h.elim
  | dic kvs => rw [show H p = _ from h]; trivial
  | non => exact h.elim
  | bl _ => exact h.elim
  | int _ => exact h.elim
  | str _ => exact h.elim
/-- what stood at some times, but for some addresses, stands -/
def Bs (bs : List (List Addr × Hp)) (H : Hp) : Prop := ∀ e ∈ bs, ∀ a o, a ∉ e.1 → e.2 a = some o → H a = some o
structure En (ps : List Addr) (bs : List (List Addr × Hp)) (σ : L2.St) (H : Hp) (ρ : List Sl) : Prop where
  al : ∀ q ∈ ps, Mu (H q)
  ex : Bs bs H
  len : σ.length = ρ.length
  sl : ∀ (i : Nat) (s : Sl), ρ[i]? = some s → ∃ o, σ[i]? = some o ∧ SlOk H ps o s
  ne : ∀ (i j : Nat) (p : Addr) (d : Dt) (q : Addr) (e : Dt), ρ[i]? = some (.ow p d) → ρ[j]? = some (.ow q e) → i ≠ j → p ≠ q
  mine : ∀ (i : Nat) (p : Addr) (d : Dt), ρ[i]? = some (.ow p d) → ∀ e ∈ bs, p ∈ e.1 ∨ e.2 p = none
section
variable {ps : List Addr} {bs : List (List Addr × Hp)} {H H' : Hp} {σ : L2.St} {ρ : List Sl}
theorem En.mono (E : En ps bs σ H ρ) (e : Same H H') : En ps bs σ H' ρ where
  al := fun q hq => (E.al q hq).mono e
  ex := fun b hb a o h1 h2 => e a o (E.ex b hb a o h1 h2)
  len := E.len
  sl := fun i s h => let ⟨o, h1, h2⟩ := E.sl i s h; ⟨o, h1, h2.mono e⟩
  ne := E.ne
  mine := E.mine
theorem En.fresh (E : En ps bs σ H ρ) {p : Addr} (h : H p = none) : p ∉ ps := fun z => by
  have := E.al p z
  rw [h] at this
  exact this
theorem En.tup (E : En ps bs σ H ρ) {p : Addr} {xs : List V} (h : H p = some (.tup xs)) : p ∉ ps := fun z => by
  have := E.al p z
  rw [h] at this
  exact this
theorem En.im (E : En ps bs σ H ρ) {i : Nat} {d : Dt} (h : ρ[i]? = some (.im d)) : ∃ v, σ[i]? = some (some v) ∧ Is (out H ps) v d := by
  obtain ⟨o, h1, v, h2, h3⟩ := E.sl i _ h
  exact ⟨v, by rw [h1, h2], h3⟩
theorem En.raw (E : En ps bs σ H ρ) {i : Nat} {v : V} (h : ρ[i]? = some (.raw v)) : σ[i]? = some (some v) := by
  obtain ⟨o, h1, h2⟩ := E.sl i _ h
  rw [h1]
  exact congrArg some h2
theorem En.ow (E : En ps bs σ H ρ) {i : Nat} {p : Addr} {d : Dt} (h : ρ[i]? = some (.ow p d)) : σ[i]? = some (some (.ref p)) ∧ p ∈ ps ∧ Ow H ps p d := by
  obtain ⟨o, h1, h2, h3⟩ := E.sl i _ h
  exact ⟨by rw [h1, h2], h3⟩
theorem get_set_cases {α : Type} {l : List α} {i j : Nat} {x y : α} (h : (l.set i x)[j]? = some y) : (j = i ∧ y = x) ∨ (j ≠ i ∧ l[j]? = some y) := by
  by_cases e : j = i
  · subst e
    have hl : j < l.length := by
      by_cases q : j < l.length
      · exact q
      · rw [List.getElem?_eq_none (by simpa using q)] at h; cases h
    rw [List.getElem?_set_self hl] at h
    exact .inl ⟨rfl, (Option.some.inj h).symm⟩
  · rw [List.getElem?_set_ne (Ne.symm e)] at h
    exact .inr ⟨e, h⟩
theorem set_get {α : Type} {l : List α} {i : Nat} {x : α} (h : i < l.length) : (l.set i x)[i]? = some x := List.getElem?_set_self h
/-- a slot is stored: not an owned one -/
theorem En.set (E : En ps bs σ H ρ) {i : Nat} {v : V} {s : Sl} (h : SlOk H ps (some v) s) (hn : ∀ p d, s ≠ .ow p d) : En ps bs (σ.set i (some v)) H (ρ.set i s) where
  al := E.al
  ex := E.ex
  len := by rw [List.length_set, List.length_set]; exact E.len
  sl := fun j u q => by
    rcases get_set_cases q with ⟨rfl, rfl⟩ | ⟨e, q⟩
    · have hl : j < σ.length := by
        rw [E.len]
        by_cases z : j < ρ.length
        · exact z
        · rw [List.getElem?_eq_none (by simpa using z)] at q; cases q
      exact ⟨_, set_get hl, h⟩
    · obtain ⟨o, h1, h2⟩ := E.sl j u q
      exact ⟨o, by rw [List.getElem?_set_ne (Ne.symm e)]; exact h1, h2⟩
  ne := fun a b p d q e h1 h2 hab => by
    rcases get_set_cases h1 with ⟨_, z⟩ | ⟨_, h1⟩
    · exact absurd z.symm (hn _ _)
    · rcases get_set_cases h2 with ⟨_, z⟩ | ⟨_, h2⟩
      · exact absurd z.symm (hn _ _)
      · exact E.ne a b p d q e h1 h2 hab
  mine := fun a p d h1 => by
    rcases get_set_cases h1 with ⟨_, z⟩ | ⟨_, h1⟩
    · exact absurd z.symm (hn _ _)
    · exact E.mine a p d h1
theorem En.setIm (E : En ps bs σ H ρ) {i : Nat} {v : V} {d : Dt} (h : Is (out H ps) v d) : En ps bs (σ.set i (some v)) H (ρ.set i (.im d)) := E.set (s := .im d) ⟨v, rfl, h⟩ fun _ _ z => by cases z
theorem En.setRaw (E : En ps bs σ H ρ) {i : Nat} {v : V} : En ps bs (σ.set i (some v)) H (ρ.set i (.raw v)) := E.set (s := .raw v) rfl fun _ _ z => by cases z
/-- slots forgotten -/
theorem En.forget (E : En ps bs σ H ρ) {i : Nat} : En ps bs σ H (ρ.set i .un) where
  al := E.al
  ex := E.ex
  len := by rw [List.length_set]; exact E.len
  sl := fun j u q => by
    rcases get_set_cases q with ⟨rfl, rfl⟩ | ⟨e, q⟩
    · have hl : j < σ.length := by
        rw [E.len]
        by_cases z : j < ρ.length
        · exact z
        · rw [List.getElem?_eq_none (by simpa using z)] at q; cases q
      exact ⟨σ[j], by simp [hl], trivial⟩
    · exact E.sl j u q
  ne := fun a b p d q e h1 h2 hab => by
    rcases get_set_cases h1 with ⟨_, z⟩ | ⟨_, h1⟩
    · cases z
    · rcases get_set_cases h2 with ⟨_, z⟩ | ⟨_, h2⟩
      · cases z
      · exact E.ne a b p d q e h1 h2 hab
  mine := fun a p d h1 => by
    rcases get_set_cases h1 with ⟨_, z⟩ | ⟨_, h1⟩
    · cases z
    · exact E.mine a p d h1
theorem En.clear (E : En ps bs σ H ρ) {i : Nat} : En ps bs (σ.set i none) H (ρ.set i .un) := by
  have F := E.forget (i := i)
  refine ⟨F.al, F.ex, ?_, fun j u q => ?_, F.ne, F.mine⟩
  · rw [List.length_set]; exact F.len
  · obtain ⟨o, h1, h2⟩ := F.sl j u q
    by_cases e : j = i
    · subst e
      have hl : j < σ.length := by
        by_cases z : j < σ.length
        · exact z
        · rw [List.getElem?_eq_none (by simpa using z)] at h1; cases h1
      rcases get_set_cases q with ⟨_, rfl⟩ | ⟨z, _⟩
      · exact ⟨none, set_get hl, trivial⟩
      · exact absurd rfl z
    · exact ⟨o, by rw [List.getElem?_set_ne (Ne.symm e)]; exact h1, h2⟩
/-- an owned object is written -/
theorem En.put (E : En ps bs σ H ρ) {i : Nat} {p : Addr} {d d' : Dt} {o : HO} (h : ρ[i]? = some (.ow p d)) (h' : Ow (upd H p o) ps p d') : En ps bs σ (upd H p o) (ρ.set i (.ow p d')) := by
  obtain ⟨hs, hp, _⟩ := E.ow h
  have hi : i < ρ.length := by
    by_cases z : i < ρ.length
    · exact z
    · rw [List.getElem?_eq_none (by simpa using z)] at h; cases h
  refine ⟨fun q hq => ?_, fun b hb a u ha h0 => ?_, by rw [List.length_set]; exact E.len, fun j u q => ?_, fun a b r c q e h1 h2 hab => ?_, fun a r c h1 => ?_⟩
  · by_cases e : q = p
    · rw [e]; exact ow_mu h'
    · rw [upd_ne e]; exact E.al q hq
  · have e := E.ex b hb a u ha h0
    have ne : a ≠ p := fun z => by
      subst z
      rcases E.mine i a d h b hb with m | m
      · exact ha m
      · rw [m] at h0; cases h0
    rw [upd_ne ne]
    exact e
  · rcases get_set_cases q with ⟨rfl, rfl⟩ | ⟨ne, q⟩
    · exact ⟨_, hs, rfl, hp, h'⟩
    · obtain ⟨ov, h1, h2⟩ := E.sl j u q
      refine ⟨ov, h1, ?_⟩
      cases u with
      | un => trivial
      | im e => obtain ⟨v, a1, a2⟩ := h2; exact ⟨v, a1, a2.mono (out_upd hp)⟩
      | raw v => exact h2
      | ow r c =>
        have nr : r ≠ p := E.ne j i r c p d q h ne
        refine ⟨h2.1, h2.2.1, ?_⟩
        have h3 := h2.2.2
        cases c with
        | seq l ds =>
          cases l with
          | true =>
            obtain ⟨xs, a1, a2⟩ := h3
            exact ⟨xs, by rw [upd_ne nr]; exact a1, a2.mono (out_upd hp)⟩
          | false => exact h3.elim
        | dic kvs =>
          show upd H p o r = _
          rw [upd_ne nr]
          exact h3
        | non => exact h3.elim
        | bl _ => exact h3.elim
        | int _ => exact h3.elim
        | str _ => exact h3.elim
  · rcases get_set_cases h1 with ⟨e1, z1⟩ | ⟨e1, h1⟩
    · cases z1
      rcases get_set_cases h2 with ⟨e2, z2⟩ | ⟨e2, h2⟩
      · exact absurd (e1.trans e2.symm) hab
      · exact E.ne i b p d q e h h2 (fun z => e2 z.symm)
    · rcases get_set_cases h2 with ⟨e2, z2⟩ | ⟨e2, h2⟩
      · cases z2
        exact E.ne a i r c p d h1 h e1
      · exact E.ne a b r c q e h1 h2 hab
  · rcases get_set_cases h1 with ⟨e1, z1⟩ | ⟨e1, h1⟩
    · cases z1; exact E.mine i p d h
    · exact E.mine a r c h1
theorem Ow.wide {p q : Addr} {d : Dt} (hq : H q = none) (h : Ow H ps p d) : Ow H (q :: ps) p d := by
  have sub : Same (out H ps) (out H (q :: ps)) := fun a o e => by
    obtain ⟨h1, h2⟩ := out_some e
    refine out_of h1 fun z => ?_
    rcases List.mem_cons.mp z with z | z
    · rw [z, hq] at h1; cases h1
    · exact h2 z
  cases d with
  | seq l ds =>
    cases l with
    | true => obtain ⟨xs, a1, a2⟩ := h; exact ⟨xs, a1, a2.mono sub⟩
    | false => exact h.elim
  | dic kvs => exact h
  | non => exact h.elim
  | bl _ => exact h.elim
  | int _ => exact h.elim
  | str _ => exact h.elim
/-- an address that is new to the old heap joins the protected ones, once it is laid -/
theorem same_wide {H1 : Hp} {p : Addr} (e : Same H H1) (hp : H p = none) : Same (out H ps) (out H1 (p :: ps)) := fun a o h => by
  obtain ⟨h1, h2⟩ := out_some h
  refine out_of (e a o h1) fun z => ?_
  rcases List.mem_cons.mp z with z | z
  · rw [z, hp] at h1; cases h1
  · exact h2 z
theorem Ow.wide2 {H1 : Hp} {p q : Addr} {d : Dt} (e : Same H H1) (hq : H q = none) (h : Ow H ps p d) : Ow H1 (q :: ps) p d := by
  cases d with
  | seq l ds =>
    cases l with
    | true => obtain ⟨xs, a1, a2⟩ := h; exact ⟨xs, e _ _ a1, a2.mono (same_wide e hq)⟩
    | false => exact h.elim
  | dic kvs => exact e _ _ h
  | non => exact h.elim
  | bl _ => exact h.elim
  | int _ => exact h.elim
  | str _ => exact h.elim
theorem En.wide (E : En ps bs σ H ρ) {H1 : Hp} {p : Addr} (e : Same H H1) (hp : H p = none) (hp1 : Mu (H1 p)) : En (p :: ps) bs σ H1 ρ where
  al := fun q hq => by
    rcases List.mem_cons.mp hq with z | z
    · rw [z]; exact hp1
    · exact (E.mono e).al q z
  ex := (E.mono e).ex
  len := E.len
  sl := fun i s h => by
    obtain ⟨o, h1, h2⟩ := E.sl i s h
    refine ⟨o, h1, ?_⟩
    cases s with
    | un => trivial
    | im d => obtain ⟨v, a1, a2⟩ := h2; exact ⟨v, a1, a2.mono (same_wide e hp)⟩
    | raw v => exact h2
    | ow q d => exact ⟨h2.1, List.mem_cons_of_mem _ h2.2.1, h2.2.2.wide2 e hp⟩
  ne := E.ne
  mine := E.mine
/-- a new owned object in a slot -/
theorem En.setNew (E : En ps bs σ H ρ) {H1 : Hp} {i : Nat} {p : Addr} {d : Dt} (e : Same H H1) (hp : H p = none) (h : Ow H1 (p :: ps) p d) : En (p :: ps) bs (σ.set i (some (.ref p))) H1 (ρ.set i (.ow p d)) := by
  have h1p : Mu (H1 p) := ow_mu h
  have W := E.wide e hp h1p
  have nps : p ∉ ps := E.fresh hp
  refine ⟨W.al, W.ex, ?_, fun j u q => ?_, fun a b r c q e' h1 h2 hab => ?_, fun a r c h1 => ?_⟩
  · rw [List.length_set, List.length_set]; exact E.len
  · rcases get_set_cases q with ⟨rfl, rfl⟩ | ⟨ne, q⟩
    · have hl : j < σ.length := by
        rw [E.len]
        by_cases z : j < ρ.length
        · exact z
        · rw [List.getElem?_eq_none (by simpa using z)] at q; cases q
      exact ⟨_, set_get hl, rfl, List.mem_cons_self, h⟩
    · obtain ⟨o, a1, a2⟩ := W.sl j u q
      exact ⟨o, by rw [List.getElem?_set_ne (Ne.symm ne)]; exact a1, a2⟩
  · rcases get_set_cases h1 with ⟨e1, z1⟩ | ⟨e1, h1⟩
    · cases z1
      rcases get_set_cases h2 with ⟨e2, z2⟩ | ⟨e2, h2⟩
      · exact absurd (e1.trans e2.symm) hab
      · exact fun z => nps (z ▸ (E.ow h2).2.1)
    · rcases get_set_cases h2 with ⟨e2, z2⟩ | ⟨e2, h2⟩
      · cases z2
        exact fun z => nps (z ▸ (E.ow h1).2.1)
      · exact E.ne a b r c q e' h1 h2 hab
  · rcases get_set_cases h1 with ⟨e1, z1⟩ | ⟨e1, h1⟩
    · cases z1
      intro b hb
      by_cases m : p ∈ b.1
      · exact .inl m
      · refine .inr ?_
        cases q : b.2 p with
        | none => rfl
        | some o => rw [E.ex b hb p o m q] at hp; cases hp
    · exact E.mine a r c h1
end
end DL
set_option maxHeartbeats 1000000
/-! Judgements: what an expression, a test, an argument list is worth in an environment. -/
namespace DL
open PySem PySem.Spec PyProof.Rows L2

def GE (t : TE) (ρ : List Sl) (φ : Dt → Prop) : Prop := ∀ ps bs σ H, En ps bs σ H ρ → ∀ Q : VK, (∀ v H' d, Same H H' → Is (out H' ps) v d → φ d → Q v H') → t σ H Q
def GD (t : TE) (ρ : List Sl) (d : Dt) : Prop := ∀ ps bs σ H, En ps bs σ H ρ → ∀ Q : VK, (∀ v H', Same H H' → Is (out H' ps) v d → Q v H') → t σ H Q
/-- a new object -/
def GN (t : TE) (ρ : List Sl) (d : Dt) : Prop := ∀ ps bs σ H, En ps bs σ H ρ → ∀ Q : VK, (∀ p H', H p = none → Same H H' → Ow H' (p :: ps) p d → Q (.ref p) H') → t σ H Q
def GNE (t : TE) (ρ : List Sl) (φ : Dt → Prop) : Prop := ∀ ps bs σ H, En ps bs σ H ρ → ∀ Q : VK, (∀ p H' d, H p = none → Same H H' → Ow H' (p :: ps) p d → φ d → Q (.ref p) H') → t σ H Q
def GT (t : TT) (ρ : List Sl) (b : Bool) : Prop := ∀ ps bs σ H, En ps bs σ H ρ → ∀ Q : Bool → Hp → Prop, (∀ H', Same H H' → Q b H') → t σ H Q
def GA (t : TA) (ρ : List Sl) (ds : List Dt) : Prop := ∀ ps bs σ H, En ps bs σ H ρ → ∀ Q : List V → Hp → Prop, (∀ vs H', Same H H' → IsAll (out H' ps) vs ds → Q vs H') → t σ H Q
/-- a list that is read, owned or not; a dict -/
def GL (t : TE) (ρ : List Sl) (ds : List Dt) : Prop := ∀ ps bs σ H, En ps bs σ H ρ → ∀ Q : VK, (∀ a xs H', Same H H' → H' a = some (.lst xs) → IsAll (out H' ps) xs ds → Q (.ref a) H') → t σ H Q
def GM (t : TE) (ρ : List Sl) (kvs : List (Cell × V)) : Prop := ∀ ps bs σ H, En ps bs σ H ρ → ∀ Q : VK, (∀ a H', Same H H' → Rd H' a (.dT (rawD kvs)) → Q (.ref a) H') → t σ H Q

section
variable {ρ : List Sl} {t ta tb tc te : TE} {d da db : Dt} {φ : Dt → Prop} {i j : Int} {K : PySem.W.Frag}
theorem GD.ge (h : GD t ρ d) (hd : φ d) : GE t ρ φ := fun ps bs σ H E Q q => h ps bs σ H E Q fun v H' s a => q v H' d s a hd
theorem GE.gd (h : GE t ρ φ) (hd : ∀ e, φ e → e = d) : GD t ρ d := fun ps bs σ H E Q q => h ps bs σ H E Q fun v H' e s a p => q v H' s (hd e p ▸ a)
theorem GE.imp {ψ : Dt → Prop} (h : GE t ρ φ) (hd : ∀ e, φ e → ψ e) : GE t ρ ψ := fun ps bs σ H E Q q => h ps bs σ H E Q fun v H' e s a p => q v H' e s a (hd e p)
theorem GD.cast (h : GD t ρ d) (e : d = da) : GD t ρ da := e ▸ h
theorem GT.cast {t : TT} {b c : Bool} (h : GT t ρ b) (e : b = c) : GT t ρ c := e ▸ h
theorem GA.cast {t : TA} {b c : List Dt} (h : GA t ρ b) (e : b = c) : GA t ρ c := e ▸ h
theorem ow_is {H : Hp} {ps : List Addr} {p : Addr} (hp : p ∉ ps) (h : Ow H (p :: ps) p d) : Is (out H ps) (.ref p) d := by
  have sub : Same (out H (p :: ps)) (out H ps) := out_sub fun a h => List.mem_cons_of_mem _ h
  cases d with
  | seq l ds =>
    cases l with
    | true => obtain ⟨xs, a1, a2⟩ := h; exact .lst (out_of a1 hp) (a2.mono sub)
    | false => exact h.elim
  | dic kvs => exact .dic (.inl (out_of h hp))
  | non => exact h.elim
  | bl _ => exact h.elim
  | int _ => exact h.elim
  | str _ => exact h.elim
theorem GN.gd (h : GN t ρ d) : GD t ρ d := fun ps bs σ H E Q q => h ps bs σ H E Q fun p H' hp s o => q _ _ s (ow_is (E.fresh hp) o)
theorem GNE.ge (h : GNE t ρ φ) : GE t ρ φ := fun ps bs σ H E Q q => h ps bs σ H E Q fun p H' d hp s o f => q _ _ d s (ow_is (E.fresh hp) o) f
theorem GN.gne (h : GN t ρ d) (hd : φ d) : GNE t ρ φ := fun ps bs σ H E Q q => h ps bs σ H E Q fun p H' hp s o => q _ _ d hp s o hd
theorem rd_out {H : Hp} {ps : List Addr} {a : Addr} {u : HO} (h : Rd (out H ps) a u) : Rd H a u := by
  rcases h with h | ⟨o, h⟩
  · exact .inl (out_some h).1
  · exact .inr ⟨o, (out_some h).1⟩
theorem GD.gl {ds : List Dt} (h : GD t ρ (.seq true ds)) : GL t ρ ds := fun ps bs σ H E Q q => h ps bs σ H E Q fun v H' s a => by
  obtain ⟨p, xs, rfl, h1, h2⟩ := is_lst a
  exact q p xs H' s (out_some h1).1 h2
theorem GD.gm {kvs : List (Cell × V)} (h : GD t ρ (.dic kvs)) : GM t ρ kvs := fun ps bs σ H E Q q => h ps bs σ H E Q fun v H' s a => by
  obtain ⟨p, rfl, h1⟩ := is_dic a
  exact q p H' s (rd_out h1)
theorem gl_own {i : Nat} {p : Addr} {ds : List Dt} (h : ρ[i]? = some (.ow p (.seq true ds))) : GL (tVar i) ρ ds := fun ps bs σ H E Q q => by
  obtain ⟨h1, h2, xs, h3, h4⟩ := E.ow h
  exact ⟨_, h1, q p xs H (Same.refl H) h3 h4⟩
theorem gm_own {i : Nat} {p : Addr} {kvs : List (Cell × V)} (h : ρ[i]? = some (.ow p (.dic kvs))) : GM (tVar i) ρ kvs := fun ps bs σ H E Q q => by
  obtain ⟨h1, h2, h3⟩ := E.ow h
  exact ⟨_, h1, q p H (Same.refl H) (.inl h3)⟩

/-! names, constants -/
theorem gd_var {i : Nat} (h : ρ[i]? = some (.im d)) : GD (tVar i) ρ d := fun ps bs σ H E Q q => by
  obtain ⟨v, h1, h2⟩ := E.im h
  exact ⟨v, h1, q v H (Same.refl H) h2⟩
theorem gd_int : GD (tC (.int i)) ρ (.int i) := fun ps bs σ H E Q q => q _ H (Same.refl H) (.int i)
theorem gd_bl {b : Bool} : GD (tC (.bl b)) ρ (.bl b) := fun ps bs σ H E Q q => q _ H (Same.refl H) (.bl b)
theorem gd_str {x : Str} : GD (tC (.str x)) ρ (.str x) := fun ps bs σ H E Q q => q _ H (Same.refl H) (.str x)
theorem gd_non : GD (tC .non) ρ .non := fun ps bs σ H E Q q => q _ H (Same.refl H) .non

/-! two operands -/
theorem gd_op {r : R2} (ha : GD ta ρ da) (hb : GD tb ρ db)
    (hr : ∀ ps bs σ H x y, En ps bs σ H ρ → Is (out H ps) x da → Is (out H ps) y db → ∀ Q : VK, (∀ v H', Same H H' → Is (out H' ps) v d → Q v H') → r x y H Q) : GD (tOp r ta tb) ρ d := fun ps bs σ H E Q q =>
  ha ps bs σ H E _ fun x H1 s1 h1 => hb ps bs σ H1 (E.mono s1) _ fun y H2 s2 h2 =>
    hr ps bs σ H2 x y (E.mono (s1.trans s2)) (h1.mono (out_mono s2)) h2 Q fun v H3 s3 h3 => q v H3 ((s1.trans s2).trans s3) h3
theorem gn_op {r : R2} (ha : GD ta ρ da) (hb : GD tb ρ db)
    (hr : ∀ ps bs σ H x y, En ps bs σ H ρ → Is (out H ps) x da → Is (out H ps) y db → ∀ Q : VK, (∀ p H', H p = none → Same H H' → Ow H' (p :: ps) p d → Q (.ref p) H') → r x y H Q) : GN (tOp r ta tb) ρ d := fun ps bs σ H E Q q =>
  ha ps bs σ H E _ fun x H1 s1 h1 => hb ps bs σ H1 (E.mono s1) _ fun y H2 s2 h2 =>
    hr ps bs σ H2 x y (E.mono (s1.trans s2)) (h1.mono (out_mono s2)) h2 Q fun p H3 hp s3 h3 => q p H3 (Same.free (s1.trans s2) hp) ((s1.trans s2).trans s3) h3
theorem gd_I0 {g : Int → Int → V} (ha : GD ta ρ (.int i)) (hb : GD tb ρ (.int j)) (hd : ∀ H, Is H (g i j) d) : GD (tOp (rI0 g) ta tb) ρ d :=
  gd_op ha hb fun ps bs σ H x y E hx hy Q q => ⟨i, j, is_int hx, is_int hy, q _ H (Same.refl H) (hd _)⟩
theorem gd_I {C : Int → Int → Prop} {g : Int → Int → V} (ha : GD ta ρ (.int i)) (hb : GD tb ρ (.int j)) (hc : C i j) (hd : ∀ H, Is H (g i j) d) : GD (tOp (rI C g) ta tb) ρ d :=
  gd_op ha hb fun ps bs σ H x y E hx hy Q q => ⟨i, j, is_int hx, is_int hy, hc, q _ H (Same.refl H) (hd _)⟩
theorem gd_add (ha : GD ta ρ (.int i)) (hb : GD tb ρ (.int j)) : GD (tOp (rI0 fun i j => .int (i + j)) ta tb) ρ (.int (i + j)) := gd_I0 ha hb fun _ => .int _
theorem gd_sub (ha : GD ta ρ (.int i)) (hb : GD tb ρ (.int j)) : GD (tOp (rI0 fun i j => .int (i - j)) ta tb) ρ (.int (i - j)) := gd_I0 ha hb fun _ => .int _
theorem gd_lt (ha : GD ta ρ (.int i)) (hb : GD tb ρ (.int j)) : GD (tOp (rI0 fun i j => .bl (decide (i < j))) ta tb) ρ (.bl (decide (i < j))) := gd_I0 ha hb fun _ => .bl _
theorem gd_le (ha : GD ta ρ (.int i)) (hb : GD tb ρ (.int j)) : GD (tOp (rI0 fun i j => .bl (decide (i ≤ j))) ta tb) ρ (.bl (decide (i ≤ j))) := gd_I0 ha hb fun _ => .bl _
theorem gd_gt (ha : GD ta ρ (.int i)) (hb : GD tb ρ (.int j)) : GD (tOp (rI0 fun i j => .bl (decide (j < i))) ta tb) ρ (.bl (decide (j < i))) := gd_I0 ha hb fun _ => .bl _
theorem gd_ge (ha : GD ta ρ (.int i)) (hb : GD tb ρ (.int j)) : GD (tOp (rI0 fun i j => .bl (decide (j ≤ i))) ta tb) ρ (.bl (decide (j ≤ i))) := gd_I0 ha hb fun _ => .bl _
theorem gd_mul {C : Int → Int → Prop} (ha : GD ta ρ (.int i)) (hb : GD tb ρ (.int j)) (hc : C i j) : GD (tOp (rI C fun i j => .int (i * j)) ta tb) ρ (.int (i * j)) := gd_I ha hb hc fun _ => .int _
theorem gd_mod (ha : GD ta ρ (.int i)) (hb : GD tb ρ (.int j)) (hc : 0 < j) : GD (tOp (rI (fun _ j => 0 < j) fun i j => .int (i % j)) ta tb) ρ (.int (i % j)) := gd_I ha hb hc fun _ => .int _
theorem gd_fdiv (ha : GD ta ρ (.int i)) (hb : GD tb ρ (.int j)) (hc : CDiv i j) : GD (tOp (rI CDiv fun i j => .int (i / j)) ta tb) ρ (.int (i / j)) := gd_I ha hb hc fun _ => .int _
theorem gd_pow (ha : GD ta ρ (.int i)) (hb : GD tb ρ (.int j)) (hc : CPow i j) : GD (tOp (rI CPow fun i j => .int (i ^ j.toNat)) ta tb) ρ (.int (i ^ j.toNat)) := gd_I ha hb hc fun _ => .int _
theorem gd_neg (ha : GD ta ρ (.int i)) : GD (tUn (rU fun i => .int (-i)) ta) ρ (.int (-i)) := fun ps bs σ H E Q q =>
  ha ps bs σ H E _ fun x H1 s1 h1 => ⟨i, is_int h1, q _ H1 s1 (.int _)⟩
theorem gd_eqI (ha : GD ta ρ (.int i)) (hb : GD tb ρ (.int j)) : GD (tOp rEq ta tb) ρ (.bl (decide (i = j))) :=
  gd_op ha hb fun ps bs σ H x y E hx hy Q q => by
    rw [is_int hx, is_int hy]
    refine ⟨rfl, ?_⟩
    have e : decide (V.int i = V.int j) = decide (i = j) := by rw [dec_int, Bool.beq_eq_decide_eq]
    rw [e]
    exact q _ H (Same.refl H) (.bl _)
theorem gd_neI (ha : GD ta ρ (.int i)) (hb : GD tb ρ (.int j)) : GD (tOp rNe ta tb) ρ (.bl (!decide (i = j))) :=
  gd_op ha hb fun ps bs σ H x y E hx hy Q q => by
    rw [is_int hx, is_int hy]
    refine ⟨rfl, ?_⟩
    have e : decide (V.int i = V.int j) = decide (i = j) := by rw [dec_int, Bool.beq_eq_decide_eq]
    rw [e]
    exact q _ H (Same.refl H) (.bl _)
theorem gd_eqB {a b : Bool} (ha : GD ta ρ (.bl a)) (hb : GD tb ρ (.bl b)) : GD (tOp rEq ta tb) ρ (.bl (a == b)) :=
  gd_op ha hb fun ps bs σ H x y E hx hy Q q => by
    rw [is_bl hx, is_bl hy]
    refine ⟨rfl, ?_⟩
    rw [dec_bl]
    exact q _ H (Same.refl H) (.bl _)
theorem gd_neB {a b : Bool} (ha : GD ta ρ (.bl a)) (hb : GD tb ρ (.bl b)) : GD (tOp rNe ta tb) ρ (.bl (!(a == b))) :=
  gd_op ha hb fun ps bs σ H x y E hx hy Q q => by
    rw [is_bl hx, is_bl hy]
    refine ⟨rfl, ?_⟩
    rw [dec_bl]
    exact q _ H (Same.refl H) (.bl _)
theorem gd_eqS {a b : Str} (ha : GD ta ρ (.str a)) (hb : GD tb ρ (.str b)) : GD (tOp rEq ta tb) ρ (.bl (a == b)) :=
  gd_op ha hb fun ps bs σ H x y E hx hy Q q => by
    rw [is_str hx, is_str hy]
    refine ⟨rfl, ?_⟩
    rw [dec_str]
    exact q _ H (Same.refl H) (.bl _)
def isN : Dt → Bool
  | .non => true
  | _ => false
def rIsNQ : R2 := fun x y H Q => y = .non ∧ Q (.bl (decide (x = .non))) H
def rNotNQ : R2 := fun x y H Q => y = .non ∧ Q (.bl (!decide (x = .non))) H
theorem op_isNQ {X : Cx} : OpR X (compareOp .Is) rIsNQ := op_isN
theorem op_notNQ {X : Cx} : OpR X (compareOp .IsNot) rNotNQ := op_notN
theorem isN_of {H : Hp} {v : V} (h : Is H v d) : decide (v = .non) = isN d := by
  cases h <;> first | rfl | (exact decide_eq_false (fun z => by cases z))
theorem gd_isN (ha : GD ta ρ da) : GD (tOp rIsNQ ta (tC .non)) ρ (.bl (isN da)) :=
  gd_op ha gd_non fun ps bs σ H x y E hx hy Q q => ⟨is_non hy, by rw [isN_of hx]; exact q _ H (Same.refl H) (.bl _)⟩
theorem gd_notN (ha : GD ta ρ da) : GD (tOp rNotNQ ta (tC .non)) ρ (.bl (!isN da)) :=
  gd_op ha gd_non fun ps bs σ H x y E hx hy Q q => ⟨is_non hy, by rw [isN_of hx]; exact q _ H (Same.refl H) (.bl _)⟩

/-! items, slices -/
theorem atI_is {H : Hp} {xs : List V} {ds : List Dt} (h : IsAll H xs ds) (e : atI ds i = some d) : ∃ v, atI xs i = some v ∧ Is H v d := by
  unfold atI at e ⊢
  rw [h.length]
  cases q : ixN ds.length i with
  | none => rw [q] at e; cases e
  | some n =>
    rw [q] at e
    obtain ⟨v, h1, h2⟩ := h.get (show ds[n]? = some d from e)
    exact ⟨v, h1, h2⟩
theorem gd_ix {l : Bool} {ds : List Dt} (ha : GD ta ρ (.seq l ds)) (hb : GD tb ρ (.int i)) (e : atI ds i = some d) : GD (tOp (rIx K) ta tb) ρ d :=
  gd_op ha hb fun ps bs σ H x y E hx hy Q q => by
    cases l with
    | true =>
      obtain ⟨a, xs, rfl, h1, h2⟩ := is_lst hx
      obtain ⟨v, h3, h4⟩ := atI_is h2 e
      exact .inl ⟨a, xs, i, v, rfl, is_int hy, SqL.of (out_some h1).1, h3, q v H (Same.refl H) h4⟩
    | false =>
      obtain ⟨a, xs, rfl, h1, h2⟩ := is_tup hx
      obtain ⟨v, h3, h4⟩ := atI_is h2 e
      exact .inr (.inl ⟨a, xs, i, v, rfl, is_int hy, SqT.of (out_some h1).1, h3, q v H (Same.refl H) h4⟩)
theorem gd_ixL {ds : List Dt} (ha : GL ta ρ ds) (hb : GD tb ρ (.int i)) (e : atI ds i = some d) : GD (tOp (rIx K) ta tb) ρ d := fun ps bs σ H E Q q =>
  ha ps bs σ H E _ fun a xs H1 s1 h1 h1' => hb ps bs σ H1 (E.mono s1) _ fun y H2 s2 h2 => by
    obtain ⟨v, h3, h4⟩ := atI_is h1' e
    exact .inl ⟨a, xs, i, v, rfl, is_int h2, SqL.of (s2 _ _ h1), h3, q v H2 (s1.trans s2) (h4.mono (out_mono s2))⟩

/-! displays, arguments -/
theorem ga_nil : GA tNil ρ [] := fun ps bs σ H E Q q => q [] H (Same.refl H) .nil
theorem ga_cons {t : TA} {ds : List Dt} (ha : GD ta ρ d) (hr : GA t ρ ds) : GA (tCons ta t) ρ (d :: ds) := fun ps bs σ H E Q q =>
  ha ps bs σ H E _ fun x H1 s1 h1 => hr ps bs σ H1 (E.mono s1) _ fun xs H2 s2 h2 => q (x :: xs) H2 (s1.trans s2) (.cons (h1.mono (out_mono s2)) h2)
theorem gd_tup {t : TA} {ds : List Dt} (h : GA t ρ ds) (hl : ds.length ≤ sizeLine) : GD (tTup t) ρ (.seq false ds) := fun ps bs σ H E Q q =>
  h ps bs σ H E _ fun xs H1 s1 h1 => ⟨by rw [h1.length]; exact hl, fun p hp => by
    have e := same_new (o := .tup xs) hp
    exact q _ _ (s1.trans e) (.tup (out_of upd_same ((E.mono s1).fresh hp)) (h1.mono (out_mono e)))⟩
theorem gn_lst {t : TA} {ds : List Dt} (h : GA t ρ ds) (hl : ds.length ≤ sizeLine) : GN (tLst t) ρ (.seq true ds) := fun ps bs σ H E Q q =>
  h ps bs σ H E _ fun xs H1 s1 h1 => ⟨by rw [h1.length]; exact hl, fun p hp =>
    q _ _ (Same.free s1 hp) (s1.trans (same_new hp)) ⟨xs, upd_same, h1.mono (same_wide (same_new hp) hp)⟩⟩

/-! calls -/
/-- a def that keeps all that stands, told by an index: its arguments, what is asked of them, what comes -/
def spI {ι : Type} (arg : ι → List Dt) (pre : ι → Prop) (post : ι → Dt → Prop) : Sp := fun vs H Q _ => ∃ (i : ι) (ps : List Addr), (∀ q ∈ ps, Mu (H q)) ∧ IsAll (out H ps) vs (arg i) ∧ pre i ∧ ∀ v H' d, Same H H' → Is (out H' ps) v d → post i d → Q v H'
theorem ge_call {ι : Type} {arg : ι → List Dt} {pre : ι → Prop} {post : ι → Dt → Prop} {t : TA} {X : XK} (i : ι) (h : GA t ρ (arg i)) (hp : pre i) : GE (tCall (spI arg pre post) [] X t) ρ (post i) := fun ps bs σ H E Q q =>
  h ps bs σ H E _ fun vs H1 s1 h1 => ⟨i, ps, (E.mono s1).al, by rw [List.append_nil]; exact h1, hp, fun v H2 d s2 h2 p => q v H2 d (s1.trans s2) h2 p⟩
theorem gd_call {ι : Type} {arg : ι → List Dt} {pre : ι → Prop} {f : ι → Dt} {t : TA} {X : XK} (i : ι) (h : GA t ρ (arg i)) (hp : pre i) : GD (tCall (spI arg pre fun i d => d = f i) [] X t) ρ (f i) := (ge_call (post := fun i d => d = f i) i h hp).gd fun _ e => e

def rLenQ (K : PySem.W.Frag) : List V → Hp → VK → Prop := fun xs H Q => ∃ p ys, xs = [.ref p] ∧ (SqL K H p ys ∨ SqT K H p ys) ∧ Q (.int ys.length) H
theorem call_lenQ {X : Cx} : CallR X (.builtin "len") (rLenQ X.K) := call_len_seq
theorem gd_len {l : Bool} {ds : List Dt} (ha : GD ta ρ (.seq l ds)) : GD (tCB (rLenQ K) (tCons ta tNil)) ρ (.int ds.length) := fun ps bs σ H E Q q =>
  ha ps bs σ H E _ fun x H1 s1 h1 => by
    cases l with
    | true =>
      obtain ⟨a, xs, rfl, h2, h3⟩ := is_lst h1
      exact ⟨a, xs, rfl, .inl (SqL.of (out_some h2).1), by rw [h3.length]; exact q _ H1 s1 (.int _)⟩
    | false =>
      obtain ⟨a, xs, rfl, h2, h3⟩ := is_tup h1
      exact ⟨a, xs, rfl, .inr (SqT.of (out_some h2).1), by rw [h3.length]; exact q _ H1 s1 (.int _)⟩
theorem gd_lenL {ds : List Dt} (ha : GL ta ρ ds) : GD (tCB (rLenQ K) (tCons ta tNil)) ρ (.int ds.length) := fun ps bs σ H E Q q =>
  ha ps bs σ H E _ fun a xs H1 s1 h2 h3 => ⟨a, xs, rfl, .inl (SqL.of h2), by rw [h3.length]; exact q _ H1 s1 (.int _)⟩
def rAbsQ : List V → Hp → VK → Prop := fun xs H Q => ∃ i, xs = [.int i] ∧ Q (.int (if i < 0 then -i else i)) H
theorem call_absQ {X : Cx} : CallR X (.builtin "abs") rAbsQ := call_abs
theorem gd_abs (ha : GD ta ρ (.int i)) : GD (tCB rAbsQ (tCons ta tNil)) ρ (.int (if i < 0 then -i else i)) := fun ps bs σ H E Q q =>
  ha ps bs σ H E _ fun x H1 s1 h1 => ⟨i, by rw [is_int h1], q _ H1 s1 (.int _)⟩
def rMax2Q : List V → Hp → VK → Prop := fun xs H Q => ∃ i j, xs = [.int i, .int j] ∧ Q (.int (if j > i then j else i)) H
def rMin2Q : List V → Hp → VK → Prop := fun xs H Q => ∃ i j, xs = [.int i, .int j] ∧ Q (.int (if j < i then j else i)) H
theorem call_max2Q {X : Cx} (hc : X.calm = true) : CallR X (.builtin "max") rMax2Q := call_max2 hc
theorem call_min2Q {X : Cx} (hc : X.calm = true) : CallR X (.builtin "min") rMin2Q := call_min2 hc
theorem gd_max2 (ha : GD ta ρ (.int i)) (hb : GD tb ρ (.int j)) : GD (tCB rMax2Q (tCons ta (tCons tb tNil))) ρ (.int (if j > i then j else i)) := fun ps bs σ H E Q q =>
  ha ps bs σ H E _ fun x H1 s1 h1 => hb ps bs σ H1 (E.mono s1) _ fun y H2 s2 h2 => ⟨i, j, by rw [is_int h1, is_int h2], q _ H2 (s1.trans s2) (.int _)⟩
theorem gd_min2 (ha : GD ta ρ (.int i)) (hb : GD tb ρ (.int j)) : GD (tCB rMin2Q (tCons ta (tCons tb tNil))) ρ (.int (if j < i then j else i)) := fun ps bs σ H E Q q =>
  ha ps bs σ H E _ fun x H1 s1 h1 => hb ps bs σ H1 (E.mono s1) _ fun y H2 s2 h2 => ⟨i, j, by rw [is_int h1, is_int h2], q _ H2 (s1.trans s2) (.int _)⟩
def rInt1Q : List V → Hp → VK → Prop := fun xs H Q => (∃ i, xs = [.int i] ∧ Q (.int i) H) ∨ ∃ k, xs = [.bl k] ∧ Q (.int (if k then 1 else 0)) H
theorem call_int1Q {X : Cx} : CallR X (.type "int") rInt1Q := call_int1
theorem gd_intI (ha : GD ta ρ (.int i)) : GD (tCB rInt1Q (tCons ta tNil)) ρ (.int i) := fun ps bs σ H E Q q =>
  ha ps bs σ H E _ fun x H1 s1 h1 => .inl ⟨i, by rw [is_int h1], q _ H1 s1 (.int _)⟩
theorem gd_intB {b : Bool} (ha : GD ta ρ (.bl b)) : GD (tCB rInt1Q (tCons ta tNil)) ρ (.int (if b then 1 else 0)) := fun ps bs σ H E Q q =>
  ha ps bs σ H E _ fun x H1 s1 h1 => .inr ⟨b, by rw [is_bl h1], q _ H1 s1 (.int _)⟩
def rListQ (K : PySem.W.Frag) : List V → Hp → VK → Prop := fun xs H Q => ∃ p ys, xs = [.ref p] ∧ (SqL K H p ys ∨ SqT K H p ys) ∧ ∀ l, H l = none → Q (.ref l) (upd H l (.lst ys))
theorem call_listQ {X : Cx} : CallR X (.type "list") (rListQ X.K) := call_list_of
theorem gn_list {l : Bool} {ds : List Dt} (ha : GD ta ρ (.seq l ds)) : GN (tCB (rListQ K) (tCons ta tNil)) ρ (.seq true ds) := fun ps bs σ H E Q q =>
  ha ps bs σ H E _ fun x H1 s1 h1 => by
    cases l with
    | true =>
      obtain ⟨a, xs, rfl, h2, h3⟩ := is_lst h1
      exact ⟨a, xs, rfl, .inl (SqL.of (out_some h2).1), fun p hp => q p _ (Same.free s1 hp) (s1.trans (same_new hp)) ⟨xs, upd_same, h3.mono (same_wide (same_new hp) hp)⟩⟩
    | false =>
      obtain ⟨a, xs, rfl, h2, h3⟩ := is_tup h1
      exact ⟨a, xs, rfl, .inr (SqT.of (out_some h2).1), fun p hp => q p _ (Same.free s1 hp) (s1.trans (same_new hp)) ⟨xs, upd_same, h3.mono (same_wide (same_new hp) hp)⟩⟩
def rTupQ (K : PySem.W.Frag) : List V → Hp → VK → Prop := fun xs H Q => ∃ p ys, xs = [.ref p] ∧ ((SqL K H p ys ∧ ∀ l, H l = none → Q (.ref l) (upd H l (.tup ys))) ∨ (SqT K H p ys ∧ Q (.ref p) H))
theorem call_tupQ {X : Cx} : CallR X (.type "tuple") (rTupQ X.K) := call_tuple_of
theorem gd_tuple {l : Bool} {ds : List Dt} (ha : GD ta ρ (.seq l ds)) : GD (tCB (rTupQ K) (tCons ta tNil)) ρ (.seq false ds) := fun ps bs σ H E Q q =>
  ha ps bs σ H E _ fun x H1 s1 h1 => by
    cases l with
    | true =>
      obtain ⟨a, xs, rfl, h2, h3⟩ := is_lst h1
      exact ⟨a, xs, rfl, .inl ⟨SqL.of (out_some h2).1, fun p hp => q _ _ (s1.trans (same_new hp)) (.tup (out_of upd_same ((E.mono s1).fresh hp)) (h3.mono (out_mono (same_new hp))))⟩⟩
    | false =>
      obtain ⟨a, xs, rfl, h2, h3⟩ := is_tup h1
      exact ⟨a, xs, rfl, .inr ⟨SqT.of (out_some h2).1, q _ H1 s1 h1⟩⟩
theorem gd_tupleL {ds : List Dt} (ha : GL ta ρ ds) : GD (tCB (rTupQ K) (tCons ta tNil)) ρ (.seq false ds) := fun ps bs σ H E Q q =>
  ha ps bs σ H E _ fun a xs H1 s1 h2 h3 => ⟨a, xs, rfl, .inl ⟨SqL.of h2, fun p hp => q _ _ (s1.trans (same_new hp)) (.tup (out_of upd_same ((E.mono s1).fresh hp)) (h3.mono (out_mono (same_new hp))))⟩⟩
theorem vals_bl {H : Hp} : ∀ {bs : List Bool} {xs : List V}, IsAll H xs (bs.map Dt.bl) → xs = bs.map V.bl
  | [], _, .nil => rfl
  | b :: bs, _, .cons h t => by rw [is_bl h, vals_bl t]; rfl
theorem vals_int {H : Hp} : ∀ {bs : List Int} {xs : List V}, IsAll H xs (bs.map Dt.int) → xs = bs.map V.int
  | [], _, .nil => rfl
  | b :: bs, _, .cons h t => by rw [is_int h, vals_int t]; rfl
theorem gd_any {zs : List Bool} (ha : GD ta ρ (.seq true (zs.map .bl))) : GD (tCB (rAny K) (tCons ta tNil)) ρ (.bl (zs.any id)) := fun ps bs σ H E Q q =>
  ha ps bs σ H E _ fun x H1 s1 h1 => by
    obtain ⟨a, xs, rfl, h2, h3⟩ := is_lst h1
    rw [vals_bl h3] at h2
    exact ⟨a, zs, rfl, SqL.of (out_some h2).1, q _ H1 s1 (.bl _)⟩
theorem gd_all {zs : List Bool} (ha : GD ta ρ (.seq true (zs.map .bl))) : GD (tCB (rAll K) (tCons ta tNil)) ρ (.bl (zs.all id)) := fun ps bs σ H E Q q =>
  ha ps bs σ H E _ fun x H1 s1 h1 => by
    obtain ⟨a, xs, rfl, h2, h3⟩ := is_lst h1
    rw [vals_bl h3] at h2
    exact ⟨a, zs, rfl, SqL.of (out_some h2).1, q _ H1 s1 (.bl _)⟩
theorem ge_maxL {ns : List Int} (ha : GD ta ρ (.seq true (ns.map .int))) (hn : 0 < ns.length) : GE (tCB (rMax K) (tCons ta tNil)) ρ (fun d => ∃ m, d = .int m ∧ m ∈ ns ∧ ∀ y, y ∈ ns → y ≤ m) := fun ps bs σ H E Q q =>
  ha ps bs σ H E _ fun x H1 s1 h1 => by
    obtain ⟨a, xs, rfl, h2, h3⟩ := is_lst h1
    rw [vals_int h3] at h2
    exact ⟨a, ns, rfl, SqL.of (out_some h2).1, hn, fun m h4 h5 => q _ H1 _ s1 (.int m) ⟨m, rfl, h4, h5⟩⟩
theorem gn_cat {ds es : List Dt} (ha : GD ta ρ (.seq true ds)) (hb : GD tb ρ (.seq true es)) (hl : ds.length + es.length ≤ sizeLine) : GN (tOp rCat ta tb) ρ (.seq true (ds ++ es)) :=
  gn_op ha hb fun ps bs σ H x y E hx hy Q q => by
    obtain ⟨a, xs, rfl, h1, h2⟩ := is_lst hx
    obtain ⟨b, ys, rfl, h3, h4⟩ := is_lst hy
    exact ⟨a, b, xs, ys, rfl, rfl, (out_some h1).1, (out_some h3).1, by rw [h2.length, h4.length]; exact hl, fun p hp => q p _ hp (same_new hp) ⟨_, upd_same, (h2.append h4).mono (same_wide (same_new hp) hp)⟩⟩
theorem isAll_rep {H : Hp} {xs : List V} {ds : List Dt} (h : IsAll H xs ds) : ∀ k, IsAll H (List.replicate k xs).flatten (List.replicate k ds).flatten
  | 0 => .nil
  | k + 1 => by rw [List.replicate_succ, List.replicate_succ, List.flatten_cons, List.flatten_cons]; exact h.append (isAll_rep h k)

/-! values by truth -/
theorem gd_andV {b c : Bool} (ha : GD ta ρ (.bl b)) (hb : b = true → GD tb ρ (.bl c)) : GD (tAndV ta tb) ρ (.bl (b && c)) := fun ps bs σ H E Q q =>
  ha ps bs σ H E _ fun x H1 s1 h1 => ⟨b, is_bl h1, by
    cases b with
    | true => exact iteT (hb rfl ps bs σ H1 (E.mono s1) _ fun y H2 s2 h2 => q y H2 (s1.trans s2) h2)
    | false => exact iteF (q _ H1 s1 (.bl _))⟩
theorem gd_orV {b c : Bool} (ha : GD ta ρ (.bl b)) (hb : b = false → GD tb ρ (.bl c)) : GD (tOrV ta tb) ρ (.bl (b || c)) := fun ps bs σ H E Q q =>
  ha ps bs σ H E _ fun x H1 s1 h1 => ⟨b, is_bl h1, by
    cases b with
    | true => exact iteT (q _ H1 s1 (.bl _))
    | false => exact iteF (hb rfl ps bs σ H1 (E.mono s1) _ fun y H2 s2 h2 => q y H2 (s1.trans s2) h2)⟩
theorem gd_notV {b : Bool} (ha : GD ta ρ (.bl b)) : GD (tNotV ta) ρ (.bl (!b)) := fun ps bs σ H E Q q =>
  ha ps bs σ H E _ fun x H1 s1 h1 => ⟨b, is_bl h1, q _ H1 s1 (.bl _)⟩
variable {tt tu : TT} {b c : Bool}
theorem gd_ifE {d1 d2 : Dt} (ht : GT tt ρ b) (ha : b = true → GD ta ρ d1) (hb : b = false → GD tb ρ d2) : GD (tIf tt ta tb) ρ (if b = true then d1 else d2) := fun ps bs σ H E Q q =>
  ht ps bs σ H E _ fun H1 s1 => by
    cases b with
    | true => exact iteT (ha rfl ps bs σ H1 (E.mono s1) _ fun y H2 s2 h2 => q y H2 (s1.trans s2) h2)
    | false => exact iteF (hb rfl ps bs σ H1 (E.mono s1) _ fun y H2 s2 h2 => q y H2 (s1.trans s2) h2)
theorem ge_ifE (ht : GT tt ρ b) (ha : b = true → GE ta ρ φ) (hb : b = false → GE tb ρ φ) : GE (tIf tt ta tb) ρ φ := fun ps bs σ H E Q q =>
  ht ps bs σ H E _ fun H1 s1 => by
    cases b with
    | true => exact iteT (ha rfl ps bs σ H1 (E.mono s1) _ fun y H2 d s2 h2 p => q y H2 d (s1.trans s2) h2 p)
    | false => exact iteF (hb rfl ps bs σ H1 (E.mono s1) _ fun y H2 d s2 h2 p => q y H2 d (s1.trans s2) h2 p)

/-! tests -/
theorem gt_B (h : GD te ρ (.bl b)) : GT (tB te) ρ b := fun ps bs σ H E Q q => h ps bs σ H E _ fun x H1 s1 h1 => ⟨b, is_bl h1, q H1 s1⟩
theorem gt_test (h : GD te ρ (.bl b)) : GT (tTest te) ρ b := fun ps bs σ H E Q q => h ps bs σ H E _ fun x H1 s1 h1 => ⟨b, is_bl h1, q H1 s1⟩
theorem gt_and (ha : GT tt ρ b) (hb : b = true → GT tu ρ c) : GT (tAnd tt tu) ρ (b && c) := fun ps bs σ H E Q q => ha ps bs σ H E _ fun H1 s1 => by
  cases b with
  | true => exact iteT (hb rfl ps bs σ H1 (E.mono s1) _ fun H2 s2 => q H2 (s1.trans s2))
  | false => exact iteF (q H1 s1)
theorem gt_or (ha : GT tt ρ b) (hb : b = false → GT tu ρ c) : GT (tOr tt tu) ρ (b || c) := fun ps bs σ H E Q q => ha ps bs σ H E _ fun H1 s1 => by
  cases b with
  | true => exact iteT (q H1 s1)
  | false => exact iteF (hb rfl ps bs σ H1 (E.mono s1) _ fun H2 s2 => q H2 (s1.trans s2))
theorem gt_not (ha : GT tt ρ b) : GT (tNot tt) ρ (!b) := fun ps bs σ H E Q q => ha ps bs σ H E _ fun H1 s1 => q H1 s1
/-- i op j op' k of ints -/
theorem gd_chain {g g' : Int → Int → Bool} {k : Int} (ha : GD ta ρ (.int i)) (hb : GD tb ρ (.int j)) (hc : GD tc ρ (.int k)) :
    GD (tChain (rI0 fun i j => .bl (g i j)) (rI0 fun i j => .bl (g' i j)) ta tb tc) ρ (.bl (g i j && g' j k)) := fun ps bs σ H E Q q =>
  ha ps bs σ H E _ fun x H1 s1 h1 => hb ps bs σ H1 (E.mono s1) _ fun y H2 s2 h2 => ⟨i, j, is_int h1, is_int h2, g i j, rfl, by
    cases e : g i j with
    | true => exact iteT (hc ps bs σ H2 (E.mono (s1.trans s2)) _ fun z H3 s3 h3 => ⟨j, k, is_int h2, is_int h3, by rw [e] at q; exact q _ H3 ((s1.trans s2).trans s3) (.bl _)⟩)
    | false => exact iteF (by rw [e] at q; exact q _ H2 (s1.trans s2) (.bl _))⟩

/-! dicts by cells -/
def look (kvs : List (Cell × V)) (c : Cell) : Option V := (kvs.find? fun kv => decide (kv.1 = c)).map (·.2)
theorem ck_inj {a b : Cell} : ck a = ck b ↔ a = b := by
  constructor
  · intro h
    have h1 : (Sum.inl a.1 : Key) = Sum.inl b.1 := (List.cons.inj h).1
    have h2 : (Sum.inl a.2 : Key) = Sum.inl b.2 := (List.cons.inj (List.cons.inj h).2).1
    exact Prod.ext (Sum.inl.inj h1) (Sum.inl.inj h2)
  · exact fun h => h ▸ rfl
theorem valV_rawD (c : Cell) : ∀ kvs : List (Cell × V), valV (rawD kvs) (ck c) = look kvs c
  | [] => rfl
  | p :: r => by
    have ih := valV_rawD c r
    by_cases e : p.1 = c
    · have e2 : (ck p.1, p.2).1 = ck c := ck_inj.mpr e
      show valV ((ck p.1, p.2) :: rawD r) (ck c) = _
      rw [valV_pos e2]
      simp [look, List.find?_cons, e]
    · have e2 : ¬ (ck p.1, p.2).1 = ck c := fun z => e (ck_inj.mp z)
      show valV ((ck p.1, p.2) :: rawD r) (ck c) = _
      rw [valV_neg e2, ih]
      simp [look, List.find?_cons, e]
theorem dget_of {H : Hp} {a b : Addr} {kvs : List (Cell × V)} {c : Cell} (h : Rd H a (.dT (rawD kvs))) (hb : H b = some (.tup ((ck c).map kV))) : DGet H a (.ref b) (look kvs c) :=
  .inr ⟨rawD kvs, ck c, b, h, rfl, hb, (valV_rawD c kvs).symm⟩
theorem gd_dget {kvs : List (Cell × V)} {c : Cell} {v : V} (hd : GM ta ρ kvs) (hk : GD tb ρ (dCell c)) (hl : look kvs c = some v) (hv : ∀ H, Is H v d) : GD (tDGet ta tb) ρ d := fun ps bs σ H E Q q =>
  hd ps bs σ H E _ fun a H1 s1 h1 => hk ps bs σ H1 (E.mono s1) _ fun y H2 s2 h2 => by
    obtain ⟨b, rfl, hb⟩ := is_cell h2
    exact ⟨a, v, rfl, hl ▸ dget_of (rd_mono s2 h1) (out_some hb).1, q v H2 (s1.trans s2) (hv _)⟩
theorem gd_din {kvs : List (Cell × V)} {c : Cell} (hk : GD tb ρ (dCell c)) (hd : GM ta ρ kvs) : GD (tDIn tb ta) ρ (.bl (look kvs c).isSome) := fun ps bs σ H E Q q =>
  hk ps bs σ H E _ fun y H1 s1 h1 => hd ps bs σ H1 (E.mono s1) _ fun a H2 s2 h2 => by
    obtain ⟨b, rfl, hb⟩ := is_cell h1
    exact ⟨a, _, rfl, dget_of h2 (s2 _ _ (out_some hb).1), q _ H2 (s1.trans s2) (.bl _)⟩
theorem gd_dnotin {kvs : List (Cell × V)} {c : Cell} (hk : GD tb ρ (dCell c)) (hd : GM ta ρ kvs) : GD (tDNotIn tb ta) ρ (.bl (!(look kvs c).isSome)) := fun ps bs σ H E Q q =>
  hk ps bs σ H E _ fun y H1 s1 h1 => hd ps bs σ H1 (E.mono s1) _ fun a H2 s2 h2 => by
    obtain ⟨b, rfl, hb⟩ := is_cell h1
    exact ⟨a, _, rfl, dget_of h2 (s2 _ _ (out_some hb).1), q _ H2 (s1.trans s2) (.bl _)⟩
end

/-! ### statements -/
def Ok (ps : List Addr) (bs : List (List Addr × Hp)) (t : TS) (ρ : List Sl) (D : Ends) : Prop := ∀ σ H, En ps bs σ H ρ → t D σ H
section
variable {ps : List Addr} {bs : List (List Addr × Hp)} {ρ : List Sl} {D : Ends} {te : TE} {t u : TS} {tt : TT} {d : Dt} {φ : Dt → Prop} {b : Bool} {K : PySem.W.Frag}
theorem ok_set {i : Nat} (h : GE te ρ φ) (q : ∀ d, φ d → Ok ps bs u (ρ.set i (.im d)) D) : Ok ps bs (tSeq (tAsg te (gName i)) u) ρ D := fun σ H E =>
  h ps bs σ H E _ fun v H1 d s1 h1 hd => q d hd _ _ ((E.mono s1).setIm h1)
theorem ok_setD {i : Nat} (h : GD te ρ d) (q : Ok ps bs u (ρ.set i (.im d)) D) : Ok ps bs (tSeq (tAsg te (gName i)) u) ρ D := fun σ H E =>
  h ps bs σ H E _ fun v H1 s1 h1 => q _ _ ((E.mono s1).setIm h1)
/-- an owned new object -/
theorem ok_setN {i : Nat} (h : GN te ρ d) (q : ∀ p, p ∉ ps → Ok (p :: ps) bs u (ρ.set i (.ow p d)) D) : Ok ps bs (tSeq (tAsg te (gName i)) u) ρ D := fun σ H E =>
  h ps bs σ H E _ fun p H1 hp s1 h1 => q p (E.fresh hp) _ _ (E.setNew s1 hp h1)
theorem ok_par {i j : Nat} {ta tb : TE} {da db : Dt} (ha : GD ta ρ da) (hb : GD tb ρ db) (q : Ok ps bs u ((ρ.set i (.im da)).set j (.im db)) D) : Ok ps bs (tSeq (tPar i j (tCons ta (tCons tb tNil))) u) ρ D := fun σ H E =>
  ha ps bs σ H E _ fun v H1 s1 h1 => hb ps bs σ H1 (E.mono s1) _ fun x H2 s2 h2 => ⟨v, x, rfl, q _ _ (((E.mono (s1.trans s2)).setIm (h1.mono (out_mono s2))).setIm h2)⟩
theorem ok_parE {i j : Nat} {ta tb : TE} {φa φb : Dt → Prop} (ha : GE ta ρ φa) (hb : GE tb ρ φb) (q : ∀ da db, φa da → φb db → Ok ps bs u ((ρ.set i (.im da)).set j (.im db)) D) : Ok ps bs (tSeq (tPar i j (tCons ta (tCons tb tNil))) u) ρ D := fun σ H E =>
  ha ps bs σ H E _ fun v H1 da s1 h1 k1 => hb ps bs σ H1 (E.mono s1) _ fun x H2 db s2 h2 k2 => ⟨v, x, rfl, q da db k1 k2 _ _ (((E.mono (s1.trans s2)).setIm (h1.mono (out_mono s2))).setIm h2)⟩
theorem ok_parDN {i j : Nat} {ta tb : TE} {da db : Dt} (ha : GD ta ρ da) (hb : GN tb ρ db) (q : ∀ p, p ∉ ps → Ok (p :: ps) bs u ((ρ.set i (.im da)).set j (.ow p db)) D) : Ok ps bs (tSeq (tPar i j (tCons ta (tCons tb tNil))) u) ρ D := fun σ H E =>
  ha ps bs σ H E _ fun v H1 s1 h1 => hb ps bs σ H1 (E.mono s1) _ fun p H2 hp s2 h2 => ⟨v, _, rfl, q p ((E.mono s1).fresh hp) _ _ (((E.mono s1).setIm h1).setNew s2 hp h2)⟩
theorem ok_parND {i j : Nat} {ta tb : TE} {da db : Dt} (ha : GN ta ρ da) (hb : GD tb ρ db) (q : ∀ p, p ∉ ps → Ok (p :: ps) bs u ((ρ.set i (.ow p da)).set j (.im db)) D) : Ok ps bs (tSeq (tPar i j (tCons ta (tCons tb tNil))) u) ρ D := fun σ H E =>
  ha ps bs σ H E _ fun p H1 hp s1 h1 => hb (p :: ps) bs σ H1 (E.wide s1 hp (ow_mu h1)) _ fun v H2 s2 h2 => ⟨_, v, rfl, q p (E.fresh hp) _ _
    ((E.setNew (s1.trans s2) hp (h1.mono s2)).setIm h2)⟩
theorem ok_parNN {i j : Nat} {ta tb : TE} {da db : Dt} (hij : i ≠ j) (ha : GN ta ρ da) (hb : GN tb ρ db) (q : ∀ p r, p ∉ ps → r ∉ ps → r ≠ p → Ok (r :: p :: ps) bs u ((ρ.set i (.ow p da)).set j (.ow r db)) D) : Ok ps bs (tSeq (tPar i j (tCons ta (tCons tb tNil))) u) ρ D := fun σ H E =>
  ha ps bs σ H E _ fun p H1 hp s1 h1 => hb (p :: ps) bs σ H1 (E.wide s1 hp (ow_mu h1)) _ fun r H2 hr s2 h2 => ⟨_, _, rfl, q p r (E.fresh hp) ((E.mono s1).fresh hr) (fun z => by
      have := ow_mu h1
      rw [← z, hr] at this
      exact this) _ _
    ((E.setNew s1 hp h1).setNew s2 hr h2)⟩
theorem ok_set1D {i : Nat} (h : GD te ρ d) (q : ∀ σ H, En ps bs σ H (ρ.set i (.im d)) → D.nx σ H) : Ok ps bs (tAsg te (gName i)) ρ D := fun σ H E =>
  h ps bs σ H E _ fun v H1 s1 h1 => q _ _ ((E.mono s1).setIm h1)
theorem ok_set1 {i : Nat} (h : GE te ρ φ) (q : ∀ d, φ d → ∀ σ H, En ps bs σ H (ρ.set i (.im d)) → D.nx σ H) : Ok ps bs (tAsg te (gName i)) ρ D := fun σ H E =>
  h ps bs σ H E _ fun v H1 d s1 h1 hd => q d hd _ _ ((E.mono s1).setIm h1)
theorem ok_seq (h : Ok ps bs t ρ { D with nx := fun σ H => u D σ H }) : Ok ps bs (tSeq t u) ρ D := h
theorem ok_next (h : ∀ σ H, En ps bs σ H ρ → D.nx σ H) : Ok ps bs tNext ρ D := h
theorem ok_ret (h : GE te ρ φ) (q : ∀ v H d, Bs bs H → Is (out H ps) v d → φ d → D.rt v H) : Ok ps bs (tRet te) ρ D := fun σ H E =>
  h ps bs σ H E _ fun v H1 d s1 h1 hd => q v H1 d (E.mono s1).ex h1 hd
theorem ok_retD (h : GD te ρ d) (q : ∀ v H, Bs bs H → Is (out H ps) v d → D.rt v H) : Ok ps bs (tRet te) ρ D := fun σ H E =>
  h ps bs σ H E _ fun v H1 s1 h1 => q v H1 (E.mono s1).ex h1
theorem ok_if (h : GT tt ρ b) (ha : b = true → Ok ps bs t ρ D) (hb : b = false → Ok ps bs u ρ D) : Ok ps bs (tIfS tt t u) ρ D := fun σ H E =>
  h ps bs σ H E _ fun H1 s1 => by
    cases b with
    | true => exact iteT (ha rfl σ H1 (E.mono s1))
    | false => exact iteF (hb rfl σ H1 (E.mono s1))
theorem ok_append {i : Nat} {p : Addr} {ds : List Dt} (hi : ρ[i]? = some (.ow p (.seq true ds))) (h : GD te ρ d) (hl : ds.length < sizeLine) (q : ∀ σ H, En ps bs σ H (ρ.set i (.ow p (.seq true (ds ++ [d])))) → D.nx σ H) :
    Ok ps bs (tDrop (tBM K "list" rAppend (tVar i) (tCons te tNil))) ρ D := fun σ H E => by
  obtain ⟨h1, h2, xs, h3, h4⟩ := E.ow hi
  refine ⟨.ref p, h1, .inl ⟨rfl, xs, SqL.of h3⟩, h ps bs σ H E _ fun v H1 s1 hv => ?_⟩
  have h4' := h4.mono (out_mono s1)
  refine ⟨p, xs, v, rfl, rfl, s1 _ _ h3, by rw [h4.length]; exact hl, q _ _ ((E.mono s1).put hi ?_)⟩
  exact ⟨_, upd_same, (h4'.append (.one hv)).mono (out_upd h2)⟩
/-- the store of a cell's value -/
def putD (kvs : List (Cell × V)) (c : Cell) (v : V) : List (Cell × V) := if (look kvs c).isSome then kvs.map fun kv => if kv.1 = c then (kv.1, v) else kv else kvs ++ [(c, v)]
theorem putK_rawD (kvs : List (Cell × V)) (c : Cell) (v : V) : putK (rawD kvs) (ck c) v = rawD (putD kvs c v) := by
  unfold putK putD
  rw [valV_any, valV_rawD]
  by_cases h : (look kvs c).isSome = true
  · rw [if_pos h, if_pos h]
    unfold rawD
    rw [List.map_map, List.map_map]
    refine List.map_congr_left fun p _ => ?_
    show (if ck p.1 = ck c then (ck p.1, v) else (ck p.1, p.2)) = (ck (if p.1 = c then (p.1, v) else p).1, (if p.1 = c then (p.1, v) else p).2)
    by_cases e : p.1 = c
    · rw [if_pos e, if_pos (ck_inj.mpr e)]
    · rw [if_neg e, if_neg (fun z => e (ck_inj.mp z))]
  · rw [if_neg h, if_neg h]
    unfold rawD
    rw [List.map_append]
    rfl
theorem rawD_length (kvs : List (Cell × V)) : (rawD kvs).length = kvs.length := List.length_map _
theorem ok_dput {i : Nat} {p : Addr} {kvs : List (Cell × V)} {c : Cell} {v : V} {tk tv : TE} (hi : ρ[i]? = some (.ow p (.dic kvs))) (hv : GD tv ρ d) (hvv : ∀ H x, Is H x d → x = v) (hk : GD tk ρ (dCell c)) (hl : kvs.length < sizeLine)
    (q : ∀ σ H, En ps bs σ H (ρ.set i (.ow p (.dic (putD kvs c v)))) → D.nx σ H) : Ok ps bs (sDPut (tVar i) tk tv) ρ D := fun σ H E =>
  hv ps bs σ H E _ fun x H1 s1 h1 => by
    obtain ⟨e1, e2, e3⟩ := (E.mono s1).ow hi
    refine ⟨.ref p, e1, hk ps bs σ H1 (E.mono s1) _ fun y H2 s2 h2 => ?_⟩
    obtain ⟨b, rfl, hb⟩ := is_cell h2
    have e3' : H2 p = some (.dT (rawD kvs)) := s2 _ _ e3
    refine ⟨p, _, rfl, DPut.t e3' (out_some hb).1 (by rw [rawD_length]; exact hl), q _ _ ((E.mono (s1.trans s2)).put hi ?_)⟩
    show upd H2 p _ p = _
    rw [upd_same, putK_rawD, hvv _ _ h1]
/-- an owned object stands still from now on -/
theorem En.freeze {σ : L2.St} {H : Hp} {i : Nat} {p : Addr} (E : En (p :: ps) bs σ H ρ) (hi : ρ[i]? = some (.ow p d)) (hp : p ∉ ps) : En ps bs σ H (ρ.set i (.im d)) := by
  have sub : Same (out H (p :: ps)) (out H ps) := out_sub fun a h => List.mem_cons_of_mem _ h
  obtain ⟨h1, h2, h3⟩ := E.ow hi
  have hil : i < ρ.length := by
    by_cases z : i < ρ.length
    · exact z
    · rw [List.getElem?_eq_none (by simpa using z)] at hi; cases hi
  refine ⟨fun q hq => E.al q (List.mem_cons_of_mem _ hq), E.ex, by rw [List.length_set]; exact E.len, fun j u q => ?_, fun a b r c q e g1 g2 hab => ?_, fun a r c g1 => ?_⟩
  · rcases get_set_cases q with ⟨rfl, rfl⟩ | ⟨ne, q⟩
    · exact ⟨_, h1, _, rfl, ow_is hp h3⟩
    · obtain ⟨o, a1, a2⟩ := E.sl j u q
      refine ⟨o, a1, ?_⟩
      cases u with
      | un => trivial
      | im e => obtain ⟨v, b1, b2⟩ := a2; exact ⟨v, b1, b2.mono sub⟩
      | raw v => exact a2
      | ow r c =>
        have nr : r ≠ p := E.ne j i r c p d q hi ne
        refine ⟨a2.1, (List.mem_cons.mp a2.2.1).resolve_left nr, ?_⟩
        have a3 := a2.2.2
        cases c with
        | seq l ds =>
          cases l with
          | true => obtain ⟨xs, b1, b2⟩ := a3; exact ⟨xs, b1, b2.mono sub⟩
          | false => exact a3.elim
        | dic kvs => exact a3
        | non => exact a3.elim
        | bl _ => exact a3.elim
        | int _ => exact a3.elim
        | str _ => exact a3.elim
  · rcases get_set_cases g1 with ⟨_, z⟩ | ⟨_, g1⟩
    · cases z
    · rcases get_set_cases g2 with ⟨_, z⟩ | ⟨_, g2⟩
      · cases z
      · exact E.ne a b r c q e g1 g2 hab
  · rcases get_set_cases g1 with ⟨_, z⟩ | ⟨_, g1⟩
    · cases z
    · exact E.mine a r c g1
end
end DL
set_option maxHeartbeats 1000000
/-! Walks, targets, comprehensions, loops. -/
namespace DL
open PySem PySem.Spec PyProof.Rows L2

def wipeR (ρ : List Sl) : List Nat → List Sl
  | [] => ρ
  | v :: vs => (wipeR ρ vs).set v .un
section
variable {ps : List Addr} {bs : List (List Addr × Hp)} {H H' : Hp} {σ : L2.St} {ρ : List Sl}
theorem En.wipe (E : En ps bs σ H ρ) : ∀ vs : List Nat, En ps bs (wipe σ vs) H (wipeR ρ vs)
  | [] => E
  | v :: vs => by
    unfold L2.wipe wipeR
    exact (E.wipe vs).clear
theorem wipe_get {vs : List Nat} {j : Nat} : ∀ {σ : L2.St}, (wipe σ vs)[j]? = if j ∈ vs then (if j < σ.length then some none else none) else σ[j]? := by
  induction vs with
  | nil => intro σ; simp [L2.wipe]
  | cons v vs ih =>
    intro σ
    unfold L2.wipe
    by_cases e : j = v
    · subst e
      by_cases hl : j < σ.length
      · rw [List.getElem?_set_self (by rw [wipe_length]; exact hl)]
        simp [hl]
      · rw [List.getElem?_eq_none (by rw [List.length_set, wipe_length]; omega)]
        simp [hl]
    · rw [List.getElem?_set_ne (Ne.symm e), ih]
      simp [e]
theorem wipe_ext {vs : List Nat} {σ σ' : L2.St} (hl : σ'.length = σ.length) (h : ∀ j, j ∉ vs → σ'[j]? = σ[j]?) : wipe σ' vs = wipe σ vs := by
  refine List.ext_getElem? fun j => ?_
  rw [wipe_get, wipe_get, hl]
  split
  · rfl
  · exact h j (by assumption)

/-! targets: vs is what they may touch -/
def GG (g : TG) (vs : List Nat) (d : Dt) (ρ ρ' : List Sl) : Prop := ∀ ps bs σ H v, En ps bs σ H ρ → Is (out H ps) v d → ∀ Q : L2.St → Hp → Prop,
  (∀ σ' H', Same H H' → En ps bs σ' H' ρ' → σ'.length = σ.length → (∀ j, j ∉ vs → σ'[j]? = σ[j]?) → Q σ' H') → g v σ H Q
def GGs (g : TGs) (vs : List Nat) (ds : List Dt) (ρ ρ' : List Sl) : Prop := ∀ ps bs σ H us, En ps bs σ H ρ → IsAll (out H ps) us ds → ∀ Q : L2.St → Hp → Prop,
  (∀ σ' H', Same H H' → En ps bs σ' H' ρ' → σ'.length = σ.length → (∀ j, j ∉ vs → σ'[j]? = σ[j]?) → Q σ' H') → g us σ H Q
theorem gg_name {i : Nat} {vs : List Nat} {d : Dt} (hi : i ∈ vs) : GG (gName i) vs d ρ (ρ.set i (.im d)) := fun ps bs σ H v E h Q q =>
  q _ H (Same.refl H) (E.setIm h) (by rw [List.length_set]) fun j hj => List.getElem?_set_ne (by rintro rfl; exact hj hi)
theorem ggs_nil {vs : List Nat} : GGs gNil vs [] ρ ρ := fun ps bs σ H us E h Q q => by
  cases h
  exact ⟨rfl, q σ H (Same.refl H) E rfl fun _ _ => rfl⟩
theorem ggs_cons {g : TG} {gs : TGs} {vs : List Nat} {d : Dt} {ds : List Dt} {ρ1 ρ2 : List Sl} (h1 : GG g vs d ρ ρ1) (h2 : GGs gs vs ds ρ1 ρ2) : GGs (gCons g gs) vs (d :: ds) ρ ρ2 := fun ps bs σ H us E h Q q => by
  cases h with
  | cons ha hb =>
    rename_i v r
    refine ⟨v, r, rfl, h1 ps bs σ H v E ha _ fun σ1 H1 s1 E1 l1 k1 => ?_⟩
    exact h2 ps bs σ1 H1 r E1 (hb.mono (out_mono s1)) _ fun σ2 H2 s2 E2 l2 k2 => q σ2 H2 (s1.trans s2) E2 (l2.trans l1) fun j hj => (k2 j hj).trans (k1 j hj)
theorem gg_tup {K : PySem.W.Frag} {n : Nat} {gs : TGs} {vs : List Nat} {ds : List Dt} {ρ1 : List Sl} (h : GGs gs vs ds ρ ρ1) (hn : ds.length = n) : GG (gTup K n gs) vs (.seq false ds) ρ ρ1 := fun ps bs σ H v E hv Q q => by
  obtain ⟨a, xs, rfl, h1, h2⟩ := is_tup hv
  exact ⟨a, xs, rfl, SqT.of (out_some h1).1, by rw [h2.length]; exact hn, h ps bs σ H xs E h2 Q q⟩
theorem GG.cast {g : TG} {vs : List Nat} {d e : Dt} {ρ1 : List Sl} (h : GG g vs d ρ ρ1) (k : d = e) : GG g vs e ρ ρ1 := k ▸ h

theorem ok_asg {ps : List Addr} {bs : List (List Addr × Hp)} {g : TG} {u : TS} {te : TE} {vs : List Nat} {d : Dt} {ρ' : List Sl} {D : Ends} (h : GD te ρ d) (hg : GG g vs d ρ ρ') (q : Ok ps bs u ρ' D) : Ok ps bs (tSeq (tAsg te g) u) ρ D := fun σ H E =>
  h ps bs σ H E _ fun v H1 s1 h1 => hg ps bs σ H1 v (E.mono s1) h1 _ fun σ2 H2 s2 E2 _ _ => q σ2 H2 E2

/-! walks -/
def WD (J : It) (its : List Dt) (H : Hp) (ps : List Addr) : Prop := ∀ qs : List Addr, (∀ q ∈ qs, q ∈ ps ∨ H q = none) → Walk J its.length (fun H1 => Same (out H qs) (out H1 qs) ∧ ∀ q ∈ qs, Mu (H1 q))
  (fun i H1 x H2 => Same H1 H2 ∧ ∃ d, its[i]? = some d ∧ Is (out H2 qs) x d)
def GW (wi : TI) (ρ : List Sl) (its : List Dt) : Prop := ∀ ps bs σ H, En ps bs σ H ρ → ∀ R : It → Hp → Prop, (∀ J H', Same H H' → WD J its H' ps → R J H') → wi σ H R
theorem GW.cast {wi : TI} {its its' : List Dt} (h : GW wi ρ its) (e : its = its') : GW wi ρ its' := e ▸ h
theorem out_fresh {qs : List Addr} (h : ∀ q ∈ qs, q ∈ ps ∨ H q = none) : Same (out H ps) (out H qs) := fun a o e => by
  obtain ⟨h1, h2⟩ := out_some e
  refine out_of h1 fun z => ?_
  rcases h a z with w | w
  · exact h2 w
  · rw [w] at h1; cases h1
def iSeq (K : PySem.W.Frag) (tl : TE) : TI := fun σ H R => iList K tl σ H R ∨ iTup K tl σ H R
theorem pi_seq {X : Cx} {tg l : Expr} {tl : TE} (hl : PE X l tl) : PI X tg l (iSeq X.K tl) := ⟨fun pins s σ H R I h => by
  rcases h with h | h
  · exact (pi_list hl).run pins s σ H R I h
  · exact (pi_tup hl).run pins s σ H R I h⟩
theorem wd_list {K : PySem.W.Frag} {a : Addr} {xs : List V} {ds : List Dt} (h : H a = some (.lst xs)) (hp : a ∉ ps) (hx : IsAll (out H ps) xs ds) : WD (Itl K a) ds H ps := fun qs hq => by
  have hl := hx.length
  have ha : out H qs a = some (.lst xs) := out_fresh hq a _ (out_of h hp)
  have w := walk_list (K := K) (a := a) (xs := xs)
  rw [hl] at w
  refine w.mono (fun H1 g => SqL.of (out_some (g.1 a _ ha)).1) fun i H1 x H2 hi g y => ?_
  obtain ⟨rfl, y⟩ := y
  obtain ⟨d, h1, h2⟩ := hx.getV y
  exact ⟨Same.refl _, d, h1, (h2.mono (out_fresh hq)).mono g.1⟩
theorem wd_tup {K : PySem.W.Frag} {a : Addr} {xs : List V} {ds : List Dt} (h : H a = some (.tup xs)) (hp : a ∉ ps) (hx : IsAll (out H ps) xs ds) : WD (Itt K a) ds H ps := fun qs hq => by
  have hl := hx.length
  have ha : out H qs a = some (.tup xs) := out_fresh hq a _ (out_of h hp)
  have w := walk_tup (K := K) (a := a) (xs := xs)
  rw [hl] at w
  refine w.mono (fun H1 g => SqT.of (out_some (g.1 a _ ha)).1) fun i H1 x H2 hi g y => ?_
  obtain ⟨rfl, y⟩ := y
  obtain ⟨d, h1, h2⟩ := hx.getV y
  exact ⟨Same.refl _, d, h1, (h2.mono (out_fresh hq)).mono g.1⟩
theorem gw_seq {K : PySem.W.Frag} {tl : TE} {l : Bool} {ds : List Dt} (h : GD tl ρ (.seq l ds)) : GW (iSeq K tl) ρ ds := fun ps bs σ H E R r => by
  cases l with
  | true => exact .inl (h ps bs σ H E _ fun v H1 s1 h1 => by
      obtain ⟨a, xs, rfl, h2, h3⟩ := is_lst h1
      exact ⟨a, rfl, ⟨xs, SqL.of (out_some h2).1⟩, r _ H1 s1 (wd_list (out_some h2).1 (out_some h2).2 h3)⟩)
  | false => exact .inr (h ps bs σ H E _ fun v H1 s1 h1 => by
      obtain ⟨a, xs, rfl, h2, h3⟩ := is_tup h1
      exact ⟨a, rfl, ⟨xs, SqT.of (out_some h2).1⟩, r _ H1 s1 (wd_tup (out_some h2).1 (out_some h2).2 h3)⟩)
theorem gw_list {K : PySem.W.Frag} {tl : TE} {ds : List Dt} (h : GD tl ρ (.seq true ds)) : GW (iList K tl) ρ ds := fun ps bs σ H E R r =>
  h ps bs σ H E _ fun v H1 s1 h1 => by
    obtain ⟨a, xs, rfl, h2, h3⟩ := is_lst h1
    exact ⟨a, rfl, ⟨xs, SqL.of (out_some h2).1⟩, r _ H1 s1 (wd_list (out_some h2).1 (out_some h2).2 h3)⟩
theorem wd_range {lo : Int} {n : Nat} : WD (Itr lo n) ((List.range n).map fun i => Dt.int (lo + (i : Nat))) H ps := fun qs hq => by
  have w := walk_range (lo := lo) (n := n)
  have e : ((List.range n).map fun i => Dt.int (lo + (i : Nat))).length = n := by simp
  rw [e]
  refine w.mono (fun _ _ => trivial) fun i H1 x H2 hi g y => ?_
  obtain ⟨rfl, rfl⟩ := y
  exact ⟨Same.refl _, .int (lo + (i : Nat)), by simp [hi], .int _⟩
theorem gw_range1 {ta : TE} {j : Int} (h : GD ta ρ (.int j)) (h1 : -(2 ^ 62) ≤ j) (h2 : j < 2 ^ 62) : GW (iRng1 (tCons ta tNil)) ρ ((List.range j.toNat).map fun i => Dt.int (0 + (i : Nat))) := fun ps bs σ H E R r =>
  h ps bs σ H E _ fun v H1 s1 hv => ⟨j, by rw [is_int hv], h1, h2, r _ H1 s1 wd_range⟩
theorem gw_range2 {ta tb : TE} {i j : Int} (ha : GD ta ρ (.int i)) (hb : GD tb ρ (.int j)) (h : -(2 ^ 62) ≤ i ∧ i < 2 ^ 62 ∧ -(2 ^ 62) ≤ j ∧ j < 2 ^ 62) :
    GW (iRng2 (tCons ta (tCons tb tNil))) ρ ((List.range (j - i).toNat).map fun k => Dt.int (i + (k : Nat))) := fun ps bs σ H E R r =>
  ha ps bs σ H E _ fun v H1 s1 hv => hb ps bs σ H1 (E.mono s1) _ fun u H2 s2 hu => ⟨i, j, by rw [is_int hv, is_int hu], h, r _ H2 (s1.trans s2) wd_range⟩

/-! the comprehension -/
theorem take_get {α : Type} {xs : List α} {i : Nat} {x : α} (h : xs[i]? = some x) : xs.take (i + 1) = xs.take i ++ [x] := by
  rw [List.take_add_one, h]
  rfl
theorem gn_lc_at {α : Type} {ps : List Addr} {bs : List (List Addr × Hp)} {σ : L2.St} {H : Hp} {wi : TI} {g : TG} {tt : TT} {te : TE} {vs : List Nat} {xs : List α} {f : α → Dt} {ρ' : α → List Sl} {b : α → Bool} {e : α → Dt} (E : En ps bs σ H ρ) (hw : ∀ R : It → Hp → Prop, (∀ J H', Same H H' → WD J (xs.map f) H' ps → R J H') → wi σ H R) (hn : xs.length ≤ sizeLine)
    (hg : ∀ x ∈ xs, GG g vs (f x) (wipeR ρ vs) (ρ' x)) (ht : ∀ x ∈ xs, GT tt (ρ' x) (b x)) (he : ∀ x ∈ xs, b x = true → GD te (ρ' x) (e x))  (Q : VK) (q : ∀ p H', H p = none → Same H H' → Ow H' (p :: ps) p (.seq true ((xs.filter b).map e)) → Q (.ref p) H') : tLc wi g tt te vs σ H Q :=
  hw _ fun J H1 s1 w D hD => by
    have wk := w (D :: ps) (fun q hq => (List.mem_cons.mp hq).elim (fun z => .inr (z ▸ hD)) .inl)
    have hln : (xs.map f).length = xs.length := List.length_map _
    rw [hln] at wk
    have E1 := E.mono s1
    refine lc_it wk (fun i H2 => Same H1 H2 ∧ ∃ ys, H2 D = some (.lst ys) ∧ IsAll (out H2 (D :: ps)) ys (((xs.take i).filter b).map e)) ?_ ?_ ?_ ?_
    · exact ⟨same_new hD, [], upd_same, .nil⟩
    · rintro i H2 _ ⟨s2, ys, h1, _⟩
      refine ⟨fun a o h => ?_, fun q hq => ?_⟩
      · obtain ⟨h2, h3⟩ := out_some h
        exact out_of (s2 a o h2) h3
      · rcases List.mem_cons.mp hq with r | r
        · rw [r, h1]; trivial
        · exact (E1.mono s2).al q r
    · rintro i x H2 H3 hi ⟨s2, ys, h1, h2⟩ ⟨s3, d, hd, hx⟩
      have hil : i < xs.length := hi
      have hxi : xs[i]? = some xs[i] := List.getElem?_eq_getElem hil
      have ed : d = f xs[i] := by
        rw [List.getElem?_map, hxi] at hd
        exact (Option.some.inj hd).symm
      subst ed
      have mem : xs[i] ∈ xs := List.getElem_mem hil
      have E3 : En (D :: ps) bs σ H3 ρ := E1.wide (s2.trans s3) hD (by rw [s3 _ _ h1]; trivial)
      refine hg _ mem (D :: ps) bs _ H3 x (E3.wipe vs) hx _ fun σ4 H4 s4 E4 l4 k4 => ⟨?_, ht _ mem _ bs σ4 H4 E4 _ fun H5 s5 => ?_⟩
      · refine wipe_ext l4 (fun j hj => (k4 j hj)) |>.trans ?_
        refine wipe_ext (wipe_length _ _) fun j hj => ?_
        rw [wipe_get, if_neg hj]
      · have fwd : Same H2 H5 := (s3.trans s4).trans s5
        cases hb : b xs[i] with
        | true =>
          refine iteT (he _ mem hb _ bs σ4 H5 (E4.mono s5) _ fun y H6 s6 h6 => ?_)
          have fw6 := fwd.trans s6
          have h1' := fw6 _ _ h1
          have h2' := h2.mono (out_mono fw6)
          refine ⟨ys, h1', ?_, ?_, ys ++ [y], upd_same, ?_⟩
          · rw [h2.length, List.length_map]
            refine Nat.lt_of_le_of_lt (List.length_filter_le _ _) ?_
            rw [List.length_take]
            omega
          · intro a o ha
            rw [upd_ne (ne_of_none ha hD)]
            exact fw6 _ _ (s2 _ _ ha)
          · rw [take_get hxi, List.filter_append, List.map_append]
            refine IsAll.append (h2'.mono (out_upd List.mem_cons_self)) ?_
            simp only [List.filter_cons, hb, if_true, List.filter_nil, List.map_cons, List.map_nil]
            exact .one (h6.mono (out_upd List.mem_cons_self))
        | false =>
          refine iteF ⟨s2.trans fwd, ys, fwd _ _ h1, ?_⟩
          rw [take_get hxi, List.filter_append, List.map_append]
          simp only [List.filter_cons, hb, List.filter_nil, List.map_nil, List.append_nil, Bool.false_eq_true, if_false]
          exact h2.mono (out_mono fwd)
    · rintro H2 ⟨s2, ys, h1, h2⟩
      refine q D H2 (Same.free s1 hD) (s1.trans s2) ⟨ys, h1, ?_⟩
      rw [List.take_length] at h2
      exact h2
theorem gn_lc {α : Type} {wi : TI} {g : TG} {tt : TT} {te : TE} {vs : List Nat} {xs : List α} {f : α → Dt} {ρ' : α → List Sl} {b : α → Bool} {e : α → Dt} (hw : GW wi ρ (xs.map f)) (hn : xs.length ≤ sizeLine)
    (hg : ∀ x ∈ xs, GG g vs (f x) (wipeR ρ vs) (ρ' x)) (ht : ∀ x ∈ xs, GT tt (ρ' x) (b x)) (he : ∀ x ∈ xs, b x = true → GD te (ρ' x) (e x)) : GN (tLc wi g tt te vs) ρ (.seq true ((xs.filter b).map e)) := fun ps bs σ H E Q q =>
  gn_lc_at E (hw ps bs σ H E) hn hg ht he Q q
theorem gt_yes : GT (fun σ H Q => Q true H) ρ true := fun ps bs σ H E Q q => q H (Same.refl H)

/-! loops -/
def NxI (ps : List Addr) (bs : List (List Addr × Hp)) (I : List Sl → Prop) : L2.St → Hp → Prop := fun σ H => ∃ ρ, I ρ ∧ En ps bs σ H ρ
theorem En.base {H1 : Hp} (E : En ps bs σ H ρ) (h : Same (out H1 ps) (out H ps)) : En ps ((ps, H1) :: bs) σ H ρ where
  al := E.al
  ex := fun b hb a o ha ho => by
    rcases List.mem_cons.mp hb with z | z
    · subst z
      exact (out_some (h a o (out_of ho ha))).1
    · exact E.ex b z a o ha ho
  len := E.len
  sl := E.sl
  ne := E.ne
  mine := fun i p d h b hb => by
    rcases List.mem_cons.mp hb with z | z
    · subst z
      exact .inl (E.ow h).2.1
    · exact E.mine i p d h b z
theorem En.unbase {e : List Addr × Hp} (E : En ps (e :: bs) σ H ρ) : En ps bs σ H ρ :=
  ⟨E.al, fun b hb => E.ex b (List.mem_cons_of_mem _ hb), E.len, E.sl, E.ne, fun i p d h b hb => E.mine i p d h b (List.mem_cons_of_mem _ hb)⟩
variable {D : Ends}
theorem ok_for {wi : TI} {g : TG} {tb : TS} {its : List Dt} (vs : List Nat) (I : Nat → List Sl → Prop) (hw : GW wi ρ its) (h0 : I 0 ρ)
    (hs : ∀ H1 i ρ' d, its[i]? = some d → I i ρ' → ∃ ρ'', GG g vs d ρ' ρ'' ∧
      Ok ps ((ps, H1) :: bs) tb ρ'' { D with nx := NxI ps ((ps, H1) :: bs) (I (i + 1)), ct := NxI ps ((ps, H1) :: bs) (I (i + 1)), bk := D.nx })
    (hd : ∀ ρ', I its.length ρ' → ∀ σ H, En ps bs σ H ρ' → D.nx σ H) : Ok ps bs (tFor wi g tb) ρ D := fun σ H E =>
  hw ps bs σ H E _ fun J H1 s1 w => by
    have wk := w ps (fun q hq => .inl hq)
    have E1 := (E.mono s1).base (H1 := H1) (Same.refl _)
    refine for_it wk (fun i σ2 H2 => NxI ps ((ps, H1) :: bs) (I i) σ2 H2) ⟨ρ, h0, E1⟩ ?_ ?_ ?_
    · rintro i σ2 H2 _ ⟨ρ', hI, E2⟩
      refine ⟨fun a o h => ?_, E2.al⟩
      obtain ⟨h1, h2⟩ := out_some h
      exact out_of (E2.ex _ List.mem_cons_self a o h2 h1) h2
    · rintro i x σ2 H2 H3 hi ⟨ρ', hI, E2⟩ ⟨s3, d, hd', hx⟩
      obtain ⟨ρ'', gg, ok⟩ := hs H1 i ρ' d hd' hI
      exact gg ps _ σ2 H3 x (E2.mono s3) hx _ fun σ4 H4 s4 E4 _ _ => ok σ4 H4 E4
    · rintro σ2 H2 ⟨ρ', hI, E2⟩
      exact hd ρ' hI σ2 H2 E2.unbase
/-- while, by a word over the slots and a measure -/
theorem ok_while {tc : TT} {tb : TS} (I : Nat → List Sl → Prop) (n0 : Nat) (h0 : I n0 ρ)
    (hs : ∀ n ρ', I n ρ' → ∃ b, GT tc ρ' b ∧ (b = true → Ok ps bs tb ρ' { D with nx := fun σ H => ∃ m ρ'', m < n ∧ I m ρ'' ∧ En ps bs σ H ρ'', ct := fun σ H => ∃ m ρ'', m < n ∧ I m ρ'' ∧ En ps bs σ H ρ'', bk := D.nx }) ∧
      (b = false → ∀ σ H, En ps bs σ H ρ' → D.nx σ H)) : Ok ps bs (tWhile tc tb) ρ D := fun σ H E => by
  refine ⟨fun m σ2 H2 => ∃ ρ', I m ρ' ∧ En ps bs σ2 H2 ρ', ⟨n0, ρ, h0, E⟩, ?_⟩
  rintro m σ2 H2 ⟨ρ', hI, E2⟩
  obtain ⟨b, ht, h1, h2⟩ := hs m ρ' hI
  refine ht ps bs σ2 H2 E2 _ fun H3 s3 => ?_
  cases b with
  | true =>
    refine iteT ⟨fun σ' H' => ∃ m' ρ'', m' < m ∧ I m' ρ'' ∧ En ps bs σ' H' ρ'', fun σ' H' ⟨m', ρ'', hm, hI', E'⟩ => ⟨m', hm, ρ'', hI', E'⟩, ?_⟩
    exact h1 rfl σ2 H3 (E2.mono s3)
  | false => exact iteF (h2 rfl σ2 H3 (E2.mono s3))
end
end DL
set_option maxHeartbeats 1000000
/-! A def of the text: its promise over plain data, by its body. -/
namespace DL
open PySem PySem.Spec PyProof.Rows L2

/-- code that is never come to -/
def tNevE : TE := fun _ _ _ => False
theorem pe_nev {X : Cx} {e : Expr} : PE X e tNevE := ⟨fun _ _ _ _ _ _ h => h.elim⟩
/-! rules whose reading names K alone (for blocks) -/
section
variable {X : Cx} {K : PySem.W.Frag}
theorem ix_seqK (h : X.K = K) : IxR X (rIx K) := h ▸ ix_seq
theorem call_lenK (h : X.K = K) : CallR X (.builtin "len") (rLenQ K) := h ▸ call_lenQ
theorem call_listK (h : X.K = K) : CallR X (.type "list") (rListQ K) := h ▸ call_listQ
theorem call_tupK (h : X.K = K) : CallR X (.type "tuple") (rTupQ K) := h ▸ call_tupQ
theorem cr_anyK (hc : X.calm = true) (h : X.K = K) : CallR X (.builtin "any") (rAny K) := h ▸ cr_any hc
theorem cr_allK (hc : X.calm = true) (h : X.K = K) : CallR X (.builtin "all") (rAll K) := h ▸ cr_all hc
theorem cr_maxK (hc : X.calm = true) (h : X.K = K) : CallR X (.builtin "max") (rMax K) := h ▸ cr_max hc
theorem pi_seqK {tg l : Expr} {tl : TE} (h : X.K = K) (hl : PE X l tl) : PI X tg l (iSeq K tl) := h ▸ pi_seq hl
theorem pg_tupK {es : List Expr} {k : Nat} {t : TGs} {n : Nat} {pos : Pos} (h : X.K = K) (hc : X.calm = true) (ht : PGs X es t)
    (hn : (assignEach es X.env).length = n := by rfl) (hst : (assignEach es X.env).findIdx? (·.1) = none := by rfl) : PG X (.Tuple es k pos) (gTup K n t) := h ▸ pg_tup hc ht hn hst
theorem op_eqDK (h : X.K = K) (hu : X.A.units + 64 < cLine) : OpR X (compareOp .Eq) (rEqD K) := h ▸ op_eqD hu
theorem op_neDK (h : X.K = K) (hu : X.A.units + 64 < cLine) : OpR X (compareOp .NotEq) (rNeD K) := h ▸ op_neD hu
theorem sl_listK (h : X.K = K) : SlR X (rSlL K) := h ▸ sl_list
theorem sl_tupK (h : X.K = K) : SlR X (rSlT K) := h ▸ sl_tup
end
/-- a def of the text as the top leaves it, under its name -/
def Fn (K : PySem.W.Frag) (mg : Str → Option Value) (x : Str) (st : Stmt) : Prop := ∃ f fd, L2.Fun K x x st f fd ∧ mg x = some (.ref f)
/-- it may be called by its name -/
structure Ca (P : Program) (w : World) (K : PySem.W.Frag) (mg : Str → Option Value) (base : Heap) (k : Nat) (x : Str) (sp : Sp) : Prop where
  ex : ∃ (f : Addr) (fd : FuncData) (ps : List Str), FnOk P w K mg base CX0 k f fd ps sp ∧ mg x = some (.ref f) ∧ PySem.W.keepIn K (.ref f) = true ∧ Binds K fd ps []
section
variable {P : Program} {w : World} {K : PySem.W.Frag} {mg : Str → Option Value} {base : Heap}
theorem Ca.imp {k : Nat} {x : Str} {sp sp' : Sp} (c : Ca P w K mg base k x sp) (h : ∀ vs H Q E, sp' vs H Q E → sp vs H Q E) : Ca P w K mg base k x sp' := by
  obtain ⟨f, fd, ps, F, a, b, d⟩ := c.ex
  exact ⟨f, fd, ps, F.imp h, a, b, d⟩
theorem pe_ca {X : Cx} {k j : Nat} {x : Str} {sp : Sp} {p pos : Pos} {e : Expr} {es : List Expr} {t : TA} (c : Ca X.prog X.w X.K X.mg X.base k x sp) (hr : Room j X.A) (hk : k ≤ j) (hg : Gl X x) (ha : PA X (e :: es) t)
    (hdb : (x == ("__debug__" : Str)) = false := by decide) (he : starEach (e :: es) X.env = (false, eval e X.env) :: starEach es X.env := by rfl) (hpl : (backTo pos (starEach es X.env)).any (·.1) = false := by rfl) :
    PE X (.Call (.Name x p) (e :: es) [] pos) (tCall sp [] E0 t) := by
  obtain ⟨f, fd, ps, F, hm, kp, b⟩ := c.ex
  exact pe_call F (hr.mono hk) hg hm kp b .nil pass0 ha hdb he hpl
theorem pe_ca0 {X : Cx} {k j : Nat} {x : Str} {sp : Sp} {p pos : Pos} (c : Ca X.prog X.w X.K X.mg X.base k x sp) (hr : Room j X.A) (hk : k ≤ j) (hg : Gl X x)
    (hdb : (x == ("__debug__" : Str)) = false := by decide) : PE X (.Call (.Name x p) [] [] pos) (tCall sp [] E0 tNil) := by
  obtain ⟨f, fd, ps, F, hm, kp, b⟩ := c.ex
  exact pe_call0 F (hr.mono hk) hg hm kp b .nil pass0 hdb
theorem hu65 {k : Nat} {A : Around} (hr : Room k A) : A.units + 65 < cLine := by have := hr.un; omega
def rho0 (N : List Str) (ds : List Dt) : List Sl := ds.map Sl.im ++ List.replicate (N.length - ds.length) Sl.un
theorem en0 {ps : List Addr} {H : Hp} {N : List Str} {vs : List V} {ds : List Dt} (al : ∀ q ∈ ps, Mu (H q)) (h : IsAll (out H ps) vs ds) : En ps [([], H)] (L2.start N vs) H (rho0 N ds) where
  al := al
  ex := fun b hb a o _ h0 => by
    have e : b = ([], H) := by simpa using hb
    subst e
    exact h0
  len := by
    unfold L2.start rho0
    rw [List.length_append, List.length_append, List.length_map, List.length_map, List.length_replicate, List.length_replicate, h.length]
  sl := fun i s e => by
    unfold rho0 at e
    unfold L2.start
    by_cases hi : i < ds.length
    · rw [List.getElem?_append_left (by rw [List.length_map]; exact hi), List.getElem?_map] at e
      have hd : ds[i]? = some ds[i] := List.getElem?_eq_getElem hi
      rw [hd] at e
      cases e
      obtain ⟨v, h1, h2⟩ := h.get hd
      refine ⟨some v, ?_, v, rfl, h2⟩
      rw [List.getElem?_append_left (by rw [List.length_map, h.length]; exact hi), List.getElem?_map, h1]
      rfl
    · rw [List.getElem?_append_right (by rw [List.length_map]; omega), List.length_map] at e
      have hs : s = .un := by
        have := List.mem_of_getElem? e
        exact (List.mem_replicate.mp this).2
      subst hs
      have hl : i - ds.length < N.length - ds.length := by
        by_cases z : i - ds.length < N.length - ds.length
        · exact z
        · rw [List.getElem?_eq_none (by rw [List.length_replicate]; omega)] at e; cases e
      refine ⟨none, ?_, trivial⟩
      rw [List.getElem?_append_right (by rw [List.length_map, h.length]; omega), List.length_map, h.length, List.getElem?_replicate, if_pos hl]
  ne := fun i j p d q e h1 _ _ => by
    have := List.mem_of_getElem? h1
    unfold rho0 at this
    rcases List.mem_append.mp this with z | z
    · obtain ⟨_, _, z⟩ := List.mem_map.mp z; cases z
    · cases (List.mem_replicate.mp z).2
  mine := fun i p d h1 => by
    have := List.mem_of_getElem? h1
    unfold rho0 at this
    rcases List.mem_append.mp this with z | z
    · obtain ⟨_, _, z⟩ := List.mem_map.mp z; cases z
    · cases (List.mem_replicate.mp z).2
/-- what may be handed back -/
def Rt (ps : List Addr) (bs : List (List Addr × Hp)) (φ : Dt → Prop) (D : Ends) : Prop := ∀ v H d, Bs bs H → Is (out H ps) v d → φ d → D.rt v H
theorem Rt.wide {ps qs : List Addr} {bs cs : List (List Addr × Hp)} {φ : Dt → Prop} {D D' : Ends} (h : Rt ps bs φ D) (hp : ∀ a ∈ ps, a ∈ qs) (hb : ∀ e ∈ bs, e ∈ cs) (hD : D'.rt = D.rt) : Rt qs cs φ D' := fun v H d b i p => by
  rw [hD]
  exact h v H d (fun e he => b e (hb e he)) (i.mono (out_sub hp)) p
section
variable {ps : List Addr} {bs : List (List Addr × Hp)} {ρ : List Sl} {D : Ends} {te : TE} {d : Dt} {φ : Dt → Prop}
theorem ok_rt (h : GE te ρ φ) (r : Rt ps bs φ D) : Ok ps bs (tRet te) ρ D := ok_ret h fun v H d b i p => r v H d b i p
theorem ok_rtD (h : GD te ρ d) (r : Rt ps bs φ D) (p : φ d) : Ok ps bs (tRet te) ρ D := ok_retD h fun v H b i => r v H d b i p
end
theorem pe_gcI {X : Cx} {x : Str} {i : Int} {pos : Pos} (hg : Gl X x) (h : ∃ t, X.mg x = some (.int i t)) (hd : (x == ("__debug__" : Str)) = false := by decide) : PE X (.Name x pos) (tC (.int i)) := by
  obtain ⟨t, h⟩ := h
  exact pe_glob hg h ⟨t, rfl⟩ hd
theorem ca_of {ι : Type} {x : Str} {st : Stmt} {N ps : List Str} {k : Nat} {arg : ι → List Dt} {pre : ι → Prop} {post : ι → Dt → Prop} (F : Fn K mg x st)
    (hb : ∀ (kV doc pm : Value) (an : Option Addr) (cdv ct : Value) (us : List Value), us.length = ps.length → bindArgs (PySem.W.fnOf x x (defArgs st) (defBody st) (defScope st) .none kV doc pm an cdv ct) ⟨us, []⟩ = pure (ps.zip us))
    (S : FnScope N ps (defScope st)) (len : ∀ i, (arg i).length = ps.length)
    (hbody : ∀ (f : Addr) (cdv : Value) (A : Around) (outer : List Env) (s : Shared) (H : Hp) (E : XK), Room k (A.deeper (envOfC x (defScope st) s.heap.objs.size f cdv)) →
      ∃ t, PSs (cxOf CX0 P w K mg base N x (defScope st) f cdv A outer s H E).nox (defBody st) t ∧ ∀ qs i D, pre i → Rt qs [([], H)] (post i) D → Ok qs [([], H)] t (rho0 N (arg i)) D) : Ca P w K mg base (k + 1) x (spI arg pre post) := by
  obtain ⟨f, fd, F, hm⟩ := F
  refine ⟨f, fd, ps, F.ok S (fun vs H Q E h => ?_) (fun cdv A outer s H vs Q E hr h => ?_), hm, F.kp, F.binds hb⟩
  · obtain ⟨i, qs, _, h2, h3, _⟩ := h
    rw [h2.length]
    exact len i
  · obtain ⟨i, qs, h1, h2, h3, q⟩ := h
    obtain ⟨t, T, ok⟩ := hbody f cdv A outer s H E hr
    exact ⟨t, T, ok qs i { nx := fun _ H' => Q .non H', rt := Q } h3 (fun v H' d b i p => q v H' d (fun a o h0 => b ([], H) List.mem_cons_self a o (by simp) h0) i p) _ _ (en0 h1 h2)⟩
end
end DL
set_option maxHeartbeats 1000000
/-! Built-ins over plain data: dict(pairs), ==, in, isinstance. -/
namespace DL
open PySem PySem.Spec PyProof.Rows L2

/-! short lengths -/
def few {α : Type} : List α → Nat → Bool
  | [], _ => true
  | _ :: _, 0 => false
  | _ :: r, n + 1 => few r n
theorem few_len {α : Type} : ∀ {l : List α} {n : Nat}, few l n = true → l.length ≤ n
  | [], _, _ => Nat.zero_le _
  | _ :: _, 0, h => by cases h
  | _ :: r, n + 1, h => Nat.succ_le_succ (few_len (l := r) h)
theorem fw {α : Type} {l : List α} (h : few l 60 = true := by rfl) : l.length ≤ sizeLine := Nat.le_trans (few_len h) (by rw [sizeLine_eq]; decide)
theorem sz {n : Nat} (h : n ≤ 100000) : n ≤ sizeLine := Nat.le_trans h (by rw [sizeLine_eq]; decide)
theorem szlt {n : Nat} (h : n < 100000) : n < sizeLine := Nat.lt_of_lt_of_le h (by rw [sizeLine_eq]; decide)

/-! dict(pairs) -/
def mergeD (acc kvs : List (Cell × V)) : List (Cell × V) := kvs.foldl (fun acc p => putD acc p.1 p.2) acc
def rDictC : List V → Hp → VK → Prop := fun xs H Q => ∃ (a : Addr) (ps : List Addr) (kvs : List (Cell × V)), xs = [.ref a] ∧ H a = some (.lst (ps.map V.ref)) ∧
  Paired (fun p (kv : Cell × V) => ∃ b, H p = some (.tup [.ref b, kv.2]) ∧ H b = some (.tup ((ck kv.1).map kV))) ps kvs ∧ ∀ p, H p = none → Q (.ref p) (upd H p (.dT (rawD (mergeD [] kvs))))
theorem kt_merge {H : Hp} : ∀ {kvs : List (Cell × V)} {prs : List (List Key × Addr × Value)} {acc : List (Cell × V)} {xs : List (List Key × Addr × Value)},
    Paired (fun (kv : Cell × V) (q : List Key × Addr × Value) => q.1 = ck kv.1 ∧ H q.2.1 = some (.tup ((ck kv.1).map kV)) ∧ RelV kv.2 q.2.2) kvs prs → KT H (rawD acc) xs → KT H (rawD (mergeD acc kvs)) (storedAllH xs prs)
  | _, _, _, _, .nil, h => h
  | _, _, acc, xs, .cons (a := kv) (b := q) h t, k => by
    obtain ⟨h1, h2, h3⟩ := h
    have e := KT.put k (ck kv.1) (b := q.2.1) (y := kv.2) (u := q.2.2) h2 h3
    rw [putK_rawD] at e
    have r := kt_merge t e
    show KT H (rawD (mergeD (putD acc kv.1 kv.2) _)) (storedAllH (storedH xs q.1 q.2.1 q.2.2) _)
    rw [h1]
    exact r
theorem putD_length (kvs : List (Cell × V)) (c : Cell) (v : V) : (putD kvs c v).length ≤ kvs.length + 1 := by
  unfold putD
  split
  · rw [List.length_map]; exact Nat.le_succ _
  · rw [List.length_append]; exact Nat.le_refl _
theorem mergeD_length : ∀ (kvs acc : List (Cell × V)), (mergeD acc kvs).length ≤ acc.length + kvs.length
  | [], acc => Nat.le_refl _
  | kv :: r, acc => by
    have h := mergeD_length r (putD acc kv.1 kv.2)
    have h2 := putD_length acc kv.1 kv.2
    show (mergeD (putD acc kv.1 kv.2) r).length ≤ _
    rw [List.length_cons]
    omega
theorem dictC_pairs {X : Cx} {pins : List (Addr × Obj)} {σ : L2.St} {H : Hp} {s : Shared} (I : Inv X pins σ H s) : ∀ {ps : List Addr} {kvs : List (Cell × V)},
    Paired (fun p (kv : Cell × V) => ∃ b, H p = some (.tup [.ref b, kv.2]) ∧ H b = some (.tup ((ck kv.1).map kV))) ps kvs →
    ∃ prs : List (List Key × Addr × Value), Paired (fun (kv : Cell × V) (q : List Key × Addr × Value) => q.1 = ck kv.1 ∧ H q.2.1 = some (.tup ((ck kv.1).map kV)) ∧ RelV kv.2 q.2.2) kvs prs ∧
      prs.length = ps.length ∧ (∀ (j : Nat) (q : List Key × Addr × Value), prs[j]? = some q → ∃ p, ps[j]? = some p ∧ PairAt s.heap p (.ref q.2.1) q.2.2) ∧ ∀ q ∈ prs, H q.2.1 = some (.tup (q.1.map kV))
  | _, _, .nil => ⟨[], .nil, rfl, fun j q e => by simp at e, fun q h => by cases h⟩
  | _, _, .cons (a := p) (b := kv) h t => by
    obtain ⟨b, h1, h2⟩ := h
    obtain ⟨prs, k1, k2, k3, k4⟩ := dictC_pairs I t
    obtain ⟨_, its, r, tt⟩ := (show ObjOk X.prog X.w H s.heap p (.tup [.ref b, kv.2]) from I.hok p _ h1)
    obtain ⟨u, v, e, r1, r2⟩ := vals2 r
    cases (show u = Value.ref b from r1)
    subst e
    refine ⟨(ck kv.1, b, v) :: prs, .cons ⟨rfl, h2, r2⟩ k1, by rw [List.length_cons, List.length_cons, k2], fun j q e => ?_, fun q hq => ?_⟩
    · cases j with
      | zero =>
        have e' : q = (ck kv.1, b, v) := by simpa using e.symm
        subst e'
        exact ⟨p, rfl, .inl tt⟩
      | succ j => exact k3 j q (by simpa using e)
    · rcases List.mem_cons.mp hq with z | z
      · subst z; exact h2
      · exact k4 q z
theorem kt_nodup {H : Hp} {kvs : List (List Key × V)} {xs : List (List Key × Addr × Value)} (h : KT H kvs xs) : kvs.length = xs.length := Paired.length h
theorem call_dictC {X : Cx} (hcalm : X.calm = true) (hu : X.A.units + 1 < cLine) (hu2 : X.A.units + 64 < cLine) : CallR X (.type "dict") rDictC := by
  intro pins s σ H xs us Q I r q
  obtain ⟨a, ps, kvs, ex, hq, hp, q⟩ := q
  subst ex
  rw [Vals.ref1 r]
  obtain ⟨z, its, n, rv, ho⟩ := I.hok a _ hq
  have ei := refs_at rv
  subst ei
  rw [List.length_map] at z
  obtain ⟨prs, k1, k2, k3, k4⟩ := dictC_pairs I hp
  have PA := PairArg.list (prog := X.prog) (w := X.w) a (ps.map Value.ref).toArray (fun j => ps.getD j 0) (prs.map fun q => (Value.ref q.2.1, q.2.2))
  have hln : (prs.map fun q => (Value.ref q.2.1, q.2.2)).length = prs.length := List.length_map _
  refine call_dict_pairsH (knd := tupleKind (mixKind X.prog X.w)) (ps := prs) PA (I.ok.hd hcalm) ?_ ⟨⟨_, n, ho, rfl, rfl, rfl⟩, ?_, ?_⟩ ⟨?_, ?_⟩ ?_ (by rw [hln, k2]; exact z) ?_
  · show X.A.in1.in1.units < cLine
    show X.A.units + 1 + 1 < cLine
    omega
  · simp [k2]
  · intro j k v e
    rw [List.getElem?_map] at e
    cases h : prs[j]? with
    | none => rw [h] at e; cases e
    | some q' =>
      rw [h] at e
      cases e
      obtain ⟨p, e1, e2⟩ := k3 j q' h
      have e3 : ps.getD j 0 = p := by rw [List.getD_eq_getElem?_getD, e1]; rfl
      simp only [e3]
      exact ⟨by simp [e1], e2⟩
  · exact hln.symm
  · intro i key v e
    have e : (prs.map fun q => (Value.ref q.2.1, q.2.2))[i]? = some (key, v) := e
    rw [List.getElem?_map] at e
    cases h : prs[i]? with
    | none => rw [h] at e; cases e
    | some q' =>
      rw [h] at e
      cases e
      exact ⟨q'.1, q'.2.1, rfl, rfl⟩
  · intro h' k x hx
    have hk := key_of I.hok (k4 x hx)
    obtain ⟨o, its', n', e1, e2, e3, e4⟩ := hk
    exact ⟨o, its', n', k _ _ (Nat.ne_of_lt (Heap.lt_size e1)) (by simp) e1, e2, e3, e4⟩
  · intro h' tk hd' k
    have hm : (s.heap.objs.size == sysModules) = false := beq_eq_false_iff_ne.mpr (Nat.ne_of_gt I.big)
    have hl : kvs.length = prs.length := Paired.length k1
    have hlen : (rawD (mergeD [] kvs)).length ≤ sizeLine := by
      rw [rawD_length]
      refine Nat.le_trans (mergeD_length kvs []) ?_
      rw [List.length_nil, Nat.zero_add, hl, k2]
      exact z
    have kk : ∀ b u, s.heap.get? b = some u → h'.get? b = some u := fun b u e => k b u (by simp) e
    have kt := kt_merge (H := H) (acc := []) (xs := []) k1 .nil
    have nf := I.hok.fresh (Nat.le_refl _)
    refine ⟨.ref s.heap.objs.size, upd H s.heap.objs.size (.dT (rawD (mergeD [] kvs))), I.laid (t' := tk) kk (Nat.le_refl _) ?_, rfl, q _ nf⟩
    obtain ⟨o, es, ep, h1, h2, h3, h4, h5, h6⟩ := hd'
    exact ⟨hlen, hm, _, kt.keeps (fun b ys e => by rw [upd_ne (ne_of_none e nf)]; exact e), o, es, ep, h1, h2, h3, h4, h6⟩
section
variable {ρ : List Sl} {ta tb te : TE} {K : PySem.W.Frag} {d e : Dt}
/-- the pairs of a list of data -/
def dPair (kv : Cell × Dt) : Dt := .seq false [dCell kv.1, kv.2]
theorem pairs_paired {H : Hp} (f : Dt → V) : ∀ {kvs : List (Cell × Dt)} {xs : List V}, (∀ kv ∈ kvs, ∀ x, Is H x kv.2 → x = f kv.2) → IsAll H xs (kvs.map dPair) →
    ∃ ps : List Addr, xs = ps.map V.ref ∧ Paired (fun p (kv : Cell × V) => ∃ b, H p = some (.tup [.ref b, kv.2]) ∧ H b = some (.tup ((ck kv.1).map kV))) ps (kvs.map fun kv => (kv.1, f kv.2))
  | [], _, _, .nil => ⟨[], rfl, .nil⟩
  | kv :: r, _, hf, .cons h t => by
    obtain ⟨ps, e, p⟩ := pairs_paired f (fun k hk => hf k (List.mem_cons_of_mem _ hk)) t
    obtain ⟨a, ys, rfl, ha, hy⟩ := is_tup h
    obtain ⟨x, y, e2, hx, hy⟩ := hy.inv2
    obtain ⟨b, rfl, hb⟩ := is_cell hx
    have ey := hf kv List.mem_cons_self y hy
    subst ey e2
    exact ⟨a :: ps, by rw [e]; rfl, .cons ⟨b, ha, hb⟩ p⟩
theorem gn_dict {kvs : List (Cell × Dt)} (f : Dt → V) (h : GD ta ρ (.seq true (kvs.map dPair))) (hf : ∀ kv ∈ kvs, ∀ H x, Is H x kv.2 → x = f kv.2) :
    GN (tCB rDictC (tCons ta tNil)) ρ (.dic (mergeD [] (kvs.map fun kv => (kv.1, f kv.2)))) := fun ps bs σ H E Q q =>
  h ps bs σ H E _ fun v H1 s1 h1 => by
    obtain ⟨a, xs, rfl, ha, hx⟩ := is_lst h1
    obtain ⟨as, e, hp⟩ := pairs_paired f (fun kv m x i => hf kv m _ x i) hx
    subst e
    refine ⟨a, as, _, rfl, (out_some ha).1, Paired.mapP hp fun p kv ⟨b, b1, b2⟩ => ⟨b, (out_some b1).1, (out_some b2).1⟩, fun p hp' => q p _ (Same.free s1 hp') (s1.trans (same_new hp')) ?_⟩
    exact upd_same

/-! data without dicts, as the library's plain data -/
mutual
def py : Dt → PyData
  | .non => .none
  | .bl b => .bool b
  | .int i => .int i
  | .str x => .str x
  | .seq true ds => .list (pyAll ds)
  | .seq false ds => .tuple (pyAll ds)
  | .dic _ => .none
def pyAll : List Dt → List PyData
  | [] => []
  | d :: ds => py d :: pyAll ds
end
mutual
def noD : Dt → Bool
  | .dic _ => false
  | .seq _ ds => noDAll ds
  | _ => true
def noDAll : List Dt → Bool
  | [] => true
  | d :: ds => noD d && noDAll ds
end
mutual
theorem dp_of {H : Hp} : ∀ {v : V} {d : Dt}, Is H v d → noD d = true → Dp K H v (py d)
  | _, _, .non, _ => by rw [py]; exact .non
  | _, _, .bl b, _ => by rw [py]; exact .bl b
  | _, _, .int b, _ => by rw [py]; exact .int b
  | _, _, .str b, _ => by rw [py]; exact .str b
  | _, _, .tup h a, n => by rw [py]; rw [noD] at n; exact .tup (SqT.of h) (dpAll_of a n)
  | _, _, .lst h a, n => by rw [py]; rw [noD] at n; exact .lst (SqL.of h) (dpAll_of a n)
  | _, _, .dic h, n => by rw [noD] at n; cases n
theorem dpAll_of {H : Hp} : ∀ {vs : List V} {ds : List Dt}, IsAll H vs ds → noDAll ds = true → DpAll K H vs (pyAll ds)
  | _, _, .nil, _ => by rw [pyAll]; exact .nil
  | _, _, .cons h t, n => by
    rw [noDAll, Bool.and_eq_true] at n
    rw [pyAll]
    exact .cons (dp_of h n.1) (dpAll_of t n.2)
end
/-- fit to be compared -/
def plainD (d : Dt) : Prop := noD d = true ∧ SeqAt.shaped (py d) = true
theorem gd_eqD (ha : GD ta ρ d) (hb : GD tb ρ e) (h1 : plainD d) (h2 : plainD e) : GD (tOp (rEqD K) ta tb) ρ (.bl (PyData.eqv (py d) (py e))) :=
  gd_op ha hb fun ps bs σ H x y E hx hy Q q => ⟨py d, py e, dp_of (hx.mono out_le) h1.1, dp_of (hy.mono out_le) h2.1, h1.2, h2.2, q _ H (Same.refl H) (.bl _)⟩
theorem gd_neD (ha : GD ta ρ d) (hb : GD tb ρ e) (h1 : plainD d) (h2 : plainD e) : GD (tOp (rNeD K) ta tb) ρ (.bl (!PyData.eqv (py d) (py e))) :=
  gd_op ha hb fun ps bs σ H x y E hx hy Q q => ⟨py d, py e, dp_of (hx.mono out_le) h1.1, dp_of (hy.mono out_le) h2.1, h1.2, h2.2, q _ H (Same.refl H) (.bl _)⟩
end
/-! xs == [], xs != [], xs owned or not -/
section
variable {ρ : List Sl} {ta tb te : TE} {K : PySem.W.Frag} {ds : List Dt}
theorem eqv_nil (ds : List Dt) : PyData.eqv (py (.seq true ds)) (py (.seq true [])) = ds.isEmpty := by
  cases ds with
  | nil => rw [py, pyAll, PyData.eqv]; rfl
  | cons d r => rw [py, py, pyAll, pyAll, PyData.eqv]; simp [PyData.eqvAll]
theorem gd_eqNil (ha : GL ta ρ ds) (h1 : plainD (.seq true ds)) : GD (tOp (rEqD K) ta (tLst tNil)) ρ (.bl ds.isEmpty) := fun ps bs σ H E Q q =>
  ha ps bs σ H E _ fun a xs H1 s1 h2 h3 => ⟨Nat.zero_le _, fun p hp => by
    have hn := same_new (o := .lst []) hp
    refine ⟨py (.seq true ds), py (.seq true []), dp_of (.lst (hn _ _ h2) ((h3.mono out_le).mono hn)) h1.1, dp_of (.lst upd_same .nil) rfl, h1.2, by rw [py, pyAll]; decide, ?_⟩
    rw [eqv_nil]
    exact q _ _ (s1.trans hn) (.bl _)⟩
theorem gd_neNil (ha : GL ta ρ ds) (h1 : plainD (.seq true ds)) : GD (tOp (rNeD K) ta (tLst tNil)) ρ (.bl (!ds.isEmpty)) := fun ps bs σ H E Q q =>
  ha ps bs σ H E _ fun a xs H1 s1 h2 h3 => ⟨Nat.zero_le _, fun p hp => by
    have hn := same_new (o := .lst []) hp
    refine ⟨py (.seq true ds), py (.seq true []), dp_of (.lst (hn _ _ h2) ((h3.mono out_le).mono hn)) h1.1, dp_of (.lst upd_same .nil) rfl, h1.2, by rw [py, pyAll]; decide, ?_⟩
    rw [eqv_nil]
    exact q _ _ (s1.trans hn) (.bl _)⟩
end
end DL
set_option maxHeartbeats 1000000
/-! Built-ins, further: in, isinstance, enumerate of a tuple, list(dict), loops over a dict's keys. -/
namespace PySem
open Sem (wp)
theorem meets_enum_newB {v : Value} {o : Obj} {H : Heap → Prop} (B : Begins v o H) :
    Meets (Builtin.«enumerate.__new__» ⟨[.type "enumerate", v], []⟩) (fun _ R s => H s.heap ∧
      R (.ok (.ret (.ref (s.heap.push o).objs.size))) { s with heap := (s.heap.push o).push { cls := .type "enumerate", data := .fields #[.none, .bool false, .ref s.heap.objs.size, rawInt 0, .none, .none] } }) :=
  .of_wp fun prog w A R s h => by
    obtain ⟨hp, g, d, tk, os⟩ := s; obtain ⟨h1, h⟩ := h
    have hsub := sub_enumerate
    have q1 : ∀ {A' : Around} {E : Value → Shared → Prop} {Q : Value → Shared → Prop}, Q (.ref hp.objs.size) ⟨hp.push o, g, d, tk, os⟩ → wpAny (model prog w) A' (pyIter v) Q E ⟨hp, g, d, tk, os⟩ :=
      fun q => B.iter prog w _ _ ⟨hp, g, d, tk, os⟩ _ h1 q
    wp_walk using q1
    refine wpAny_stack_any fun st => wpAny_pure ?_
    split
    · rename_i c _ _ _ _ _
      cases (c == Value.type "enumerate")
      · wp_walk using q1
        exact ⟨_, rfl, h⟩
      · wp_walk using q1
        exact ⟨_, rfl, h⟩
    · wp_walk using q1
      exact ⟨_, rfl, h⟩
section
variable {prog : Program} {w : World} {A : Around} {E : Value → Shared → Prop} {s : Shared}
theorem enum_begins1 {v : Value} {o : Obj} {H : Heap → Prop} {Q : Value → Shared → Prop} (B : Begins v o H) (h1 : H s.heap)
    (h : ∀ h', IsEnum h' (s.heap.objs.size + 1) s.heap.objs.size 0 .none → h'.get? s.heap.objs.size = some o → h'.objs.size = s.heap.objs.size + 2 →
      (∀ b o, s.heap.get? b = some o → h'.get? b = some o) → Q (.ref (s.heap.objs.size + 1)) { s with heap := h' }) :
    wpAny (model prog w) A (call (.type "enumerate") [v]) Q E s := by
  refine callType_new F.called_enumerate (by decide) (F.typeCall_enumerate_1 _) (F.newCall_enumerate_1 _) (fun obj => F.args_object_init_2 obj _) F.entry_enumerate_new
    (meets_enum_newB B) ⟨h1, ?_⟩
  have hz : (s.heap.push o).objs.size = s.heap.objs.size + 1 := Heap.size_push ..
  show _ ∧ _
  rw [hz]
  have he : IsEnum ((s.heap.push o).push { cls := .type "enumerate", data := .fields #[.none, .bool false, .ref s.heap.objs.size, rawInt 0, .none, .none] }) (s.heap.objs.size + 1) s.heap.objs.size 0 .none := by
    have := Heap.get?_push_size (s.heap.push o) (o := { cls := .type "enumerate", data := .fields #[.none, .bool false, .ref s.heap.objs.size, rawInt 0, .none, .none] }) rfl
    rw [hz] at this; exact this
  exact ⟨⟨_, he, rfl⟩, h _ he (Heap.get?_push_of_some _ (Heap.get?_push_size _ B.free)) (by rw [Heap.size_push, hz]) fun b o x => Heap.get?_push_of_some _ (Heap.get?_push_of_some _ x)⟩
end
end PySem
namespace DL
open PySem PySem.Spec PyProof.Rows L2

/-! enumerate of a tuple -/
def IteT (K : PySem.W.Frag) (a : Addr) : It :=
  ⟨fun i H => ∃ xs x, SqT K H a xs ∧ xs[i]? = some x, fun i H v H' => ∃ T x, v = .ref T ∧ H T = none ∧ H' = upd H T (.tup [.int (i : Nat), x]) ∧ ∀ xs, SqT K H a xs → xs[i]? = some x, fun i H => ∃ xs, SqT K H a xs ∧ xs.length ≤ i⟩
theorem turn_enumT {P : Program} {w : World} {K : PySem.W.Frag} {elts : List Expr} {kk : Nat} {tpos : Pos} (a e it : Addr) :
    Turn P w K (.Tuple elts kk tpos) (IteT K a) [e, it] e (fun i h => (∃ old, IsEnum h e it ((i : Nat) : Int) old) ∧ h.IsTupleIter it a i ∧ e ≠ it) where
  mem := by simp
  obj := fun i h st b hb => by
    obtain ⟨⟨old, he⟩, ⟨o, ho, hc, hd⟩, _⟩ := st
    have e' : b = e ∨ b = it := by simpa using hb
    rcases e' with z | z
    · rw [z]; exact ⟨_, he, fun v q => nomatch q⟩
    · rw [z]; exact ⟨o, ho, fun v q => by rw [hd] at q; cases q⟩
  keep := fun i h h' st k => let ⟨⟨old, he⟩, hi, hne⟩ := st; ⟨⟨old, k e (by simp) _ he⟩, hi.at fun o q => k it (by simp) o q, hne⟩
  item := by
    intro X hP hw hK hc i pins s σ H E I hf st hg
    subst hP hw hK
    obtain ⟨⟨old, he⟩, hit, hne⟩ := st
    obtain ⟨xs, x, hq, hx⟩ := hg
    obtain ⟨its, rv, p, hz⟩ := I.tuple hq
    obtain ⟨u, hu, ru⟩ := rv.get hx
    have pt : s.heap.IsTuple a its.toArray := p
    have hel : e < s.heap.objs.size := Heap.lt_size he
    have hil : it < s.heap.objs.size := by obtain ⟨_, q, _⟩ := hit; exact Heap.lt_size q
    have hai : a ≠ it := by
      rintro rfl
      obtain ⟨o1, q1, q2, _⟩ := hit
      obtain ⟨o2, q3, q4, _⟩ := pt
      rw [q1] at q3
      cases q3
      rw [q2] at q4
      injection q4 with q4
      exact absurd q4 (by decide)
    have hae : e ∉ ([it, a] : List Addr) := by
      intro z
      rcases List.mem_cons.mp z with z | z
      · exact hne z
      · have z : e = a := by simpa using z
        subst z
        obtain ⟨o2, q3, q4, _⟩ := pt
        rw [show s.heap.get? e = _ from he] at q3
        cases q3
        injection q4 with q4
        exact absurd q4 (by decide)
    have D := Draws.tuple (prog := X.prog) (w := X.w) (A := X.A.in1) (show X.A.in1.handled = none from I.ok.hd hc) it a hai its.toArray
    have hlt : i < its.toArray.size := by
      have := (List.getElem?_eq_some_iff.mp hu).1
      simpa using this
    refine wpAny_pyNext_enum_itemD D he ⟨hit, pt⟩ hlt hne hae fun x' h' tk hP' ho hit' hT hsz hk => ?_
    have ex : x' = u := by
      have : its[i]? = some x' := by simpa using hP'
      rw [hu] at this
      exact (Option.some.inj this).symm
    subst ex
    refine ⟨_, rfl, wpAny_letOwnedTupleGo_enum (s := { s with heap := h', toks := tk + 1 }) ho fun h'' he' sb => ?_⟩
    have hT2 : h''.get? s.heap.objs.size = some { cls := .type "tuple", data := .seq #[.int i tk, x'] } := (sb.2 _ (Nat.ne_of_gt hel)).trans hT
    have new : ObjOk X.prog X.w (upd H s.heap.objs.size (.tup [.int (i : Nat), x])) h'' s.heap.objs.size (.tup [.int (i : Nat), x]) :=
      ⟨by show 2 ≤ sizeLine; decide, [.int i tk, x'], .cons ⟨_, rfl⟩ (.cons ru .nil), ⟨_, hT2, rfl, _, rfl⟩⟩
    have I1 : Inv X pins σ (upd H s.heap.objs.size (.tup [.int (i : Nat), x])) { s with heap := h'', toks := tk + 1 } :=
      I.turnedNew (ch := [e, it]) (fun b ob hb q => (sb.2 b (fun z => hb (by simp [z]))).trans (hk b ob (fun z => hb (by simp [z])) (fun z => hb (by simp [z])) q)) hf (Nat.le_refl _) new
    refine ⟨.ref s.heap.objs.size, _, I1, rfl, ⟨_, x, rfl, I.hok.fresh (Nat.le_refl _), rfl, fun ys hy => by rw [I.tuple_inj hy hq]; exact hx⟩, ⟨⟨x', ?_⟩, hit'.1.at fun o q => (sb.2 it (Ne.symm hne)).trans q, hne⟩, fun b hb => ?_⟩
    · have e1 : ((i + 1 : Nat) : Int) = (i : Int) + 1 := by omega
      rw [e1]; exact he'
    · have hb' : b < s.heap.objs.size := by
        have e' : b = e ∨ b = it := by simpa using hb
        rcases e' with z | z
        · rw [z]; exact hel
        · rw [z]; exact hil
      rw [upd_ne (Nat.ne_of_lt hb')]
      exact (hf b hb).1
  done := by
    intro X hP hw hK hc i pins s σ H E I hf st hg
    subst hP hw hK
    obtain ⟨⟨old, he⟩, hit, hne⟩ := st
    obtain ⟨xs, hq, hx⟩ := hg
    obtain ⟨its, rv, p, hz⟩ := I.tuple hq
    have pt : s.heap.IsTuple a its.toArray := p
    obtain ⟨f0, f1, f2, f3, f4, f5⟩ := hf it (by simp)
    have hl := rv.length
    have hai : a ≠ it := by
      rintro rfl
      obtain ⟨o1, q1, q2, _⟩ := hit
      obtain ⟨o2, q3, q4, _⟩ := pt
      rw [q1] at q3
      cases q3
      rw [q2] at q4
      injection q4 with q4
      exact absurd q4 (by decide)
    have hu2 : X.A.in1.handled = none := I.ok.hd hc
    have hend : wpAny (model X.prog X.w) X.A (pyNext (.ref e)) (fun r s1 => r = none ∧ L2.Inv X pins σ H s1) E s := by
      have hT : s.TypeIs (.ref e) "enumerate" := ⟨_, he, rfl⟩
      unfold pyNext
      refine wpAny_bind (wpAny_attempt (wpAny_callSpecial?_slot (name := Str.ofString "__next__") hT F.slot_enumerate_next
        (wpAny_call_entry F.slot_enumerate_next hT F.entry_enumerate_next ?_ (F.args_enumerate_next_1 _))))
      show wpAny _ _ (field (.ref e) 2 >>= _) _ _ _
      refine wpAny_bind (wpAny_field he rfl (x := .ref it) rfl ?_)
      refine wpAny_bind (wpAny_nextOf_tuple_end hu2 hit pt (by simpa using (show its.length ≤ i by omega)) fun h' x he' hx' => ?_)
      obtain ⟨o, ho, hc'⟩ := hx'
      refine wpAny_bind (wpAny_isInstance (T := "StopIteration") (b := true) ⟨o, ho, hc'⟩ isSubtype_stop ?_)
      exact wpAny_pure ⟨rfl, I.turned (t' := s.toks) (fun b o hb q => he' b o hb q) f0 f1 f3 f4 f5⟩
    exact hend
  self := fun A i s Q E st h => let ⟨⟨_, he⟩, _⟩ := st; wpAny_pyIter_enum he h
end DL
namespace DL
open PySem PySem.Spec PyProof.Rows L2
def iEnumT (K : PySem.W.Frag) (ta : TA) : TI := fun σ H R => ta σ H fun vs H1 => ∃ a xs, vs = [.ref a] ∧ SqT K H1 a xs ∧ R (IteT K a) H1
theorem pi_enumT {X : Cx} {e : Expr} {ta : TA} {p pos tpos : Pos} {elts : List Expr} {kk : Nat} (hg : Gl X "enumerate") (hm : X.mg "enumerate" = none) (ha : PA X [e] ta) (hs : starEach [e] X.env = [(false, eval e X.env)]) :
    PI X (.Tuple elts kk tpos) (.Call (.Name "enumerate" p) [e] [] pos) (iEnumT X.K ta) := by
  refine ⟨fun pins s σ H R I h => Call_ (ld_blt I hg hm boot_enumerate (PyProof.Rows.callWith_type1 (thn (ha.run pos pins s σ H _ I h) ?_) hs rfl))⟩
  rintro us s1 ⟨vs, H1, I1, r1, a, xs, rfl, hq, q⟩
  rw [Vals.ref1 r1]
  obtain ⟨its, rv, p', hz⟩ := I1.tuple hq
  refine enum_begins1 (begins_tuple a its.toArray) p' fun h' he hit hsz hk => wpAny_pyIter_enum he ⟨s1.heap.objs.size + 1, [s1.heap.objs.size + 1, s1.heap.objs.size], _, _, H1, rfl, I1.kept (t' := s1.toks) hk, turn_enumT a _ s1.heap.objs.size,
    ⟨⟨.none, he⟩, ⟨_, hit, rfl, rfl⟩, Nat.succ_ne_self _⟩, fun b hb => ?_, q⟩
  have hle : s1.heap.objs.size ≤ b := by
    rcases List.mem_cons.mp hb with z | z
    · rw [z]; exact Nat.le_succ _
    · rw [List.mem_singleton.mp z]; exact Nat.le_refl _
  exact I1.fpOk hle (I1.hok.fresh hle)
def iEnumQ (K : PySem.W.Frag) (ta : TA) : TI := fun σ H R => iEnum K ta σ H R ∨ iEnumT K ta σ H R
theorem pi_enumQ {X : Cx} {K : PySem.W.Frag} {e : Expr} {ta : TA} {p pos tpos : Pos} {elts : List Expr} {kk : Nat} (hK : X.K = K) (hg : Gl X "enumerate") (hm : X.mg "enumerate" = none) (ha : PA X [e] ta) (hs : starEach [e] X.env = [(false, eval e X.env)] := by rfl) :
    PI X (.Tuple elts kk tpos) (.Call (.Name "enumerate" p) [e] [] pos) (iEnumQ K ta) := ⟨fun pins s σ H R I h => by
  subst hK
  rcases h with h | h
  · exact (pi_enum hg hm ha hs).run pins s σ H R I h
  · exact (pi_enumT hg hm ha hs).run pins s σ H R I h⟩
theorem walk_enumT {K : PySem.W.Frag} {a : Addr} {xs : List V} : Walk (IteT K a) xs.length (fun H => SqT K H a xs) (YPair (fun i => some (.int (i : Nat))) (fun i => xs[i]?)) := by
  refine ⟨fun i _ hi q => ⟨xs, xs[i], q, by simp [hi]⟩, fun _ q => ⟨xs, q, Nat.le_refl _⟩, fun i H v H' _ q y => ?_⟩
  obtain ⟨T, x, h1, h2, h3, h4⟩ := y
  exact ⟨T, .int (i : Nat), x, h1, h2, h3, rfl, h4 xs q⟩
section
variable {ρ : List Sl} {ta tb te td : TE} {K : PySem.W.Frag} {ps : List Addr} {bs : List (List Addr × Hp)} {H H' : Hp} {σ : L2.St}
def enumD {α : Type} (f : α → Dt) (xs : List α) : List Dt := xs.zipIdx.map fun p => .seq false [.int ((p.2 : Nat) : Int), f p.1]
theorem wd_pair {J : It} {ds its : List Dt} {xs : List V} {G : Hp → Prop} (w : Walk J xs.length G (YPair (fun i => some (.int (i : Nat))) (fun i => xs[i]?)))
    (hg : ∀ qs : List Addr, (∀ q ∈ qs, q ∈ ps ∨ H q = none) → ∀ H1, Same (out H qs) (out H1 qs) → G H1) (hx : IsAll (out H ps) xs ds) (hl : its.length = ds.length)
    (hi : ∀ (i : Nat) d, ds[i]? = some d → its[i]? = some (.seq false [.int ((i : Nat) : Int), d])) : WD J its H ps := fun qs hq => by
  have e : xs.length = its.length := by rw [hx.length, hl]
  rw [← e]
  refine w.mono (fun H1 g => hg qs hq H1 g.1) fun i H1 x H2 hi' g y => ?_
  obtain ⟨T, a, b, rfl, hT, rfl, ea, eb⟩ := y
  cases ea
  obtain ⟨d, h1, h2⟩ := hx.getV eb
  have nT : T ∉ qs := fun z => by
    have := g.2 T z
    rw [hT] at this
    exact this
  have s1 := same_new (o := .tup [.int (i : Nat), b]) hT
  exact ⟨s1, _, hi i d h1, .tup (out_of upd_same nT) (.cons (.int _) (.cons (((h2.mono (out_fresh hq)).mono g.1).mono (out_mono s1)) .nil))⟩
theorem enumD_len {α : Type} (f : α → Dt) (xs : List α) : (enumD f xs).length = (xs.map f).length := by simp [enumD]
theorem enumD_get {α : Type} (f : α → Dt) (xs : List α) (i : Nat) (d : Dt) (h : (xs.map f)[i]? = some d) : (enumD f xs)[i]? = some (.seq false [.int ((i : Nat) : Int), d]) := by
  rw [List.getElem?_map] at h
  unfold enumD
  rw [List.getElem?_map, List.getElem?_zipIdx]
  cases e : xs[i]? with
  | none => rw [e] at h; cases h
  | some x =>
    rw [e] at h
    cases h
    simp
theorem gw_enum {α : Type} {l : Bool} {f : α → Dt} {xs : List α} (h : GD ta ρ (.seq l (xs.map f))) : GW (iEnumQ K (tCons ta tNil)) ρ (enumD f xs) := fun ps bs σ H E R r => by
  cases l with
  | true => exact .inl (h ps bs σ H E _ fun v H1 s1 h1 => by
      obtain ⟨a, ys, rfl, h2, h3⟩ := is_lst h1
      refine ⟨a, ys, rfl, SqL.of (out_some h2).1, r _ H1 s1 (wd_pair walk_enum (fun qs hq H2 sm => SqL.of (out_some (sm a _ (out_fresh hq a _ h2))).1) h3 (enumD_len f xs) (enumD_get f xs))⟩)
  | false => exact .inr (h ps bs σ H E _ fun v H1 s1 h1 => by
      obtain ⟨a, ys, rfl, h2, h3⟩ := is_tup h1
      refine ⟨a, ys, rfl, SqT.of (out_some h2).1, r _ H1 s1 (wd_pair walk_enumT (fun qs hq H2 sm => SqT.of (out_some (sm a _ (out_fresh hq a _ h2))).1) h3 (enumD_len f xs) (enumD_get f xs))⟩)

/-! in a list or a tuple of data -/
def rInQ (K : PySem.W.Frag) (neg : Bool) : R2 := fun x y H Q => ∃ d ds l, Dp K H x d ∧ Dp K H y (if l = true then .list ds else .tuple ds) ∧ SeqAt.shaped d = true ∧ SeqAt.shaped (.list ds) = true ∧ Q (.bl (if neg then !ds.any fun z => PyData.eqv z d else ds.any fun z => PyData.eqv z d)) H
theorem shaped_tup {ds : List PyData} (h : SeqAt.shaped (.list ds) = true) : SeqAt.shaped (.tuple ds) = true := h
theorem room_in_tup {A : Around} {ds : List PyData} {d : PyData} (sd : SeqAt.shaped d = true) (hu : A.units + 65 < cLine) : A.units + 1 + min (PyData.depthAll ds) d.depth < cLine := room_in_shaped sd hu
theorem op_inQ {X : Cx} (hK : X.K = K) (hu : X.A.units + 65 < cLine) : OpR X (compareOp .In) (rInQ K false) := by
  subst hK
  rintro pins s σ H x y v u Q I rx ry ⟨d, ds, l, hd, he, sd, se, q⟩
  obtain ⟨as, r1⟩ := Dp.reads I d x v hd rx
  cases l with
  | true =>
    obtain ⟨zs, r2⟩ := Dp.reads I (.list ds) y u he ry
    exact SeqAt.in_list_reads r2 r1 (SeqAt.canLay_of_shaped se) (SeqAt.canLay_of_shaped sd) (room_in_shaped sd hu) ⟨.bl _, H, I, rfl, q⟩
  | false =>
    obtain ⟨zs, r2⟩ := Dp.reads I (.tuple ds) y u he ry
    exact SeqAt.in_tuple_reads r2 r1 (SeqAt.canLay_of_shaped se) (SeqAt.canLay_of_shaped sd) (room_in_shaped sd hu) ⟨.bl _, H, I, rfl, q⟩
theorem op_notInQ {X : Cx} (hK : X.K = K) (hu : X.A.units + 65 < cLine) : OpR X (compareOp .NotIn) (rInQ K true) := by
  subst hK
  rintro pins s σ H x y v u Q I rx ry ⟨d, ds, l, hd, he, sd, se, q⟩
  obtain ⟨as, r1⟩ := Dp.reads I d x v hd rx
  cases l with
  | true =>
    obtain ⟨zs, r2⟩ := Dp.reads I (.list ds) y u he ry
    exact SeqAt.notIn_list_reads r2 r1 (SeqAt.canLay_of_shaped se) (SeqAt.canLay_of_shaped sd) (room_in_shaped sd hu) ⟨.bl _, H, I, rfl, q⟩
  | false =>
    obtain ⟨zs, r2⟩ := Dp.reads I (.tuple ds) y u he ry
    exact SeqAt.notIn_tuple_reads r2 r1 (SeqAt.canLay_of_shaped se) (SeqAt.canLay_of_shaped sd) (room_in_shaped sd hu) ⟨.bl _, H, I, rfl, q⟩
/-! cells as plain data -/
theorem py_cell (c : Cell) : py (dCell c) = .tuple [.int c.1, .int c.2] := by simp only [dCell, py, pyAll]
theorem eqv_cell (a b : Cell) : PyData.eqv (py (dCell a)) (py (dCell b)) = decide (a = b) := by
  rw [py_cell, py_cell]
  have e : PyData.eqv (.tuple [.int a.1, .int a.2]) (.tuple [.int b.1, .int b.2]) = ((a.1 == b.1) && ((a.2 == b.2) && true)) := by simp only [PyData.eqv, PyData.eqvAll]
  rw [e, Bool.and_true, Bool.beq_eq_decide_eq, Bool.beq_eq_decide_eq, ← Bool.decide_and]
  exact decide_eq_decide.mpr ⟨fun h => Prod.ext h.1 h.2, fun h => h ▸ ⟨rfl, rfl⟩⟩
theorem pyAll_map {α : Type} (f : α → Dt) : ∀ xs : List α, pyAll (xs.map f) = xs.map fun x => py (f x)
  | [] => by simp [pyAll]
  | x :: r => by rw [List.map_cons, pyAll, pyAll_map f r]; rfl
theorem noDAll_map {α : Type} {f : α → Dt} (h : ∀ x, noD (f x) = true) : ∀ xs : List α, noDAll (xs.map f) = true
  | [] => rfl
  | x :: r => by rw [List.map_cons, noDAll, h x, noDAll_map h r]; rfl
theorem lay_map {α : Type} {f : α → PyData} (h : ∀ x, (f x).canLay0 = true) : ∀ xs : List α, PyData.canLayAll0 (xs.map f) = true
  | [] => by simp [PyData.canLayAll0]
  | x :: r => by simp only [List.map_cons, PyData.canLayAll0, h x, lay_map h r, Bool.and_self]
theorem depth_map {α : Type} {f : α → PyData} {n : Nat} (h : ∀ x, (f x).depth ≤ n) : ∀ xs : List α, PyData.depthAll (xs.map f) ≤ n
  | [] => by simp [PyData.depthAll]
  | x :: r => by
    have h1 := depth_map h r
    have h2 := h x
    simp only [List.map_cons, PyData.depthAll]
    omega
theorem shaped_of {d : PyData} (h1 : d.canLay0 = true) (h2 : d.depth ≤ 64) : SeqAt.shaped d = true := by
  show (d.canLay0 && decide (d.depth ≤ 64)) = true
  rw [h1, decide_eq_true h2]
  rfl
theorem plain_seq {α : Type} (l : Bool) (f : α → Dt) (xs : List α) (n : Nat) (h1 : ∀ x, noD (f x) = true) (h2 : ∀ x, (py (f x)).canLay0 = true) (h3 : ∀ x, (py (f x)).depth ≤ n) (hn : n ≤ 60) : plainD (.seq l (xs.map f)) := by
  refine ⟨by rw [noD]; exact noDAll_map h1 xs, ?_⟩
  have e := depth_map h3 xs
  cases l with
  | true =>
    rw [py, pyAll_map]
    exact shaped_of (by simp only [PyData.canLay0]; exact lay_map h2 xs) (by simp only [PyData.depth]; omega)
  | false =>
    rw [py, pyAll_map]
    exact shaped_of (by simp only [PyData.canLay0]; exact lay_map h2 xs) (by simp only [PyData.depth]; omega)
theorem cell_noD (c : Cell) : noD (dCell c) = true := by simp [dCell, noD, noDAll]
theorem cell_lay (c : Cell) : (py (dCell c)).canLay0 = true := by rw [py_cell]; simp [PyData.canLay0, PyData.canLayAll0]
theorem cell_depth (c : Cell) : (py (dCell c)).depth ≤ 1 := by rw [py_cell]; simp [PyData.depth, PyData.depthAll]
theorem plain_cells (l : Bool) (cs : List Cell) : plainD (.seq l (cs.map dCell)) := plain_seq l dCell cs 1 cell_noD cell_lay cell_depth (by decide)
theorem plain_cell (c : Cell) : plainD (dCell c) := ⟨cell_noD c, shaped_of (cell_lay c) (Nat.le_trans (cell_depth c) (by decide))⟩
theorem plain_ints (l : Bool) (ns : List Int) : plainD (.seq l (ns.map .int)) := plain_seq l Dt.int ns 0 (fun _ => rfl) (fun _ => by simp [py, PyData.canLay0]) (fun _ => by simp [py, PyData.depth]) (by decide)
theorem any_cell (c : Cell) (cs : List Cell) : ((cs.map fun x => py (dCell x)).any fun z => PyData.eqv z (py (dCell c))) = decide (c ∈ cs) := by
  induction cs with
  | nil => simp
  | cons x r ih =>
    rw [List.map_cons, List.any_cons, ih, eqv_cell, ← Bool.decide_or]
    exact decide_eq_decide.mpr (by rw [List.mem_cons]; exact ⟨fun h => h.imp Eq.symm id, fun h => h.imp Eq.symm id⟩)
theorem dp_seq {H : Hp} {v : V} {l : Bool} {ds : List Dt} (h : Is H v (.seq l ds)) (hn : noDAll ds = true) : Dp K H v (if l = true then .list (pyAll ds) else .tuple (pyAll ds)) := by
  have r := dp_of (K := K) h (by rw [noD]; exact hn)
  cases l with
  | true => rw [py] at r; exact r
  | false => rw [py] at r; exact r
theorem shaped_l {l : Bool} {ds : List Dt} (h : plainD (.seq l ds)) : SeqAt.shaped (.list (pyAll ds)) = true := by
  have := h.2
  cases l with
  | true => rw [py] at this; exact this
  | false => rw [py] at this; exact this
theorem gd_inC {l : Bool} {c : Cell} {cs : List Cell} (ha : GD ta ρ (dCell c)) (hb : GD tb ρ (.seq l (cs.map dCell))) : GD (tOp (rInQ K false) ta tb) ρ (.bl (decide (c ∈ cs))) :=
  gd_op ha hb fun ps bs σ H x y E hx hy Q q => ⟨py (dCell c), pyAll (cs.map dCell), l, dp_of (hx.mono out_le) (cell_noD c), dp_seq (hy.mono out_le) (noDAll_map cell_noD cs), (plain_cell c).2, shaped_l (plain_cells l cs), by
    rw [pyAll_map]
    simp only [Bool.false_eq_true, if_false, any_cell]
    exact q _ H (Same.refl H) (.bl _)⟩
theorem gd_notInC {l : Bool} {c : Cell} {cs : List Cell} (ha : GD ta ρ (dCell c)) (hb : GD tb ρ (.seq l (cs.map dCell))) : GD (tOp (rInQ K true) ta tb) ρ (.bl (!decide (c ∈ cs))) :=
  gd_op ha hb fun ps bs σ H x y E hx hy Q q => ⟨py (dCell c), pyAll (cs.map dCell), l, dp_of (hx.mono out_le) (cell_noD c), dp_seq (hy.mono out_le) (noDAll_map cell_noD cs), (plain_cell c).2, shaped_l (plain_cells l cs), by
    rw [pyAll_map]
    simp only [if_true, any_cell]
    exact q _ H (Same.refl H) (.bl _)⟩

/-! isinstance of a built-in class -/
def tyN : Dt → String
  | .non => "NoneType" | .bl _ => "bool" | .int _ => "int" | .str _ => "str" | .seq true _ => "list" | .seq false _ => "tuple" | .dic _ => "dict"
theorem tyx_of {H : Hp} {v : V} {d : Dt} (h : Is H v d) (hn : noD d = true) : TyX K H v (.type (tyN d)) := by
  cases h with
  | non => exact .base .non
  | bl b => exact .base (.bl b)
  | int b => exact .base (.int b)
  | str b => exact .base (.str b)
  | tup h _ => exact .base (.tup h)
  | lst h _ => exact .base (.lst h)
  | dic h => cases hn
theorem call_isiK' {X : Cx} (hK : X.K = K) : CallR X (.builtin "isinstance") (rIsi K) := hK ▸ call_isi
theorem gd_isi {d : Dt} {n : String} {b : Bool} (ha : GD ta ρ d) (hn : noD d = true) (hk : kitB (tyN d) n = some b) : GD (tCB (rIsi K) (tCons ta (tCons (tC (.ty n)) tNil))) ρ (.bl b) := fun ps bs σ H E Q q =>
  ha ps bs σ H E _ fun x H1 s1 h1 => ⟨x, .ty n, .type (tyN d), .type n, b, rfl, .ty n, tyx_of (h1.mono out_le) hn, kit_ty hk, q _ H1 s1 (.bl b)⟩
theorem call_isiTK {X : Cx} (hK : X.K = K) : CallR X (.builtin "isinstance") (rIsiT K) := hK ▸ call_isiT
theorem gd_isi2 {d : Dt} {n m : String} {b : Bool} (ha : GD ta ρ d) (hn : noD d = true) (hk : PySem.W.kitAny K (.type (tyN d)) [.type n, .type m] = some b) :
    GD (tCB (rIsiT K) (tCons ta (tCons (tTup (tCons (tC (.ty n)) (tCons (tC (.ty m)) tNil))) tNil))) ρ (.bl b) := fun ps bs σ H E Q q =>
  ha ps bs σ H E _ fun x H1 s1 h1 => ⟨by show 2 ≤ sizeLine; rw [sizeLine_eq]; decide, fun p hp => by
    have e := same_new (o := .tup [.ty n, .ty m]) hp
    exact ⟨x, p, [.ty n, .ty m], .type (tyN d), [.type n, .type m], b, rfl, upd_same, .cons (.ty n) (.cons (.ty m) .nil), tyx_of ((h1.mono out_le).mono e) hn, hk, q _ _ (s1.trans e) (.bl b)⟩⟩
end
end DL
set_option maxHeartbeats 1000000
/-! Sorted cells; a dict's keys walked, listed, sorted. -/
namespace DL
open PySem PySem.Spec PyProof.Rows L2

/-! cells in order -/
theorem cc_inj {a b : Cell} (ha : Bc a) (hb : Bc b) (h : cc a = cc b) : a = b := by
  unfold cc at h
  obtain ⟨⟨a1, a2⟩, a3, a4⟩ := ha
  obtain ⟨⟨b1, b2⟩, b3, b4⟩ := hb
  refine Prod.ext ?_ ?_ <;> omega
def insC (c : Cell) : List Cell → List Cell
  | [] => [c]
  | d :: r => if cc c ≤ cc d then c :: d :: r else d :: insC c r
def sortC : List Cell → List Cell
  | [] => []
  | c :: r => insC c (sortC r)
theorem insC_perm (c : Cell) : ∀ l, (insC c l).Perm (c :: l)
  | [] => List.Perm.refl _
  | d :: r => by
    unfold insC
    split
    · exact List.Perm.refl _
    · exact ((insC_perm c r).cons d).trans (List.Perm.swap c d r)
theorem sortC_perm : ∀ l, (sortC l).Perm l
  | [] => List.Perm.refl _
  | c :: r => (insC_perm c (sortC r)).trans ((sortC_perm r).cons c)
theorem insC_sorted (c : Cell) : ∀ l, l.Pairwise (fun a b => cc a ≤ cc b) → (insC c l).Pairwise (fun a b => cc a ≤ cc b)
  | [], _ => List.pairwise_singleton _ _
  | d :: r, h => by
    obtain ⟨h1, h2⟩ := List.pairwise_cons.mp h
    unfold insC
    split
    · rename_i e
      refine List.pairwise_cons.mpr ⟨fun x hx => ?_, h⟩
      rcases List.mem_cons.mp hx with z | z
      · rw [z]; exact e
      · exact Int.le_trans e (h1 x z)
    · rename_i e
      refine List.pairwise_cons.mpr ⟨fun x hx => ?_, insC_sorted c r h2⟩
      rcases List.mem_cons.mp ((insC_perm c r).mem_iff.mp hx) with z | z
      · rw [z]; omega
      · exact h1 x z
theorem sortC_sorted : ∀ l, (sortC l).Pairwise (fun a b => cc a ≤ cc b)
  | [] => List.Pairwise.nil
  | c :: r => insC_sorted c _ (sortC_sorted r)
theorem sorted_unique : ∀ {l m : List Cell}, l.Perm m → l.Pairwise (fun a b => cc a ≤ cc b) → m.Pairwise (fun a b => cc a ≤ cc b) → (∀ c ∈ l, Bc c) → l = m
  | [], m, p, _, _, _ => (List.nil_perm.mp p).symm
  | a :: l, [], p, _, _, _ => by cases (List.perm_nil.mp p)
  | a :: l, b :: m, p, h1, h2, hb => by
    obtain ⟨a1, a2⟩ := List.pairwise_cons.mp h1
    obtain ⟨b1, b2⟩ := List.pairwise_cons.mp h2
    have ba : Bc a := hb a List.mem_cons_self
    have bb : Bc b := hb b (p.mem_iff.mpr List.mem_cons_self)
    have e : a = b := by
      refine cc_inj ba bb (Int.le_antisymm ?_ ?_)
      · rcases List.mem_cons.mp (p.mem_iff.mpr (List.mem_cons_self (a := b))) with z | z
        · rw [z]; exact Int.le_refl _
        · exact a1 b z
      · rcases List.mem_cons.mp (p.mem_iff.mp (List.mem_cons_self (a := a))) with z | z
        · rw [z]; exact Int.le_refl _
        · exact b1 a z
    subst e
    rw [sorted_unique ((List.perm_cons a).mp p) a2 b2 fun c hc => hb c (List.mem_cons_of_mem _ hc)]
theorem sortC_unique {l m : List Cell} (p : l.Perm m) (h : l.Pairwise (fun a b => cc a ≤ cc b)) (hb : ∀ c ∈ l, Bc c) : l = sortC m :=
  sorted_unique (p.trans (sortC_perm m).symm) h (sortC_sorted m) hb
theorem sortC_mem {l : List Cell} {c : Cell} : c ∈ sortC l ↔ c ∈ l := (sortC_perm l).mem_iff
theorem sortC_len (l : List Cell) : (sortC l).length = l.length := (sortC_perm l).length_eq
/-- one order for all lists of the same members -/
theorem sortC_congr {l m : List Cell} (hl : l.Nodup) (hm : m.Nodup) (h : ∀ c, c ∈ l ↔ c ∈ m) (hb : ∀ c ∈ l, Bc c) : sortC l = sortC m :=
  sortC_unique ((sortC_perm l).trans ((List.perm_ext_iff_of_nodup hl hm).mpr h)) (sortC_sorted l) fun c hc => hb c (sortC_mem.mp hc)
theorem code_cc (c : Cell) : TS.code 64 [c.1, c.2] = cc c := code_pair c.1 c.2
theorem bd_cell {c : Cell} (h : Bc c) : TS.Bd 64 [c.1, c.2] := by
  intro m hm
  rcases List.mem_cons.mp hm with z | z
  · rw [z]; exact h.1
  · rw [List.mem_singleton.mp z]; exact h.2

/-! a list of addresses of cells -/
theorem refs_of_cells {H : Hp} : ∀ {cs : List Cell} {xs : List V}, IsAll H xs (cs.map dCell) → ∃ L : List (Addr × Cell), xs = L.map (fun p => V.ref p.1) ∧ cs = L.map (·.2) ∧ ∀ p ∈ L, H p.1 = some (.tup ((ck p.2).map kV))
  | [], _, .nil => ⟨[], rfl, rfl, fun p h => by cases h⟩
  | c :: cs, _, .cons h t => by
    obtain ⟨L, e1, e2, e3⟩ := refs_of_cells t
    obtain ⟨a, rfl, ha⟩ := is_cell h
    refine ⟨(a, c) :: L, by rw [e1]; rfl, by rw [e2]; rfl, fun p hp => ?_⟩
    rcases List.mem_cons.mp hp with z | z
    · subst z; exact ha
    · exact e3 p z
theorem cells_of_refs {H : Hp} : ∀ {L : List (Addr × Cell)}, (∀ p ∈ L, H p.1 = some (.tup ((ck p.2).map kV))) → IsAll H (L.map fun p => V.ref p.1) ((L.map (·.2)).map dCell)
  | [], _ => .nil
  | p :: L, h => .cons (is_cell_of (h p List.mem_cons_self)) (cells_of_refs fun q hq => h q (List.mem_cons_of_mem _ hq))
section
variable {ρ : List Sl} {ta tb te td : TE} {K : PySem.W.Frag} {ps : List Addr} {bs : List (List Addr × Hp)} {H H' : Hp} {σ : L2.St}
theorem perm_lift {α β : Type} {f : α → β} : ∀ {l : List α} {m : List β}, m.Perm (l.map f) → ∃ l' : List α, l'.Perm l ∧ m = l'.map f := by
  intro l m h
  generalize e : l.map f = n at h
  induction h generalizing l with
  | nil =>
    have : l = [] := List.map_eq_nil_iff.mp e
    subst this
    exact ⟨[], List.Perm.refl _, rfl⟩
  | @cons x m n p ih =>
    cases l with
    | nil => cases e
    | cons a r =>
      rw [List.map_cons] at e
      injection e with e1 e2
      obtain ⟨l', h1, h2⟩ := ih e2
      exact ⟨a :: l', h1.cons a, by rw [List.map_cons, h2, e1]⟩
  | swap x y m =>
    match l, e with
    | a :: b :: r, e =>
      rw [List.map_cons, List.map_cons] at e
      injection e with e1 e2
      injection e2 with e2 e3
      exact ⟨b :: a :: r, List.Perm.swap _ _ _, by rw [List.map_cons, List.map_cons, e1, e2, e3]⟩
  | trans p q ih1 ih2 =>
    obtain ⟨l1, a1, a2⟩ := ih2 e
    obtain ⟨l2, b1, b2⟩ := ih1 a2.symm
    exact ⟨l2, b1.trans a1, b2⟩
/-- sorted(xs) of a list of cells -/
theorem cr_sortCK {X : Cx} (hK : X.K = K) : CallR X (.builtin "sorted") (rSortU K 2 64) := hK ▸ cr_sortT (by decide)
theorem gn_sortC {cs : List Cell} (ha : GD ta ρ (.seq true (cs.map dCell))) (hb : ∀ c ∈ cs, Bc c) (hl : cs.length < 64) : GN (tCB (rSortU K 2 64) (tCons ta tNil)) ρ (.seq true ((sortC cs).map dCell)) := fun ps bs σ H E Q q =>
  ha ps bs σ H E _ fun x H1 s1 h1 => by
    obtain ⟨a, xs, rfl, h2, h3⟩ := is_lst h1
    obtain ⟨L, e1, e2, e3⟩ := refs_of_cells h3
    have tI : ∀ p ∈ L, TupI K H1 (.ref p.1) [p.2.1, p.2.2] := fun p hp => ⟨p.1, rfl, SqT.of (out_some (e3 p hp)).1⟩
    refine ⟨a, xs, rfl, SqL.of (out_some h2).1, by rw [h3.length, List.length_map]; exact hl, fun x hx => ?_, fun ys p hp hs hn => ?_⟩
    · rw [e1] at hx
      obtain ⟨p, hp, rfl⟩ := List.mem_map.mp hx
      refine ⟨_, tI p hp, rfl, bd_cell (hb _ ?_)⟩
      rw [e2]
      exact List.mem_map.mpr ⟨p, hp, rfl⟩
    · rw [e1] at hp
      obtain ⟨L', pm, rfl⟩ := perm_lift hp
      have e : L'.map (·.2) = sortC cs := by
        refine sortC_unique (by rw [e2]; exact pm.map _) ?_ fun c hc => ?_
        · rw [List.pairwise_map]
          rw [List.pairwise_map] at hs
          refine List.Pairwise.imp_of_mem (fun {u v} hu hv h => ?_) hs
          have := h _ _ (tI u (pm.mem_iff.mp hu)) (tI v (pm.mem_iff.mp hv))
          rw [code_cc, code_cc] at this
          exact this
        · obtain ⟨p, hp, rfl⟩ := List.mem_map.mp hc
          refine hb _ ?_
          rw [e2]
          exact List.mem_map.mpr ⟨p, pm.mem_iff.mp hp, rfl⟩
      refine q p _ (Same.free s1 hn) (s1.trans (same_new hn)) ⟨_, upd_same, ?_⟩
      rw [← e]
      have sm : Same (out H1 ps) (out (upd H1 p (.lst (L'.map fun p => V.ref p.1))) (p :: ps)) := same_wide (same_new hn) hn
      exact cells_of_refs fun r hr => sm _ _ (e3 r (pm.mem_iff.mp hr))

/-! list(d) -/
theorem keys_list {H : Hp} : ∀ {kvs : List (Cell × V)} {zs : List Addr}, IsKeys H (rawD kvs) zs → IsAll H (zs.map V.ref) ((kvs.map (·.1)).map dCell)
  | [], _, h => by cases h; exact .nil
  | kv :: r, _, h => by
    cases h with
    | cons a t => exact .cons (is_cell_of a) (keys_list t)
def rListDQ : List V → Hp → VK → Prop := fun xs H Q => ∃ d kvs, xs = [V.ref d] ∧ Rd H d (.dT kvs) ∧ ∀ p bs, H p = none → IsKeys H kvs bs → Q (.ref p) (upd H p (.lst (bs.map V.ref)))
theorem call_listDQ {X : Cx} (hc : X.calm = true) : CallR X (.type "list") rListDQ := call_list_dT hc
theorem isKeys_out (E : En ps bs σ H ρ) : ∀ {kvs : List (List Key × V)} {zs : List Addr}, IsKeys H kvs zs → IsKeys (out H ps) kvs zs
  | _, _, .nil => .nil
  | _, _, .cons h t => .cons (out_of h (E.tup h)) (isKeys_out E t)
theorem gn_listD {kvs : List (Cell × V)} (hd : GM td ρ kvs) : GN (tCB rListDQ (tCons td tNil)) ρ (.seq true ((kvs.map (·.1)).map dCell)) := fun ps bs σ H E Q q =>
  hd ps bs σ H E _ fun a H1 s1 h1 => ⟨a, rawD kvs, rfl, h1, fun p zs hp hz =>
    q p _ (Same.free s1 hp) (s1.trans (same_new hp)) ⟨_, upd_same, (keys_list (isKeys_out (E.mono s1) hz)).mono (same_wide (same_new hp) hp)⟩⟩
end
end DL
set_option maxHeartbeats 1000000
/-! min of cells; sorted(d); comprehensions over a dict. -/
namespace DL
open PySem PySem.Spec PyProof.Rows L2

/-! min(xs) of a list of cells -/
def ltC (a b : Cell) : Bool := PySem.W.DatumOrd.lt a b
def minC (x : Cell) (xs : List Cell) : Cell := xs.foldl (fun a y => if ltC y a = true then y else a) x
def rMinC : List V → Hp → VK → Prop := fun xs H Q => ∃ (a : Addr) (c : Cell) (cs : List Cell), xs = [.ref a] ∧ (∃ ys, H a = some (.lst ys) ∧ IsAll H ys ((c :: cs).map dCell)) ∧ ∀ v, Is H v (dCell (minC c cs)) → Q v H
theorem hold_cells {X : Cx} {pins : List (Addr × Obj)} {σ : L2.St} {H : Hp} {s : Shared} (I : Inv X pins σ H s) : ∀ {cs : List Cell} {ys : List V} {us : List Value}, IsAll H ys (cs.map dCell) → Vals ys us → PySem.W.HoldAll s.heap us cs
  | [], _, _, .nil, .nil => ⟨[], .nil⟩
  | c :: cs, _, _, .cons h t, .cons r rr => by
    obtain ⟨as, h2⟩ := hold_cells I t rr
    obtain ⟨b, rfl, hb⟩ := is_cell h
    cases r
    obtain ⟨_, its, rv, tt⟩ := I.hok b _ hb
    obtain ⟨u, v, rfl, r1, r2⟩ := vals2 rv
    obtain ⟨t1, rfl⟩ := r1
    obtain ⟨t2, rfl⟩ := r2
    obtain ⟨bs, h3⟩ := PySem.W.holds_pair (x := c.1) (y := c.2) tt (PySem.W.holds_int c.1 t1) (PySem.W.holds_int c.2 t2)
    exact ⟨bs ++ as, .cons h3 h2⟩
theorem cr_minC {X : Cx} (hc : X.calm = true) (hu : X.A.units + 64 < cLine) : CallR X (.builtin "min") rMinC := by
  rintro pins s σ H xs us Q I r ⟨a, c, cs, rfl, ⟨ys, ha, hy⟩, q⟩
  rw [Vals.ref1 r]
  obtain ⟨its, rv, pl, hz⟩ := I.list (SqL.of ha)
  have HA := hold_cells I hy rv
  refine PySem.W.min_list_datum (I.ok.hd hc) pl.isList (x := c) (xs := cs) HA (by show X.A.units + 1 + 1 < cLine; omega) fun i v h' tk hi hm hk => ?_
  have hi' : its[i]? = some v := by simpa using hi
  obtain ⟨y, hy1, hy2⟩ : ∃ y, ys[i]? = some y ∧ RelV y v := by
    cases e : ys[i]? with
    | none =>
      have := rv.none_of e
      rw [hi'] at this
      cases this
    | some y =>
      obtain ⟨u, h1, h2⟩ := rv.get e
      rw [hi'] at h1
      cases h1
      exact ⟨y, rfl, h2⟩
  obtain ⟨d, hd1, hd2⟩ := hy.getV hy1
  rw [List.getElem?_map] at hd1
  cases e : (c :: cs)[i]? with
  | none => rw [e] at hd1; cases hd1
  | some c' =>
    rw [e] at hd1
    cases hd1
    have h3 : PySem.W.HoldAll s.heap [v] [c'] := hold_cells I (cs := [c']) (.cons hd2 .nil) (.cons hy2 .nil)
    obtain ⟨as, h3⟩ := h3
    have e2 : c' = minC c cs := by
      obtain ⟨bs, h4⟩ := hm
      cases h3 with
      | cons h6 _ =>
        have k : PySem.W.Holds h' v c' := PySem.W.Holds.keeps hk ⟨_, h6⟩
        obtain ⟨_, h7⟩ := k
        have e3 := SeqAt.Reads.unique _ _ v _ _ (by simp [PySem.W.Datum.toD, PyData.canLay0, PyData.canLayAll0]) h7 h4
        have e4 : PyData.tuple [.int c'.1, .int c'.2] = PyData.tuple [.int (minC c cs).1, .int (minC c cs).2] := e3
        injection e4 with e4
        injection e4 with e5 e6
        injection e6 with e6
        injection e5 with e5
        injection e6 with e6
        exact Prod.ext e5 e6
    subst e2
    exact ⟨y, H, I.kept hk, hy2, q y hd2⟩
section
variable {ρ : List Sl} {ta tb te td : TE} {K : PySem.W.Frag} {ps : List Addr} {bs : List (List Addr × Hp)} {H H' : Hp} {σ : L2.St}
theorem gd_minC {c : Cell} {cs : List Cell} (ha : GD ta ρ (.seq true ((c :: cs).map dCell))) : GD (tCB rMinC (tCons ta tNil)) ρ (dCell (minC c cs)) := fun ps bs σ H E Q q =>
  ha ps bs σ H E _ fun x H1 s1 h1 => by
    obtain ⟨a, xs, rfl, h2, h3⟩ := is_lst h1
    refine ⟨a, c, cs, rfl, ⟨xs, (out_some h2).1, h3.mono out_le⟩, fun v hv => q v H1 s1 ?_⟩
    obtain ⟨b, rfl, hb⟩ := is_cell hv
    exact is_cell_of (out_of hb ((E.mono s1).tup hb))

/-! sorted(d) of a dict by cells -/
def rSortD : List V → Hp → VK → Prop := fun xs H Q => ∃ (a : Addr) (kvs : List (Cell × V)), xs = [.ref a] ∧ Rd H a (.dT (rawD kvs)) ∧ kvs.length < 64 ∧ (∀ kv ∈ kvs, Bc kv.1) ∧
  ∀ (L : List (Addr × Cell)) (p : Addr), (∀ q ∈ L, H q.1 = some (.tup ((ck q.2).map kV))) → L.map (·.2) = sortC (kvs.map (·.1)) → H p = none → Q (.ref p) (upd H p (.lst (L.map fun q => V.ref q.1)))
theorem kt_refs {H : Hp} : ∀ {kvs : List (Cell × V)} {xs : List (List Key × Addr × Value)}, KT H (rawD kvs) xs → ∃ L : List (Addr × Cell), xs.map (fun x => x.2.1) = L.map (·.1) ∧ L.map (·.2) = kvs.map (·.1) ∧ ∀ q ∈ L, H q.1 = some (.tup ((ck q.2).map kV))
  | [], _, h => by cases h; exact ⟨[], rfl, rfl, fun q h => by cases h⟩
  | kv :: r, _, h => by
    cases h with
    | cons a t =>
      rename_i x xs
      obtain ⟨L, e1, e2, e3⟩ := kt_refs t
      refine ⟨(x.2.1, kv.1) :: L, by rw [List.map_cons, List.map_cons, e1], by rw [List.map_cons, List.map_cons, e2], fun q hq => ?_⟩
      rcases List.mem_cons.mp hq with z | z
      · subst z; exact a.2.1
      · exact e3 q z
theorem vals_refC : ∀ L : List (Addr × Cell), Vals (L.map fun q => V.ref q.1) (L.map fun q => Value.ref q.1)
  | [] => .nil
  | _ :: r => .cons rfl (vals_refC r)
theorem tupInts_cell {X : Cx} {pins : List (Addr × Obj)} {σ : L2.St} {H : Hp} {s : Shared} (I : Inv X pins σ H s) {b : Addr} {c : Cell} (h : H b = some (.tup ((ck c).map kV))) : TS.TupInts s.heap (.ref b) [c.1, c.2] :=
  tupI_raw I (SqT.of h)
theorem cr_sortD {X : Cx} (hc : X.calm = true) : CallR X (.builtin "sorted") rSortD := by
  rintro pins s σ H xs us Q I r ⟨a, kvs, rfl, hd, h64, hb, q⟩
  rw [Vals.ref1 r]
  obtain ⟨z, hs, ks, pr, o, es, ep, ho, hx, hdt, he, hn⟩ := (show ObjOk X.prog X.w H s.heap a (.dT (rawD kvs)) from hd.ok I.hok)
  obtain ⟨L, e1, e2, e3⟩ := kt_refs pr
  have l1 : es.size = ks.length := size_of_entries he
  have l2 : kvs.length = ks.length := by
    have := Paired.length pr
    rw [rawD_length] at this
    exact this
  have l3 : L.length = ks.length := by
    have := congrArg List.length e1
    rw [List.length_map, List.length_map] at this
    exact this.symm
  refine Calls.call_function_entry PyProof.Rows.kind_sorted PyProof.Rows.plain_sorted PyProof.Rows.entry_sorted (PyProof.Rows.args_sorted1 _) ?_
  unfold Builtin.«sorted»
  refine wpAny_bind (m := checkCount "sorted" 1 1 _) (wpAny_pure ?_)
  refine wpAny_bind (PySem.W.kdu_collect (A := X.A.in1) (kdl_raw hs hx hdt) (I.ok.hd hc) ho (by have := sizeLine_eq; omega) fun h' tk acc hk hacc => ?_)
  have eacc : acc.toList = L.map fun q => Value.ref q.1 := by
    have hl : acc.toList.length = L.length := by rw [Array.length_toList, hacc.1, l1, l3]
    refine List.ext_getElem? fun j => ?_
    cases hj : acc.toList[j]? with
    | none =>
      rw [List.getElem?_eq_none (by rw [List.length_map, ← hl]; exact List.getElem?_eq_none_iff.mp hj)]
    | some v =>
      obtain ⟨en, hen, hv⟩ := hacc.2 j v (by rw [← Array.getElem?_toList]; exact hj)
      have qe := entry_at he j
      rw [hen] at qe
      cases hb' : ks[j]? with
      | none => rw [hb'] at qe; cases qe
      | some x =>
        rw [hb'] at qe
        have e5 : en = entryOfKey (tupleKind (mixKind X.prog X.w)) x := Option.some.inj qe
        have e6 : (L.map (·.1))[j]? = some x.2.1 := by rw [← e1, List.getElem?_map, hb']; rfl
        rw [List.getElem?_map] at e6 ⊢
        cases hL : L[j]? with
        | none => rw [hL] at e6; cases e6
        | some q' =>
          rw [hL] at e6
          have e7 : q'.1 = x.2.1 := Option.some.inj e6
          rw [hv, e5]
          show some (Value.ref x.2.1) = some (Value.ref q'.1)
          rw [e7]
  have hal : acc.toList.length < 64 := by rw [eacc, List.length_map, l3, ← l2]; exact h64
  have I1 : Inv X pins σ H { s with heap := h', toks := tk } := I.kept hk
  refine wpAny_bind (wpAny_newList ?_ (by have := sizeLine_eq; omega))
  have hoL : (h'.push (seqObj "list" acc.toList.toArray 0)).get? h'.objs.size = some (seqObj "list" acc.toList.toArray 0) := Heap.get?_push_size _ rfl
  show wpAny _ _ _ _ _ { s with heap := h'.push (seqObj "list" acc.toList.toArray 0), toks := tk }
  have tI : ∀ q ∈ L, TS.TupInts (h'.push (seqObj "list" acc.toList.toArray 0)) (.ref q.1) [q.2.1, q.2.2] := fun q hq => (tupInts_cell I1 (e3 q hq)).keeps fun b o e _ => Heap.get?_push_of_some _ e
  have x : TS.TupsOk (h'.push (seqObj "list" acc.toList.toArray 0)) 2 64 acc.toList := fun v hv => by
    rw [eacc] at hv
    obtain ⟨q', hq, rfl⟩ := List.mem_map.mp hv
    refine ⟨_, tI q' hq, rfl, bd_cell ?_⟩
    have : q'.2 ∈ kvs.map (·.1) := by rw [← e2]; exact List.mem_map.mpr ⟨q', hq, rfl⟩
    obtain ⟨kv, hkv, e⟩ := List.mem_map.mp this
    rw [← e]
    exact hb kv hkv
  refine wpAny_bind (wpAny_holding (TS.call_sort_tups (s := { s with heap := h'.push (seqObj "list" acc.toList.toArray 0), toks := tk }) hoL hal (by decide) x fun out a1 a2 => ?_))
  obtain ⟨e', he'⟩ := PyProof.Rows.sortedHeap_at (vs := acc.toList) (out := out) hoL
  rw [eacc] at a1
  obtain ⟨L', pm, eo⟩ := perm_lift a1
  have es' : L'.map (·.2) = sortC (kvs.map (·.1)) := by
    refine sortC_unique (by rw [← e2]; exact pm.map _) ?_ fun c hc => ?_
    · rw [List.pairwise_map]
      rw [eo, List.pairwise_map] at a2
      refine List.Pairwise.imp_of_mem (fun {u v} hu hv h => ?_) a2
      have f1 := (tI u (pm.mem_iff.mp hu)).ints
      have f2 := (tI v (pm.mem_iff.mp hv)).ints
      rw [f1, f2, code_cc, code_cc] at h
      exact h
    · obtain ⟨q', hq', rfl⟩ := List.mem_map.mp hc
      have : q'.2 ∈ kvs.map (·.1) := by rw [← e2]; exact List.mem_map.mpr ⟨q', pm.mem_iff.mp hq', rfl⟩
      obtain ⟨kv, hkv, e⟩ := List.mem_map.mp this
      rw [← e]
      exact hb kv hkv
  have hlen : (L'.map fun q => V.ref q.1).length ≤ sizeLine := by
    rw [List.length_map, pm.length_eq, l3, ← l2, sizeLine_eq]
    omega
  have rv : Vals (L'.map fun q => V.ref q.1) out.toList := by
    rw [eo]
    exact vals_refC L'
  refine wpAny_pure ⟨_, rfl, .ref h'.objs.size, upd H h'.objs.size (.lst (L'.map fun q => V.ref q.1)), I1.laid (t' := tk) (fun b u e => ?_) (Nat.le_refl _) ⟨hlen, out.toList, e', rv, by rw [Array.toArray_toList]; exact he'⟩, rfl,
    q L' _ (fun q' hq' => e3 q' (pm.mem_iff.mp hq')) es' (I1.hok.fresh (Nat.le_refl _))⟩
  have hb : b < h'.objs.size := Heap.lt_size e
  rw [PyProof.Rows.sortedHeap_old (Nat.ne_of_lt hb) (by rw [size_push']; exact Nat.lt_succ_of_lt hb)]
  exact Heap.get?_push_of_some _ e
theorem gn_sortD {kvs : List (Cell × V)} (hd : GM td ρ kvs) (hl : kvs.length < 64) (hb : ∀ kv ∈ kvs, Bc kv.1) : GN (tCB rSortD (tCons td tNil)) ρ (.seq true ((sortC (kvs.map (·.1))).map dCell)) := fun ps bs σ H E Q q =>
  hd ps bs σ H E _ fun a H1 s1 h1 => ⟨a, kvs, rfl, h1, hl, hb, fun L p e1 e2 hn => q p _ (Same.free s1 hn) (s1.trans (same_new hn)) ⟨_, upd_same, by
    rw [← e2]
    exact cells_of_refs fun r hr => same_wide (ps := ps) (same_new hn) hn _ _ (out_of (e1 r hr) ((E.mono s1).tup (e1 r hr)))⟩⟩
end
end DL
namespace DL
open PySem PySem.Spec PyProof.Rows L2

/-! a dict that stands locked while its keys are walked -/
def lockB (a : Addr) (bs : List (List Addr × Hp)) : List (List Addr × Hp) := bs.map fun e => (a :: e.1, e.2)
section
variable {ps : List Addr} {bs : List (List Addr × Hp)} {H H' : Hp} {σ : L2.St} {ρ : List Sl} {a : Addr} {kvs : List (List Key × V)} {od : Obj}
theorem out_updC {o : HO} (ha : a ∉ ps) : out (upd H a o) ps = upd (out H ps) a o := by
  funext b
  unfold out upd
  by_cases e : b = a
  · subst e; simp [ha]
  · simp [e]
theorem rd_lock {b : Addr} {u : HO} (h : H a = some (.dT kvs)) (hb : Rd H b u) (hu : ∀ o w, u ≠ .frz o w) : Rd (upd H a (.frz od (.dT kvs))) b u := by
  by_cases e : b = a
  · subst e
    rcases hb with hb | ⟨o, hb⟩
    · rw [h] at hb
      cases hb
      exact .inr ⟨od, upd_same⟩
    · rw [h] at hb; cases hb
  · rcases hb with hb | ⟨o, hb⟩
    · exact .inl (by rw [upd_ne e]; exact hb)
    · exact .inr ⟨o, by rw [upd_ne e]; exact hb⟩
mutual
theorem Is.lock (h : H a = some (.dT kvs)) : ∀ {v : V} {d : Dt}, Is H v d → Is (upd H a (.frz od (.dT kvs))) v d
  | _, _, .non => .non
  | _, _, .bl b => .bl b
  | _, _, .int i => .int i
  | _, _, .str x => .str x
  | _, _, .tup h1 x => .tup (by rw [upd_ne (ne_of h1 h (fun z => by cases z))]; exact h1) (IsAll.lock h x)
  | _, _, .lst h1 x => .lst (by rw [upd_ne (ne_of h1 h (fun z => by cases z))]; exact h1) (IsAll.lock h x)
  | _, _, .dic h1 => .dic (rd_lock h h1 fun o w z => by cases z)
theorem IsAll.lock (h : H a = some (.dT kvs)) : ∀ {vs : List V} {ds : List Dt}, IsAll H vs ds → IsAll (upd H a (.frz od (.dT kvs))) vs ds
  | _, _, .nil => .nil
  | _, _, .cons x t => .cons (Is.lock h x) (IsAll.lock h t)
end
theorem rd_unlock {b : Addr} {u : HO} (h : H a = some (.frz od (.dT kvs))) (hb : Rd H b u) (hu : ∀ o w, u ≠ .frz o w) : Rd (upd H a (.dT kvs)) b u := by
  by_cases e : b = a
  · subst e
    rcases hb with hb | ⟨o, hb⟩
    · rw [h] at hb
      exact absurd (Option.some.inj hb).symm (hu _ _)
    · rw [h] at hb
      cases hb
      exact .inl upd_same
  · rcases hb with hb | ⟨o, hb⟩
    · exact .inl (by rw [upd_ne e]; exact hb)
    · exact .inr ⟨o, by rw [upd_ne e]; exact hb⟩
mutual
theorem Is.unlock (h : H a = some (.frz od (.dT kvs))) : ∀ {v : V} {d : Dt}, Is H v d → Is (upd H a (.dT kvs)) v d
  | _, _, .non => .non
  | _, _, .bl b => .bl b
  | _, _, .int i => .int i
  | _, _, .str x => .str x
  | _, _, .tup h1 x => .tup (by rw [upd_ne (ne_of h1 h (fun z => by cases z))]; exact h1) (IsAll.unlock h x)
  | _, _, .lst h1 x => .lst (by rw [upd_ne (ne_of h1 h (fun z => by cases z))]; exact h1) (IsAll.unlock h x)
  | _, _, .dic h1 => .dic (rd_unlock h h1 fun o w z => by cases z)
theorem IsAll.unlock (h : H a = some (.frz od (.dT kvs))) : ∀ {vs : List V} {ds : List Dt}, IsAll H vs ds → IsAll (upd H a (.dT kvs)) vs ds
  | _, _, .nil => .nil
  | _, _, .cons x t => .cons (Is.unlock h x) (IsAll.unlock h t)
end
theorem En.lock (E : En ps bs σ H ρ) (h : H a = some (.dT kvs)) (ha : a ∉ ps) : En ps (lockB a bs) σ (upd H a (.frz od (.dT kvs))) ρ where
  al := fun q hq => by
    have ne : q ≠ a := by rintro rfl; exact ha hq
    rw [upd_ne ne]
    exact E.al q hq
  ex := fun b hb x o hx h0 => by
    obtain ⟨e, he, rfl⟩ := List.mem_map.mp hb
    have h1 : x ∉ a :: e.1 := hx
    rw [List.mem_cons, not_or] at h1
    rw [upd_ne h1.1]
    exact E.ex e he x o h1.2 h0
  len := E.len
  sl := fun i s hs => by
    obtain ⟨o, h1, h2⟩ := E.sl i s hs
    refine ⟨o, h1, ?_⟩
    have ho : out H ps a = some (.dT kvs) := out_of h ha
    cases s with
    | un => trivial
    | raw v => exact h2
    | im d =>
      obtain ⟨v, k1, k2⟩ := h2
      exact ⟨v, k1, by rw [out_updC ha]; exact k2.lock ho⟩
    | ow p d =>
      refine ⟨h2.1, h2.2.1, ?_⟩
      have ne : p ≠ a := by rintro rfl; exact ha h2.2.1
      have h3 := h2.2.2
      cases d with
      | seq l ds =>
        cases l with
        | true =>
          obtain ⟨xs, k1, k2⟩ := h3
          exact ⟨xs, by rw [upd_ne ne]; exact k1, by rw [out_updC ha]; exact k2.lock ho⟩
        | false => exact h3.elim
      | dic kv =>
        show upd H a _ p = _
        rw [upd_ne ne]
        exact h3
      | non => exact h3.elim
      | bl _ => exact h3.elim
      | int _ => exact h3.elim
      | str _ => exact h3.elim
  ne := E.ne
  mine := fun i p d h1 b hb => by
    obtain ⟨e, he, rfl⟩ := List.mem_map.mp hb
    rcases E.mine i p d h1 e he with z | z
    · exact .inl (List.mem_cons_of_mem _ z)
    · exact .inr z
theorem En.unlock (E : En ps (lockB a bs) σ H ρ) (h : H a = some (.frz od (.dT kvs))) (ha : a ∉ ps) (hB : ∀ e ∈ bs, ∀ o, a ∉ e.1 → e.2 a = some o → o = .dT kvs) (hm : ∀ (i : Nat) p d, ρ[i]? = some (.ow p d) → ∀ e ∈ bs, p ∈ e.1 ∨ e.2 p = none) :
    En ps bs σ (upd H a (.dT kvs)) ρ where
  al := fun q hq => by
    have ne : q ≠ a := by rintro rfl; exact ha hq
    rw [upd_ne ne]
    exact E.al q hq
  ex := fun b hb x o hx h0 => by
    by_cases e : x = a
    · subst e
      rw [upd_same, hB b hb o hx h0]
    · rw [upd_ne e]
      refine E.ex (a :: b.1, b.2) (List.mem_map.mpr ⟨b, hb, rfl⟩) x o ?_ h0
      show x ∉ a :: b.1
      rw [List.mem_cons, not_or]
      exact ⟨e, hx⟩
  len := E.len
  sl := fun i s hs => by
    obtain ⟨o, h1, h2⟩ := E.sl i s hs
    refine ⟨o, h1, ?_⟩
    have ho : out H ps a = some (.frz od (.dT kvs)) := out_of h ha
    cases s with
    | un => trivial
    | raw v => exact h2
    | im d =>
      obtain ⟨v, k1, k2⟩ := h2
      exact ⟨v, k1, by rw [out_updC ha]; exact k2.unlock ho⟩
    | ow p d =>
      refine ⟨h2.1, h2.2.1, ?_⟩
      have ne : p ≠ a := by rintro rfl; exact ha h2.2.1
      have h3 := h2.2.2
      cases d with
      | seq l ds =>
        cases l with
        | true =>
          obtain ⟨xs, k1, k2⟩ := h3
          exact ⟨xs, by rw [upd_ne ne]; exact k1, by rw [out_updC ha]; exact k2.unlock ho⟩
        | false => exact h3.elim
      | dic kv =>
        show upd H a _ p = _
        rw [upd_ne ne]
        exact h3
      | non => exact h3.elim
      | bl _ => exact h3.elim
      | int _ => exact h3.elim
      | str _ => exact h3.elim
  ne := E.ne
  mine := hm
end

/-! the keys of a locked dict -/
theorem wd_keys {K : PySem.W.Frag} {ps : List Addr} {H : Hp} {a : Addr} {o : Obj} {kvs : List (Cell × V)} (h : H a = some (.frz o (.dT (rawD kvs)))) (ha : a ∉ ps) : WD (Itkt a o (rawD kvs)) ((kvs.map (·.1)).map dCell) H ps := fun qs hq => by
  have w := walk_keysT (d := a) (o := o) (kvs := rawD kvs)
  have hl : ((kvs.map (·.1)).map dCell).length = (rawD kvs).length := by rw [List.length_map, List.length_map, rawD_length]
  rw [hl]
  have h1 := out_fresh hq a _ (out_of h ha)
  refine w.mono (fun H1 g => (out_some (g.1 a _ h1)).1) fun i H1 x H2 hi g y => ?_
  obtain ⟨rfl, k, v, q, e1, rfl, e2⟩ := y
  unfold rawD at e1
  rw [List.getElem?_map] at e1
  cases e3 : kvs[i]? with
  | none => rw [e3] at e1; cases e1
  | some kv =>
    rw [e3] at e1
    cases e1
    have nq : q ∉ qs := fun z => by
      have := g.2 q z
      rw [e2] at this
      exact this
    refine ⟨Same.refl _, dCell kv.1, ?_, is_cell_of (out_of e2 nq)⟩
    rw [List.getElem?_map, List.getElem?_map, e3]
    rfl
/-- under a lock, or locked already -/
def tLockQ (t : TE) : TE := fun σ H Q => tLockE t σ H Q ∨ t σ H Q
theorem pe_lockQ {X : Cx} {e : Expr} {t : TE} (h : PE X e t) : PE X e (tLockQ t) := ⟨fun pins s σ H Q I hw => by
  rcases hw with hw | hw
  · exact (pe_lock h).run pins s σ H Q I hw
  · exact h.run pins s σ H Q I hw⟩
section
variable {ρ : List Sl}
theorem gn_lcK {i : Nat} {g : TG} {tt : TT} {te : TE} {vs : List Nat} {kvs : List (Cell × V)} {ρ' : Cell → List Sl} {b : Cell → Bool} {e : Cell → Dt} (hi : ρ[i]? = some (.im (.dic kvs))) (hn : kvs.length ≤ sizeLine)
    (hg : ∀ x ∈ kvs.map (·.1), GG g vs (dCell x) (wipeR ρ vs) (ρ' x)) (ht : ∀ x ∈ kvs.map (·.1), GT tt (ρ' x) (b x)) (he : ∀ x ∈ kvs.map (·.1), b x = true → GD te (ρ' x) (e x)) :
    GN (tLockQ (tLc (iKeys (tVar i)) g tt te vs)) ρ (.seq true (((kvs.map (·.1)).filter b).map e)) := fun ps bs σ H E Q q => by
  obtain ⟨v, h1, h2⟩ := E.im hi
  obtain ⟨a, rfl, h3⟩ := is_dic h2
  have core : ∀ (bs' : List (List Addr × Hp)) (H1 : Hp) (o : Obj), En ps bs' σ H1 ρ → H1 a = some (.frz o (.dT (rawD kvs))) → a ∉ ps → ∀ Q' : VK,
      (∀ p H', H1 p = none → Same H1 H' → Ow H' (p :: ps) p (.seq true (((kvs.map (·.1)).filter b).map e)) → Q' (.ref p) H') → tLc (iKeys (tVar i)) g tt te vs σ H1 Q' := fun bs' H1 o E1 hf ha Q' q' =>
    gn_lc_at (xs := kvs.map (·.1)) (f := dCell) E1 (fun R r => ⟨_, h1, a, o, rfl, .inr ⟨_, hf, r _ H1 (Same.refl H1) (wd_keys (K := default) hf ha)⟩⟩) (by rw [List.length_map]; exact hn) hg ht he Q' q'
  rcases h3 with h3 | ⟨o, h3⟩
  · obtain ⟨h4, ha⟩ := out_some h3
    refine .inl ⟨a, _, h4, trivial, fun od => core (lockB a bs) _ od (E.lock h4 ha) upd_same ha _ fun p H' hp s o' => ?_⟩
    have hfz := s a _ upd_same
    have pa : p ≠ a := by rintro rfl; rw [upd_same] at hp; cases hp
    have hp0 : H p = none := by rw [upd_ne pa] at hp; exact hp
    refine ⟨hfz, q p _ hp0 (fun x u hx => ?_) ?_⟩
    · by_cases z : x = a
      · subst z
        rw [upd_same, ← h4, hx]
      · rw [upd_ne z]
        exact s x u (by rw [upd_ne z]; exact hx)
    · obtain ⟨xs, k1, k2⟩ := o'
      refine ⟨xs, by rw [upd_ne pa]; exact k1, ?_⟩
      have hap : a ∉ p :: ps := by rw [List.mem_cons, not_or]; exact ⟨Ne.symm pa, ha⟩
      rw [out_updC hap]
      exact k2.unlock (out_of hfz hap)
  · obtain ⟨h4, ha⟩ := out_some h3
    exact .inr (core bs H o E h4 ha Q q)
end
end DL
set_option maxHeartbeats 1000000
/-! Comprehensions with two clauses; dicts of distinct cells. -/
namespace DL
open PySem PySem.Spec PyProof.Rows L2
section
variable {ρ : List Sl}
def noOw : List Sl → Bool
  | [] => true
  | .ow _ _ :: _ => false
  | _ :: r => noOw r
theorem noOw_get : ∀ {ρ : List Sl} {i : Nat} {p : Addr} {d : Dt}, noOw ρ = true → ρ[i]? = some (.ow p d) → False
  | [], _, _, _, _, h => by simp at h
  | .ow _ _ :: _, _, _, _, h, _ => by cases h
  | .un :: r, 0, _, _, _, h => by simp at h
  | .im _ :: r, 0, _, _, _, h => by simp at h
  | .raw _ :: r, 0, _, _, _, h => by simp at h
  | .un :: r, i + 1, _, _, h, e => noOw_get (ρ := r) (i := i) h (by simpa using e)
  | .im _ :: r, i + 1, _, _, h, e => noOw_get (ρ := r) (i := i) h (by simpa using e)
  | .raw _ :: r, i + 1, _, _, h, e => noOw_get (ρ := r) (i := i) h (by simpa using e)
theorem En.but {ps : List Addr} {bs : List (List Addr × Hp)} {σ : L2.St} {H H' : Hp} {D : Addr} (E : En (D :: ps) bs σ H ρ) (hB : ∀ e ∈ bs, D ∈ e.1 ∨ e.2 D = none) (hno : noOw ρ = true)
    (sb : ∀ a o, a ≠ D → H a = some o → H' a = some o) (hm : Mu (H' D)) : En (D :: ps) bs σ H' ρ where
  al := fun q hq => by
    by_cases e : q = D
    · rw [e]; exact hm
    · have := E.al q hq
      cases z : H q with
      | none => rw [z] at this; exact this.elim
      | some o => rw [sb q o e z]; rw [z] at this; exact this
  ex := fun b hb a o ha h0 => by
    have h := E.ex b hb a o ha h0
    refine sb a o ?_ h
    rintro rfl
    rcases hB b hb with z | z
    · exact ha z
    · rw [z] at h0; cases h0
  len := E.len
  sl := fun i s hs => by
    obtain ⟨o, u1, u2⟩ := E.sl i s hs
    refine ⟨o, u1, ?_⟩
    cases s with
    | un => trivial
    | raw v => exact u2
    | im d =>
      obtain ⟨v, v1, v2⟩ := u2
      refine ⟨v, v1, v2.mono fun a o h => ?_⟩
      obtain ⟨h1, h2⟩ := out_some h
      exact out_of (sb a o (fun z => h2 (z ▸ List.mem_cons_self)) h1) h2
    | ow p d => exact (noOw_get hno hs).elim
  ne := fun i j p d q e h1 _ _ => (noOw_get hno h1).elim
  mine := fun i p d h1 => (noOw_get hno h1).elim
def lc2R {α β : Type} (ys : α → List β) (b : α → β → Bool) (e : α → β → Dt) (xs : List α) : List Dt := xs.flatMap fun x => ((ys x).filter (b x)).map (e x)
theorem lc2R_take {α β : Type} {ys : α → List β} {b : α → β → Bool} {e : α → β → Dt} {xs : List α} {i : Nat} {x : α} (h : xs[i]? = some x) : lc2R ys b e (xs.take (i + 1)) = lc2R ys b e (xs.take i) ++ ((ys x).filter (b x)).map (e x) := by
  rw [take_get h]
  unfold lc2R
  rw [List.flatMap_append]
  simp
theorem gn_lc2 {α β : Type} {wi wi1 : TI} {g g1 : TG} {tt1 : TT} {te : TE} {vs vs1 : List Nat} {xs : List α} {f : α → Dt} {ρ1 : α → List Sl} {ys : α → List β} {f1 : α → β → Dt} {ρ2 : α → β → List Sl} {b : α → β → Bool} {e : α → β → Dt} (hno : ∀ x ∈ xs, noOw (ρ1 x) = true)
    (hw : GW wi ρ (xs.map f)) (hg : ∀ x ∈ xs, GG g vs (f x) (wipeR ρ vs) (ρ1 x)) (hw1 : ∀ x ∈ xs, GW wi1 (ρ1 x) ((ys x).map (f1 x))) (hg1 : ∀ x ∈ xs, ∀ y ∈ ys x, GG g1 vs1 (f1 x y) (wipeR (ρ1 x) vs1) (ρ2 x y))
    (ht1 : ∀ x ∈ xs, ∀ y ∈ ys x, GT tt1 (ρ2 x y) (b x y)) (he : ∀ x ∈ xs, ∀ y ∈ ys x, b x y = true → GD te (ρ2 x y) (e x y)) (hn : ∀ (x : α) (i j : Nat), xs[i]? = some x → j < (ys x).length → (lc2R ys b e (xs.take i)).length + j < sizeLine) :
    GN (tLc2 wi g tYes wi1 g1 tt1 te vs vs1) ρ (.seq true (lc2R ys b e xs)) := fun ps bs σ H E Q q =>
  hw ps bs σ H E _ fun J H1 s1 w D hD => by
    have wk := w (D :: ps) (fun q hq => (List.mem_cons.mp hq).elim (fun z => .inr (z ▸ hD)) .inl)
    rw [List.length_map] at wk
    have E1 := E.mono s1
    let Pv : Nat → Hp → Prop := fun i H2 => Same H1 H2 ∧ ∃ zs, H2 D = some (.lst zs) ∧ IsAll (out H2 (D :: ps)) zs (lc2R ys b e (xs.take i))
    have G0 : ∀ i H2, Pv i H2 → Same (out H1 (D :: ps)) (out H2 (D :: ps)) ∧ ∀ q ∈ D :: ps, Mu (H2 q) := by
      rintro i H2 ⟨s2, zs, h1, _⟩
      refine ⟨fun a o h => ?_, fun q hq => ?_⟩
      · obtain ⟨h2, h3⟩ := out_some h
        exact out_of (s2 a o h2) h3
      · rcases List.mem_cons.mp hq with r | r
        · rw [r, h1]; trivial
        · exact (E1.mono s2).al q r
    refine ⟨fun i m H2 => m = xs.length - i ∧ i ≤ xs.length ∧ Pv i H2, ⟨_, rfl, Nat.zero_le _, same_new hD, [], upd_same, .nil⟩, ?_⟩
    rintro i m H2 ⟨rfl, hi, pv⟩
    by_cases hlt : i < xs.length
    · have hxi : xs[i]? = some xs[i] := List.getElem?_eq_getElem hlt
      have mem : xs[i] ∈ xs := List.getElem_mem hlt
      refine .inr ⟨wk.goes i H2 hlt (G0 i H2 pv), Pv (i + 1), fun H' p' => ⟨xs.length - (i + 1), by omega, rfl, hlt, p'⟩, fun x H3 y => ?_⟩
      obtain ⟨s3, d, hd, hx⟩ := wk.yields i H2 x H3 hlt (G0 i H2 pv) y
      obtain ⟨s2, zs, h1, h2⟩ := pv
      have ed : d = f xs[i] := by
        rw [List.getElem?_map, hxi] at hd
        exact (Option.some.inj hd).symm
      subst ed
      have E3 : En (D :: ps) bs σ H3 ρ := E1.wide (s2.trans s3) hD (by rw [s3 _ _ h1]; trivial)
      refine hg _ mem (D :: ps) bs _ H3 x (E3.wipe vs) hx _ fun σ4 H4 s4 E4 l4 k4 => ⟨?_, ?_⟩
      · refine (wipe_ext l4 k4).trans (wipe_ext (wipe_length _ _) fun j hj => ?_)
        rw [wipe_get, if_neg hj]
      · unfold tYes
        dsimp only
        rw [if_pos rfl]
        refine hw1 _ mem (D :: ps) bs σ4 H4 E4 _ fun J1 H5 s5 w1 => ?_
        have wk1 := w1 (D :: ps) (fun q hq => .inl hq)
        rw [List.length_map] at wk1
        have E5 := E4.mono s5
        have f5 : Same H2 H5 := (s3.trans s4).trans s5
        have hB : ∀ e ∈ bs, D ∈ e.1 ∨ e.2 D = none := fun e he => by
          by_cases z : D ∈ e.1
          · exact .inl z
          · refine .inr ?_
            cases z2 : e.2 D with
            | none => rfl
            | some o => rw [E1.ex e he D o z z2] at hD; cases hD
        let Pv1 : Nat → Hp → Prop := fun j H6 => Same H1 H6 ∧ (∀ a o, a ≠ D → H5 a = some o → H6 a = some o) ∧ ∃ zs, H6 D = some (.lst zs) ∧ IsAll (out H6 (D :: ps)) zs (lc2R ys b e (xs.take i) ++ (((ys xs[i]).take j).filter (b xs[i])).map (e xs[i]))
        have e1 : ∀ j H6, Pv1 j H6 → En (D :: ps) bs σ4 H6 (ρ1 xs[i]) := by
          rintro j H6 ⟨q1, q2, zs', q3, _⟩
          exact E5.but hB (hno _ mem) q2 (by rw [q3]; trivial)
        have G1 : ∀ j H6, Pv1 j H6 → Same (out H5 (D :: ps)) (out H6 (D :: ps)) ∧ ∀ q ∈ D :: ps, Mu (H6 q) := by
          rintro j H6 hp
          refine ⟨fun a o h => ?_, (e1 j H6 hp).al⟩
          obtain ⟨h3, h4⟩ := out_some h
          exact out_of (hp.2.1 a o (fun z => h4 (z ▸ List.mem_cons_self)) h3) h4
        refine ⟨fun j k H6 => k = (ys xs[i]).length - j ∧ j ≤ (ys xs[i]).length ∧ Pv1 j H6, ⟨_, rfl, Nat.zero_le _, s2.trans f5, fun a o _ h => h, zs, f5 _ _ h1, ?_⟩, ?_⟩
        · simp only [List.take_zero, List.filter_nil, List.map_nil, List.append_nil]
          exact h2.mono (out_mono f5)
        rintro j k H6 ⟨rfl, hj, pv1⟩
        by_cases hjt : j < (ys xs[i]).length
        · have hyj : (ys xs[i])[j]? = some (ys xs[i])[j] := List.getElem?_eq_getElem hjt
          have memy : (ys xs[i])[j] ∈ ys xs[i] := List.getElem_mem hjt
          refine .inr ⟨wk1.goes j H6 hjt (G1 j H6 pv1), Pv1 (j + 1), fun H' p' => ⟨(ys xs[i]).length - (j + 1), by omega, rfl, hjt, p'⟩, fun x' H7 y' => ?_⟩
          obtain ⟨s7, d', hd', hx'⟩ := wk1.yields j H6 x' H7 hjt (G1 j H6 pv1) y'
          have ed' : d' = f1 xs[i] (ys xs[i])[j] := by
            rw [List.getElem?_map, hyj] at hd'
            exact (Option.some.inj hd').symm
          subst ed'
          have E6 := e1 j H6 pv1
          obtain ⟨q1, q2, zs', q3, q4⟩ := pv1
          refine hg1 _ mem _ memy (D :: ps) bs _ H7 x' ((E6.mono s7).wipe vs1) hx' _ fun σ8 H8 s8 E8 l8 k8 => ⟨?_, ht1 _ mem _ memy _ bs σ8 H8 E8 _ fun H9 s9 => ?_⟩
          · refine (wipe_ext l8 k8).trans (wipe_ext (wipe_length _ _) fun j hj => ?_)
            rw [wipe_get, if_neg hj]
          · have f9 : Same H6 H9 := (s7.trans s8).trans s9
            cases hb : b xs[i] (ys xs[i])[j] with
            | true =>
              refine iteT (he _ mem _ memy hb _ bs σ8 H9 (E8.mono s9) _ fun v H10 s10 h10 => ?_)
              have f10 := f9.trans s10
              have hz := hn xs[i] i j hxi hjt
              refine ⟨zs', f10 _ _ q3, ?_, fun a o ha => ?_, fun a o hne ha => ?_, zs' ++ [v], upd_same, ?_⟩
              · rw [q4.length, List.length_append, List.length_map]
                refine Nat.lt_of_le_of_lt (Nat.add_le_add_left (List.length_filter_le _ _) _) ?_
                rw [List.length_take]
                omega
              · rw [upd_ne (ne_of_none ha hD)]
                exact f10 _ _ (q1 _ _ ha)
              · rw [upd_ne hne]
                exact f10 _ _ (q2 _ _ hne ha)
              · rw [take_get hyj, List.filter_append, List.map_append, ← List.append_assoc]
                refine IsAll.append ((q4.mono (out_mono f10)).mono (out_upd List.mem_cons_self)) ?_
                simp only [List.filter_cons, hb, if_true, List.filter_nil, List.map_cons, List.map_nil]
                exact .one (h10.mono (out_upd List.mem_cons_self))
            | false =>
              refine iteF ⟨q1.trans f9, fun a o hne ha => f9 _ _ (q2 _ _ hne ha), zs', f9 _ _ q3, ?_⟩
              rw [take_get hyj, List.filter_append, List.map_append]
              simp only [List.filter_cons, hb, List.filter_nil, List.map_nil, List.append_nil, Bool.false_eq_true, if_false]
              exact q4.mono (out_mono f9)
        · have ej : j = (ys xs[i]).length := by omega
          subst ej
          refine .inl ⟨wk1.stops H6 (G1 _ H6 pv1), ?_⟩
          obtain ⟨q1, q2, zs', q3, q4⟩ := pv1
          refine ⟨q1, zs', q3, ?_⟩
          rw [lc2R_take hxi]
          rw [List.take_length] at q4
          exact q4
    · have ei : i = xs.length := by omega
      subst ei
      refine .inl ⟨wk.stops H2 (G0 _ H2 pv), ?_⟩
      obtain ⟨s2, zs, h1, h2⟩ := pv
      refine q D H2 (Same.free s1 hD) (s1.trans s2) ⟨zs, h1, ?_⟩
      rw [List.take_length] at h2
      exact h2
end

/-! dicts of distinct cells -/
theorem look_none {kvs : List (Cell × V)} {c : Cell} : (look kvs c).isSome = true ↔ c ∈ kvs.map (·.1) := by
  unfold look
  rw [Option.isSome_map, List.find?_isSome]
  simp only [decide_eq_true_eq, List.mem_map]
theorem look_mem {kvs : List (Cell × V)} {c : Cell} : (look kvs c).isSome = decide (c ∈ kvs.map (·.1)) := by
  by_cases h : c ∈ kvs.map (·.1)
  · rw [decide_eq_true h]; exact look_none.mpr h
  · rw [decide_eq_false h]
    cases e : (look kvs c).isSome with
    | false => rfl
    | true => exact absurd (look_none.mp e) h
theorem putD_new {kvs : List (Cell × V)} {c : Cell} {v : V} (h : c ∉ kvs.map (·.1)) : putD kvs c v = kvs ++ [(c, v)] := by
  unfold putD
  rw [look_mem, decide_eq_false h]
  rfl
theorem mergeD_nodup : ∀ (kvs acc : List (Cell × V)), ((acc ++ kvs).map (·.1)).Nodup → mergeD acc kvs = acc ++ kvs
  | [], acc, _ => by rw [List.append_nil]; rfl
  | kv :: r, acc, h => by
    have e : kv.1 ∉ acc.map (·.1) := by
      rw [List.map_append, List.nodup_append] at h
      intro hm
      exact h.2.2 _ hm _ (by rw [List.map_cons]; exact List.mem_cons_self) rfl
    show mergeD (putD acc kv.1 kv.2) r = _
    rw [putD_new e, mergeD_nodup r _ (by rw [List.append_assoc]; exact h), List.append_assoc]
    rfl
theorem merge_map {cs : List Cell} (f : Cell → V) (h : cs.Nodup) : mergeD [] (cs.map fun c => (c, f c)) = cs.map fun c => (c, f c) := by
  rw [mergeD_nodup]
  · rfl
  · rw [List.nil_append, List.map_map]
    exact (List.map_id cs).symm ▸ h
theorem keys_map (cs : List Cell) (f : Cell → V) : (cs.map fun c => (c, f c)).map (·.1) = cs := by
  rw [List.map_map]
  exact List.map_id cs
theorem look_map {cs : List Cell} {f : Cell → V} {c : Cell} (h : c ∈ cs) : look (cs.map fun c => (c, f c)) c = some (f c) := by
  unfold look
  induction cs with
  | nil => cases h
  | cons d r ih =>
    rw [List.map_cons, List.find?_cons]
    by_cases e : d = c
    · subst e; simp
    · simp only [decide_eq_false e]
      rcases List.mem_cons.mp h with z | z
      · exact absurd z.symm e
      · exact ih z
section
variable {ρ : List Sl} {ta : TE}
/-- dict([(c, v) for c in cs]), the cells distinct -/
theorem gn_dictC {cs : List Cell} {d : Cell → Dt} {v : Cell → V} (h : GD ta ρ (.seq true (cs.map fun c => dPair (c, d c)))) (hn : cs.Nodup) (hv : ∀ c H x, Is H x (d c) → x = v c) :
    GN (tCB rDictC (tCons ta tNil)) ρ (.dic (cs.map fun c => (c, v c))) := fun ps bs σ H E Q q =>
  h ps bs σ H E _ fun x H1 s1 h1 => by
    obtain ⟨a, xs, rfl, ha, hx⟩ := is_lst h1
    have key : ∀ {cs : List Cell} {xs : List V}, IsAll (out H1 ps) xs (cs.map fun c => dPair (c, d c)) → ∃ as : List Addr, xs = as.map V.ref ∧ Paired (fun p (kv : Cell × V) => ∃ b, H1 p = some (.tup [.ref b, kv.2]) ∧ H1 b = some (.tup ((ck kv.1).map kV))) as (cs.map fun c => (c, v c)) := by
      intro cs
      induction cs with
      | nil => intro xs h; cases h; exact ⟨[], rfl, .nil⟩
      | cons c r ih =>
        intro xs h
        cases h with
        | cons h t =>
          obtain ⟨as, e, p⟩ := ih t
          obtain ⟨b, ys, rfl, hb, hy⟩ := is_tup h
          obtain ⟨x, y, e2, hx, hy⟩ := hy.inv2
          obtain ⟨k, rfl, hk⟩ := is_cell hx
          have ey := hv c _ y hy
          subst ey e2
          exact ⟨b :: as, by rw [e]; rfl, .cons ⟨k, (out_some hb).1, (out_some hk).1⟩ p⟩
    obtain ⟨as, e, p⟩ := key hx
    subst e
    refine ⟨a, as, _, rfl, (out_some ha).1, p, fun p hp' => q p _ (Same.free s1 hp') (s1.trans (same_new hp')) ?_⟩
    rw [merge_map v hn]
    exact upd_same
end
end DL
set_option maxHeartbeats 1000000
/-! Expressions that change an owned object; loops over what they give. -/
namespace DL
open PySem PySem.Spec PyProof.Rows L2
def GX (t : TE) (ps : List Addr) (bs : List (List Addr × Hp)) (ρ ρ1 : List Sl) (d : Dt) : Prop := ∀ σ H, En ps bs σ H ρ → ∀ Q : VK, (∀ v H', En ps bs σ H' ρ1 → Same (out H ps) (out H' ps) → Is (out H' ps) v d → Q v H') → t σ H Q
/-- a walk over what such an expression gives -/
def GWX (wi : TI) (ps : List Addr) (bs : List (List Addr × Hp)) (ρ ρ1 : List Sl) (its : List Dt) : Prop := ∀ σ H, En ps bs σ H ρ → ∀ R : It → Hp → Prop, (∀ J H', En ps bs σ H' ρ1 → WD J its H' ps → R J H') → wi σ H R
section
variable {ps : List Addr} {bs : List (List Addr × Hp)} {ρ ρ1 : List Sl} {D : Ends} {te ta tb : TE} {t u : TS} {d : Dt} {K : PySem.W.Frag}
theorem GW.x {wi : TI} {its : List Dt} (h : GW wi ρ its) : GWX wi ps bs ρ ρ its := fun σ H E R r => h ps bs σ H E R fun J H' s w => r J H' (E.mono s) w
theorem dropLast_isAll {H : Hp} {xs : List V} {ds : List Dt} {d : Dt} (h : IsAll H xs (ds ++ [d])) : ∃ ys y, xs = ys ++ [y] ∧ IsAll H ys ds ∧ Is H y d := by
  induction ds generalizing xs with
  | nil =>
    obtain ⟨y, rfl, hy⟩ := h.inv1
    exact ⟨[], y, rfl, .nil, hy⟩
  | cons e r ih =>
    cases h with
    | cons a t =>
      obtain ⟨ys, y, rfl, h1, h2⟩ := ih t
      exact ⟨_ :: ys, y, rfl, .cons a h1, h2⟩
theorem gx_pop {i : Nat} {q : Addr} {ds : List Dt} (hi : ρ[i]? = some (.ow q (.seq true (ds ++ [d])))) : GX (tBM0 K "list" rPop (tVar i)) ps bs ρ (ρ.set i (.ow q (.seq true ds))) d := fun σ H E Q r => by
  obtain ⟨h1, h2, xs, h3, h4⟩ := E.ow hi
  obtain ⟨ys, y, rfl, h5, h6⟩ := dropLast_isAll h4
  refine ⟨.ref q, h1, .inl ⟨rfl, _, SqL.of h3⟩, q, ys ++ [y], y, rfl, rfl, h3, by simp, ?_⟩
  rw [List.dropLast_concat]
  have s := out_upd (H := H) (o := .lst ys) h2
  exact r y _ (E.put hi ⟨ys, upd_same, h5.mono s⟩) s (h6.mono s)
theorem gx_call2 {ι : Type} {arg : ι → List Dt} {pre : ι → Prop} {f : ι → Dt} {X : XK} {da db : Dt} (i : ι) (ha : GD ta ρ da) (hb : GX tb ps bs ρ ρ1 db) (e : arg i = [da, db]) (hp : pre i) :
    GX (tCall (spI arg pre fun i d => d = f i) [] X (tCons ta (tCons tb tNil))) ps bs ρ ρ1 (f i) := fun σ H E Q r =>
  ha ps bs σ H E _ fun v H1 s1 h1 => hb σ H1 (E.mono s1) _ fun y H2 E2 s2 h2 =>
    ⟨i, ps, E2.al, by rw [e]; exact .cons (h1.mono s2) (.cons h2 .nil), hp, fun z H3 dd s3 h3 p => by
      subst p
      exact r z H3 (E2.mono s3) (((out_mono s1).trans s2).trans (out_mono s3)) h3⟩
theorem gwx_seq {tl : TE} {l : Bool} {ds : List Dt} (h : GX tl ps bs ρ ρ1 (.seq l ds)) : GWX (iSeq K tl) ps bs ρ ρ1 ds := fun σ H E R r => by
  cases l with
  | true => exact .inl (h σ H E _ fun v H1 E1 s1 h1 => by
      obtain ⟨a, xs, rfl, h2, h3⟩ := is_lst h1
      exact ⟨a, rfl, ⟨xs, SqL.of (out_some h2).1⟩, r _ H1 E1 (wd_list (out_some h2).1 (out_some h2).2 h3)⟩)
  | false => exact .inr (h σ H E _ fun v H1 E1 s1 h1 => by
      obtain ⟨a, xs, rfl, h2, h3⟩ := is_tup h1
      exact ⟨a, rfl, ⟨xs, SqT.of (out_some h2).1⟩, r _ H1 E1 (wd_tup (out_some h2).1 (out_some h2).2 h3)⟩)
theorem ok_forX {wi : TI} {g : TG} {tb : TS} {its : List Dt} (vs : List Nat) (I : Nat → List Sl → Prop) (hw : GWX wi ps bs ρ ρ1 its) (h0 : I 0 ρ1)
    (hs : ∀ H1 i ρ' d, its[i]? = some d → I i ρ' → ∃ ρ'', GG g vs d ρ' ρ'' ∧
      Ok ps ((ps, H1) :: bs) tb ρ'' { D with nx := NxI ps ((ps, H1) :: bs) (I (i + 1)), ct := NxI ps ((ps, H1) :: bs) (I (i + 1)), bk := D.nx })
    (hd : ∀ ρ', I its.length ρ' → ∀ σ H, En ps bs σ H ρ' → D.nx σ H) : Ok ps bs (tFor wi g tb) ρ D := fun σ H E =>
  hw σ H E _ fun J H1 E0 w => by
    have wk := w ps (fun q hq => .inl hq)
    have E1 := E0.base (H1 := H1) (Same.refl _)
    refine for_it wk (fun i σ2 H2 => NxI ps ((ps, H1) :: bs) (I i) σ2 H2) ⟨ρ1, h0, E1⟩ ?_ ?_ ?_
    · rintro i σ2 H2 _ ⟨ρ', hI, E2⟩
      refine ⟨fun a o h => ?_, E2.al⟩
      obtain ⟨h1, h2⟩ := out_some h
      exact out_of (E2.ex _ List.mem_cons_self a o h2 h1) h2
    · rintro i x σ2 H2 H3 hi ⟨ρ', hI, E2⟩ ⟨s3, d, hd', hx⟩
      obtain ⟨ρ'', gg, ok⟩ := hs H1 i ρ' d hd' hI
      exact gg ps _ σ2 H3 x (E2.mono s3) hx _ fun σ4 H4 s4 E4 _ _ => ok σ4 H4 E4
    · rintro σ2 H2 ⟨ρ', hI, E2⟩
      exact hd ρ' hI σ2 H2 E2.unbase
theorem ok_setX {i : Nat} (h : GX te ps bs ρ ρ1 d) (q : Ok ps bs u (ρ1.set i (.im d)) D) : Ok ps bs (tSeq (tAsg te (gName i)) u) ρ D := fun σ H E =>
  h σ H E _ fun v H1 E1 s1 h1 => q _ _ (E1.setIm h1)
/-- forget what one does not need -/
theorem ok_nx {I : List Sl → Prop} (h : I ρ) (e : D.nx = NxI ps bs I) : ∀ σ H, En ps bs σ H ρ → D.nx σ H := fun σ H E => by
  rw [e]
  exact ⟨ρ, h, E⟩
/-- a local list or dict that is handed back: it stands still -/
theorem ok_rtOwn {i : Nat} {p : Addr} {φ : Dt → Prop} {qs : List Addr} (hi : ρ[i]? = some (.ow p d)) (hp : p ∉ ps) (hq : ∀ a ∈ qs, a ∈ ps) (r : Rt qs bs φ D) (f : φ d) : Ok (p :: ps) bs (tRet (tVar i)) ρ D := fun σ H E => by
  obtain ⟨h1, h2, h3⟩ := E.ow hi
  exact ⟨_, h1, r _ H d E.ex ((ow_is hp h3).mono (out_sub hq)) f⟩
theorem ok_perm {qs : List Addr} (h : Ok qs bs t ρ D) (hm : ∀ a, a ∈ ps ↔ a ∈ qs) : Ok ps bs t ρ D := fun σ H E => by
  have o : out H ps = out H qs := by
    funext a
    unfold out
    by_cases z : a ∈ ps
    · rw [if_pos z, if_pos ((hm a).mp z)]
    · rw [if_neg z, if_neg (fun w => z ((hm a).mpr w))]
  refine h σ H ⟨fun q hq => E.al q ((hm q).mpr hq), E.ex, E.len, fun i s hs => ?_, E.ne, E.mine⟩
  obtain ⟨v, h1, h2⟩ := E.sl i s hs
  refine ⟨v, h1, ?_⟩
  cases s with
  | un => trivial
  | raw v => exact h2
  | im d => obtain ⟨v, k1, k2⟩ := h2; exact ⟨v, k1, o ▸ k2⟩
  | ow p d =>
    refine ⟨h2.1, (hm p).mp h2.2.1, ?_⟩
    have h3 := h2.2.2
    cases d with
    | seq l ds =>
      cases l with
      | true => obtain ⟨xs, k1, k2⟩ := h3; exact ⟨xs, k1, o ▸ k2⟩
      | false => exact h3.elim
    | dic kv => exact h3
    | non => exact h3.elim
    | bl _ => exact h3.elim
    | int _ => exact h3.elim
    | str _ => exact h3.elim
end
end DL
set_option maxHeartbeats 1000000
/-! list(d.values()), d a dict by cells. -/
namespace DL
open PySem PySem.Spec PyProof.Rows L2
section
variable {P : Program} {w : World} {A : Around} {E : Value → Shared → Prop} {s : Shared}
theorem meets_vals {d : Addr} {es : Array DictEntry} {ep : Nat} (hd : (d == sysModules) = false) :
    MeetsIn P w (Builtin.«dict.values» ⟨[.ref d], []⟩) (fun _ R s => DT.Raw s.heap d es ep ∧ R (.ok (.ret (.ref s.heap.objs.size))) { s with heap := s.heap.push (DSub.viewOb "dict_values" d) }) :=
  .of_wp fun A R s ⟨hm, h⟩ => by
    show wpAny _ _ (Builtin.Dict.noArgs "values" ⟨[.ref d], []⟩ >>= _) _ _ s
    unfold Builtin.Dict.noArgs
    refine wpAny_bind (wpAny_bind (wpAny_notOrdered_dict hm.typeIs ?_))
    show wpAny _ _ (pure d) _ _ s
    refine wpAny_pure ?_
    show wpAny _ _ (Builtin.Dict.showsAll d >>= _) _ _ s
    unfold Builtin.Dict.showsAll
    rw [if_neg (by rw [hd]; exact Bool.false_ne_true)]
    refine wpAny_bind (wpAny_pure ?_)
    exact wpAny_bind (wpAny_newObj_type (wpAny_pure ⟨_, rfl, h⟩))
theorem src_vals {r d : Addr} {o : Obj} {es : Array DictEntry} {ep : Nat} (hd : o.data = .dict es ep) :
    PySem.W.KdlSrc P w "dict_values" r d es.size (fun i v => ∃ en : DictEntry, es[i]? = some en ∧ v = en.val) (fun h => h.get? r = some (DSub.viewOb "dict_values" d) ∧ h.get? d = some o) where
  type := fun _ hm => ⟨_, hm.1, rfl⟩
  there := fun _ hm => ⟨Heap.lt_size hm.1, Heap.lt_size hm.2⟩
  keep := fun _ _ hm hk => ⟨hk r (.inl rfl) _ hm.1, hk d (.inr rfl) _ hm.2⟩
  notList := by decide
  notTuple := by decide
  hint := fun _ _ _ _ hm hq => PySem.W.kdl_hint_values ⟨_, hm.1, rfl⟩ hq
  iter := fun _ s hh hm => ⟨_, _, (fun _ _ hq => DSub.iter_vals hm.1 hm.2 hd hq), DSub.walksVal hh (Nat.ne_of_lt (Heap.lt_size hm.2)) hd (fun i e he => ⟨e, he, rfl⟩), ⟨Heap.get?_push_size _ rfl, Heap.get?_push_of_some _ hm.2⟩⟩
end
def tListVals (td : TE) : TE := fun σ H Q => td σ H fun x H1 => ∃ a kvs, x = .ref a ∧ Rd H1 a (.dT (rawD kvs)) ∧ ∀ p, H1 p = none → Q (.ref p) (upd H1 p (.lst (kvs.map (·.2))))
theorem kt_vals {H : Hp} : ∀ {kvs : List (Cell × V)} {xs : List (List Key × Addr × Value)}, KT H (rawD kvs) xs → Vals (kvs.map (·.2)) (xs.map fun x => x.2.2)
  | [], _, h => by cases h; exact .nil
  | kv :: r, _, h => by
    cases h with
    | cons a t => exact .cons a.2.2 (kt_vals t)
theorem pe_listVals {X : Cx} {o : Expr} {td : TE} {p pos apos mpos : Pos} (hc : X.calm = true) (hg : Gl X "list") (hm : X.mg "list" = none) (hd : PE X o td) (hbase : attributeBase o "values" X.env (eval o X.env) = eval o X.env := by rfl) (hline : (apos.endLine == mpos.line) = true := by rfl)
    (na : starEach [Expr.Call (.Attribute o "values" apos) [] [] mpos] X.env = (false, eval (Expr.Call (.Attribute o "values" apos) [] [] mpos) X.env) :: starEach [] X.env := by rfl) :
    PE X (.Call (.Name "list" p) [.Call (.Attribute o "values" apos) [] [] mpos] [] pos) (tListVals td) := by
  refine ⟨fun pins s σ H Q I h => ?_⟩
  refine Call_ (ld_blt I hg hm boot_list (PyProof.Rows.callWith_type1 (PyProof.Rows.args_cons ?_ na) na rfl))
  refine wpAny_Call_method0_late hbase hline (thn (hd.run pins s σ H _ I h) fun v s1 ⟨x, H1, I1, r1, a, kvs, ex, ha, q⟩ => ?_)
  subst ex
  obtain rfl : v = Value.ref a := r1
  obtain ⟨z, hs, ks, pr, ob, es, ep, ho, hx, hdt, he, hn⟩ := (show ObjOk X.prog X.w H1 s1.heap a (.dT (rawD kvs)) from ha.ok I1.hok)
  refine ⟨"dict", "dict.values", F.plainAttrs_dict, F.slot_dict_values, F.type_dict_values, ⟨ob, ho, hx.1⟩, fun b e => ?_, Calls.callWith_builtin rfl (PySem.evalArgs_none ?_)⟩
  · cases e
    exact ⟨ob, ho, hx.2.1⟩
  refine call_meetsIn F.slot_dict_values ⟨ob, ho, hx.1⟩ F.entry_dict_values (F.args_dict_values_1 _) (meets_vals (es := es) (ep := ep) hs) ⟨⟨ob, ho, hx, hdt⟩, ?_⟩
  refine PyProof.Rows.args_nil ?_
  have k1 : ∀ b u, s1.heap.get? b = some u → (s1.heap.push (DSub.viewOb "dict_values" a)).get? b = some u := fun b u e => Heap.get?_push_of_some _ e
  have l1 : es.size = ks.length := size_of_entries he
  have l2 : kvs.length = ks.length := by
    have := Paired.length pr
    rw [rawD_length] at this
    exact this
  rw [rawD_length] at z
  refine PySem.W.kdl_call (src_vals (P := X.prog) (w := X.w) (r := s1.heap.objs.size) hdt) (I1.ok.hd hc) ⟨Heap.get?_push_size _ rfl, k1 _ _ ho⟩ (by omega) fun h' tk acc' c' k2 hD hacc => ?_
  have k3 : ∀ b u, s1.heap.get? b = some u → h'.get? b = some u := fun b u e => k2 b u (k1 b u e)
  have eacc : acc'.toList = ks.map fun x => x.2.2 := by
    refine List.ext_getElem? fun j => ?_
    cases hj : acc'.toList[j]? with
    | none =>
      rw [List.getElem?_eq_none_iff, Array.length_toList, hacc.1, l1] at hj
      rw [List.getElem?_eq_none (by rw [List.length_map]; exact hj)]
    | some v =>
      obtain ⟨en, hen, hv⟩ := hacc.2 j v (by rw [← Array.getElem?_toList]; exact hj)
      have qe := entry_at he j
      rw [hen] at qe
      rw [List.getElem?_map]
      cases hb : ks[j]? with
      | none => rw [hb] at qe; cases qe
      | some x =>
        rw [hb] at qe
        have e5 : en = entryOfKey (tupleKind (mixKind X.prog X.w)) x := Option.some.inj qe
        rw [hv, e5]
        rfl
  refine ⟨.ref (s1.heap.push (DSub.viewOb "dict_values" a)).objs.size, upd H1 (s1.heap.push (DSub.viewOb "dict_values" a)).objs.size (.lst (kvs.map (·.2))), ?_, rfl, q _ (I1.hok.fresh (by rw [Heap.size_push]; exact Nat.le_succ _))⟩
  refine I1.laid (t' := tk) k3 (by rw [Heap.size_push]; exact Nat.le_succ _) ⟨by rw [List.length_map]; omega, acc'.toList, c', by rw [eacc]; exact kt_vals pr, ?_⟩
  rw [hD, Array.toArray_toList]
theorem isAll_snd (H : Hp) : ∀ kvs : List (Cell × Int), IsAll H (kvs.map ((fun x : Cell × V => x.2) ∘ fun q => (q.1, V.int q.2))) (kvs.map fun q => Dt.int q.2)
  | [] => .nil
  | k :: r => .cons (.int k.2) (isAll_snd H r)
section
variable {ρ : List Sl} {td : TE}
theorem gn_listVals {kvs : List (Cell × Int)} (hd : GM td ρ (kvs.map fun q => (q.1, V.int q.2))) : GN (tListVals td) ρ (.seq true (kvs.map fun q => Dt.int q.2)) := fun ps bs σ H E Q q =>
  hd ps bs σ H E _ fun a H1 s1 h1 => ⟨a, _, rfl, h1, fun p hp => q p _ (Same.free s1 hp) (s1.trans (same_new hp)) ⟨_, upd_same, by
    rw [List.map_map]
    exact isAll_snd _ kvs⟩⟩
end
end DL
set_option maxHeartbeats 1000000
/-! The text by places; what the top leaves. -/
namespace DL
open PySem PySem.Spec PyProof.Rows L2
def topS (i : Nat) : Stmt := PySem.Challenge.pw_laidandeaten_k13_whole_two_sections_laid.main.body.getD i (.Pass ⟨0, 0, 0, 0⟩)
abbrev s_is_number : Stmt := topS 4
abbrev N_is_number : List Str := ["thing"]
theorem sc_is_number : FnScope N_is_number ["thing"] (defScope s_is_number) := ⟨rfl, rfl, rfl, by decide +kernel, rfl, by decide +kernel, by decide +kernel⟩
abbrev s_is_from : Stmt := topS 5
abbrev N_is_from : List Str := ["thing", "least"]
theorem sc_is_from : FnScope N_is_from ["thing", "least"] (defScope s_is_from) := ⟨rfl, rfl, rfl, by decide +kernel, rfl, by decide +kernel, by decide +kernel⟩
abbrev s_is_row : Stmt := topS 6
abbrev N_is_row : List Str := ["thing", "length"]
theorem sc_is_row : FnScope N_is_row ["thing", "length"] (defScope s_is_row) := ⟨rfl, rfl, rfl, by decide +kernel, rfl, by decide +kernel, by decide +kernel⟩
abbrev s_tupled : Stmt := topS 7
abbrev N_tupled : List Str := ["value", "own"]
theorem sc_tupled : FnScope N_tupled ["value"] (defScope s_tupled) := ⟨rfl, rfl, rfl, by decide +kernel, rfl, by decide +kernel, by decide +kernel⟩
abbrev s_set_of : Stmt := topS 8
abbrev N_set_of : List Str := ["row"]
theorem sc_set_of : FnScope N_set_of ["row"] (defScope s_set_of) := ⟨rfl, rfl, rfl, by decide +kernel, rfl, by decide +kernel, by decide +kernel⟩
abbrev s_is_cell : Stmt := topS 11
abbrev N_is_cell : List Str := ["heap", "thing"]
theorem sc_is_cell : FnScope N_is_cell ["heap", "thing"] (defScope s_is_cell) := ⟨rfl, rfl, rfl, by decide +kernel, rfl, by decide +kernel, by decide +kernel⟩
abbrev s_some_cell : Stmt := topS 12
abbrev N_some_cell : List Str := ["heap", "cell", "here"]
theorem sc_some_cell : FnScope N_some_cell ["heap", "cell"] (defScope s_some_cell) := ⟨rfl, rfl, rfl, by decide +kernel, rfl, by decide +kernel, by decide +kernel⟩
abbrev s_all_cells : Stmt := topS 13
abbrev N_all_cells : List Str := ["heap", "column", "height"]
theorem sc_all_cells : FnScope N_all_cells ["heap"] (defScope s_all_cells) := ⟨rfl, rfl, rfl, by decide +kernel, rfl, by decide +kernel, by decide +kernel⟩
abbrev s_stuff_at : Stmt := topS 14
abbrev N_stuff_at : List Str := ["heap", "cell"]
theorem sc_stuff_at : FnScope N_stuff_at ["heap", "cell"] (defScope s_stuff_at) := ⟨rfl, rfl, rfl, by decide +kernel, rfl, by decide +kernel, by decide +kernel⟩
abbrev s_near_cells : Stmt := topS 15
abbrev N_near_cells : List Str := ["heap", "cell", "column", "height", "around", "own"]
theorem sc_near_cells : FnScope N_near_cells ["heap", "cell"] (defScope s_near_cells) := ⟨rfl, rfl, rfl, by decide +kernel, rfl, by decide +kernel, by decide +kernel⟩
abbrev s_beside : Stmt := topS 16
abbrev N_beside : List Str := ["heap", "cell"]
theorem sc_beside : FnScope N_beside ["heap", "cell"] (defScope s_beside) := ⟨rfl, rfl, rfl, by decide +kernel, rfl, by decide +kernel, by decide +kernel⟩
abbrev s_flooded : Stmt := topS 17
abbrev N_flooded : List Str := ["heap", "firsts", "goods", "found", "left", "own", "cell"]
theorem sc_flooded : FnScope N_flooded ["heap", "firsts", "goods"] (defScope s_flooded) := ⟨rfl, rfl, rfl, by decide +kernel, rfl, by decide +kernel, by decide +kernel⟩
abbrev s_lot_of_cells : Stmt := topS 18
abbrev N_lot_of_cells : List Str := ["heap", "is_air", "cell"]
theorem sc_lot_of_cells : FnScope N_lot_of_cells ["heap", "is_air"] (defScope s_lot_of_cells) := ⟨rfl, rfl, rfl, by decide +kernel, rfl, by decide +kernel, by decide +kernel⟩
abbrev s_open_cells : Stmt := topS 19
abbrev N_open_cells : List Str := ["heap", "air", "top", "cell"]
theorem sc_open_cells : FnScope N_open_cells ["heap"] (defScope s_open_cells) := ⟨rfl, rfl, rfl, by decide +kernel, rfl, by decide +kernel, by decide +kernel⟩
abbrev s_opened : Stmt := topS 20
abbrev N_opened : List Str := ["heap"]
theorem sc_opened : FnScope N_opened ["heap"] (defScope s_opened) := ⟨rfl, rfl, rfl, by decide +kernel, rfl, by decide +kernel, by decide +kernel⟩
abbrev s_parts_of : Stmt := topS 21
abbrev N_parts_of : List Str := ["heap", "cells", "goods", "found", "cell", "part"]
theorem sc_parts_of : FnScope N_parts_of ["heap", "cells"] (defScope s_parts_of) := ⟨rfl, rfl, rfl, by decide +kernel, rfl, by decide +kernel, by decide +kernel⟩
abbrev s_heights_of : Stmt := topS 24
abbrev N_heights_of : List Str := ["section"]
theorem sc_heights_of : FnScope N_heights_of ["section"] (defScope s_heights_of) := ⟨rfl, rfl, rfl, by decide +kernel, rfl, by decide +kernel, by decide +kernel⟩
abbrev s_air_cells : Stmt := topS 25
abbrev N_air_cells : List Str := ["section", "place", "column", "height", "own"]
theorem sc_air_cells : FnScope N_air_cells ["section"] (defScope s_air_cells) := ⟨rfl, rfl, rfl, by decide +kernel, rfl, by decide +kernel, by decide +kernel⟩
abbrev s_near_stuff : Stmt := topS 26
abbrev N_near_stuff : List Str := ["section", "cell", "place", "height"]
theorem sc_near_stuff : FnScope N_near_stuff ["section", "cell"] (defScope s_near_stuff) := ⟨rfl, rfl, rfl, by decide +kernel, rfl, by decide +kernel, by decide +kernel⟩
abbrev s_steps_of : Stmt := topS 27
abbrev N_steps_of : List Str := ["section", "here", "found", "many", "ahead", "cell", "other"]
theorem sc_steps_of : FnScope N_steps_of ["section"] (defScope s_steps_of) := ⟨rfl, rfl, rfl, by decide +kernel, rfl, by decide +kernel, by decide +kernel⟩
abbrev s_necks_of : Stmt := topS 28
abbrev N_necks_of : List Str := ["section", "steps", "found", "lots", "top", "cell", "many", "here", "other", "least"]
theorem sc_necks_of : FnScope N_necks_of ["section", "steps"] (defScope s_necks_of) := ⟨rfl, rfl, rfl, by decide +kernel, rfl, by decide +kernel, by decide +kernel⟩
abbrev s_tops_out : Stmt := topS 30
abbrev N_tops_out : List Str := ["section", "part", "_", "height"]
theorem sc_tops_out : FnScope N_tops_out ["section", "part"] (defScope s_tops_out) := ⟨rfl, rfl, rfl, by decide +kernel, rfl, by decide +kernel, by decide +kernel⟩
abbrev s_above_of : Stmt := topS 31
abbrev N_above_of : List Str := ["told", "level", "cell", "found", "number", "high", "part", "_"]
theorem sc_above_of : FnScope N_above_of ["told", "level", "cell"] (defScope s_above_of) := ⟨rfl, rfl, rfl, by decide +kernel, rfl, by decide +kernel, by decide +kernel⟩
abbrev s_tree : Stmt := topS 32
abbrev N_tree : List Str := ["section", "own", "found", "level", "steps", "cells", "parts", "part", "cell"]
theorem sc_tree : FnScope N_tree ["section"] (defScope s_tree) := ⟨rfl, rfl, rfl, by decide +kernel, rfl, by decide +kernel, by decide +kernel⟩
abbrev s_marks_of : Stmt := topS 33
abbrev N_marks_of : List Str := ["section", "told", "found", "number", "_", "part", "above"]
theorem sc_marks_of : FnScope N_marks_of ["section", "told"] (defScope s_marks_of) := ⟨rfl, rfl, rfl, by decide +kernel, rfl, by decide +kernel, by decide +kernel⟩
abbrev s_chambers : Stmt := topS 34
abbrev N_chambers : List Str := ["section", "told", "number"]
theorem sc_chambers : FnScope N_chambers ["section"] (defScope s_chambers) := ⟨rfl, rfl, rfl, by decide +kernel, rfl, by decide +kernel, by decide +kernel⟩
abbrev s_hollow_row : Stmt := topS 35
abbrev N_hollow_row : List Str := ["section", "shut", "number", "_", "rounds", "own"]
theorem sc_hollow_row : FnScope N_hollow_row ["section"] (defScope s_hollow_row) := ⟨rfl, rfl, rfl, by decide +kernel, rfl, by decide +kernel, by decide +kernel⟩
abbrev s_sure_alike : Stmt := topS 36
abbrev N_sure_alike : List Str := ["section", "other"]
theorem sc_sure_alike : FnScope N_sure_alike ["section", "other"] (defScope s_sure_alike) := ⟨rfl, rfl, rfl, by decide +kernel, rfl, by decide +kernel, by decide +kernel⟩
abbrev s_alike_laid : Stmt := topS 37
abbrev N_alike_laid : List Str := ["section", "other"]
theorem sc_alike_laid : FnScope N_alike_laid ["section", "other"] (defScope s_alike_laid) := ⟨rfl, rfl, rfl, by decide +kernel, rfl, by decide +kernel, by decide +kernel⟩
abbrev s_first_laid : Stmt := topS 38
abbrev N_first_laid : List Str := ["section", "steps", "necks", "cell"]
theorem sc_first_laid : FnScope N_first_laid ["section"] (defScope s_first_laid) := ⟨rfl, rfl, rfl, by decide +kernel, rfl, by decide +kernel, by decide +kernel⟩
abbrev s_parting_cell : Stmt := topS 39
abbrev N_parting_cell : List Str := ["section", "other", "one", "two", "found", "cell"]
theorem sc_parting_cell : FnScope N_parting_cell ["section", "other"] (defScope s_parting_cell) := ⟨rfl, rfl, rfl, by decide +kernel, rfl, by decide +kernel, by decide +kernel⟩
abbrev s_least_unlike : Stmt := topS 40
abbrev N_least_unlike : List Str := ["section", "other", "one", "two", "rounds"]
theorem sc_least_unlike : FnScope N_least_unlike ["section", "other"] (defScope s_least_unlike) := ⟨rfl, rfl, rfl, by decide +kernel, rfl, by decide +kernel, by decide +kernel⟩
abbrev s__law_box : Stmt := topS 42
abbrev N__law_box : List Str := ["_law_script", "_law_k", "_law_bit_so"]
theorem sc__law_box : FnScope N__law_box ["_law_script", "_law_k"] (defScope s__law_box) := ⟨rfl, rfl, rfl, by decide +kernel, rfl, by decide +kernel, by decide +kernel⟩
abbrev s__law_take : Stmt := topS 43
abbrev N__law_take : List Str := ["_law_tin", "_law_below_so", "_law_drawn", "_law_once_so", "_law_wide_so", "_law_twice_so"]
theorem sc__law_take : FnScope N__law_take ["_law_tin", "_law_below_so"] (defScope s__law_take) := ⟨rfl, rfl, rfl, by decide +kernel, rfl, by decide +kernel, by decide +kernel⟩
abbrev s__law_cells : Stmt := topS 44
abbrev N__law_cells : List Str := ["_law_script", "_law_most_so", "_law_cells_so", "_law_k", "_law_bit_so", "_law_at_so"]
theorem sc__law_cells : FnScope N__law_cells ["_law_script", "_law_most_so"] (defScope s__law_cells) := ⟨rfl, rfl, rfl, by decide +kernel, rfl, by decide +kernel, by decide +kernel⟩
abbrev s__law_of : Stmt := topS 45
abbrev N__law_of : List Str := ["_law_tin", "_law_goods_so"]
theorem sc__law_of : FnScope N__law_of ["_law_tin", "_law_goods_so"] (defScope s__law_of) := ⟨rfl, rfl, rfl, by decide +kernel, rfl, by decide +kernel, by decide +kernel⟩
abbrev s__law_lists : Stmt := topS 46
abbrev N__law_lists : List Str := ["_law_matter", "_law_bit"]
theorem sc__law_lists : FnScope N__law_lists ["_law_matter"] (defScope s__law_lists) := ⟨rfl, rfl, rfl, by decide +kernel, rfl, by decide +kernel, by decide +kernel⟩
abbrev s__law_same : Stmt := topS 47
abbrev N__law_same : List Str := ["_law_got", "_law_due", "_law_mine", "_law_its"]
theorem sc__law_same : FnScope N__law_same ["_law_got", "_law_due"] (defScope s__law_same) := ⟨rfl, rfl, rfl, by decide +kernel, rfl, by decide +kernel, by decide +kernel⟩
abbrev s__law_vault : Stmt := topS 48
abbrev N__law_vault : List Str := []
theorem sc__law_vault : FnScope N__law_vault [] (defScope s__law_vault) := ⟨rfl, rfl, rfl, by decide +kernel, rfl, by decide +kernel, by decide +kernel⟩
abbrev s__law_shed : Stmt := topS 49
abbrev N__law_shed : List Str := []
theorem sc__law_shed : FnScope N__law_shed [] (defScope s__law_shed) := ⟨rfl, rfl, rfl, by decide +kernel, rfl, by decide +kernel, by decide +kernel⟩
abbrev s__law_lean : Stmt := topS 50
abbrev N__law_lean : List Str := []
theorem sc__law_lean : FnScope N__law_lean [] (defScope s__law_lean) := ⟨rfl, rfl, rfl, by decide +kernel, rfl, by decide +kernel, by decide +kernel⟩
abbrev s__law_shut : Stmt := topS 51
abbrev N__law_shut : List Str := []
theorem sc__law_shut : FnScope N__law_shut [] (defScope s__law_shut) := ⟨rfl, rfl, rfl, by decide +kernel, rfl, by decide +kernel, by decide +kernel⟩
abbrev s__law_at : Stmt := topS 52
abbrev N__law_at : List Str := ["_law_pile_so", "_law_c", "_law_h"]
theorem sc__law_at : FnScope N__law_at ["_law_pile_so", "_law_c", "_law_h"] (defScope s__law_at) := ⟨rfl, rfl, rfl, by decide +kernel, rfl, by decide +kernel, by decide +kernel⟩
abbrev s__law_round_about : Stmt := topS 53
abbrev N__law_round_about : List Str := ["_law_spot_so", "_law_c", "_law_h"]
theorem sc__law_round_about : FnScope N__law_round_about ["_law_spot_so"] (defScope s__law_round_about) := ⟨rfl, rfl, rfl, by decide +kernel, rfl, by decide +kernel, by decide +kernel⟩
abbrev s__law_all_spots : Stmt := topS 54
abbrev N__law_all_spots : List Str := ["_law_pile_so", "_law_found", "_law_c", "_law_h"]
theorem sc__law_all_spots : FnScope N__law_all_spots ["_law_pile_so"] (defScope s__law_all_spots) := ⟨rfl, rfl, rfl, by decide +kernel, rfl, by decide +kernel, by decide +kernel⟩
abbrev s__law_grown : Stmt := topS 55
abbrev N__law_grown : List Str := ["_law_pile_so", "_law_seeds_so", "_law_air", "_law_now_so", "_law_found", "_law_own", "_law_its", "_law_holds_so"]
theorem sc__law_grown : FnScope N__law_grown ["_law_pile_so", "_law_seeds_so", "_law_air"] (defScope s__law_grown) := ⟨rfl, rfl, rfl, by decide +kernel, rfl, by decide +kernel, by decide +kernel⟩
abbrev s__law_opened : Stmt := topS 56
abbrev N__law_opened : List Str := ["_law_pile_so", "_law_top_so", "_law_c"]
theorem sc__law_opened : FnScope N__law_opened ["_law_pile_so"] (defScope s__law_opened) := ⟨rfl, rfl, rfl, by decide +kernel, rfl, by decide +kernel, by decide +kernel⟩
abbrev s__law_held : Stmt := topS 57
abbrev N__law_held : List Str := ["_law_pile_so", "_law_c"]
theorem sc__law_held : FnScope N__law_held ["_law_pile_so"] (defScope s__law_held) := ⟨rfl, rfl, rfl, by decide +kernel, rfl, by decide +kernel, by decide +kernel⟩
abbrev s__law_hollows : Stmt := topS 58
abbrev N__law_hollows : List Str := ["_law_pile_so", "_law_seen_so", "_law_found", "_law_own", "_law_part_so", "_law_its"]
theorem sc__law_hollows : FnScope N__law_hollows ["_law_pile_so"] (defScope s__law_hollows) := ⟨rfl, rfl, rfl, by decide +kernel, rfl, by decide +kernel, by decide +kernel⟩
abbrev s__law_put : Stmt := topS 59
abbrev N__law_put : List Str := ["_law_pile_so", "_law_spots_so", "_law_holds_so", "_law_rows_so", "_law_c", "_law_h", "_law_own"]
theorem sc__law_put : FnScope N__law_put ["_law_pile_so", "_law_spots_so", "_law_holds_so"] (defScope s__law_put) := ⟨rfl, rfl, rfl, by decide +kernel, rfl, by decide +kernel, by decide +kernel⟩
abbrev s__law_washed : Stmt := topS 60
abbrev N__law_washed : List Str := ["_law_pile_so", "_law_kept_so", "_law_own"]
theorem sc__law_washed : FnScope N__law_washed ["_law_pile_so"] (defScope s__law_washed) := ⟨rfl, rfl, rfl, by decide +kernel, rfl, by decide +kernel, by decide +kernel⟩
abbrev s__law_tops : Stmt := topS 61
abbrev N__law_tops : List Str := ["_law_pile_so", "_law_found", "_law_own", "_law_h"]
theorem sc__law_tops : FnScope N__law_tops ["_law_pile_so"] (defScope s__law_tops) := ⟨rfl, rfl, rfl, by decide +kernel, rfl, by decide +kernel, by decide +kernel⟩
abbrev s__law_growth : Stmt := topS 62
abbrev N__law_growth : List Str := ["_law_pile_so", "_law_act_so", "_law_tops_so", "_law_found", "_law_c", "_law_h", "_law_about_so", "_law_its", "_law_own"]
theorem sc__law_growth : FnScope N__law_growth ["_law_pile_so", "_law_act_so"] (defScope s__law_growth) := ⟨rfl, rfl, rfl, by decide +kernel, rfl, by decide +kernel, by decide +kernel⟩
abbrev s__law_roofs : Stmt := topS 63
abbrev N__law_roofs : List Str := ["_law_tin", "_law_rows_so", "_law_stuffs_so", "_law_wide_so", "_law_tall_so", "_law_lap", "_law_a", "_law_b", "_law_h", "_law_stuff_so", "_law_c", "_law_k"]
theorem sc__law_roofs : FnScope N__law_roofs ["_law_tin", "_law_rows_so", "_law_stuffs_so"] (defScope s__law_roofs) := ⟨rfl, rfl, rfl, by decide +kernel, rfl, by decide +kernel, by decide +kernel⟩
abbrev s__law_pile : Stmt := topS 64
abbrev N__law_pile : List Str := ["_law_tin", "_law_wide_so", "_law_tall_so", "_law_stuffs_so", "_law_rows_so", "_law_c", "_law_low_so", "_law_k", "_law_own"]
theorem sc__law_pile : FnScope N__law_pile ["_law_tin", "_law_wide_so", "_law_tall_so", "_law_stuffs_so"] (defScope s__law_pile) := ⟨rfl, rfl, rfl, by decide +kernel, rfl, by decide +kernel, by decide +kernel⟩
abbrev s__law_carve : Stmt := topS 65
abbrev N__law_carve : List Str := ["_law_rows_so", "_law_a", "_law_b", "_law_wide_so", "_law_tall_so", "_law_c", "_law_h"]
theorem sc__law_carve : FnScope N__law_carve ["_law_rows_so", "_law_a", "_law_b", "_law_wide_so", "_law_tall_so"] (defScope s__law_carve) := ⟨rfl, rfl, rfl, by decide +kernel, rfl, by decide +kernel, by decide +kernel⟩
abbrev s__law_caves : Stmt := topS 66
abbrev N__law_caves : List Str := ["_law_tin", "_law_wide_so", "_law_tall_so", "_law_rows_so", "_law_c", "_law_lap", "_law_size_so", "_law_a", "_law_b", "_law_h", "_law_own"]
theorem sc__law_caves : FnScope N__law_caves ["_law_tin"] (defScope s__law_caves) := ⟨rfl, rfl, rfl, by decide +kernel, rfl, by decide +kernel, by decide +kernel⟩
abbrev s__law_rooms : Stmt := topS 67
abbrev N__law_rooms : List Str := ["_law_tin", "_law_wide_so", "_law_rows_so", "_law_c", "_law_a", "_law_b", "_law_lap", "_law_h", "_law_own"]
theorem sc__law_rooms : FnScope N__law_rooms ["_law_tin"] (defScope s__law_rooms) := ⟨rfl, rfl, rfl, by decide +kernel, rfl, by decide +kernel, by decide +kernel⟩
abbrev s__law_ground : Stmt := topS 68
abbrev N__law_ground : List Str := ["_law_tin", "_law_kind_so"]
theorem sc__law_ground : FnScope N__law_ground ["_law_tin"] (defScope s__law_ground) := ⟨rfl, rfl, rfl, by decide +kernel, rfl, by decide +kernel, by decide +kernel⟩
abbrev s__law_layers : Stmt := topS 69
abbrev N__law_layers : List Str := ["_law_pile_so", "_law_most_so", "_law_found", "_law_lap", "_law_now_so"]
theorem sc__law_layers : FnScope N__law_layers ["_law_pile_so", "_law_most_so"] (defScope s__law_layers) := ⟨rfl, rfl, rfl, by decide +kernel, rfl, by decide +kernel, by decide +kernel⟩
abbrev s__law_capped : Stmt := topS 70
abbrev N__law_capped : List Str := []
theorem sc__law_capped : FnScope N__law_capped [] (defScope s__law_capped) := ⟨rfl, rfl, rfl, by decide +kernel, rfl, by decide +kernel, by decide +kernel⟩
abbrev s__law_all_of : Stmt := topS 71
abbrev N__law_all_of : List Str := ["_law_rows_so", "_law_found", "_law_own"]
theorem sc__law_all_of : FnScope N__law_all_of ["_law_rows_so"] (defScope s__law_all_of) := ⟨rfl, rfl, rfl, by decide +kernel, rfl, by decide +kernel, by decide +kernel⟩
abbrev s__law_reply : Stmt := topS 72
abbrev N__law_reply : List Str := ["_law_which_so", "_law_pile_so", "_law_other_so", "_law_found", "error"]
theorem sc__law_reply : FnScope N__law_reply ["_law_which_so", "_law_pile_so", "_law_other_so"] (defScope s__law_reply) := ⟨rfl, rfl, rfl, by decide +kernel, rfl, by decide +kernel, by decide +kernel⟩
abbrev s__law_by_hand_right : Stmt := topS 73
abbrev N__law_by_hand_right : List Str := ["_law_vault_here", "_law_capped_here", "_law_shed_here", "_law_lean_here", "_law_shut_here", "_law_solid", "_law_full", "_law_got", "_law_due", "_law_which_so"]
theorem sc__law_by_hand_right : FnScope N__law_by_hand_right [] (defScope s__law_by_hand_right) := ⟨rfl, rfl, rfl, by decide +kernel, rfl, by decide +kernel, by decide +kernel⟩
abbrev s__law_near : Stmt := topS 74
abbrev N__law_near : List Str := ["_law_tin", "_law_pile_so", "_law_kind_so", "_law_spot_so", "_law_own", "_law_bit"]
theorem sc__law_near : FnScope N__law_near ["_law_tin", "_law_pile_so"] (defScope s__law_near) := ⟨rfl, rfl, rfl, by decide +kernel, rfl, by decide +kernel, by decide +kernel⟩
abbrev s__law_laid : Stmt := topS 75
abbrev N__law_laid : List Str := ["_law_layers_so", "_law_n", "_law_now_so", "_law_own"]
theorem sc__law_laid : FnScope N__law_laid ["_law_layers_so", "_law_n"] (defScope s__law_laid) := ⟨rfl, rfl, rfl, by decide +kernel, rfl, by decide +kernel, by decide +kernel⟩
abbrev s__law_right : Stmt := topS 76
abbrev N__law_right : List Str := ["_law_tin", "_law_pile_so", "_law_other_so", "_law_layers_so", "_law_far_so", "_law_laps_so", "_law_unlike_so", "_law_one_so", "_law_two_so", "_law_parts_so", "_law_firsts_so", "_law_n", "_law_near_so", "_law_due", "_law_got", "_law_soft_so", "_law_own"]
theorem sc__law_right : FnScope N__law_right ["_law_tin"] (defScope s__law_right) := ⟨rfl, rfl, rfl, by decide +kernel, rfl, by decide +kernel, by decide +kernel⟩
abbrev s_law : Stmt := topS 77
abbrev N_law : List Str := ["_law_script"]
theorem sc_law : FnScope N_law ["_law_script"] (defScope s_law) := ⟨rfl, rfl, rfl, by decide +kernel, rfl, by decide +kernel, by decide +kernel⟩
structure Top (K : PySem.W.Frag) (mg : Str → Option Value) : Prop where
  b_len : mg "len" = none
  b_range : mg "range" = none
  b_isinstance : mg "isinstance" = none
  b_any : mg "any" = none
  b_all : mg "all" = none
  b_max : mg "max" = none
  b_min : mg "min" = none
  b_abs : mg "abs" = none
  b_sorted : mg "sorted" = none
  b_enumerate : mg "enumerate" = none
  b_zip : mg "zip" = none
  b_list : mg "list" = none
  b_tuple : mg "tuple" = none
  b_int : mg "int" = none
  b_dict : mg "dict" = none
  b_set : mg "set" = none
  b_bool : mg "bool" = none
  b_str : mg "str" = none
  c_PAIR : ∃ t, mg "PAIR" = some (.int 2 t)
  c_AIR : ∃ t, mg "AIR" = some (.int 0 t)
  f_is_number : Fn K mg "is_number" s_is_number
  f_is_from : Fn K mg "is_from" s_is_from
  f_is_row : Fn K mg "is_row" s_is_row
  f_tupled : Fn K mg "tupled" s_tupled
  f_set_of : Fn K mg "set_of" s_set_of
  f_is_cell : Fn K mg "is_cell" s_is_cell
  f_some_cell : Fn K mg "some_cell" s_some_cell
  f_all_cells : Fn K mg "all_cells" s_all_cells
  f_stuff_at : Fn K mg "stuff_at" s_stuff_at
  f_near_cells : Fn K mg "near_cells" s_near_cells
  f_beside : Fn K mg "beside" s_beside
  f_flooded : Fn K mg "flooded" s_flooded
  f_lot_of_cells : Fn K mg "lot_of_cells" s_lot_of_cells
  f_open_cells : Fn K mg "open_cells" s_open_cells
  f_opened : Fn K mg "opened" s_opened
  f_parts_of : Fn K mg "parts_of" s_parts_of
  f_heights_of : Fn K mg "heights_of" s_heights_of
  f_air_cells : Fn K mg "air_cells" s_air_cells
  f_near_stuff : Fn K mg "near_stuff" s_near_stuff
  f_steps_of : Fn K mg "steps_of" s_steps_of
  f_necks_of : Fn K mg "necks_of" s_necks_of
  f_tops_out : Fn K mg "tops_out" s_tops_out
  f_above_of : Fn K mg "above_of" s_above_of
  f_tree : Fn K mg "tree" s_tree
  f_marks_of : Fn K mg "marks_of" s_marks_of
  f_chambers : Fn K mg "chambers" s_chambers
  f_hollow_row : Fn K mg "hollow_row" s_hollow_row
  f_sure_alike : Fn K mg "sure_alike" s_sure_alike
  f_alike_laid : Fn K mg "alike_laid" s_alike_laid
  f_first_laid : Fn K mg "first_laid" s_first_laid
  f_parting_cell : Fn K mg "parting_cell" s_parting_cell
  f_least_unlike : Fn K mg "least_unlike" s_least_unlike
  f__law_box : Fn K mg "_law_box" s__law_box
  f__law_take : Fn K mg "_law_take" s__law_take
  f__law_cells : Fn K mg "_law_cells" s__law_cells
  f__law_of : Fn K mg "_law_of" s__law_of
  f__law_lists : Fn K mg "_law_lists" s__law_lists
  f__law_same : Fn K mg "_law_same" s__law_same
  f__law_vault : Fn K mg "_law_vault" s__law_vault
  f__law_shed : Fn K mg "_law_shed" s__law_shed
  f__law_lean : Fn K mg "_law_lean" s__law_lean
  f__law_shut : Fn K mg "_law_shut" s__law_shut
  f__law_at : Fn K mg "_law_at" s__law_at
  f__law_round_about : Fn K mg "_law_round_about" s__law_round_about
  f__law_all_spots : Fn K mg "_law_all_spots" s__law_all_spots
  f__law_grown : Fn K mg "_law_grown" s__law_grown
  f__law_opened : Fn K mg "_law_opened" s__law_opened
  f__law_held : Fn K mg "_law_held" s__law_held
  f__law_hollows : Fn K mg "_law_hollows" s__law_hollows
  f__law_put : Fn K mg "_law_put" s__law_put
  f__law_washed : Fn K mg "_law_washed" s__law_washed
  f__law_tops : Fn K mg "_law_tops" s__law_tops
  f__law_growth : Fn K mg "_law_growth" s__law_growth
  f__law_roofs : Fn K mg "_law_roofs" s__law_roofs
  f__law_pile : Fn K mg "_law_pile" s__law_pile
  f__law_carve : Fn K mg "_law_carve" s__law_carve
  f__law_caves : Fn K mg "_law_caves" s__law_caves
  f__law_rooms : Fn K mg "_law_rooms" s__law_rooms
  f__law_ground : Fn K mg "_law_ground" s__law_ground
  f__law_layers : Fn K mg "_law_layers" s__law_layers
  f__law_capped : Fn K mg "_law_capped" s__law_capped
  f__law_all_of : Fn K mg "_law_all_of" s__law_all_of
  f__law_reply : Fn K mg "_law_reply" s__law_reply
  f__law_by_hand_right : Fn K mg "_law_by_hand_right" s__law_by_hand_right
  f__law_near : Fn K mg "_law_near" s__law_near
  f__law_laid : Fn K mg "_law_laid" s__law_laid
  f__law_right : Fn K mg "_law_right" s__law_right
  f_law : Fn K mg "law" s_law
end DL
set_option maxHeartbeats 1000000
namespace DL
open PySem PySem.Spec PyProof.Rows L2
theorem kb_int_int : kitB "int" "int" = some true := by decide +kernel
theorem kb_int_bool : kitB "int" "bool" = some false := by decide +kernel
theorem kb_tuple_tuple : kitB "tuple" "tuple" = some true := by decide +kernel
theorem kb_list_tuple : kitB "list" "tuple" = some false := by decide +kernel
theorem kb_list_list : kitB "list" "list" = some true := by decide +kernel
theorem kb_tuple_list : kitB "tuple" "list" = some false := by decide +kernel
theorem kb_int_list : kitB "int" "list" = some false := by decide +kernel
theorem kb_int_tuple : kitB "int" "tuple" = some false := by decide +kernel
theorem kb_bool_bool : kitB "bool" "bool" = some true := by decide +kernel
theorem kb_bool_list : kitB "bool" "list" = some false := by decide +kernel
theorem kb_bool_tuple : kitB "bool" "tuple" = some false := by decide +kernel
theorem kb_NoneType_list : kitB "NoneType" "list" = some false := by decide +kernel
theorem kb_NoneType_tuple : kitB "NoneType" "tuple" = some false := by decide +kernel
theorem kb_NoneType_bool : kitB "NoneType" "bool" = some false := by decide +kernel
theorem kb_NoneType_str : kitB "NoneType" "str" = some false := by decide +kernel
theorem kb_str_list : kitB "str" "list" = some false := by decide +kernel
theorem kb_str_tuple : kitB "str" "tuple" = some false := by decide +kernel
theorem kb_str_bool : kitB "str" "bool" = some false := by decide +kernel
theorem kb_str_str : kitB "str" "str" = some true := by decide +kernel
theorem kb_int_str : kitB "int" "str" = some false := by decide +kernel
theorem kb_bool_str : kitB "bool" "str" = some false := by decide +kernel
theorem kb_bool_int : kitB "bool" "int" = some true := by decide +kernel
def dHeap (l : Bool) (g : Grid) : Dt := .seq l (g.map fun c => .seq l (c.map .int))
def dCells (l : Bool) (cs : List Cell) : Dt := .seq l (cs.map dCell)
theorem head_at {l : Bool} {g : Grid} (h : g ≠ []) : atI (g.map fun c => Dt.seq l (c.map Dt.int)) 0 = some (.seq l ((g.headD []).map .int)) := by
  cases g with
  | nil => exact absurd rfl h
  | cons c r => exact atI_nat (j := 0) rfl
section
variable {ρ : List Sl} {ta tb te td : TE} {K : PySem.W.Frag}
theorem gd_lenM {α : Type} {l : Bool} {f : α → Dt} {xs : List α} (ha : GD ta ρ (.seq l (xs.map f))) : GD (tCB (rLenQ K) (tCons ta tNil)) ρ (.int xs.length) := (gd_len ha).cast (by rw [List.length_map])
theorem gd_ht {l : Bool} {g : Grid} (ha : GD ta ρ (dHeap l g)) (h : g ≠ []) : GD (tCB (rLenQ K) (tCons (tOp (rIx K) ta (tC (.int 0))) tNil)) ρ (.int (ht g)) := gd_lenM (gd_ix ha gd_int (head_at h))
theorem gd_wid {l : Bool} {g : Grid} (ha : GD ta ρ (dHeap l g)) : GD (tCB (rLenQ K) (tCons ta tNil)) ρ (.int g.length) := gd_lenM ha
/-- heap[c][h] of a cell that is there -/
theorem gd_at {l : Bool} {g : Grid} {c : Cell} (S : Shp g) (hc : inG g c = true) (ha : GD ta ρ (dHeap l g)) (h1 : GD tb ρ (.int c.1)) (h2 : GD te ρ (.int c.2)) : GD (tOp (rIx K) (tOp (rIx K) ta tb) te) ρ (.int (atG g c)) := by
  obtain ⟨col, e1, e2⟩ := atG_col hc
  have e3 := atG_get S hc e1
  have hi := inG_iff.mp hc
  have z1 : ((c.1.toNat : Nat) : Int) = c.1 := by omega
  have z2 : ((c.2.toNat : Nat) : Int) = c.2 := by omega
  refine gd_ix (l := l) (ds := col.map Dt.int) (gd_ix ha h1 ?_) h2 ?_
  · rw [← z1]
    exact atI_nat (by rw [List.getElem?_map, e1]; rfl)
  · rw [← z2]
    exact atI_nat (by rw [List.getElem?_map, e3]; rfl)
end
section
variable {P : Program} {w : World} {K : PySem.W.Frag} {mg : Str → Option Value} {base : Heap}
abbrev spIsNum : Sp := spI (ι := Int) (fun i => [.int i]) (fun _ => True) (fun _ d => d = .bl true)
theorem ca_is_number (T : Top K mg) : Ca P w K mg base 1 "is_number" spIsNum := by
  have sc := sc_is_number
  refine ca_of T.f_is_number (fun _ _ _ _ _ _ us hl => match us, hl with | [_], _ => rfl) sc (fun _ => rfl) fun f cdv A outer s H E hr => ⟨_, (pss_one (ps_ret (pe_and (pe_callB (call_isiK' (K := K) rfl) (by rfl) T.b_isinstance (by decide +kernel) (pa_cons (pv 0) (pa_cons (pe_bltn (v := .ty "int") (u := .type "int") (by rfl) T.b_int (by decide +kernel) rfl) pa_nil))) (pe_one (pe_not (pe_callB (call_isiK' (K := K) rfl) (by rfl) T.b_isinstance (by decide +kernel) (pa_cons (pv 0) (pa_cons (pe_bltn (v := .ty "bool") (u := .type "bool") (by rfl) T.b_bool (by decide +kernel) rfl) pa_nil)))))))), ?_⟩
  rintro qs i D - hR
  refine ok_rtD (gd_andV (gd_isi (gd_var rfl) rfl kb_int_int) fun _ => gd_notV (gd_isi (gd_var rfl) rfl kb_int_bool)) hR rfl
abbrev spIsFrom : Sp := spI (ι := Int × Int) (fun i => [.int i.1, .int i.2]) (fun _ => True) (fun i d => d = .bl (decide (i.2 ≤ i.1)))
theorem ca_is_from (T : Top K mg) : Ca P w K mg base 2 "is_from" spIsFrom := by
  have sc := sc_is_from
  refine ca_of T.f_is_from (fun _ _ _ _ _ _ us hl => match us, hl with | [_, _], _ => rfl) sc (fun _ => rfl) fun f cdv A outer s H E hr => ⟨_, (pss_one (ps_ret (pe_and (pe_ca (ca_is_number T) hr (by decide) (by rfl) (pa_cons (pv 0) pa_nil)) (pe_one (pe_cmpR op_ge (pv 0) (pv 1) (nomark _)))))), ?_⟩
  rintro qs i D - hR
  refine ok_rtD (gd_andV (gd_call (i := i.1) (ga_cons (gd_var rfl) ga_nil) trivial) fun _ => gd_ge (gd_var rfl) (gd_var rfl)) hR (by simp)
abbrev spIsRow : Sp := spI (ι := List Dt × Int) (fun i => [.seq false i.1, .int i.2]) (fun i => noDAll i.1 = true) (fun i d => d = .bl (decide ((i.1.length : Int) = i.2)))
theorem ca_is_row (T : Top K mg) : Ca P w K mg base 1 "is_row" spIsRow := by
  have sc := sc_is_row
  refine ca_of T.f_is_row (fun _ _ _ _ _ _ us hl => match us, hl with | [_, _], _ => rfl) sc (fun _ => rfl) fun f cdv A outer s H E hr => ⟨_, (pss_one (ps_ret (pe_and (pe_callB (call_isiK' (K := K) rfl) (by rfl) T.b_isinstance (by decide +kernel) (pa_cons (pv 0) (pa_cons (pe_bltn (v := .ty "tuple") (u := .type "tuple") (by rfl) T.b_tuple (by decide +kernel) rfl) pa_nil))) (pe_one (pe_cmpR op_eq (pe_callB (call_lenK (K := K) rfl) (by rfl) T.b_len (by decide +kernel) (pa_cons (pv 0) pa_nil)) (pv 1) (nomark _)))))), ?_⟩
  rintro qs i D hp hR
  refine ok_rtD (gd_andV (gd_isi (gd_var rfl) (by rw [noD]; exact hp) kb_tuple_tuple) fun _ => gd_eqI (gd_len (gd_var rfl)) (gd_var rfl)) hR (by simp)
abbrev spCellB : Sp := spI (ι := Bool × Grid × Cell) (fun i => [dHeap i.1 i.2.1, dCell i.2.2]) (fun i => i.2.1 ≠ []) (fun i d => d = .bl (inG i.2.1 i.2.2))
theorem ca_is_cell (T : Top K mg) : Ca P w K mg base 3 "is_cell" spCellB := by
  have sc := sc_is_cell
  refine ca_of T.f_is_cell (fun _ _ _ _ _ _ us hl => match us, hl with | [_, _], _ => rfl) sc (fun _ => rfl) fun f cdv A outer s H E hr => ⟨_, (pss_cons (ps_if (PW.pt (pw_or (pt_not (pt_val (pe_ca (ca_is_row T) hr (by decide) (by rfl) (pa_cons (pv 1) (pa_cons (pe_gcI (by rfl) T.c_PAIR) pa_nil))))) (pw_or (pt_not (pt_val (pe_ca (ca_is_from T) hr (by decide) (by rfl) (pa_cons (pe_ix (ix_seqK (K := K) rfl) (pv 1) pe_int (fun _ _ => rfl)) (pa_cons pe_int pa_nil))))) (pw_or1 (pt_not (pt_val (pe_ca (ca_is_from T) hr (by decide) (by rfl) (pa_cons (pe_ix (ix_seqK (K := K) rfl) (pv 1) pe_int (fun _ _ => rfl)) (pa_cons pe_int pa_nil)))))))))
      (pss_one (ps_ret pe_bl))
      pss_nil)
    (pss_one (ps_ret (pe_and (pe_cmpR op_lt (pe_ix (ix_seqK (K := K) rfl) (pv 1) pe_int (fun _ _ => rfl)) (pe_callB (call_lenK (K := K) rfl) (by rfl) T.b_len (by decide +kernel) (pa_cons (pv 0) pa_nil)) (nomark _)) (pe_one (pe_cmpR op_lt (pe_ix (ix_seqK (K := K) rfl) (pv 1) pe_int (fun _ _ => rfl)) (pe_callB (call_lenK (K := K) rfl) (by rfl) T.b_len (by decide +kernel) (pa_cons (pe_ix (ix_seqK (K := K) rfl) (pv 0) pe_int (fun _ _ => rfl)) pa_nil)) (nomark _))))))), ?_⟩
  rintro qs ⟨l, g, c⟩ D hp hR
  refine ok_seq (ok_if (b := !(decide (0 ≤ c.1) && decide (0 ≤ c.2))) (GT.cast (gt_or (gt_not (gt_B (gd_call (i := ([.int c.1, .int c.2], 2)) (ga_cons (gd_var rfl) (ga_cons gd_int ga_nil)) rfl))) fun _ =>
    gt_or (gt_not (gt_B (gd_call (i := (c.1, 0)) (ga_cons (gd_ix (gd_var rfl) gd_int rfl) (ga_cons gd_int ga_nil)) trivial))) fun _ =>
      gt_not (gt_B (gd_call (i := (c.2, 0)) (ga_cons (gd_ix (gd_var rfl) gd_int rfl) (ga_cons gd_int ga_nil)) trivial))) (by simp [Bool.not_and])) (fun hb => ?_) (fun hb => ok_next ?_))
  · refine ok_rtD gd_bl hR ?_
    show Dt.bl false = .bl (inG g c)
    have : inG g c = false := by
      cases h : inG g c with
      | false => rfl
      | true =>
        obtain ⟨⟨a1, _⟩, a3, _⟩ := inG_iff.mp h
        rw [decide_eq_true a1, decide_eq_true a3] at hb
        cases hb
    rw [this]
  · refine ok_rtD (gd_andV (gd_lt (gd_ix (gd_var rfl) gd_int rfl) (gd_wid (gd_var rfl))) fun _ => gd_lt (gd_ix (gd_var rfl) gd_int rfl) (gd_ht (gd_var rfl) hp)) hR ?_
    rw [Bool.not_eq_false', Bool.and_eq_true] at hb
    show Dt.bl _ = .bl (inG g c)
    unfold inG
    rw [hb.1, hb.2, Bool.true_and, Bool.true_and]
abbrev spNear : Sp := spI (ι := Bool × Grid × Cell) (fun i => [dHeap i.1 i.2.1, dCell i.2.2]) (fun i => i.2.1 ≠ []) (fun i d => d = dCells true (near i.2.1 i.2.2))
theorem ca_near_cells (T : Top K mg) : Ca P w K mg base 1 "near_cells" spNear := by
  have sc := sc_near_cells
  refine ca_of T.f_near_cells (fun _ _ _ _ _ _ us hl => match us, hl with | [_, _], _ => rfl) sc (fun _ => rfl) fun f cdv A outer s H E hr => ⟨_, (pss_cons (ps_asg (pv 1) (pg_tupK (K := K) (n := 2) rfl rfl (pgs_cons (pg_name (i := 2) sc.nd rfl (Or.inl rfl)) (pgs_cons (pg_name (i := 3) sc.nd rfl (Or.inl rfl)) pgs_nil))))
    (pss_cons (ps_set (i := 4) sc.nd rfl (Or.inl rfl) (pe_lst (pa_cons (pe_tup (pa_cons (pe_op op_sub (pv 2) pe_int) (pa_cons (pv 3) pa_nil))) (pa_cons (pe_tup (pa_cons (pv 2) (pa_cons (pe_op op_sub (pv 3) pe_int) pa_nil))) (pa_cons (pe_tup (pa_cons (pv 2) (pa_cons (pe_op op_add (pv 3) pe_int) pa_nil))) (pa_cons (pe_tup (pa_cons (pe_op op_add (pv 2) pe_int) (pa_cons (pv 3) pa_nil))) pa_nil))))))
    (pss_one (ps_ret (pe_lc (own := [("own", 5)]) rfl sc.nd (pi_seqK (K := K) rfl (pv 4)) (blkOk_by (own := [("own", 5)]) (N := N_near_cells) (sc := (defScope s_near_cells)) (by decide +kernel)) (fun _ _ _ _ _ => (pg_name (i := 5) sc.nd rfl (Or.inl rfl))) (fun _ _ _ _ _ => pts_one (PW.pt (pw_and (pt_chain op_le op_lt pe_int (pe_ix (ix_seqK (K := K) rfl) (pv 5) pe_int (fun _ _ => rfl)) (pe_callB (call_lenK (K := K) rfl) (by rfl) T.b_len (by decide +kernel) (pa_cons (pv 0) pa_nil))) (pw_and1 (pt_chain op_le op_lt pe_int (pe_ix (ix_seqK (K := K) rfl) (pv 5) pe_int (fun _ _ => rfl)) (pe_callB (call_lenK (K := K) rfl) (by rfl) T.b_len (by decide +kernel) (pa_cons (pe_ix (ix_seqK (K := K) rfl) (pv 0) pe_int (fun _ _ => rfl)) pa_nil))))))) (fun _ _ _ _ _ => (pv 5))))))), ?_⟩
  rintro qs ⟨l, g, c⟩ D hp hR
  refine ok_asg (gd_var rfl) (gg_tup (vs := [2, 3]) (ggs_cons (gg_name (by decide)) (ggs_cons (gg_name (by decide)) ggs_nil)) rfl) ?_
  refine ok_setD (GN.gd (gn_lst (ga_cons (gd_tup (ga_cons (gd_sub (gd_var rfl) gd_int) (ga_cons (gd_var rfl) ga_nil)) fw)
    (ga_cons (gd_tup (ga_cons (gd_var rfl) (ga_cons (gd_sub (gd_var rfl) gd_int) ga_nil)) fw)
    (ga_cons (gd_tup (ga_cons (gd_var rfl) (ga_cons (gd_add (gd_var rfl) gd_int) ga_nil)) fw)
    (ga_cons (gd_tup (ga_cons (gd_add (gd_var rfl) gd_int) (ga_cons (gd_var rfl) ga_nil)) fw) ga_nil)))) fw)) ?_
  refine ok_rtD (GN.gd (gn_lc (xs := around c) (f := dCell) (b := inG g) (e := dCell) (gw_seq (gd_var rfl)) fw (fun x _ => gg_name (by decide)) (fun x _ => ?_) (fun x _ _ => gd_var rfl))) hR rfl
  exact gt_and (gt_test (gd_chain gd_int (gd_ix (gd_var rfl) gd_int rfl) (gd_wid (gd_var rfl)))) fun _ => gt_test (gd_chain gd_int (gd_ix (gd_var rfl) gd_int rfl) (gd_ht (gd_var rfl) hp))
abbrev spAt : Sp := spI (ι := Bool × Grid × Cell) (fun i => [dHeap i.1 i.2.1, dCell i.2.2]) (fun i => Shp i.2.1 ∧ inG i.2.1 i.2.2 = true) (fun i d => d = .int (atG i.2.1 i.2.2))
theorem ca_stuff_at (T : Top K mg) : Ca P w K mg base 1 "stuff_at" spAt := by
  have sc := sc_stuff_at
  refine ca_of T.f_stuff_at (fun _ _ _ _ _ _ us hl => match us, hl with | [_, _], _ => rfl) sc (fun _ => rfl) fun f cdv A outer s H E hr => ⟨_, (pss_one (ps_ret (pe_ix (ix_seqK (K := K) rfl) (pe_ix (ix_seqK (K := K) rfl) (pv 0) (pe_ix (ix_seqK (K := K) rfl) (pv 1) pe_int (fun _ _ => rfl)) (fun _ _ => rfl)) (pe_ix (ix_seqK (K := K) rfl) (pv 1) pe_int (fun _ _ => rfl)) (fun _ _ => rfl)))), ?_⟩
  rintro qs ⟨l, g, c⟩ D hp hR
  exact ok_rtD (gd_at hp.1 hp.2 (gd_var rfl) (gd_ix (gd_var rfl) gd_int rfl) (gd_ix (gd_var rfl) gd_int rfl)) hR rfl
end
end DL
/-! Plain: what is joined to some cells within others. -/
namespace DL
theorem nodup_len {l A : List Cell} (h : l.Nodup) (s : ∀ x ∈ l, x ∈ A) : l.length ≤ A.length := by
  induction l generalizing A with
  | nil => exact Nat.zero_le _
  | cons a r ih =>
    obtain ⟨h1, h2⟩ := List.nodup_cons.mp h
    have ha : a ∈ A := s a List.mem_cons_self
    have e := ih (A := A.erase a) h2 fun x hx => (List.mem_erase_of_ne (by rintro rfl; exact h1 hx)).mpr (s x (List.mem_cons_of_mem _ hx))
    rw [List.length_erase_of_mem ha] at e
    have : 0 < A.length := List.length_pos_of_mem ha
    rw [List.length_cons]
    omega
/-- joined to F by steps over A -/
inductive Rch (A F : List Cell) : Cell → Prop where
  | base {c : Cell} : c ∈ F → Rch A F c
  | step {c d : Cell} : Rch A F c → d ∈ around c → d ∈ A → Rch A F d
theorem around_symm {c d : Cell} (h : d ∈ around c) : c ∈ around d := by
  obtain ⟨a, b⟩ := c
  obtain ⟨x, y⟩ := d
  simp only [around, List.mem_cons, Prod.mk.injEq, List.not_mem_nil, or_false] at h ⊢
  omega
/-- while a flood goes on: found, and what is left of it to be looked round -/
structure Fl (A F ks ls : List Cell) : Prop where
  nd : ks.Nodup
  ss : ∀ c ∈ ls, c ∈ ks
  fs : ∀ c ∈ F, c ∈ ks
  ga : ∀ c ∈ ks, c ∈ A
  rc : ∀ c ∈ ks, Rch A F c
  cl : ∀ c ∈ ks, c ∉ ls → ∀ d ∈ around c, d ∈ A → d ∈ ks
/-- amid a cell's neighbours ds, the first i looked at -/
structure FlI (A F ks ls : List Cell) (x : Cell) (ds : List Cell) (i : Nat) : Prop where
  nd : ks.Nodup
  ss : ∀ c ∈ ls, c ∈ ks
  fs : ∀ c ∈ F, c ∈ ks
  ga : ∀ c ∈ ks, c ∈ A
  rc : ∀ c ∈ ks, Rch A F c
  hx : x ∈ ks
  cl : ∀ c ∈ ks, c ∉ ls → c ≠ x → ∀ d ∈ around c, d ∈ A → d ∈ ks
  dn : ∀ d ∈ ds.take i, d ∈ A → d ∈ ks
theorem Fl.start {A F : List Cell} (hn : F.Nodup) (hs : ∀ c ∈ F, c ∈ A) : Fl A F F F := ⟨hn, fun _ h => h, fun _ h => h, hs, fun _ h => .base h, fun _ h n => absurd h n⟩
theorem Fl.pop {A F ks ls : List Cell} {x : Cell} {ds : List Cell} (h : Fl A F ks (ls ++ [x])) : FlI A F ks ls x ds 0 :=
  ⟨h.nd, fun c hc => h.ss c (List.mem_append_left _ hc), h.fs, h.ga, h.rc, h.ss x (by simp), fun c hc hn hx => h.cl c hc (by simp [hn, hx]), fun d hd => by simp at hd⟩
theorem FlI.skip {A F ks ls ds : List Cell} {x d : Cell} {i : Nat} (h : FlI A F ks ls x ds i) (hd : ds[i]? = some d) (hk : ¬ (d ∈ A ∧ d ∉ ks)) : FlI A F ks ls x ds (i + 1) :=
  ⟨h.nd, h.ss, h.fs, h.ga, h.rc, h.hx, h.cl, fun e he ha => by
    rw [List.take_add_one, hd] at he
    rcases List.mem_append.mp he with z | z
    · exact h.dn e z ha
    · have : e = d := by simpa using z
      subst this
      by_cases q : e ∈ ks
      · exact q
      · exact absurd ⟨ha, q⟩ hk⟩
theorem FlI.add {A F ks ls ds : List Cell} {x d : Cell} {i : Nat} (h : FlI A F ks ls x ds i) (hd : ds[i]? = some d) (hr : ∀ e ∈ ds, e ∈ around x) (ha : d ∈ A) (hk : d ∉ ks) : FlI A F (ks ++ [d]) (ls ++ [d]) x ds (i + 1) where
  nd := by
    rw [List.nodup_append]
    refine ⟨h.nd, by simp, fun a h1 b hb e => ?_⟩
    have h2 : b = d := by simpa using hb
    rw [h2] at e
    exact hk (e ▸ h1)
  ss := fun c hc => by
    rcases List.mem_append.mp hc with z | z
    · exact List.mem_append_left _ (h.ss c z)
    · exact List.mem_append_right _ z
  fs := fun c hc => List.mem_append_left _ (h.fs c hc)
  ga := fun c hc => by
    rcases List.mem_append.mp hc with z | z
    · exact h.ga c z
    · have : c = d := by simpa using z
      exact this ▸ ha
  rc := fun c hc => by
    rcases List.mem_append.mp hc with z | z
    · exact h.rc c z
    · have : c = d := by simpa using z
      subst this
      exact .step (h.rc x h.hx) (hr _ (List.mem_of_getElem? hd)) ha
  hx := List.mem_append_left _ h.hx
  cl := fun c hc hn hx e he hea => by
    rcases List.mem_append.mp hc with z | z
    · exact List.mem_append_left _ (h.cl c z (fun q => hn (List.mem_append_left _ q)) hx e he hea)
    · exact absurd (List.mem_append_right _ z) hn
  dn := fun e he hea => by
    rw [List.take_add_one, hd] at he
    rcases List.mem_append.mp he with z | z
    · exact List.mem_append_left _ (h.dn e z hea)
    · exact List.mem_append_right _ (by simpa using z)
theorem FlI.done {A F ks ls ds : List Cell} {x : Cell} (h : FlI A F ks ls x ds ds.length) (hr : ∀ e ∈ around x, e ∈ A → e ∈ ds) : Fl A F ks ls :=
  ⟨h.nd, h.ss, h.fs, h.ga, h.rc, fun c hc hn d hd hda => by
    by_cases e : c = x
    · subst e
      exact h.dn d (by rw [List.take_length]; exact hr d hd hda) hda
    · exact h.cl c hc hn e d hd hda⟩
theorem Fl.all {A F ks : List Cell} (h : Fl A F ks []) {c : Cell} : c ∈ ks ↔ Rch A F c := by
  constructor
  · exact h.rc c
  · intro r
    induction r with
    | base hc => exact h.fs _ hc
    | step _ hd ha ih => exact h.cl _ ih (by simp) _ hd ha
theorem Rch.mono {A F A' F' : List Cell} (ha : ∀ c ∈ A, c ∈ A') (hf : ∀ c ∈ F, c ∈ F') {c : Cell} (h : Rch A F c) : Rch A' F' c := by
  induction h with
  | base h => exact .base (hf _ h)
  | step _ h1 h2 ih => exact .step ih h1 (ha _ h2)
theorem Rch.inA {A F : List Cell} (hf : ∀ c ∈ F, c ∈ A) {c : Cell} (h : Rch A F c) : c ∈ A := by
  cases h with
  | base h => exact hf _ h
  | step _ _ h => exact h
def airC (g : Grid) : List Cell := (allC g).filter fun c => decide (atG g c = 0)
def isTop (g : Grid) (c : Cell) : Bool := decide (c.2 = (ht g : Int) - 1)
def nearSt (g : Grid) (c : Cell) : Bool := decide (c.2 = 0) || (near g c).any fun d => !decide (atG g d = 0)
theorem mem_airC {g : Grid} {c : Cell} : c ∈ airC g ↔ inG g c = true ∧ atG g c = 0 := by
  unfold airC
  rw [List.mem_filter, mem_allC, decide_eq_true_eq]
theorem airC_nodup (g : Grid) : (airC g).Nodup := (allC_nodup g).filter _
theorem near_in {g : Grid} {c d : Cell} (h : d ∈ near g c) : inG g d = true := (List.mem_filter.mp h).2
theorem near_around {g : Grid} {c d : Cell} (h : d ∈ near g c) : d ∈ around c := (List.mem_filter.mp h).1
theorem near_len (g : Grid) (c : Cell) : (near g c).length ≤ 4 := List.length_filter_le _ _
/-- open: joined by air to air of the top row -/
def Opn (g : Grid) (c : Cell) : Prop := Rch (airC g) ((airC g).filter (isTop g)) c
end DL
set_option maxHeartbeats 1000000
namespace DL
open PySem PySem.Spec PyProof.Rows L2
section
variable {ρ : List Sl} {ta tb te td : TE} {K : PySem.W.Frag}
theorem gn_lcY {α : Type} {wi : TI} {g : TG} {te : TE} {vs : List Nat} {xs : List α} {f : α → Dt} {ρ' : α → List Sl} {e : α → Dt} (hw : GW wi ρ (xs.map f)) (hn : xs.length ≤ sizeLine)
    (hg : ∀ x ∈ xs, GG g vs (f x) (wipeR ρ vs) (ρ' x)) (he : ∀ x ∈ xs, GD te (ρ' x) (e x)) : GN (tLc wi g tYes te vs) ρ (.seq true (xs.map e)) := by
  have h := gn_lc (b := fun _ => true) hw hn hg (fun x _ => gt_yes) (fun x m _ => he x m)
  rw [List.filter_eq_self.mpr (fun _ _ => rfl)] at h
  exact h
theorem gn_lcKY {i : Nat} {g : TG} {te : TE} {vs : List Nat} {kvs : List (Cell × V)} {ρ' : Cell → List Sl} {e : Cell → Dt} (hi : ρ[i]? = some (.im (.dic kvs))) (hn : kvs.length ≤ sizeLine)
    (hg : ∀ x ∈ kvs.map (·.1), GG g vs (dCell x) (wipeR ρ vs) (ρ' x)) (he : ∀ x ∈ kvs.map (·.1), GD te (ρ' x) (e x)) : GN (tLockQ (tLc (iKeys (tVar i)) g tYes te vs)) ρ (.seq true ((kvs.map (·.1)).map e)) := by
  have h := gn_lcK (b := fun _ => true) hi hn hg (fun x _ => gt_yes) (fun x m _ => he x m)
  rw [List.filter_eq_self.mpr (fun _ _ => rfl)] at h
  exact h
theorem gd_anyM {α : Type} {xs : List α} {p : α → Bool} (ha : GD ta ρ (.seq true (xs.map fun x => .bl (p x)))) : GD (tCB (rAny K) (tCons ta tNil)) ρ (.bl (xs.any p)) := by
  have h := gd_any (K := K) (zs := xs.map p) (ha.cast (by rw [List.map_map]; rfl))
  rw [List.any_map] at h
  exact h
theorem gd_allM {α : Type} {xs : List α} {p : α → Bool} (ha : GD ta ρ (.seq true (xs.map fun x => .bl (p x)))) : GD (tCB (rAll K) (tCons ta tNil)) ρ (.bl (xs.all p)) := by
  have h := gd_all (K := K) (zs := xs.map p) (ha.cast (by rw [List.map_map]; rfl))
  rw [List.all_map] at h
  exact h
theorem kany_ll : PySem.W.kitAny K (.type "list") [.type "list", .type "tuple"] = some true := kitAny_cons (kit_ty kb_list_list) (fun z => by cases z) fun _ => rfl
theorem kany_tl : PySem.W.kitAny K (.type "tuple") [.type "list", .type "tuple"] = some true := kitAny_cons (kit_ty kb_tuple_list) (fun _ => kitAny_cons (kit_ty kb_tuple_tuple) (fun z => by cases z) fun _ => rfl) fun z => by cases z
theorem kany_no {n : String} (h1 : kitB n "list" = some false) (h2 : kitB n "tuple" = some false) : PySem.W.kitAny K (.type n) [.type "list", .type "tuple"] = some false :=
  kitAny_cons (kit_ty h1) (fun _ => kitAny_cons (kit_ty h2) (fun _ => rfl) fun z => by cases z) fun z => by cases z
theorem kany_seq (l : Bool) (ds : List Dt) : PySem.W.kitAny K (.type (tyN (.seq l ds))) [.type "list", .type "tuple"] = some true := by
  cases l with
  | true => exact kany_ll
  | false => exact kany_tl
theorem ok_never {ps : List Addr} {bs : List (List Addr × Hp)} {D : Ends} (h : False) : Ok ps bs tNever ρ D := h.elim
end
def tupI (l : Bool) (ns : List Int) : Dt := .seq l (ns.map .int)
theorem heap_noD (g : Grid) (l : Bool) : noDAll (g.map fun c => Dt.seq l (c.map .int)) = true := noDAll_map (f := fun c : List Int => Dt.seq l (c.map .int)) (fun c => by rw [noD]; exact noDAll_map (f := Dt.int) (fun _ => rfl) c) g
theorem sl12 {n : Nat} (h : n ≤ 1000) : n ≤ sizeLine := sz (Nat.le_trans h (by decide))
section
variable {P : Program} {w : World} {K : PySem.W.Frag} {mg : Str → Option Value} {base : Heap}
theorem ca_tup0 (T : Top K mg) : Ca P w K mg base 1 "tupled" (spI (ι := Int) (fun i => [.int i]) (fun _ => True) (fun i d => d = .int i)) := by
  have sc := sc_tupled
  refine ca_of T.f_tupled (fun _ _ _ _ _ _ us hl => match us, hl with | [_], _ => rfl) sc (fun _ => rfl) fun f cdv A outer s H E hr => ⟨_, (pss_one (ps_ret (pe_ifExp (pt_val (pe_callB (call_isiTK (K := K) rfl) (by rfl) T.b_isinstance (by decide +kernel) (pa_cons (pv 0) (pa_cons (pe_tup (pa_cons (pe_bltn (v := .ty "list") (u := .type "list") (by rfl) T.b_list (by decide +kernel) rfl) (pa_cons (pe_bltn (v := .ty "tuple") (u := .type "tuple") (by rfl) T.b_tuple (by decide +kernel) rfl) pa_nil))) pa_nil)))) pe_nev (pv 0)))), ?_⟩
  rintro qs i D - hR
  refine ok_rt ?_ hR
  exact ge_ifE (gt_B (gd_isi2 (gd_var rfl) rfl (kany_no kb_int_list kb_int_tuple))) (fun z => by cases z) fun _ => (gd_var rfl).ge rfl
theorem ca_tup1 (T : Top K mg) : Ca P w K mg base 2 "tupled" (spI (ι := Bool × List Int) (fun i => [tupI i.1 i.2]) (fun i => i.2.length ≤ 1000) (fun i d => d = tupI false i.2)) := by
  have sc := sc_tupled
  refine ca_of T.f_tupled (fun _ _ _ _ _ _ us hl => match us, hl with | [_], _ => rfl) sc (fun _ => rfl) fun f cdv A outer s H E hr => ⟨_, (pss_one (ps_ret (pe_ifExp (pt_val (pe_callB (call_isiTK (K := K) rfl) (by rfl) T.b_isinstance (by decide +kernel) (pa_cons (pv 0) (pa_cons (pe_tup (pa_cons (pe_bltn (v := .ty "list") (u := .type "list") (by rfl) T.b_list (by decide +kernel) rfl) (pa_cons (pe_bltn (v := .ty "tuple") (u := .type "tuple") (by rfl) T.b_tuple (by decide +kernel) rfl) pa_nil))) pa_nil)))) (pe_callTy (call_tupK (K := K) rfl) (by rfl) T.b_tuple (by decide +kernel) (pa_cons (pe_lc (own := [("own", 1)]) rfl sc.nd (pi_seqK (K := K) rfl (pv 0)) (blkOk_by (own := [("own", 1)]) (N := N_tupled) (sc := (defScope s_tupled)) (by decide +kernel)) (fun _ _ _ _ _ => (pg_name (i := 1) sc.nd rfl (Or.inl rfl))) (fun _ _ _ _ _ => pts_nil) (fun _ _ _ _ _ => (pe_ca (ca_tup0 T) hr (by decide) (by rfl) (pa_cons (pv 1) pa_nil)))) pa_nil)) (pv 0)))), ?_⟩
  rintro qs ⟨l, ns⟩ D hp hR
  refine ok_rt ?_ hR
  exact ge_ifE (gt_B (gd_isi2 (gd_var rfl) (by show noD (tupI l ns) = true; unfold tupI; rw [noD]; exact noDAll_map (f := Dt.int) (fun _ => rfl) ns) (kany_seq l _)))
    (fun _ => (gd_tuple (l := true) (GN.gd (gn_lcY (xs := ns) (f := Dt.int) (e := Dt.int) (gw_seq (gd_var rfl)) (sl12 hp) (fun x _ => gg_name (by decide)) (fun x _ => gd_call (i := x) (ga_cons (gd_var rfl) ga_nil) trivial)))).ge rfl) fun z => by cases z
theorem ca_tup2 (T : Top K mg) : Ca P w K mg base 3 "tupled" (spI (ι := Bool × Grid) (fun i => [dHeap i.1 i.2]) (fun i => Shp i.2) (fun i d => d = dHeap false i.2)) := by
  have sc := sc_tupled
  refine ca_of T.f_tupled (fun _ _ _ _ _ _ us hl => match us, hl with | [_], _ => rfl) sc (fun _ => rfl) fun f cdv A outer s H E hr => ⟨_, (pss_one (ps_ret (pe_ifExp (pt_val (pe_callB (call_isiTK (K := K) rfl) (by rfl) T.b_isinstance (by decide +kernel) (pa_cons (pv 0) (pa_cons (pe_tup (pa_cons (pe_bltn (v := .ty "list") (u := .type "list") (by rfl) T.b_list (by decide +kernel) rfl) (pa_cons (pe_bltn (v := .ty "tuple") (u := .type "tuple") (by rfl) T.b_tuple (by decide +kernel) rfl) pa_nil))) pa_nil)))) (pe_callTy (call_tupK (K := K) rfl) (by rfl) T.b_tuple (by decide +kernel) (pa_cons (pe_lc (own := [("own", 1)]) rfl sc.nd (pi_seqK (K := K) rfl (pv 0)) (blkOk_by (own := [("own", 1)]) (N := N_tupled) (sc := (defScope s_tupled)) (by decide +kernel)) (fun _ _ _ _ _ => (pg_name (i := 1) sc.nd rfl (Or.inl rfl))) (fun _ _ _ _ _ => pts_nil) (fun _ _ _ _ _ => (pe_ca (ca_tup1 T) hr (by decide) (by rfl) (pa_cons (pv 1) pa_nil)))) pa_nil)) (pv 0)))), ?_⟩
  rintro qs ⟨l, g⟩ D hp hR
  refine ok_rt ?_ hR
  exact ge_ifE (gt_B (gd_isi2 (gd_var rfl) (by show noD (dHeap l g) = true; unfold dHeap; rw [noD]; exact heap_noD g l) (kany_seq l _)))
    (fun _ => (gd_tuple (l := true) (GN.gd (gn_lcY (xs := g) (f := tupI l) (e := tupI false) (gw_seq (gd_var rfl)) (sl12 (Nat.le_trans hp.wid (by decide))) (fun x _ => gg_name (by decide))
      (fun x hx => gd_call (i := (l, x)) (ga_cons (gd_var rfl) ga_nil) (by show x.length ≤ 1000; rw [hp.col x hx]; exact Nat.le_trans hp.hgt (by decide)))))).ge rfl) fun z => by cases z
abbrev spCellP (post : Bool × Grid × Cell → Dt → Prop) : Sp := spI (ι := Bool × Grid × Cell) (fun i => [dHeap i.1 i.2.1, dCell i.2.2]) (fun i => Shp i.2.1 ∧ inG i.2.1 i.2.2 = true) post
theorem ca_some_cell (T : Top K mg) : Ca P w K mg base 4 "some_cell" (spCellP fun i d => d = dCell i.2.2) := by
  have sc := sc_some_cell
  refine ca_of T.f_some_cell (fun _ _ _ _ _ _ us hl => match us, hl with | [_, _], _ => rfl) sc (fun _ => rfl) fun f cdv A outer s H E hr => ⟨_, (pss_cons (ps_set (i := 2) sc.nd rfl (Or.inl rfl) (pe_ca (ca_tup1 T) hr (by decide) (by rfl) (pa_cons (pv 1) pa_nil)))
    (pss_cons (ps_if (pt_not (pt_val (pe_ca (ca_is_cell T) hr (by decide) (by rfl) (pa_cons (pv 0) (pa_cons (pv 2) pa_nil)))))
      (pss_one ps_never)
      pss_nil)
    (pss_one (ps_ret (pv 2))))), ?_⟩
  rintro qs ⟨l, g, c⟩ D hp hR
  refine ok_setD (d := dCell c) (gd_call (i := (false, [c.1, c.2])) (ga_cons (gd_var rfl) ga_nil) (by show 2 ≤ 1000; decide)) ?_
  refine ok_seq (ok_if (gt_not (gt_B (gd_call (i := (l, g, c)) (ga_cons (gd_var rfl) (ga_cons (gd_var rfl) ga_nil)) hp.1.ne))) (fun hb => ok_never ?_) fun _ => ok_next (ok_rtD (gd_var rfl) hR rfl))
  have : (!inG g c) = true := hb
  rw [show inG g c = true from hp.2] at this
  cases this
theorem ca_beside (T : Top K mg) : Ca P w K mg base 5 "beside" (spCellP fun i d => d = dCells false (near i.2.1 i.2.2)) := by
  have sc := sc_beside
  refine ca_of T.f_beside (fun _ _ _ _ _ _ us hl => match us, hl with | [_, _], _ => rfl) sc (fun _ => rfl) fun f cdv A outer s H E hr => ⟨_, (pss_one (ps_ret (pe_callTy (call_tupK (K := K) rfl) (by rfl) T.b_tuple (by decide +kernel) (pa_cons (pe_ca (ca_near_cells T) hr (by decide) (by rfl) (pa_cons (pv 0) (pa_cons (pe_ca (ca_some_cell T) hr (by decide) (by rfl) (pa_cons (pv 0) (pa_cons (pv 1) pa_nil))) pa_nil))) pa_nil)))), ?_⟩
  rintro qs ⟨l, g, c⟩ D hp hR
  exact ok_rtD (gd_tuple (l := true) (gd_call (i := (l, g, c)) (ga_cons (gd_var rfl) (ga_cons (gd_call (i := (l, g, c)) (ga_cons (gd_var rfl) (ga_cons (gd_var rfl) ga_nil)) hp) ga_nil)) hp.1.ne)) hR rfl
abbrev spGrid (post : Bool × Grid → Dt → Prop) : Sp := spI (ι := Bool × Grid) (fun i => [dHeap i.1 i.2]) (fun i => Shp i.2) post
theorem ca_heights_of (T : Top K mg) : Ca P w K mg base 1 "heights_of" (spGrid fun i d => d = .int (ht i.2)) := by
  have sc := sc_heights_of
  refine ca_of T.f_heights_of (fun _ _ _ _ _ _ us hl => match us, hl with | [_], _ => rfl) sc (fun _ => rfl) fun f cdv A outer s H E hr => ⟨_, (pss_one (ps_ret (pe_callB (call_lenK (K := K) rfl) (by rfl) T.b_len (by decide +kernel) (pa_cons (pe_ix (ix_seqK (K := K) rfl) (pv 0) pe_int (fun _ _ => rfl)) pa_nil)))), ?_⟩
  rintro qs ⟨l, g⟩ D hp hR
  exact ok_rtD (gd_ht (gd_var rfl) hp.ne) hR rfl
theorem ca_near_stuff (T : Top K mg) : Ca P w K mg base 6 "near_stuff" (spCellP fun i d => d = .bl (nearSt i.2.1 i.2.2)) := by
  have sc := sc_near_stuff
  refine ca_of T.f_near_stuff (fun _ _ _ _ _ _ us hl => match us, hl with | [_, _], _ => rfl) sc (fun _ => rfl) fun f cdv A outer s H E hr => ⟨_, (pss_one (ps_ret (pe_or (pe_cmpR op_eq (pe_ix (ix_seqK (K := K) rfl) (pv 1) pe_int (fun _ _ => rfl)) pe_int (nomark _)) (pe_one (pe_callB (cr_anyK (K := K) rfl rfl) (by rfl) T.b_any (by decide +kernel) (pa_cons (pe_lc (own := [("place", 2), ("height", 3)]) rfl sc.nd (pi_seqK (K := K) rfl (pe_ca (ca_beside T) hr (by decide) (by rfl) (pa_cons (pv 0) (pa_cons (pv 1) pa_nil)))) (blkOk_by (own := [("place", 2), ("height", 3)]) (N := N_near_stuff) (sc := (defScope s_near_stuff)) (by decide +kernel)) (fun _ _ _ _ _ => (pg_tupK (K := K) (n := 2) rfl rfl (pgs_cons (pg_name (i := 2) sc.nd rfl (Or.inl rfl)) (pgs_cons (pg_name (i := 3) sc.nd rfl (Or.inl rfl)) pgs_nil)))) (fun _ _ _ _ _ => pts_nil) (fun _ _ _ _ _ => (pe_cmpR op_ne (pe_ix (ix_seqK (K := K) rfl) (pe_ix (ix_seqK (K := K) rfl) (pv 0) (pv 2) (fun _ _ => rfl)) (pv 3) (fun _ _ => rfl)) (pe_gcI (by rfl) T.c_AIR) (nomark _)))) pa_nil)))))), ?_⟩
  rintro qs ⟨l, g, c⟩ D hp hR
  refine ok_rtD (gd_orV (gd_eqI (gd_ix (gd_var rfl) gd_int rfl) gd_int) fun _ => gd_anyM (p := fun d => !decide (atG g d = 0)) (GN.gd (gn_lcY (xs := near g c) (f := dCell)
    (gw_seq (gd_call (i := (l, g, c)) (ga_cons (gd_var rfl) (ga_cons (gd_var rfl) ga_nil)) hp)) (sl12 (Nat.le_trans (near_len g c) (by decide))) (fun x _ => gg_tup (ggs_cons (gg_name (by decide)) (ggs_cons (gg_name (by decide)) ggs_nil)) rfl) (fun x hx => ?_)))) hR rfl
  exact gd_neI (gd_at hp.1 (near_in hx) (gd_var rfl) (gd_var rfl) (gd_var rfl)) gd_int
theorem ca_tops_out (T : Top K mg) : Ca P w K mg base 1 "tops_out" (spI (ι := Bool × Grid × List Cell) (fun i => [dHeap i.1 i.2.1, dCells false i.2.2]) (fun i => Shp i.2.1 ∧ i.2.2.length ≤ 1000) (fun i d => d = .bl (i.2.2.any (isTop i.2.1)))) := by
  have sc := sc_tops_out
  refine ca_of T.f_tops_out (fun _ _ _ _ _ _ us hl => match us, hl with | [_, _], _ => rfl) sc (fun _ => rfl) fun f cdv A outer s H E hr => ⟨_, (pss_one (ps_ret (pe_callB (cr_anyK (K := K) rfl rfl) (by rfl) T.b_any (by decide +kernel) (pa_cons (pe_lc (own := [("_", 2), ("height", 3)]) rfl sc.nd (pi_seqK (K := K) rfl (pv 1)) (blkOk_by (own := [("_", 2), ("height", 3)]) (N := N_tops_out) (sc := (defScope s_tops_out)) (by decide +kernel)) (fun _ _ _ _ _ => (pg_tupK (K := K) (n := 2) rfl rfl (pgs_cons (pg_name (i := 2) sc.nd rfl (Or.inl rfl)) (pgs_cons (pg_name (i := 3) sc.nd rfl (Or.inl rfl)) pgs_nil)))) (fun _ _ _ _ _ => pts_nil) (fun _ _ _ _ _ => (pe_cmpR op_eq (pv 3) (pe_op op_sub (pe_callB (call_lenK (K := K) rfl) (by rfl) T.b_len (by decide +kernel) (pa_cons (pe_ix (ix_seqK (K := K) rfl) (pv 0) pe_int (fun _ _ => rfl)) pa_nil)) pe_int) (nomark _)))) pa_nil)))), ?_⟩
  rintro qs ⟨l, g, cs⟩ D hp hR
  refine ok_rtD (gd_anyM (p := isTop g) (GN.gd (gn_lcY (xs := cs) (f := dCell) (gw_seq (gd_var rfl)) (sl12 hp.2) (fun x _ => gg_tup (ggs_cons (gg_name (by decide)) (ggs_cons (gg_name (by decide)) ggs_nil)) rfl) (fun x hx => ?_)))) hR rfl
  exact gd_eqI (gd_var rfl) (gd_sub (gd_ht (gd_var rfl) hp.1.ne) gd_int)
end
end DL
set_option maxHeartbeats 1000000
namespace DL
open PySem PySem.Spec PyProof.Rows L2
def tD (cs : List Cell) : Dt := .dic (cs.map fun c => (c, V.bl true))
theorem tD_look {cs : List Cell} {c : Cell} : (look (cs.map fun c => (c, V.bl true)) c).isSome = decide (c ∈ cs) := by rw [look_mem, keys_map]
theorem tD_put {cs : List Cell} {c : Cell} (h : c ∉ cs) : Dt.dic (putD (cs.map fun c => (c, V.bl true)) c (.bl true)) = tD (cs ++ [c]) := by
  rw [putD_new (by rw [keys_map]; exact h)]
  unfold tD
  rw [List.map_append]
  rfl
theorem lc2R_len {α β : Type} {ys : α → List β} {b : α → β → Bool} {e : α → β → Dt} {m : Nat} : ∀ {xs : List α}, (∀ x ∈ xs, (ys x).length ≤ m) → (lc2R ys b e xs).length ≤ xs.length * m
  | [], _ => Nat.zero_le _
  | x :: r, h => by
    have h1 := h x List.mem_cons_self
    have h2 := lc2R_len (xs := r) (b := b) (e := e) fun y hy => h y (List.mem_cons_of_mem _ hy)
    unfold lc2R at h2 ⊢
    rw [List.flatMap_cons, List.length_append, List.length_map, List.length_cons, Nat.succ_mul]
    have := List.length_filter_le (b x) (ys x)
    omega
theorem lc2R_room {α β : Type} {ys : α → List β} {b : α → β → Bool} {e : α → β → Dt} {xs : List α} (h : ∀ x ∈ xs, (ys x).length ≤ 100) (hx : xs.length ≤ 100) (x : α) (i j : Nat) (hi : xs[i]? = some x) (hj : j < (ys x).length) : (lc2R ys b e (xs.take i)).length + j < sizeLine := by
  have h1 := h x (List.mem_of_getElem? hi)
  have h2 := lc2R_len (m := 100) (b := b) (e := e) (xs := xs.take i) fun y hy => h y (List.mem_of_mem_take hy)
  have h3 : (xs.take i).length ≤ 100 := Nat.le_trans (List.length_take_le' _ _) hx
  have h4 := Nat.mul_le_mul_right 100 h3
  exact szlt (by omega)
theorem lc2_all (g : Grid) : lc2R (fun _ => List.range (ht g)) (fun _ _ => true) (fun (i j : Nat) => Dt.seq false [.int (0 + (i : Nat)), .int (0 + (j : Nat))]) (List.range g.length) = (allC g).map dCell := by
  unfold lc2R allC
  rw [List.map_flatMap]
  congr 1
  funext i
  rw [List.filter_eq_self.mpr (fun _ _ => rfl), List.map_map]
  refine List.map_congr_left fun j _ => ?_
  simp [dCell]
theorem zip_range {α : Type} (d : α) (l : List α) : l.zipIdx = (List.range l.length).map fun i => (l.getD i d, i) := by
  refine List.ext_getElem? fun i => ?_
  rw [List.getElem?_zipIdx, List.getElem?_map]
  by_cases h : i < l.length
  · rw [List.getElem?_range h]
    simp [h]
  · simp [h]
theorem flatMap_congrM {α β : Type} {f h : α → List β} : ∀ {l : List α}, (∀ x ∈ l, f x = h x) → l.flatMap f = l.flatMap h
  | [], _ => rfl
  | x :: r, e => by rw [List.flatMap_cons, List.flatMap_cons, e x List.mem_cons_self, flatMap_congrM fun y hy => e y (List.mem_cons_of_mem _ hy)]
theorem lc2_air {g : Grid} (S : Shp g) : lc2R (fun p : List Int × Nat => p.1.zipIdx) (fun _ (q : Int × Nat) => decide (q.1 = 0)) (fun p q => Dt.seq false [.int (p.2 : Nat), .int (q.2 : Nat)]) g.zipIdx = (airC g).map dCell := by
  unfold lc2R airC allC
  rw [zip_range [] g, List.flatMap_map, List.filter_flatMap, List.map_flatMap]
  refine flatMap_congrM fun i hi => ?_
  have hc : (g.getD i []).length = ht g := by
    have h := List.mem_range.mp hi
    rw [List.getD_eq_getElem?_getD]
    simp only [h, List.getElem?_eq_getElem, Option.getD_some]
    exact S.col _ (List.getElem_mem h)
  dsimp only
  rw [zip_range 0, hc, List.filter_map, List.map_map, List.filter_map, List.map_map]
  rfl
section
variable {P : Program} {w : World} {K : PySem.W.Frag} {mg : Str → Option Value} {base : Heap}
theorem shp_len {g : Grid} (S : Shp g) : (allC g).length < 64 := by rw [allC_len]; exact S.few
theorem ca_all_cells (T : Top K mg) : Ca P w K mg base 1 "all_cells" (spGrid fun i d => d = dCells true (allC i.2)) := by
  have sc := sc_all_cells
  refine ca_of T.f_all_cells (fun _ _ _ _ _ _ us hl => match us, hl with | [_], _ => rfl) sc (fun _ => rfl) fun f cdv A outer s H E hr => ⟨_, (pss_one (ps_ret (pe_lc2 (own := [("column", 1), ("height", 2)]) (vs1 := [2]) rfl sc.nd (pi_range1 (by rfl) T.b_range (pa_cons (pe_callB (call_lenK (K := K) rfl) (by rfl) T.b_len (by decide +kernel) (pa_cons (pv 0) pa_nil)) pa_nil)) (blkOk_by (own := [("column", 1), ("height", 2)]) (N := N_all_cells) (sc := (defScope s_all_cells)) (by decide +kernel)) (by decide) (fun _ _ _ _ _ => (pg_name (i := 1) sc.nd rfl (Or.inl rfl))) (fun _ _ _ _ _ => pts_nil) (fun _ _ _ _ _ => (pi_range1 (by rfl) T.b_range (pa_cons (pe_callB (call_lenK (K := K) rfl) (by rfl) T.b_len (by decide +kernel) (pa_cons (pe_ix (ix_seqK (K := K) rfl) (pv 0) pe_int (fun _ _ => rfl)) pa_nil)) pa_nil))) (fun _ _ _ _ _ => (pg_name (i := 2) sc.nd rfl (Or.inl rfl))) (fun _ _ _ _ _ => pts_nil) (fun _ _ _ _ _ => (pe_tup (pa_cons (pv 1) (pa_cons (pv 2) pa_nil))))))), ?_⟩
  rintro qs ⟨l, g⟩ D hp hR
  replace hp : Shp g := hp
  have hw := hp.wid
  have hh := hp.hgt
  refine ok_rtD (GD.cast (GN.gd (gn_lc2 (xs := List.range g.length) (ys := fun _ => List.range (ht g)) (f := fun (i : Nat) => Dt.int (0 + (i : Nat))) (f1 := fun _ (j : Nat) => Dt.int (0 + (j : Nat))) (b := fun _ _ => true)
    (e := fun (i j : Nat) => Dt.seq false [.int (0 + (i : Nat)), .int (0 + (j : Nat))]) (fun x _ => rfl) (gw_range1 (gd_wid (gd_var rfl)) (by omega) (by omega)) (fun x _ => gg_name (by decide))
    (fun x _ => gw_range1 (gd_ht (gd_var rfl) hp.ne) (by omega) (by omega)) (fun x _ y _ => gg_name (by decide)) (fun _ _ _ _ => gt_yes) (fun x _ y _ _ => gd_tup (ga_cons (gd_var rfl) (ga_cons (gd_var rfl) ga_nil)) fw) ?_)) (congrArg (Dt.seq true) (lc2_all g))) hR rfl
  exact lc2R_room (fun x _ => by rw [List.length_range]; omega) (by rw [List.length_range]; omega)
abbrev spLot : Sp := spI (ι := Bool × Grid × Bool) (fun i => [dHeap i.1 i.2.1, .bl i.2.2]) (fun i => Shp i.2.1) (fun i d => d = tD ((allC i.2.1).filter fun c => decide (atG i.2.1 c = 0) == i.2.2))
theorem ca_lot_of_cells (T : Top K mg) : Ca P w K mg base 2 "lot_of_cells" spLot := by
  have sc := sc_lot_of_cells
  refine ca_of T.f_lot_of_cells (fun _ _ _ _ _ _ us hl => match us, hl with | [_, _], _ => rfl) sc (fun _ => rfl) fun f cdv A outer s H E hr => ⟨_, (pss_one (ps_ret (pe_callTy (call_dictC rfl (hu_of hr) hr.units) (by rfl) T.b_dict (by decide +kernel) (pa_cons (pe_lc (own := [("cell", 2)]) rfl sc.nd (pi_seqK (K := K) rfl (pe_ca (ca_all_cells T) hr (by decide) (by rfl) (pa_cons (pv 0) pa_nil))) (blkOk_by (own := [("cell", 2)]) (N := N_lot_of_cells) (sc := (defScope s_lot_of_cells)) (by decide +kernel)) (fun _ _ _ _ _ => (pg_name (i := 2) sc.nd rfl (Or.inl rfl))) (fun _ _ _ _ _ => pts_one (pt_cmpR op_eq (pe_cmpR op_eq (pe_ca (ca_stuff_at T) hr (by decide) (by rfl) (pa_cons (pv 0) (pa_cons (pv 2) pa_nil))) pe_int (nomark _)) (pv 1) (nomark _))) (fun _ _ _ _ _ => (pe_tup (pa_cons (pv 2) (pa_cons pe_bl pa_nil))))) pa_nil)))), ?_⟩
  rintro qs ⟨l, g, b⟩ D hp hR
  refine ok_rtD (GN.gd (gn_dictC (cs := (allC g).filter fun c => decide (atG g c = 0) == b) (d := fun _ => .bl true) (v := fun _ => .bl true) ?_ ((allC_nodup g).filter _) (fun _ _ _ h => is_bl h))) hR rfl
  refine GN.gd (gn_lc (xs := allC g) (f := dCell) (b := fun c => decide (atG g c = 0) == b) (e := fun c => dPair (c, .bl true)) (gw_seq (gd_call (i := (l, g)) (ga_cons (gd_var rfl) ga_nil) hp))
    (sl12 (Nat.le_trans (Nat.le_of_lt (shp_len hp)) (by decide))) (fun x _ => gg_name (by decide)) (fun x hx => gt_test (gd_eqB (gd_eqI (gd_call (i := (l, g, x)) (ga_cons (gd_var rfl) (ga_cons (gd_var rfl) ga_nil)) ⟨hp, mem_allC.mp hx⟩) gd_int) (gd_var rfl)))
    (fun x hx _ => gd_tup (ga_cons (gd_var rfl) (ga_cons gd_bl ga_nil)) fw))
theorem ca_air_cells (T : Top K mg) : Ca P w K mg base 1 "air_cells" (spGrid fun i d => d = dCells true (airC i.2)) := by
  have sc := sc_air_cells
  refine ca_of T.f_air_cells (fun _ _ _ _ _ _ us hl => match us, hl with | [_], _ => rfl) sc (fun _ => rfl) fun f cdv A outer s H E hr => ⟨_, (pss_one (ps_ret (pe_lc2 (own := [("place", 1), ("column", 2), ("height", 3), ("own", 4)]) (vs1 := [3, 4]) rfl sc.nd (pi_enumQ (K := K) rfl (by rfl) T.b_enumerate (pa_cons (pv 0) pa_nil)) (blkOk_by (own := [("place", 1), ("column", 2), ("height", 3), ("own", 4)]) (N := N_air_cells) (sc := (defScope s_air_cells)) (by decide +kernel)) (by decide) (fun _ _ _ _ _ => (pg_tupK (K := K) (n := 2) rfl rfl (pgs_cons (pg_name (i := 1) sc.nd rfl (Or.inl rfl)) (pgs_cons (pg_name (i := 2) sc.nd rfl (Or.inl rfl)) pgs_nil)))) (fun _ _ _ _ _ => pts_nil) (fun _ _ _ _ _ => (pi_enumQ (K := K) rfl (by rfl) T.b_enumerate (pa_cons (pv 2) pa_nil))) (fun _ _ _ _ _ => (pg_tupK (K := K) (n := 2) rfl rfl (pgs_cons (pg_name (i := 3) sc.nd rfl (Or.inl rfl)) (pgs_cons (pg_name (i := 4) sc.nd rfl (Or.inl rfl)) pgs_nil)))) (fun _ _ _ _ _ => pts_one (pt_cmpR op_eq (pv 4) (pe_gcI (by rfl) T.c_AIR) (nomark _))) (fun _ _ _ _ _ => (pe_tup (pa_cons (pv 1) (pa_cons (pv 3) pa_nil))))))), ?_⟩
  rintro qs ⟨l, g⟩ D hp hR
  replace hp : Shp g := hp
  have hw := hp.wid
  have hh := hp.hgt
  refine ok_rtD (GD.cast (GN.gd (gn_lc2 (xs := g.zipIdx) (ys := fun p => p.1.zipIdx) (f := fun p => Dt.seq false [.int (p.2 : Nat), tupI l p.1]) (f1 := fun _ q => Dt.seq false [.int (q.2 : Nat), .int q.1]) (b := fun _ q => decide (q.1 = 0))
    (e := fun p q => Dt.seq false [.int (p.2 : Nat), .int (q.2 : Nat)]) (fun x _ => rfl) (gw_enum (f := tupI l) (gd_var rfl)) (fun x _ => gg_tup (ggs_cons (gg_name (by decide)) (ggs_cons (gg_name (by decide)) ggs_nil)) rfl)
    (fun x _ => gw_enum (l := l) (f := Dt.int) (gd_var rfl)) (fun x _ y _ => gg_tup (ggs_cons (gg_name (by decide)) (ggs_cons (gg_name (by decide)) ggs_nil)) rfl) (fun x _ y _ => gt_test (gd_eqI (gd_var rfl) gd_int)) (fun x _ y _ _ => gd_tup (ga_cons (gd_var rfl) (ga_cons (gd_var rfl) ga_nil)) fw) ?_)) (congrArg (Dt.seq true) (lc2_air hp))) hR rfl
  refine lc2R_room (fun x hx => ?_) (by rw [List.length_zipIdx]; omega)
  rw [List.length_zipIdx, hp.col _ (List.fst_mem_of_mem_zipIdx hx)]
  omega
abbrev spFlood : Sp := spI (ι := Bool × Grid × List Cell × List Cell) (fun i => [dHeap i.1 i.2.1, dCells true i.2.2.1, tD i.2.2.2])
  (fun i => i.2.1 ≠ [] ∧ i.2.2.1.Nodup ∧ (∀ c ∈ i.2.2.1, c ∈ i.2.2.2) ∧ (∀ c ∈ i.2.2.2, inG i.2.1 c = true) ∧ i.2.2.2.length ≤ 1000) (fun i d => ∃ ks : List Cell, d = tD ks ∧ ks.Nodup ∧ ∀ c, c ∈ ks ↔ Rch i.2.2.2 i.2.2.1 c)
theorem ca_flooded (T : Top K mg) : Ca P w K mg base 2 "flooded" spFlood := by
  have sc := sc_flooded
  refine ca_of T.f_flooded (fun _ _ _ _ _ _ us hl => match us, hl with | [_, _, _], _ => rfl) sc (fun _ => rfl) fun f cdv A outer s H E hr => ⟨_, (pss_cons (ps_set (i := 3) sc.nd rfl (Or.inl rfl) (pe_callTy (call_dictC rfl (hu_of hr) hr.units) (by rfl) T.b_dict (by decide +kernel) (pa_cons (pe_lc (own := [("cell", 6)]) rfl sc.nd (pi_seqK (K := K) rfl (pv 1)) (blkOk_by (own := [("cell", 6)]) (N := N_flooded) (sc := (defScope s_flooded)) (by decide +kernel)) (fun _ _ _ _ _ => (pg_name (i := 6) sc.nd rfl (Or.inl rfl))) (fun _ _ _ _ _ => pts_nil) (fun _ _ _ _ _ => (pe_tup (pa_cons (pv 6) (pa_cons pe_bl pa_nil))))) pa_nil)))
    (pss_cons (ps_set (i := 4) sc.nd rfl (Or.inl rfl) (pe_callTy (call_listK (K := K) rfl) (by rfl) T.b_list (by decide +kernel) (pa_cons (pv 1) pa_nil)))
    (pss_cons (ps_while PassesOwn.never (pt_cmpR (op_neDK (K := K) rfl hr.units) (pv 4) (pe_lst pa_nil) (nomark _))
      (pss_one (ps_for PassesOwn.never rfl (pi_seqK (K := K) rfl (pe_ca (ca_near_cells T) hr (by decide) (by rfl) (pa_cons (pv 0) (pa_cons (pe_bm0 PySem.F.plainAttrs_list PySem.F.slot_list_pop PySem.F.type_list_pop mt_pop (pv 4)) pa_nil)))) (pg_name (i := 5) sc.nd rfl (Or.inl rfl))
        (pss_one (ps_if (PW.pt (pw_and (pt_cmp (pc_din (hu_of hr) (pv 5) (pv 2))) (pw_and1 (pt_cmp (pc_dnotin (hu_of hr) (pv 5) (pv 3))))))
          (pss_cons (ps_dput (hu_of hr) (pv 3) (pv 5) pe_bl rfl)
          (pss_one (ps_expr (pe_bm PySem.F.plainAttrs_list PySem.F.slot_list_append PySem.F.type_list_append mt_append (pv 4) (pa_cons (pv 5) pa_nil)))))
          pss_nil)))))
    (pss_one (ps_ret (pv 3)))))), ?_⟩
  rintro qs ⟨l, g, F, G⟩ D ⟨hne, hF, hFG, hG, hln⟩ hR
  dsimp only at hne hF hFG hG hln
  have hFl : F.length ≤ G.length := nodup_len hF hFG
  refine ok_setN (d := tD F) (gn_dictC (cs := F) (d := fun _ => .bl true) (v := fun _ => .bl true) (GN.gd (gn_lcY (xs := F) (f := dCell) (e := fun c => dPair (c, .bl true)) (gw_seq (gd_var rfl)) (sl12 (by omega)) (fun x _ => gg_name (by decide)) (fun x hx => gd_tup (ga_cons (gd_var rfl) (ga_cons gd_bl ga_nil)) fw))) hF (fun _ _ _ h => is_bl h)) fun p hp => ?_
  refine ok_setN (d := dCells true F) (gn_list (gd_var rfl)) fun r hr => ?_
  refine ok_seq (ok_while (fun n ρ' => ∃ ks ls o, ρ' = [.im (dHeap l g), .im (dCells true F), .im (tD G), .ow p (tD ks), .ow r (dCells true ls), o, .un] ∧ Fl G F ks ls ∧ n = 2 * (G.length - ks.length) + ls.length ∧ n ≤ 2 * G.length) (2 * (G.length - F.length) + F.length) ⟨F, F, _, rfl, Fl.start hF hFG, rfl, by omega⟩ ?_)
  rintro n _ ⟨ks, ls, o, rfl, fl, rfl, hcap⟩
  refine ⟨_, gt_test (gd_neNil (ds := ls.map dCell) (gl_own rfl) (plain_cells true ls)), fun hb => ?_, fun hb => ?_⟩
  · rcases List.eq_nil_or_concat ls with rfl | ⟨ls', x, rfl⟩
    · simp at hb
    rw [List.concat_eq_append] at fl hcap ⊢
    have hx1 : (ls' ++ [x]).length = ls'.length + 1 := by rw [List.length_append]; rfl
    rw [hx1] at hcap
    have hls : dCells true (ls' ++ [x]) = .seq true (ls'.map dCell ++ [dCell x]) := by unfold dCells; rw [List.map_append]; rfl
    refine ok_forX [5] (fun i ρ' => ∃ ks' ls'' o, ρ' = [.im (dHeap l g), .im (dCells true F), .im (tD G), .ow p (tD ks'), .ow r (dCells true ls''), o, .un] ∧ FlI G F ks' ls'' x (near g x) i ∧ 2 * (G.length - ks'.length) + ls''.length < 2 * (G.length - ks.length) + (ls' ++ [x]).length)
      (gwx_seq (gx_call2 (i := (l, g, x)) (gd_var rfl) (gx_pop (i := 4) (congrArg (fun d => some (Sl.ow r d)) hls)) rfl hne)) ⟨ks, ls', _, rfl, fl.pop, by rw [hx1]; omega⟩ ?_ ?_
    · rintro H1 i _ d hd ⟨ks', ls'', o, rfl, fi, hm⟩
      obtain ⟨dd, hdd, rfl⟩ : ∃ dd, (near g x)[i]? = some dd ∧ dCell dd = d := by
        rw [List.getElem?_map] at hd
        cases z : (near g x)[i]? with
        | none => rw [z] at hd; cases hd
        | some dd => rw [z] at hd; exact ⟨dd, rfl, Option.some.inj hd⟩
      refine ⟨_, gg_name (by decide), ?_⟩
      have hkl : ks'.length ≤ G.length := nodup_len fi.nd fi.ga
      refine ok_if (GT.cast (gt_and (gt_B (gd_din (gd_var rfl) (GD.gm (gd_var rfl)))) fun _ => gt_B (gd_dnotin (gd_var rfl) (gm_own rfl))) (by rw [tD_look, tD_look])) (fun hb => ?_) (fun hb => ?_)
      · rw [Bool.and_eq_true, Bool.not_eq_true', decide_eq_true_eq, decide_eq_false_iff_not] at hb
        have hs := nodup_len (l := ks' ++ [dd]) (A := G) (fi.add hdd (fun e he => near_around he) hb.1 hb.2).nd (fi.add hdd (fun e he => near_around he) hb.1 hb.2).ga
        have hsl := nodup_len (l := ks') (A := G) fi.nd fi.ga
        have hll : ls''.length ≤ 5000 := by
          rw [hx1] at hm
          omega
        refine ok_seq (ok_dput rfl gd_bl (fun _ _ h => is_bl h) (gd_var rfl) (by rw [List.length_map]; exact szlt (by omega)) (ok_append rfl (gd_var rfl) (by rw [List.length_map]; exact szlt (by omega)) (ok_nx ?_ rfl)))
        refine ⟨ks' ++ [dd], ls'' ++ [dd], .im (dCell dd), ?_, fi.add hdd (fun e he => near_around he) hb.1 hb.2, ?_⟩
        · rw [← tD_put hb.2]
          unfold dCells
          rw [List.map_append]
          rfl
        · rw [hx1] at hm ⊢
          simp only [List.length_append, List.length_cons, List.length_nil] at hs ⊢
          omega
      · refine ok_next (ok_nx ?_ rfl)
        refine ⟨ks', ls'', _, rfl, fi.skip hdd fun z => ?_, hm⟩
        rw [decide_eq_true z.1, decide_eq_false z.2] at hb
        cases hb
    · rintro _ ⟨ks', ls'', o, rfl, fi, hm⟩ σ H E
      rw [List.length_map] at fi
      exact ⟨_, _, hm, ⟨ks', ls'', o, rfl, fi.done fun e he ha => List.mem_filter.mpr ⟨he, hG e ha⟩, rfl, by rw [hx1] at hm; omega⟩, E⟩
  · have : ls = [] := by
      cases ls with
      | nil => rfl
      | cons a b => simp at hb
    subst this
    refine ok_perm (qs := p :: r :: qs) (ok_rtOwn rfl (fun z => ?_) (fun a h => List.mem_cons_of_mem _ h) hR ⟨ks, rfl, fl.nd, fun c => fl.all⟩) fun a => ?_
    · rcases List.mem_cons.mp z with z | z
      · exact hr (z ▸ List.mem_cons_self)
      · exact hp z
    · simp only [List.mem_cons]
      constructor <;> rintro (h | h | h) <;> simp [h]
theorem ca_open_cells (T : Top K mg) : Ca P w K mg base 3 "open_cells" (spGrid fun i d => ∃ ks : List Cell, d = tD ks ∧ ks.Nodup ∧ ∀ c, c ∈ ks ↔ Opn i.2 c) := by
  have sc := sc_open_cells
  refine ca_of T.f_open_cells (fun _ _ _ _ _ _ us hl => match us, hl with | [_], _ => rfl) sc (fun _ => rfl) fun f cdv A outer s H E hr => ⟨_, (pss_cons (ps_asg (pe_tup (pa_cons (pe_ca (ca_lot_of_cells T) hr (by decide) (by rfl) (pa_cons (pv 0) (pa_cons pe_bl pa_nil))) (pa_cons (pe_op op_sub (pe_callB (call_lenK (K := K) rfl) (by rfl) T.b_len (by decide +kernel) (pa_cons (pe_ix (ix_seqK (K := K) rfl) (pv 0) pe_int (fun _ _ => rfl)) pa_nil)) pe_int) pa_nil))) (pg_tupK (K := K) (n := 2) rfl rfl (pgs_cons (pg_name (i := 1) sc.nd rfl (Or.inl rfl)) (pgs_cons (pg_name (i := 2) sc.nd rfl (Or.inr rfl)) pgs_nil))))
    (pss_one (ps_ret (pe_ca (ca_flooded T) hr (by decide) (by rfl) (pa_cons (pv 0) (pa_cons (pe_lockQ (pe_lc (own := [("cell", 3)]) rfl sc.nd (pi_keys (pv 1)) (blkOk_by (own := [("cell", 3)]) (N := N_open_cells) (sc := (defScope s_open_cells)) (by decide +kernel)) (fun _ _ _ _ _ => (pg_name (i := 3) sc.nd rfl (Or.inl rfl))) (fun _ _ _ _ _ => pts_one (pt_cmpR op_eq (pe_ix (ix_seqK (K := K) rfl) (pv 3) pe_int (fun _ _ => rfl)) (pv 2) (nomark _))) (fun _ _ _ _ _ => (pv 3)))) (pa_cons (pv 1) pa_nil))))))), ?_⟩
  rintro qs ⟨l, g⟩ D hp hR
  replace hp : Shp g := hp
  have ea : ((allC g).filter fun c => decide (atG g c = 0) == true) = airC g := by
    unfold airC
    congr 1
    funext c
    simp
  have hal : (airC g).length ≤ 1000 := Nat.le_trans (List.length_filter_le _ _) (Nat.le_trans (Nat.le_of_lt (shp_len hp)) (by decide))
  refine ok_asg (vs := [1, 2]) (d := .seq false [tD (airC g), .int ((ht g : Int) - 1)]) (gd_tup (ga_cons ((gd_call (i := (l, g, true)) (ga_cons (gd_var rfl) (ga_cons gd_bl ga_nil)) hp).cast (by rw [ea])) (ga_cons (gd_sub (gd_ht (gd_var rfl) hp.ne) gd_int) ga_nil)) fw) (gg_tup (ggs_cons (gg_name (by decide)) (ggs_cons (gg_name (by decide)) ggs_nil)) rfl) ?_
  refine ok_rt (ge_call (i := (l, g, (airC g).filter (isTop g), airC g)) (ga_cons (gd_var rfl) (ga_cons (GD.cast (GN.gd (gn_lcK (i := 1) (kvs := (airC g).map fun c => (c, V.bl true)) (b := isTop g) (e := dCell) rfl (sl12 (by rw [List.length_map]; exact hal)) (fun x _ => gg_name (by decide))
    (fun x _ => gt_test (gd_eqI (gd_ix (gd_var rfl) gd_int rfl) (gd_var rfl))) (fun x _ _ => gd_var rfl))) (by rw [keys_map]; rfl)) (ga_cons (gd_var rfl) ga_nil))) ⟨hp.ne, (airC_nodup g).filter _, fun c h => (List.mem_filter.mp h).1, fun c h => (mem_airC.mp h).1, hal⟩) hR
end
end DL
/-! Plain: steps to what is no air. -/
namespace DL
def Ball (g : Grid) : Nat → Cell → Prop
  | 0, _ => False
  | n + 1, c => c ∈ airC g ∧ (nearSt g c = true ∨ ∃ d ∈ near g c, Ball g n d)
theorem Ball.air {g : Grid} : ∀ {n : Nat} {c : Cell}, Ball g n c → c ∈ airC g
  | 0, _, h => h.elim
  | _ + 1, _, h => h.1
theorem Ball.succ {g : Grid} : ∀ {n : Nat} {c : Cell}, Ball g n c → Ball g (n + 1) c
  | 0, _, h => h.elim
  | n + 1, c, h => ⟨h.1, h.2.imp id fun ⟨d, h1, h2⟩ => ⟨d, h1, h2.succ⟩⟩
theorem Ball.le {g : Grid} {n m : Nat} {c : Cell} (h : Ball g n c) (hm : n ≤ m) : Ball g m c := by
  induction hm with
  | refl => exact h
  | step _ ih => exact ih.succ
theorem Ball.one {g : Grid} {c : Cell} : Ball g 1 c ↔ c ∈ airC g ∧ nearSt g c = true :=
  ⟨fun h => ⟨h.1, h.2.elim id fun ⟨_, _, z⟩ => z.elim⟩, fun h => ⟨h.1, .inl h.2⟩⟩
theorem near_symm {g : Grid} {c d : Cell} (hc : inG g c = true) (h : d ∈ near g c) : c ∈ near g d := List.mem_filter.mpr ⟨around_symm (near_around h), hc⟩
/-- each air cell stands over something -/
theorem ball_ht {g : Grid} : ∀ (h : Nat) (c : Cell), c ∈ airC g → c.2 = h → Ball g (h + 1) c
  | 0, c, ha, e => ⟨ha, .inl (by unfold nearSt; rw [e]; rfl)⟩
  | h + 1, c, ha, e => by
    have hi := inG_iff.mp (mem_airC.mp ha).1
    have hd : (c.1, c.2 - 1) ∈ near g c := List.mem_filter.mpr ⟨by simp [around], by rw [inG_iff]; show (0 ≤ c.1 ∧ c.1 < _) ∧ 0 ≤ c.2 - 1 ∧ c.2 - 1 < _; omega⟩
    by_cases z : atG g (c.1, c.2 - 1) = 0
    · exact ⟨ha, .inr ⟨_, hd, ball_ht h (c.1, c.2 - 1) (mem_airC.mpr ⟨near_in hd, z⟩) (by show c.2 - 1 = _; omega)⟩⟩
    · refine Ball.le (n := 1) (Ball.one.mpr ⟨ha, ?_⟩) (by omega)
      unfold nearSt
      rw [Bool.or_eq_true]
      refine .inr (List.any_eq_true.mpr ⟨_, hd, ?_⟩)
      rw [decide_eq_false z]
      rfl
structure IsSteps (g : Grid) (fs : List (Cell × Int)) : Prop where
  nd : (fs.map (·.1)).Nodup
  ky : ∀ c, c ∈ fs.map (·.1) ↔ c ∈ airC g
  vl : ∀ q ∈ fs, ∃ k : Nat, q.2 = (k : Nat) ∧ 1 ≤ k ∧ k ≤ ht g ∧ ∀ n, Ball g n q.1 ↔ k ≤ n
/-- while the steps are told: m of them are -/
structure Bf (g : Grid) (fs : List (Cell × Int)) (m : Nat) (hs : List Cell) : Prop where
  nd : (fs.map (·.1)).Nodup
  vl : ∀ q ∈ fs, ∃ k : Nat, q.2 = (k : Nat) ∧ 1 ≤ k ∧ k ≤ m ∧ ∀ n, Ball g n q.1 ↔ k ≤ n
  al : ∀ c, Ball g m c → c ∈ fs.map (·.1)
  hr : ∀ c, c ∈ hs ↔ (c, (m : Int)) ∈ fs
  m1 : 1 ≤ m
structure BfI (g : Grid) (fs : List (Cell × Int)) (hs ah : List Cell) (i j : Nat) : Prop where
  nd : (fs.map (·.1) ++ ah).Nodup
  nw : ∀ c ∈ ah, c ∈ airC g ∧ ∃ d ∈ hs, c ∈ near g d
  dn : ∀ d ∈ hs.take i, ∀ c ∈ near g d, c ∈ airC g → c ∈ fs.map (·.1) ++ ah
  dj : ∀ d, hs[i]? = some d → ∀ c ∈ (near g d).take j, c ∈ airC g → c ∈ fs.map (·.1) ++ ah
theorem keys_pair {α : Type} (hs : List Cell) (v : α) : (hs.map fun c => (c, v)).map (·.1) = hs := by
  rw [List.map_map]
  exact List.map_id hs
theorem Bf.start (g : Grid) : Bf g (((airC g).filter (nearSt g)).map fun c => (c, (1 : Int))) 1 ((airC g).filter (nearSt g)) where
  nd := by rw [keys_pair]; exact (airC_nodup g).filter _
  vl := fun q hq => by
    obtain ⟨c, hc, rfl⟩ := List.mem_map.mp hq
    refine ⟨1, rfl, Nat.le_refl _, Nat.le_refl _, fun n => ⟨fun h => ?_, fun h => (Ball.one.mpr (List.mem_filter.mp hc)).le h⟩⟩
    cases n with
    | zero => exact h.elim
    | succ n => omega
  al := fun c h => by rw [keys_pair]; exact List.mem_filter.mpr (Ball.one.mp h)
  hr := fun c => by
    constructor
    · exact fun h => List.mem_map.mpr ⟨c, h, rfl⟩
    · intro h
      obtain ⟨d, hd, e⟩ := List.mem_map.mp h
      cases e
      exact hd
  m1 := Nat.le_refl _
theorem key_mem {fs : List (Cell × Int)} {c : Cell} (h : c ∈ fs.map (·.1)) : ∃ v, (c, v) ∈ fs := by
  obtain ⟨q, hq, rfl⟩ := List.mem_map.mp h
  exact ⟨q.2, hq⟩
theorem BfI.start {g : Grid} {fs : List (Cell × Int)} {m : Nat} {hs : List Cell} (h : Bf g fs m hs) : BfI g fs hs [] 0 0 :=
  ⟨by rw [List.append_nil]; exact h.nd, fun c hc => by simp at hc, fun d hd => by simp at hd, fun d _ c hc => by simp at hc⟩
section
variable {g : Grid} {fs : List (Cell × Int)} {m : Nat} {hs ah : List Cell} {i j : Nat} {d c : Cell}
theorem BfI.skip (h : BfI g fs hs ah i j) (hd : hs[i]? = some d) (hc : (near g d)[j]? = some c) (k : ¬ (c ∈ airC g ∧ c ∉ fs.map (·.1) ++ ah)) : BfI g fs hs ah i (j + 1) :=
  ⟨h.nd, h.nw, h.dn, fun d' hd' e he ha => by
    cases hd.symm.trans hd'
    rw [List.take_add_one, hc] at he
    rcases List.mem_append.mp he with z | z
    · exact h.dj d hd e z ha
    · have : e = c := by simpa using z
      subst this
      by_cases q : e ∈ fs.map (·.1) ++ ah
      · exact q
      · exact absurd ⟨ha, q⟩ k⟩
theorem BfI.add (h : BfI g fs hs ah i j) (hd : hs[i]? = some d) (hc : (near g d)[j]? = some c) (k : c ∈ airC g ∧ c ∉ fs.map (·.1) ++ ah) : BfI g fs hs (ah ++ [c]) i (j + 1) where
  nd := by
    rw [← List.append_assoc, List.nodup_append]
    refine ⟨h.nd, by simp, fun a h1 b hb e => ?_⟩
    have h2 : b = c := by simpa using hb
    rw [h2] at e
    exact k.2 (e ▸ h1)
  nw := fun e he => by
    rcases List.mem_append.mp he with z | z
    · exact h.nw e z
    · have : e = c := by simpa using z
      subst this
      exact ⟨k.1, d, List.mem_of_getElem? hd, List.mem_of_getElem? hc⟩
  dn := fun a b e he hae => by rw [← List.append_assoc]; exact List.mem_append_left _ (h.dn a b e he hae)
  dj := fun d' hd' e he ha => by
    cases hd.symm.trans hd'
    rw [← List.append_assoc]
    rw [List.take_add_one, hc] at he
    rcases List.mem_append.mp he with z | z
    · exact List.mem_append_left _ (h.dj d hd e z ha)
    · exact List.mem_append_right _ (by simpa using z)
theorem BfI.next (h : BfI g fs hs ah i (near g d).length) (hd : hs[i]? = some d) : BfI g fs hs ah (i + 1) 0 :=
  ⟨h.nd, h.nw, fun e he => by
    rw [List.take_add_one, hd] at he
    rcases List.mem_append.mp he with z | z
    · exact h.dn e z
    · have : e = d := by simpa using z
      subst this
      have := h.dj e hd
      rw [List.take_length] at this
      exact this, fun d' _ c hc => by simp at hc⟩
theorem BfI.done (B : Bf g fs m hs) (h : BfI g fs hs ah hs.length 0) : Bf g (fs ++ ah.map fun c => (c, ((m + 1 : Nat) : Int))) (m + 1) ah where
  nd := by rw [List.map_append, keys_pair]; exact h.nd
  vl := fun q hq => by
    rcases List.mem_append.mp hq with z | z
    · obtain ⟨k, h1, h2, h3, h4⟩ := B.vl q z
      exact ⟨k, h1, h2, by omega, h4⟩
    · obtain ⟨c, hc, rfl⟩ := List.mem_map.mp z
      refine ⟨m + 1, rfl, by omega, Nat.le_refl _, fun n => ⟨fun hb => ?_, fun hn => ?_⟩⟩
      · by_cases q : m + 1 ≤ n
        · exact q
        · have h1 : c ∈ fs.map (·.1) := B.al c (hb.le (by omega))
          exact absurd rfl ((List.nodup_append.mp h.nd).2.2 c h1 c hc)
      · obtain ⟨ha, d, hd, hn'⟩ := h.nw c hc
        obtain ⟨k, e1, _, _, e4⟩ := B.vl _ ((B.hr d).mp hd)
        have : k = m := by
          have : ((m : Nat) : Int) = (k : Nat) := e1
          omega
        subst this
        have hbd := (e4 k).mpr (Nat.le_refl _)
        exact Ball.le (n := k + 1) ⟨ha, .inr ⟨d, near_symm (mem_airC.mp hbd.air).1 hn', hbd⟩⟩ hn
  al := fun c hc => by
    rw [List.map_append, keys_pair]
    rcases hc.2 with z | ⟨d, hd, hb⟩
    · exact List.mem_append_left _ (B.al c ((Ball.one.mpr ⟨hc.1, z⟩).le B.m1))
    · obtain ⟨v, hv⟩ := key_mem (B.al d hb)
      obtain ⟨k, e1, e2, e3, e4⟩ := B.vl _ hv
      by_cases q : k = m
      · subst q
        have hh : d ∈ hs := (B.hr d).mpr (e1 ▸ hv)
        have := h.dn d (by rw [List.take_length]; exact hh) c (near_symm (mem_airC.mp hc.1).1 hd) hc.1
        exact this
      · have h1 := (e4 k).mpr (Nat.le_refl _)
        exact List.mem_append_left _ (B.al c (Ball.le (n := k + 1) ⟨hc.1, .inr ⟨d, hd, h1⟩⟩ (by omega)))
  hr := fun c => by
    constructor
    · exact fun hc => List.mem_append_right _ (List.mem_map.mpr ⟨c, hc, rfl⟩)
    · intro hc
      rcases List.mem_append.mp hc with z | z
      · obtain ⟨k, e1, _, e3, _⟩ := B.vl _ z
        have : (((m + 1 : Nat)) : Int) = (k : Nat) := e1
        omega
      · obtain ⟨d, hd, e⟩ := List.mem_map.mp z
        cases e
        exact hd
  m1 := by omega
theorem Bf.fin (B : Bf g fs m []) : IsSteps g fs where
  nd := B.nd
  ky := fun c => by
    constructor
    · intro h
      obtain ⟨v, hv⟩ := key_mem h
      obtain ⟨k, _, _, _, e4⟩ := B.vl _ hv
      exact ((e4 k).mpr (Nat.le_refl _)).air
    · intro ha
      have key : ∀ n c, Ball g n c → c ∈ fs.map (·.1) := by
        intro n
        induction n with
        | zero => intro c h; exact h.elim
        | succ n ih =>
          intro c h
          rcases h.2 with z | ⟨d, hd, hb⟩
          · exact B.al c ((Ball.one.mpr ⟨h.1, z⟩).le B.m1)
          · obtain ⟨v, hv⟩ := key_mem (ih d hb)
            obtain ⟨k, e1, e2, e3, e4⟩ := B.vl _ hv
            by_cases q : k = m
            · subst q
              have := (B.hr d).mpr (e1 ▸ hv)
              simp at this
            · exact B.al c (Ball.le (n := k + 1) ⟨h.1, .inr ⟨d, hd, (e4 k).mpr (Nat.le_refl _)⟩⟩ (by omega))
      have hi := inG_iff.mp (mem_airC.mp ha).1
      exact key _ c (ball_ht c.2.toNat c ha (by omega))
  vl := fun q hq => by
    obtain ⟨k, e1, e2, _, e4⟩ := B.vl q hq
    refine ⟨k, e1, e2, ?_, e4⟩
    have ha := ((e4 k).mpr (Nat.le_refl _)).air
    have hi := inG_iff.mp (mem_airC.mp ha).1
    have := (e4 _).mp (ball_ht q.1.2.toNat q.1 ha (by omega))
    omega
end
end DL
set_option maxHeartbeats 1000000
/-! sorted(set(d)), d a dict by cells: the set is given its room ahead, then the keys one by one. -/
namespace DL
open PySem PySem.Spec PyProof.Rows L2
abbrev M5 (m : Nat) : Prop := m = 7 ∨ m = 15 ∨ m = 31 ∨ m = 63 ∨ m = 127
theorem lcg_again {m : Nat} (h : lcgN m (m + 1) = 0) : ∀ k, lcgN m (m + 1 + k) = lcgN m k
  | 0 => h
  | k + 1 => (congrArg (fun x => (x * 5 + 1) % (m + 1)) (lcg_again h k) : _)
def roundB (m : Nat) : Bool := lcgN m (m + 1) == 0 && (List.range (m + 1)).all fun j => (List.range (m + 1)).any fun b => lcgN m b == j
theorem lcg_hit {m i j : Nat} (h : roundB m = true) (hi : i ≤ m) (hj : j ≤ m) : ∃ k, k ≤ m ∧ lcgI m i k = j := by
  unfold roundB at h
  rw [Bool.and_eq_true, beq_iff_eq, List.all_eq_true] at h
  have get : ∀ x, x ≤ m → ∃ b, b ≤ m ∧ lcgN m b = x := fun x hx => by
    obtain ⟨b, h1, h2⟩ := List.any_eq_true.mp (h.2 x (List.mem_range.mpr (by omega)))
    exact ⟨b, by have := List.mem_range.mp h1; omega, beq_iff_eq.mp h2⟩
  obtain ⟨a, a1, a2⟩ := get i hi
  obtain ⟨b, b1, b2⟩ := get j hj
  subst a2
  by_cases z : a ≤ b
  · exact ⟨b - a, by omega, by rw [lcgN_add, show a + (b - a) = b by omega, b2]⟩
  · exact ⟨b + (m + 1) - a, by omega, by rw [lcgN_add, show a + (b + (m + 1) - a) = m + 1 + b by omega, lcg_again h.1, b2]⟩
theorem round_of {m : Nat} (h : M5 m) : roundB m = true := by
  rcases h with e | e | e | e | e <;> subst e <;> decide +kernel
theorem way5 {m : Nat} (hm : M5 m) (h : Int) {j : Nat} (hj : j ≤ m) : ∃ k, k < 10 * SetTable.turns m ∧ way m h k = j := by
  obtain ⟨k, k1, k2⟩ := lcg_hit (round_of hm) (runI_le m (SetTable.bits h) 12) hj
  obtain ⟨n, n1, n2⟩ := run_nth m (SetTable.bits h) (12 + k)
  refine ⟨n, by unfold SetTable.turns; omega, ?_⟩
  show (nth m _ n).j = j
  rw [n2, runI_tail (bits_lt h), k2]
  rfl
theorem way_in {m : Nat} (h : Int) (k : Nat) : way m h k ≤ m := by
  have a : SetTable.bits h % (m + 1) < m + 1 := Nat.mod_lt _ (Nat.succ_pos _)
  have b := runEnd_bd (m := m) (i := SetTable.bits h % (m + 1)) (by omega)
  have c := nth_in (m := m) k (runAt m (SetTable.bits h % (m + 1)) (SetTable.bits h)) (by
    show SetTable.bits h % (m + 1) + (SetTable.runEnd m (SetTable.bits h % (m + 1)) - SetTable.bits h % (m + 1)) ≤ m
    omega)
  exact Nat.le_trans (Nat.le_add_right _ _) c
/-- where a new one comes to lie -/
theorem gap5 {m : Nat} (hm : M5 m) (h : Int) {l : List Nat} (hl : l.length ≤ m) : ∃ K, K < 10 * SetTable.turns m ∧ way m h K ∉ l ∧ ∀ k, k < K → way m h k ∈ l := by
  obtain ⟨j, j1, j2⟩ := st_missing l (m + 1) (by omega)
  obtain ⟨k, k1, k2⟩ := way5 hm h (j := j) (by omega)
  obtain ⟨K, e1, e2, e3⟩ := st_least (p := fun n => way m h n ∉ l) k (by show way m h k ∉ l; rw [k2]; exact j2)
  exact ⟨K, by omega, e2, fun n hn => Classical.not_not.mp (e3 n hn)⟩
abbrev SEnt := Int × Addr × List Int
structure SQ (P : Program) (w : World) (h : Heap) (a : Addr) (L : List SEnt) (es : Array (Int × Value)) (ep : Nat) (t : SetTable) : Prop where
  obj : ∃ o, h.get? a = some o ∧ o.ExactSet ∧ o.data = .set es ep t
  ent : es.toList = L.map fun p => (p.1, Value.ref p.2.1)
  ris : Ris t.place.toList
  dum : t.dummies = #[]
  len : t.place.size = L.length
  msk : M5 t.mask
  all : ∀ p ∈ L, IsT P w h p.2.2 p.2.1
  pln : t.plain = true
  lead : w.params.followText "set-order" = true ∨ t.led = true
  few : L.length * 5 < t.mask * 3
section
variable {P : Program} {w : World} {A : Around} {E : Value → Shared → Prop} {s : Shared} {a : Addr} {L : List SEnt} {es : Array (Int × Value)} {ep : Nat} {t : SetTable}
theorem SQ.esz {h : Heap} (R : SQ P w h a L es ep t) : es.size = L.length := by
  rw [← Array.length_toList, R.ent, List.length_map]
theorem SQ.fit {h : Heap} (R : SQ P w h a L es ep t) : t.fits es.size = true := by
  have h1 := R.esz
  have h2 := R.few
  unfold SetTable.fits SetTable.fill
  rw [R.dum, Bool.and_eq_true, beq_iff_eq, decide_eq_true_eq, R.len, h1]
  exact ⟨rfl, by show L.length + 0 ≤ _; omega⟩
theorem SQ.odd {h : Heap} (R : SQ P w h a L es ep t) : ¬ t.gaveWay = true := by
  unfold SetTable.gaveWay
  rcases R.msk with e | e | e | e | e <;> rw [e] <;> decide
theorem SQ.get {h : Heap} (R : SQ P w h a L es ep t) {i : Nat} {p : SEnt} (e : L[i]? = some p) : es[i]? = some (p.1, Value.ref p.2.1) := by
  rw [← Array.getElem?_toList, R.ent, List.getElem?_map, e]
  rfl
abbrev stat (m : Nat) (h : Int) (k : Nat) : SetTable.Probe := nth m (runAt m (SetTable.bits h % (m + 1)) (SetTable.bits h)) k
theorem stat_dummy (m : Nat) : ∀ (n : Nat) (p : SetTable.Probe), p.dummy = none → (nth m p n).dummy = none
  | 0, _, h => h
  | n + 1, p, h => stat_dummy m n (adv m p) (by unfold adv; split <;> exact h)
theorem sq_from (R : SQ P w s.heap a L es ep t) {x : Addr} {k : List Int} {hs : Int} (hx : IsT P w s.heap k x) (hu : A.units < cLine) (hn : ∀ p ∈ L, p.2.2 ≠ k) {K : Nat} (hK : K < 10 * SetTable.turns t.mask)
    (h1 : way t.mask hs K ∉ t.place.toList) (h2 : ∀ c, c < K → way t.mask hs c ∈ t.place.toList) {Q : SetFound → Shared → Prop} (q : Q (.free (way t.mask hs K) false) s) :
    ∀ (f c : Nat) (st : Option SetTable.Probe), st.getD (t.probeStart hs) = stat t.mask hs c → c ≤ K → K - c < f → wpAny (model P w) A (setSearchFrom a (.ref x) hs true f st) Q E s := by
  intro f
  induction f with
  | zero => intro c st _ _ z; exact absurd z (Nat.not_lt_zero _)
  | succ f ih =>
    intro c st e1 e2 e3
    obtain ⟨o, ho, hex, hd⟩ := R.obj
    rw [setSearchFrom_succ]
    refine wpAny_bind (wpAny_setState_of ho hd R.fit ?_)
    dsimp only
    refine wp_if_neg R.odd ?_
    try refine wpAny_bind (wpAny_pure ?_)
    have on : ∀ j, nth t.mask (stat t.mask hs c) j = stat t.mask hs (c + j) := fun j => (nth_add t.mask c _ j).symm
    have onj : ∀ j, (nth t.mask (stat t.mask hs c) j).j = way t.mask hs (c + j) := fun j => congrArg SetTable.Probe.j (on j)
    have eK : c + (K - c) = K := by omega
    have sp := go_spec t R.ris R.dum (fun i => (es[i]?.map (·.1)).getD 0) hs (10 * SetTable.turns t.mask) (K - c) (stat t.mask hs c) (stat_dummy t.mask c _ rfl) (by omega) (fun j hj => by rw [onj]; exact h2 _ (by omega)) (by rw [onj, eK]; exact h1)
    rcases sp with ⟨j, i, hj, hi, _, _, hp⟩ | ⟨_, hp⟩
    · have hp' : t.probe (fun i => (es[i]?.map (·.1)).getD 0) hs (st.getD (t.probeStart hs)) = some (.candidate (way t.mask hs (c + j)) i (stat t.mask hs (c + (j + 1)))) := by
        rw [e1, ← onj, ← on]
        exact hp
      rw [hp']
      dsimp only
      rw [onj] at hi
      have hil : i < L.length := by
        have z := (List.getElem?_eq_some_iff.mp hi).1
        rw [Array.length_toList, R.len] at z
        exact z
      obtain ⟨p, hp1⟩ : ∃ p, L[i]? = some p := ⟨_, List.getElem?_eq_getElem hil⟩
      have hpm : p ∈ L := List.mem_of_getElem? hp1
      have hne : ¬ p.2.2 = k := hn p hpm
      have further : wpAny (model P w) A (searchRest a (.ref x) hs true f es t (way t.mask hs (c + j)) i (stat t.mask hs (c + (j + 1)))) Q E s := by
        unfold searchRest
        rw [R.get hp1]
        dsimp only
        refine wpAny_bind (wpAny_holding (wpAny_eqBool_tuple hu (R.all p hpm) hx ?_))
        refine wpAny_bind (wpAny_setState_of ho hd R.fit ?_)
        dsimp only
        refine wp_if_neg (by simp [hne]) ?_
        try refine wpAny_bind (wpAny_pure ?_)
        rw [sameMem]
        dsimp only
        have sl : t.slot (way t.mask hs (c + j)) = .live i := slot_live R.ris hi
        simp only [if_true, sl, R.get hp1]
        refine wpAny_bind (wpAny_isSame_ref_self (wpAny_bind (wpAny_pure ?_)))
        simp only [if_true]
        refine wp_if_neg (by simp [hne]) ?_
        exact ih (c + (j + 1)) _ rfl (by omega) (by omega)
      by_cases hl : t.led = true
      · refine wp_if_neg (by simp [hl]) ?_
        try refine wpAny_bind (wpAny_pure ?_)
        exact further
      · refine wp_if_pos (by simp [hl]) ?_
        refine wpAny_bind (seen_tup hx (fun y hy => ?_) ?_)
        · obtain ⟨en, hen, ee⟩ := List.mem_map.mp hy
          have hen1 : en ∈ es ∧ en.1 = hs := by simpa using hen
          have hen2 : en ∈ es.toList := by simpa using hen1.1
          rw [R.ent] at hen2
          obtain ⟨p2, hp2, z⟩ := List.mem_map.mp hen2
          exact ⟨p2.2.2, p2.2.1, by rw [← ee, ← z], R.all p2 hp2⟩
        · refine wp_if_neg (by decide) ?_
          try refine wpAny_bind (wpAny_pure ?_)
          exact further
    · have hp' : t.probe (fun i => (es[i]?.map (·.1)).getD 0) hs (st.getD (t.probeStart hs)) = some (.empty (way t.mask hs K) none) := by
        have z : way t.mask hs K = (nth t.mask (stat t.mask hs c) (K - c)).j := by rw [onj, eK]
        rw [e1, z]
        exact hp
      rw [hp']
      dsimp only
      exact wpAny_pure q
theorem isT_but {h h' : Heap} {k : List Int} {a b : Addr} {o : Obj} (hb : IsT P w h k b) (ho : h.get? a = some o) (hd : o.data = .set es ep t) (sb : Heap.SameBut a h h') : IsT P w h' k b := isT_same hb ho hd sb
/-- a new one is put in -/
theorem sq_add (R : SQ P w s.heap a L es ep t) {x : Addr} {k : List Int} {hs : Int} (hx : IsT P w s.heap k x) (hu : A.units < cLine) (hn : ∀ p ∈ L, p.2.2 ≠ k) (hr : (L.length + 1) * 5 < t.mask * 3) {Q : Bool → Shared → Prop}
    (hQ : ∀ h' L' es' ep' t', Heap.SameBut a s.heap h' → SQ P w h' a L' es' ep' t' → t'.mask = t.mask → L'.Perm ((hs, x, k) :: L) → Q true { s with heap := h' }) :
    wpAny (model P w) A (setAddHashed a (.ref x) hs) Q E s := by
  obtain ⟨o, ho, hex, hd⟩ := R.obj
  have hm : t.mask ≤ 127 := by rcases R.msk with e | e | e | e | e <;> omega
  obtain ⟨K, K1, K2, K3⟩ := gap5 R.msk hs (l := t.place.toList) (by rw [Array.length_toList, R.len]; omega)
  have hT : SetTable.turns t.mask ≤ 142 := by unfold SetTable.turns; omega
  unfold setAddHashed
  refine wpAny_holding ?_
  rw [show (100000 : Nat) = 99999 + 1 from rfl, setAddHashedIn_succ]
  refine wpAny_bind (wpAny_setState_of ho hd R.fit ?_)
  dsimp only
  refine wp_if_neg (by simp [byScan, Value.scannable]) ?_
  try refine wpAny_bind (wpAny_pure ?_)
  refine wpAny_bind ?_
  unfold setSearch
  refine sq_from R hx hu hn K1 K2 K3 ?_ 100000 0 none rfl (Nat.zero_le _) (by omega)
  dsimp only
  refine wpAny_bind (wpAny_setState_of ho hd R.fit ?_)
  dsimp only
  have hjm : way t.mask hs K ≤ t.mask := way_in hs K
  generalize way t.mask hs K = j at K2 hjm
  have hpl := put_place t j
  have hpd := put_dm R.dum j
  obtain ⟨c1, _, _⟩ := below_cut R.ris j
  have hris : Ris (t.put j).1.place.toList := ris_insert R.ris fun e => K2 (List.mem_of_getElem? (by rw [Array.getElem?_toList]; exact e))
  have hlen : (t.put j).1.place.size = L.length + 1 := by
    rw [← Array.length_toList, hpl, len_ins _ (by rw [Array.length_toList]; exact c1), Array.length_toList, R.len]
  have hf1 : (t.put j).1.mask = t.mask := rfl
  have hf2 : (t.put j).1.plain = t.plain := rfl
  have hf3 : (t.put j).1.led = t.led := rfl
  have hf4 : (t.put j).2 = SetTable.below t.place j := rfl
  have hple : SetTable.below t.place j ≤ L.length := by rw [← R.len]; exact c1
  generalize t.put j = pt at hpl hpd hris hlen hf1 hf2 hf3 hf4
  obtain ⟨t1, p⟩ := pt
  dsimp only at hpd hris hlen hf1 hf2 hf3 hf4 ⊢
  subst hf4
  generalize SetTable.below t.place j = p at hple
  have hp1 : t1.plain = true := hf2.trans R.pln
  first
    | (refine wpAny_bind ?_; refine wp_if_pos hp1 ?_; refine hashBy_tup hx ?_)
    | refine wp_if_pos hp1 (wpAny_bind (hashBy_tup hx ?_))
  simp only [if_true]
  have he1 : (SetTable.insertAt es p (hs, Value.ref x)).toList = (L.take p ++ (hs, x, k) :: L.drop p).map fun q => (q.1, Value.ref q.2.1) := by
    rw [SetTable.toList_insertAt, R.ent, List.map_append, List.map_cons, List.map_take, List.map_drop]
  have pm : (L.take p ++ (hs, x, k) :: L.drop p).Perm ((hs, x, k) :: L) := put_perm L p (hs, x, k)
  have hsz : (SetTable.insertAt es p (hs, Value.ref x)).size = L.length + 1 := by
    rw [← Array.length_toList, he1, List.length_map, pm.length_eq, List.length_cons]
  generalize SetTable.insertAt es p (hs, Value.ref x) = es1 at he1 hsz
  generalize L.take p ++ (hs, x, k) :: L.drop p = L1 at he1 pm
  have hL1 : L1.length = L.length + 1 := by rw [pm.length_eq, List.length_cons]
  refine wpAny_bind (wpAny_storeSet_of ho hd ?_ (by have := sizeLine_eq; omega))
  have sb : Heap.SameBut a s.heap (s.heap.update a (Obj.putSet es1 t1)) := Heap.SameBut.update ..
  have ho1 := store_at (es' := es1) (t' := t1) ho hd
  generalize s.heap.update a (Obj.putSet es1 t1) = h1 at sb ho1 ⊢
  have hnf : ¬ t1.tooFull = true := by
    unfold SetTable.tooFull SetTable.fill
    rw [decide_eq_true_eq, hpd, hlen, hf1]
    show ¬ (L.length + 1 + 0) * 5 ≥ _
    omega
  have R1 : SQ P w h1 a L1 es1 (ep + 1) t1 := ⟨⟨_, ho1, ⟨hex.1, hex.2.1, hex.2.2⟩, rfl⟩, he1, hris, hpd, by rw [hlen, hL1], hf1 ▸ R.msk, fun q hq => by
    rcases List.mem_cons.mp (pm.mem_iff.mp hq) with z | z
    · rw [z]; exact isT_but hx ho hd sb
    · exact isT_but (R.all q z) ho hd sb, hp1, hf3 ▸ R.lead, by rw [hL1, hf1]; exact hr⟩
  first
    | refine wp_if_neg (by simp [hnf]) ?_
    | (refine wpAny_bind ?_; refine wp_if_neg (by simp [hnf]) ?_; refine wpAny_pure ?_)
  exact wpAny_pure (hQ h1 L1 es1 (ep + 1) t1 sb R1 hf1 pm)
end
end DL
namespace DL
open PySem PySem.Spec PyProof.Rows L2
theorem size5 : ∀ n, n < 64 → 5 ≤ n → M5 (SetTable.sizeAbove ((0 + n) * 2) - 1) ∧ n * 5 < (SetTable.sizeAbove ((0 + n) * 2) - 1) * 3 ∧ SetTable.sizeAbove ((0 + n) * 2) ≤ 128 := by decide +kernel
theorem live_none (m : Nat) : liveOf m (Array.replicate (m + 1) none) = [] := by
  unfold liveOf
  rw [List.filterMap_eq_nil_iff]
  intro j hj
  have := List.mem_range.mp hj
  rw [oAt_none (by rw [Array.size_replicate]; exact this), oAt_init (by omega)]
  rfl
theorem relaid_new (t : SetTable) {m wanted : Nat} (h : SetTable.sizeAbove wanted - 1 = m) :
    t.relaid ((#[] : Array (Int × Value)).map (·.1)) wanted = some ({ mask := m, place := #[], dummies := #[], finger := t.finger, led := t.led, moves := t.movedTo m, plain := t.plain }, #[]) := by
  have e : (#[] : Array (Int × Value)).map (·.1) = #[] := by simp
  rw [e, relaid_eq, h, layClean_eq]
  show some (tabOf t m (Array.replicate (m + 1) none), ((liveOf m (Array.replicate (m + 1) none)).map (·.2)).toArray) = _
  unfold tabOf
  rw [live_none]
  rfl
section
variable {P : Program} {w : World} {A : Around} {E : Value → Shared → Prop} {s : Shared} {ep : Nat} {t : SetTable}
theorem sq_room {a : Addr} (R : SQ P w s.heap a [] #[] ep t) (hm : t.mask = 7) {n : Nat} (hn : n < 64) {Q : Unit → Shared → Prop}
    (hQ : ∀ h' ep' t', Heap.SameBut a s.heap h' → SQ P w h' a [] #[] ep' t' → n * 5 < t'.mask * 3 → Q () { s with heap := h' }) : wpAny (model P w) A (setRoomFor a n) Q E s := by
  obtain ⟨o, ho, hex, hd⟩ := R.obj
  unfold setRoomFor
  refine wpAny_bind (wpAny_setState_of ho hd R.fit ?_)
  dsimp only
  have hr : t.roomFor n = if 5 ≤ n then some ((0 + n) * 2) else none := by
    unfold SetTable.roomFor SetTable.fill
    rw [R.dum, R.len, hm]
    by_cases z : 5 ≤ n
    · rw [if_pos z, if_pos (by show (0 + 0 + n) * 5 ≥ _; omega)]; rfl
    · rw [if_neg z, if_neg (by show ¬ (0 + 0 + n) * 5 ≥ _; omega)]
  rw [hr]
  by_cases z : 5 ≤ n
  · rw [if_pos z]
    dsimp only
    obtain ⟨z1, z2, z3⟩ := size5 n hn z
    rw [setRelay_eq]
    refine wpAny_bind (wpAny_setState_of ho hd R.fit ?_)
    dsimp only
    refine wp_if_neg (by rw [sizeLine_eq]; omega) ?_
    try refine wpAny_bind (wpAny_pure ?_)
    rw [relaid_new t rfl]
    dsimp only
    refine wpAny_bind ?_
    refine wp_if_neg (by simp) ?_
    try refine wpAny_bind (wpAny_pure ?_)
    refine wpAny_pure ?_
    dsimp only
    refine wpAny_storeSet_of ho hd ?_ (by rw [sizeLine_eq]; simp)
    have q1 : (#[] : Array Nat).filterMap ((#[] : Array (Int × Value))[·]?) = #[] := by simp
    rw [q1]
    obtain ⟨t1, e1⟩ : ∃ t1 : SetTable, t1 = { mask := SetTable.sizeAbove ((0 + n) * 2) - 1, place := #[], dummies := #[], finger := t.finger, led := t.led, moves := t.movedTo (SetTable.sizeAbove ((0 + n) * 2) - 1), plain := t.plain } := ⟨_, rfl⟩
    rw [← e1]
    have m1 : t1.mask = SetTable.sizeAbove ((0 + n) * 2) - 1 := by rw [e1]
    have m2 : t1.place = #[] := by rw [e1]
    have m3 : t1.dummies = #[] := by rw [e1]
    have m4 : t1.plain = true := by rw [e1]; exact R.pln
    have m5 : t1.led = t.led := by rw [e1]
    have ho1 := store_at (es' := #[]) (t' := t1) ho hd
    have sb : Heap.SameBut a s.heap (s.heap.update a (Obj.putSet #[] t1)) := Heap.SameBut.update ..
    exact hQ _ (ep + 1) t1 sb ⟨⟨_, ho1, ⟨hex.1, hex.2.1, hex.2.2⟩, rfl⟩, rfl, by rw [m2]; exact List.Pairwise.nil, m3, by rw [m2]; rfl, m1 ▸ z1, (fun p hp => nomatch hp), m4, m5 ▸ R.lead, by rw [m1]; show 0 * 5 < _; omega⟩ (by rw [m1]; exact z2)
  · rw [if_neg z]
    exact wpAny_pure (hQ s.heap ep t (Heap.SameBut.refl a s.heap) R (by omega))
/-- the keys of a dict, one by one -/
theorem sq_update {S d : Addr} {od : Obj} {des : Array DictEntry} {dep : Nat} {kl : List SEnt} (R : SQ P w s.heap S [] #[] ep t) (hm : t.mask = 7) (hS : (d == sysModules) = false) (ho : s.heap.get? d = some od) (hx : od.ExactDict) (hd : od.data = .dict des dep)
    (hl : des.size = kl.length) (he : ∀ (i : Nat) p, kl[i]? = some p → ∃ e, des[i]? = some e ∧ e.key = .ref p.2.1 ∧ e.hash = p.1) (hk : ∀ p ∈ kl, IsT P w s.heap p.2.2 p.2.1) (nd : (kl.map (·.2.2)).Nodup) (hf : kl.length < 64) (hu : A.units < cLine)
    {Q : Unit → Shared → Prop} (hQ : ∀ h' L es ep t, Heap.SameBut S s.heap h' → SQ P w h' S L es ep t → L.Perm kl → Q () { s with heap := h' }) :
    wpAny (model P w) A (Builtin.Frozenset.updateFrom "set.__init__" S (.ref d)) Q E s := by
  have hT : s.TypeIs (.ref d) "dict" := ⟨od, ho, hx.1⟩
  have hne : d ≠ S := by
    rintro rfl
    obtain ⟨o, h1, _, h2⟩ := R.obj
    rw [ho] at h1
    cases h1
    rw [hd] at h2
    cases h2
  unfold Builtin.Frozenset.updateFrom Builtin.Frozenset.isAnySet
  have h1 := F.sub_dict_set
  have h2 := F.sub_dict_frozenset
  have key : wpAny (model P w) A (isInstance (Value.ref d) (Value.type "set") <||> isInstance (Value.ref d) (Value.type "frozenset")) (fun b s' => b = false ∧ s' = s) E s := by
    unfold orM
    refine wpAny_bind (wpAny_isInstance hT h1 ?_)
    exact wpAny_isInstance hT h2 ⟨rfl, rfl⟩
  refine wpAny_bind (wpAny_mono key ?_ fun _ _ h => h)
  rintro b s' ⟨hb, hs⟩
  rw [hb, hs]
  simp only [Bool.false_eq_true, if_false]
  refine wpAny_bind (wpAny_typeOf hT ?_)
  refine wp_if_pos (by decide) ?_
  refine wpAny_bind (wpAny_rule ?_)
  refine wpAny_bind (wpAny_pure ?_)
  refine wp_if_neg (by rw [hS]; decide) ?_
  try refine wpAny_bind (wpAny_pure ?_)
  refine wpAny_bind (wpAny_dictEpoch ho hd ?_)
  refine wpAny_bind (wpAny_dictEntries ho hd ?_)
  refine wpAny_bind (sq_room R hm (n := des.size) (by omega) fun h1 ep1 t1 sb1 R1 hr1 => ?_)
  have ho1 : h1.get? d = some od := (sb1.2 d hne).trans ho
  refine wpAny_bind (wpAny_dictEntries ho1 hd ?_)
  refine wpAny_bind ?_
  rw [Std.Legacy.Range.forIn_eq_forIn_range']
  simp only [Std.Legacy.Range.size, Nat.sub_zero, Nat.add_sub_cancel, Nat.div_one]
  obtain ⟨oS, hoS, _, hdS⟩ := R.obj
  refine wpAny_forIn_list _ (fun rest _ s' => ∃ i h' L es ep t, rest = List.range' i (des.size - i) ∧ i ≤ des.size ∧ s' = { s with heap := h' } ∧ Heap.SameBut S s.heap h' ∧ SQ P w h' S L es ep t ∧ L.Perm (kl.take i) ∧ des.size * 5 < t.mask * 3) _ ?_ ?_ _ _
    ⟨0, h1, [], #[], ep1, t1, rfl, Nat.zero_le _, rfl, sb1, R1, List.Perm.refl _, hr1⟩
  · rintro x rest b s' ⟨i, h', L, es, ep, t, hr, hi, rfl, sb, R2, pm, hr2⟩
    have hlt : i < des.size := by
      rcases Nat.lt_or_ge i des.size with z | z
      · exact z
      · rw [Nat.sub_eq_zero_of_le z] at hr
        cases hr
    have hstep : List.range' i (des.size - i) = i :: List.range' (i + 1) (des.size - (i + 1)) := by
      rw [show des.size - i = des.size - (i + 1) + 1 by omega, List.range'_succ]
    rw [hstep] at hr
    injection hr with hr1 hr3
    subst hr1
    have ho2 : h'.get? d = some od := (sb.2 d hne).trans ho
    refine wpAny_bind (wpAny_dictEntries ho2 hd ?_)
    obtain ⟨p, hp⟩ : ∃ p, kl[x]? = some p := ⟨_, List.getElem?_eq_getElem (by omega)⟩
    obtain ⟨e, e1, e2, e3⟩ := he x p hp
    rw [e1]
    dsimp only
    rw [e2, e3]
    have hpm : p ∈ kl := List.mem_of_getElem? hp
    have hn : ∀ q ∈ L, q.2.2 ≠ p.2.2 := fun q hq => by
      have nd1 : ((kl.take (x + 1)).map (·.2.2)).Nodup := nd.sublist ((List.take_sublist _ _).map _)
      rw [L2.take_next hp, List.map_append] at nd1
      exact (List.nodup_append.mp nd1).2.2 _ (List.mem_map.mpr ⟨q, pm.mem_iff.mp hq, rfl⟩) _ (by simp)
    have hLl : L.length = x := by rw [pm.length_eq, List.length_take]; omega
    refine wpAny_bind (wpAny_holding (sq_add (s := { s with heap := h' }) R2 (isT_but (hk p hpm) hoS hdS sb) hu hn (by rw [hLl]; omega) fun h3 L3 es3 ep3 t3 sb3 R3 em pm3 => ?_))
    have ho3 : h3.get? d = some od := (sb3.2 d hne).trans ho2
    refine wpAny_bind (wpAny_dictEpoch ho3 hd ?_)
    refine wp_if_neg (by simp) ?_
    refine wpAny_pure ⟨x + 1, h3, L3, es3, ep3, t3, hr3, hlt, rfl, sb.trans sb3, R3, ?_, by rw [em]; exact hr2⟩
    rw [L2.take_next hp]
    exact pm3.trans ((pm.cons _).trans (List.perm_append_singleton _ _).symm)
  · rintro b s' ⟨i, h', L, es, ep, t, hr, hi, rfl, sb, R2, pm, hr2⟩
    have : des.size - i = 0 := by
      have := congrArg List.length hr
      rw [List.length_range'] at this
      exact this.symm
    rw [List.take_of_length_le (by omega)] at pm
    exact wpAny_pure (hQ h' L es ep t sb R2 pm)
end
end DL
namespace DL
open PySem PySem.Spec PyProof.Rows L2
section
variable {P : Program} {w : World} {A : Around} {E : Value → Shared → Prop} {s : Shared}
set_option maxHeartbeats 3200000 in
theorem call_setD {d : Addr} {od : Obj} {des : Array DictEntry} {dep : Nat} {kl : List SEnt} {Q : Value → Shared → Prop} (hh : A.handled = none) (hS : (d == sysModules) = false) (ho : s.heap.get? d = some od) (hx : od.ExactDict) (hd : od.data = .dict des dep)
    (hl : des.size = kl.length) (he : ∀ (i : Nat) p, kl[i]? = some p → ∃ e, des[i]? = some e ∧ e.key = .ref p.2.1 ∧ e.hash = p.1) (hk : ∀ p ∈ kl, IsT P w s.heap p.2.2 p.2.1) (nd : (kl.map (·.2.2)).Nodup) (hf : kl.length < 64) (hu : A.units + 8 < cLine)
    (h : ∀ h' tk L es ep t, (∀ b o, s.heap.get? b = some o → h'.get? b = some o) → SQ P w h' s.heap.objs.size L es ep t → L.Perm kl → Q (.ref s.heap.objs.size) { s with heap := h', toks := tk }) :
    wpAny (model P w) A (call (.type "set") [.ref d]) Q E s := by
  obtain ⟨c, tl, hmro⟩ := F.called_set.mro
  have hmade := F.called_set.made
  have hsub := F.called_set.sub
  refine wpAny_call (codeAny_of_tree ?_)
  show wpAny _ _ (callAny (.type "set") _) _ _ _
  refine wpAny_pure ⟨Code.quiet_builtin _ (by decide +kernel), codeAny_builtin F.entry_type_call ?_⟩
  rw [Around.under_plain (weight_type_call_type "set" [.ref d] []) rfl]
  have g1 := F.called_set.notType
  have g2 := F.called_set.canCreate
  have g3 := F.typeCall_set_1 (.ref d)
  repeat (any_goals (first | assumption | wp_step))
  obtain ⟨ob, hob⟩ : ∃ ob : Obj, ob = { cls := .type "set", dict := none, data := .set #[] 0 (.fresh 0 0 (!w.params.followText "set-order")) } := ⟨_, rfl⟩
  refine codeAny_mono (code_set_led1 (.ref d) (E := E) (Q₁ := fun v s₁ => v = .ref s.heap.objs.size ∧ s₁ = { s with heap := s.heap.push ob }) ⟨rfl, by rw [hob]⟩) fun r s₁ hr => ?_
  cases r with
  | error e => exact hr
  | ok fl =>
    cases fl with
    | ret v =>
      obtain ⟨rfl, rfl⟩ := hr
      have hob1 : (s.heap.push ob).get? s.heap.objs.size = some ob := Heap.get?_push_size _ (by rw [hob]; rfl)
      have hT : Shared.TypeIs { s with heap := s.heap.push ob } (.ref s.heap.objs.size) "set" := ⟨_, hob1, by rw [hob]⟩
      have g4 := F.called_set.init.lookup
      have g5 := F.called_set.init.bind (.ref s.heap.objs.size)
      repeat (any_goals (first | assumption | wp_step))
      refine codeAny_mono (codeAny_call_builtin (R := wants (fun r s₂ => r = .none ∧ ∃ h' tk L es ep t, s₂ = { s with heap := h', toks := tk } ∧ (∀ b o, s.heap.get? b = some o → h'.get? b = some o) ∧ SQ P w h' s.heap.objs.size L es ep t ∧ L.Perm kl) E)
        F.called_set.init.plain F.entry_set_init (check_set_init_1 hT ?_)) fun r₂ s₂ hr₂ => ?_
      · have ho1 : (s.heap.push ob).get? d = some od := Heap.get?_push_of_some _ ho
        subst hob
        unfold Builtin.«set.__init__» noKeywords
        generalize hU : Builtin.Frozenset.updateFrom = U
        wp_walk
        subst hU
        refine sq_update (s := { s with heap := s.heap.push { cls := .type "set", dict := none, data := .set #[] 0 (.fresh 0 0 (!w.params.followText "set-order")) } }) (ep := 0) (t := .fresh 0 0 (!w.params.followText "set-order"))
          ⟨⟨_, hob1, ⟨rfl, rfl, rfl⟩, rfl⟩, rfl, List.Pairwise.nil, rfl, rfl, .inl rfl, (fun p hp => nomatch hp), rfl, ?_, by show 0 * 5 < 7 * 3; decide⟩ rfl hS ho1 hx hd hl he (fun p hp => isT_keep (hk p hp) fun c o e => Heap.get?_push_of_some _ e) nd hf (by show A.units + 1 + 1 < cLine; omega) fun h' L es ep t sb R pm => ?_
        · show _ ∨ (!w.params.followText "set-order") = true
          cases w.params.followText "set-order"
          · exact .inr rfl
          · exact .inl rfl
        · refine wpAny_pure ⟨rfl, h', s.toks, L, es, ep, t, rfl, fun b o e => ?_, R, pm⟩
          have hb := Heap.lt_size e
          rw [sb.2 b (Nat.ne_of_lt hb)]
          exact Heap.get?_push_of_some _ e
      · cases r₂ with
        | error e => exact hr₂
        | ok fl₂ =>
          cases fl₂ with
          | ret r =>
            obtain ⟨rfl, h', tk, L, es, ep, t, rfl, k1, k2, k3⟩ := hr₂
            repeat (any_goals (first | assumption | wp_step))
            exact h _ _ _ _ _ _ k1 k2 k3
          | _ => exact hr₂.elim
    | _ => exact hr.elim
end
end DL
set_option maxHeartbeats 1000000
/-! sorted(set(d)), d a dict by cells: the end. -/
namespace DL
open PySem PySem.Spec PyProof.Rows L2
section
variable {P : Program} {w : World} {A : Around} {E : Value → Shared → Prop} {s : Shared}
theorem sorted_SQ {a : Addr} {L : List SEnt} {es : Array (Int × Value)} {ep : Nat} {t : SetTable} {Q : Value → Shared → Prop} (R : SQ P w s.heap a L es ep t) (hh : A.handled = none) (hf : L.length < 64) (hB : ∀ p ∈ L, p.2.2.length = 2 ∧ TS.Bd 64 p.2.2)
    (hQ : ∀ (s' : Shared) p (out : Array Value) (c : Nat) (L' : List SEnt), (∀ b o, s.heap.get? b = some o → s'.heap.get? b = some o) → s'.gens = s.gens → s'.os = s.os → s.heap.objs.size ≤ p → s'.heap.get? p = some (seqObj "list" out c) →
      out.toList = L'.map (fun q => Value.ref q.2.1) → L'.Perm L → L'.Pairwise (fun q r => TS.code 64 q.2.2 ≤ TS.code 64 r.2.2) → Q (.ref p) s') : wpAny (model P w) A (call (.builtin "sorted") [.ref a]) Q E s := by
  obtain ⟨o, ho, hex, hd⟩ := R.obj
  have hsz := R.esz
  refine Calls.call_function_entry PyProof.Rows.kind_sorted PyProof.Rows.plain_sorted PyProof.Rows.entry_sorted (PyProof.Rows.args_sorted1 _) ?_
  unfold Builtin.«sorted»
  refine wpAny_bind (m := checkCount "sorted" 1 1 _) (wpAny_pure ?_)
  refine wpAny_bind (collect_set (A := A.in1) hh ⟨o, ho, hex.1, hd⟩ R.fit (by unfold scanBound; omega) R.ris R.lead fun s1 vs k1 hz g1 o1 pm => ?_)
  rw [R.ent, List.map_map] at pm
  obtain ⟨L1, p1, rfl⟩ := perm_lift (f := fun q : SEnt => Value.ref q.2.1) pm
  have hl1 : (L1.map fun q : SEnt => Value.ref q.2.1).length < 64 := by rw [List.length_map, p1.length_eq]; exact hf
  refine wpAny_bind (wpAny_newList ?_ (by have := sizeLine_eq; omega))
  have hoL : (s1.heap.push (seqObj "list" (L1.map fun q : SEnt => Value.ref q.2.1).toArray 0)).get? s1.heap.objs.size = some (seqObj "list" (L1.map fun q : SEnt => Value.ref q.2.1).toArray 0) := Heap.get?_push_size _ rfl
  have ti : ∀ q ∈ L, TS.TupInts (s1.heap.push (seqObj "list" (L1.map fun q : SEnt => Value.ref q.2.1).toArray 0)) (.ref q.2.1) q.2.2 := fun q hq => tupInts_of (isT_keep (R.all q hq) fun b u e => Heap.get?_push_of_some _ (k1 b u e))
  refine wpAny_bind (wpAny_holding (TS.call_sort_tups (d := 2) (B := 64) (s := { s1 with heap := s1.heap.push (seqObj "list" (L1.map fun q : SEnt => Value.ref q.2.1).toArray 0) }) hoL hl1 (by decide) (fun v hv => ?_) fun out a1 a2 => ?_))
  · obtain ⟨q, hq, rfl⟩ := List.mem_map.mp hv
    have hq' := p1.mem_iff.mp hq
    exact ⟨q.2.2, ti q hq', (hB q hq').1, (hB q hq').2⟩
  · obtain ⟨c, hc⟩ := PyProof.Rows.sortedHeap_at (vs := L1.map fun q : SEnt => Value.ref q.2.1) (out := out) hoL
    obtain ⟨L', p2, e2⟩ := perm_lift (f := fun q : SEnt => Value.ref q.2.1) a1
    have p3 := p2.trans p1
    refine wpAny_pure ⟨_, rfl, hQ _ s1.heap.objs.size out c L' (fun b u e => ?_) g1 o1 hz hc e2 p3 ?_⟩
    · have e3 := k1 b u e
      have hlt := Heap.lt_size e3
      show (sortedHeap (s1.heap.push (seqObj "list" (L1.map fun q : SEnt => Value.ref q.2.1).toArray 0)) s1.heap.objs.size (L1.map fun q : SEnt => Value.ref q.2.1) out).get? b = some u
      rw [PyProof.Rows.sortedHeap_old (Nat.ne_of_lt hlt) (by rw [size_push']; exact Nat.lt_succ_of_lt hlt)]
      exact Heap.get?_push_of_some _ e3
    · rw [e2, List.pairwise_map] at a2
      refine List.Pairwise.imp_of_mem (fun {q r} hq hr hle => ?_) a2
      rw [(ti q (p3.mem_iff.mp hq)).ints, (ti r (p3.mem_iff.mp hr)).ints] at hle
      exact hle
end
theorem kt_ents {H : Hp} : ∀ {kvs : List (Cell × V)} {xs : List (List Key × Addr × Value)}, KT H (rawD kvs) xs → ∃ L : List (Addr × Cell), xs.map (fun x => (x.1, x.2.1)) = L.map (fun q => (ck q.2, q.1)) ∧ L.map (·.2) = kvs.map (·.1) ∧ ∀ q ∈ L, H q.1 = some (.tup ((ck q.2).map kV))
  | [], _, h => by cases h; exact ⟨[], rfl, rfl, fun q h => by cases h⟩
  | kv :: r, _, h => by
    cases h with
    | cons a t =>
      rename_i x xs
      obtain ⟨L, e1, e2, e3⟩ := kt_ents t
      have a1 : ck kv.1 = x.1 := a.1
      refine ⟨(x.2.1, kv.1) :: L, by rw [List.map_cons, List.map_cons, e1, ← a1], by rw [List.map_cons, List.map_cons, e2], fun q hq => ?_⟩
      rcases List.mem_cons.mp hq with z | z
      · subst z; exact a.2.1
      · exact e3 q z
theorem pe_sortSetD {X : Cx} {a : Expr} {ta : TE} {p p2 q pos : Pos} (hc : X.calm = true) (hu : X.A.units + 64 < cLine) (hg : Gl X "sorted") (hm : X.mg "sorted" = none) (hg2 : Gl X "set") (hm2 : X.mg "set" = none) (ha : PE X a ta)
    (na : starEach [a] X.env = (false, eval a X.env) :: starEach [] X.env := by rfl) : PE X (.Call (.Name "sorted" p) [.Call (.Name "set" p2) [a] [] q] [] pos) (tCB rSortD (tCons ta tNil)) := by
  refine ⟨fun pins s σ H Q I h => ?_⟩
  refine Call_ (ld_blt I hg hm PyProof.Rows.boot_sorted ?_)
  refine PyProof.Rows.callWith_builtin1 (PyProof.Rows.args_cons ?_ rfl) rfl rfl
  refine Call_ (ld_blt I hg2 hm2 PyProof.Rows.boot_set ?_)
  refine PyProof.Rows.callWith_type1 (PyProof.Rows.args_cons (thn (ha.run pins s σ H _ I h) fun v s1 ⟨x, H1, I1, r1, q1⟩ => PyProof.Rows.args_nil ?_) na) na rfl
  obtain ⟨d, kvs, e0, hd, h64, hb, q1⟩ := q1
  cases e0
  cases r1
  obtain ⟨z, hs, ks, pr, o, es, ep, ho, hx, hdt, he, hn⟩ := (show ObjOk X.prog X.w H1 s1.heap d (.dT (rawD kvs)) from hd.ok I1.hok)
  obtain ⟨L, e1, e2, e3⟩ := kt_ents pr
  have l1 : es.size = ks.length := size_of_entries he
  have l3 : ks.length = L.length := by
    have := congrArg List.length e1
    rw [List.length_map, List.length_map] at this
    exact this
  have l2 : L.length = kvs.length := by
    have := congrArg List.length e2
    rw [List.length_map, List.length_map] at this
    exact this
  have hbL : ∀ q ∈ L, Bc q.2 := fun q hq => by
    have : q.2 ∈ kvs.map (·.1) := by rw [← e2]; exact List.mem_map.mpr ⟨q, hq, rfl⟩
    obtain ⟨kv, hkv, e⟩ := List.mem_map.mp this
    rw [← e]
    exact hb kv hkv
  have hnd : (L.map fun q => ([q.2.1, q.2.2] : List Int)).Nodup := by
    have k1 : ks.map (·.1) = L.map fun q => ck q.2 := by
      have := congrArg (List.map Prod.fst) e1
      rw [List.map_map, List.map_map] at this
      exact this
    rw [k1] at hn
    refine List.pairwise_map.mpr (List.Pairwise.imp (fun {a b} hab e => hab ?_) (List.pairwise_map.mp hn))
    injection e with e4 e5
    injection e5 with e5
    show ck a.2 = ck b.2
    rw [show a.2 = b.2 from Prod.ext e4 e5]
  obtain ⟨kl, ekl⟩ : ∃ kl : List SEnt, kl = L.map fun q => ((tupleKind (mixKind X.prog X.w)).hash (ck q.2), q.1, [q.2.1, q.2.2]) := ⟨_, rfl⟩
  have hkl : ∀ p ∈ kl, IsT X.prog X.w s1.heap p.2.2 p.2.1 := fun p hp => by
    rw [ekl] at hp
    obtain ⟨q, hq, rfl⟩ := List.mem_map.mp hp
    exact I1.isT (SqT.of (e3 q hq))
  have a1 : kl.length = L.length := by rw [ekl, List.length_map]
  have a2 : (kl.map (·.2.2)).Nodup := by rw [ekl, List.map_map]; exact hnd
  have a3 : ∀ (i : Nat) p, kl[i]? = some p → ∃ e, es[i]? = some e ∧ e.key = .ref p.2.1 ∧ e.hash = p.1 := fun i p hp => by
    rw [ekl, List.getElem?_map] at hp
    obtain ⟨q, hq, rfl⟩ := Option.map_eq_some_iff.mp hp
    have qe := entry_at he i
    have e5 : (ks.map (fun x => (x.1, x.2.1)))[i]? = some (ck q.2, q.1) := by rw [e1, List.getElem?_map, hq]; rfl
    rw [List.getElem?_map] at e5
    obtain ⟨x, hx1, hx2⟩ := Option.map_eq_some_iff.mp e5
    rw [hx1] at qe
    injection hx2 with e6 e7
    exact ⟨_, qe, by show Value.ref x.2.1 = _; rw [e7], by show (tupleKind (mixKind X.prog X.w)).hash x.1 = _; rw [e6]⟩
  have a4 : ∀ p ∈ kl, p.2.2.length = 2 ∧ TS.Bd 64 p.2.2 := fun p hp => by
    rw [ekl] at hp
    obtain ⟨q, hq, rfl⟩ := List.mem_map.mp hp
    exact ⟨rfl, bd_cell (hbL q hq)⟩
  have a5 : ∀ L' : List SEnt, L'.Perm kl → L'.Pairwise (fun q r => TS.code 64 q.2.2 ≤ TS.code 64 r.2.2) → ∃ M : List (Addr × Cell), M.Perm L ∧ L'.map (fun q => Value.ref q.2.1) = M.map (fun q => Value.ref q.1) ∧ (M.map (·.2)).Pairwise (fun a b => cc a ≤ cc b) := fun L' pm pw => by
    rw [ekl] at pm
    obtain ⟨M, pM, eM⟩ := perm_lift pm
    refine ⟨M, pM, by rw [eM, List.map_map]; rfl, ?_⟩
    rw [eM, List.pairwise_map] at pw
    rw [List.pairwise_map]
    refine List.Pairwise.imp (fun {u v} h => ?_) pw
    rw [code_cc, code_cc] at h
    exact h
  clear ekl
  refine @call_setD X.prog X.w X.A X.xe s1 d o es ep kl _ (I1.ok.hd hc) hs ho hx hdt (by rw [l1, l3, a1]) a3 hkl a2 (by rw [a1, l2]; exact h64) (by omega) fun h' tk L2 es2 ep2 t2 k2 R2 pm2 => ?_
  refine PyProof.Rows.args_nil ?_
  have I2 : Inv X pins σ H1 { s1 with heap := h', toks := tk } := I1.kept k2
  refine @sorted_SQ X.prog X.w X.A X.xe { s1 with heap := h', toks := tk } _ L2 es2 ep2 t2 _ R2 (I2.ok.hd hc) (by rw [pm2.length_eq, a1, l2]; exact h64) (fun p hp => a4 p (pm2.mem_iff.mp hp)) fun s' p out c L' k3 g3 o3 hp3 hp4 eo pm3 pw => ?_
  obtain ⟨M, pM, eM, pw2⟩ := a5 L' (pm3.trans pm2) pw
  have eo2 : out.toList = M.map fun q => Value.ref q.1 := eo.trans eM
  have hn3 : H1 p = none := I2.hok.fresh hp3
  have hlen : (M.map fun q => V.ref q.1).length ≤ sizeLine := by rw [List.length_map, pM.length_eq, l2, sizeLine_eq]; omega
  have J : Inv X pins σ (upd H1 p (.lst (M.map fun q => V.ref q.1))) s' :=
    I2.call' (ch := []) o3 (Un.laid k3 hp3 hn3) (I2.hok.laid k3 hp3 ⟨hlen, out.toList, c, by rw [eo2]; exact vals_refC M, hp4⟩) (by rw [g3]; exact I2.bare) (fun _ z => nomatch z)
  refine ⟨.ref p, _, J, rfl, q1 M p (fun q hq => e3 q (pM.mem_iff.mp hq)) ?_ hn3⟩
  refine sortC_unique (by rw [← e2]; exact pM.map _) pw2 fun c hc => ?_
  obtain ⟨q, hq, rfl⟩ := List.mem_map.mp hc
  exact hbL q (pM.mem_iff.mp hq)
end DL
set_option maxHeartbeats 1000000
namespace DL
open PySem PySem.Spec PyProof.Rows L2
open Classical in
/-- the cells that are such, in order -/
noncomputable def setC (g : Grid) (p : Cell → Prop) : List Cell :=
  sortC ((allC g).filter fun c => decide (p c))
open Classical in
theorem mem_setC {g : Grid} {p : Cell → Prop} {c : Cell} : c ∈ setC g p ↔ inG g c = true ∧ p c := by
  unfold setC
  rw [sortC_mem, List.mem_filter, mem_allC, decide_eq_true_eq]
open Classical in
theorem setC_of {g : Grid} (S : Shp g) {p : Cell → Prop} {l : List Cell} (hn : l.Nodup) (h : ∀ c, c ∈ l ↔ inG g c = true ∧ p c) : sortC l = setC g p := by
  unfold setC
  refine sortC_congr hn ((allC_nodup g).filter _) (fun c => ?_) fun c hc => S.bc ((h c).mp hc).1
  rw [h, List.mem_filter, mem_allC, decide_eq_true_eq]
theorem setC_nodup {g : Grid} {p : Cell → Prop} : (setC g p).Nodup := (sortC_perm _).nodup_iff.mpr ((allC_nodup g).filter _)
theorem setC_len {g : Grid} (S : Shp g) {p : Cell → Prop} : (setC g p).length < 64 := by
  unfold setC
  rw [sortC_len]
  exact Nat.lt_of_le_of_lt (List.length_filter_le _ _) (shp_len S)
open Classical in
theorem setC_ext {g : Grid} {p q : Cell → Prop} (h : ∀ c, inG g c = true → (p c ↔ q c)) : setC g p = setC g q := by
  unfold setC
  congr 1
  refine List.filter_congr fun c hc => ?_
  by_cases z : p c
  · rw [decide_eq_true z, decide_eq_true ((h c (mem_allC.mp hc)).mp z)]
  · rw [decide_eq_false z, decide_eq_false fun w => z ((h c (mem_allC.mp hc)).mpr w)]
/-- a joined part of some cells -/
def IsComp (g : Grid) (A : List Cell) (Q : List Cell) : Prop := ∃ s ∈ A, Q = setC g (Rch A [s])
def dicI (fs : List (Cell × Int)) : Dt := .dic (fs.map fun q => (q.1, .int q.2))
theorem dicI_keys (fs : List (Cell × Int)) : (fs.map fun q => (q.1, V.int q.2)).map (·.1) = fs.map (·.1) := by rw [List.map_map]; rfl
theorem dicI_in {fs : List (Cell × Int)} {c : Cell} : (look (fs.map fun q => (q.1, V.int q.2)) c).isSome = decide (c ∈ fs.map (·.1)) := by rw [look_mem, dicI_keys]
theorem dicI_put {fs : List (Cell × Int)} {c : Cell} {v : Int} (h : c ∉ fs.map (·.1)) : Dt.dic (putD (fs.map fun q => (q.1, V.int q.2)) c (.int v)) = dicI (fs ++ [(c, v)]) := by
  rw [putD_new (by rw [dicI_keys]; exact h)]
  unfold dicI
  rw [List.map_append]
  rfl
theorem get_map {α β : Type} {f : α → β} {l : List α} {i : Nat} {d : β} (h : (l.map f)[i]? = some d) : ∃ x, l[i]? = some x ∧ f x = d := by
  rw [List.getElem?_map] at h
  cases z : l[i]? with
  | none => rw [z] at h; cases h
  | some x => rw [z] at h; exact ⟨x, rfl, Option.some.inj h⟩
section
variable {ps : List Addr} {bs : List (List Addr × Hp)} {ρ : List Sl} {D : Ends} {t : TS} {d : Dt}
theorem ge_call1 {ι : Type} {arg : ι → List Dt} {pre : ι → Prop} {post : ι → Dt → Prop} {X : XK} {ta : TE} {φ ψ : Dt → Prop} (h : GE ta ρ φ) (hd : ∀ d, φ d → ∃ i, arg i = [d] ∧ pre i ∧ ∀ e, post i e → ψ e) : GE (tCall (spI arg pre post) [] X (tCons ta tNil)) ρ ψ := fun ps bs σ H E Q q =>
  h ps bs σ H E _ fun v H1 d s1 h1 hp => by
    obtain ⟨i, e1, e2, e3⟩ := hd d hp
    exact ⟨i, ps, (E.mono s1).al, by rw [List.append_nil, e1]; exact .one h1, e2, fun v' H2 d' s2 h2 p => q v' H2 d' (s1.trans s2) h2 (e3 d' p)⟩
theorem ok_frz {i : Nat} {p : Addr} (hi : ρ[i]? = some (.ow p d)) (hp : p ∉ ps) (h : Ok ps bs t (ρ.set i (.im d)) D) : Ok (p :: ps) bs t ρ D := fun σ H E => h σ H (E.freeze hi hp)
end
section
variable {P : Program} {w : World} {K : PySem.W.Frag} {mg : Str → Option Value} {base : Heap}
theorem ca_set_of (T : Top K mg) : Ca P w K mg base 1 "set_of" (spI (ι := List Cell) (fun i => [tD i]) (fun i => i.length < 64 ∧ ∀ c ∈ i, Bc c) (fun i d => d = dCells false (sortC i))) := by
  have sc := sc_set_of
  refine ca_of T.f_set_of (fun _ _ _ _ _ _ us hl => match us, hl with | [_], _ => rfl) sc (fun _ => rfl) fun f cdv A outer s H E hr => ⟨_, (pss_one (ps_ret (pe_callTy (call_tupK (K := K) rfl) (by rfl) T.b_tuple (by decide +kernel) (pa_cons (pe_sortSetD rfl hr.units (by rfl) T.b_sorted (by rfl) T.b_set (pv 0)) pa_nil)))), ?_⟩
  rintro qs cs D ⟨h1, h2⟩ hR
  refine ok_rtD (GD.cast (gd_tuple (l := true) (GN.gd (gn_sortD (GD.gm (gd_var rfl)) (by rw [List.length_map]; exact h1) (fun kv hkv => ?_)))) (by rw [keys_map]; rfl)) hR rfl
  obtain ⟨c, hc, rfl⟩ := List.mem_map.mp hkv
  exact h2 c hc
theorem ca_opened (T : Top K mg) : Ca P w K mg base 4 "opened" (spGrid fun i d => d = dCells false (setC i.2 (Opn i.2))) := by
  have sc := sc_opened
  refine ca_of T.f_opened (fun _ _ _ _ _ _ us hl => match us, hl with | [_], _ => rfl) sc (fun _ => rfl) fun f cdv A outer s H E hr => ⟨_, (pss_one (ps_ret (pe_ca (ca_set_of T) hr (by decide) (by rfl) (pa_cons (pe_ca (ca_open_cells T) hr (by decide) (by rfl) (pa_cons (pv 0) pa_nil)) pa_nil)))), ?_⟩
  rintro qs ⟨l, g⟩ D hp hR
  replace hp : Shp g := hp
  refine ok_rt (ge_call1 (ge_call (i := (l, g)) (ga_cons (gd_var rfl) ga_nil) hp) ?_) hR
  rintro _ ⟨ks, rfl, hn, hk⟩
  have hi : ∀ c ∈ ks, inG g c = true := fun c hc => (mem_airC.mp (((hk c).mp hc).inA fun x hx => (List.mem_filter.mp hx).1)).1
  refine ⟨ks, rfl, ⟨?_, fun c hc => hp.bc (hi c hc)⟩, ?_⟩
  · exact Nat.lt_of_le_of_lt (nodup_len hn fun c hc => mem_allC.mpr (hi c hc)) (shp_len hp)
  · rintro _ rfl
    show dCells false _ = dCells false _
    rw [setC_of hp hn fun c => ⟨fun h => ⟨hi c h, (hk c).mp h⟩, fun h => (hk c).mpr h.2⟩]
end
end DL
set_option maxHeartbeats 1000000
namespace DL
open PySem PySem.Spec PyProof.Rows L2
section
variable {ps qs : List Addr} {bs : List (List Addr × Hp)} {ρ : List Sl} {D : Ends} {t : TS} {te : TE} {d : Dt} {σ : L2.St} {H : Hp} {K : PySem.W.Frag} {φ : Dt → Prop}
theorem En.perm (E : En ps bs σ H ρ) (hm : ∀ a, a ∈ ps ↔ a ∈ qs) : En qs bs σ H ρ := by
  have o : out H ps = out H qs := by
    funext a
    unfold out
    by_cases z : a ∈ ps
    · rw [if_pos z, if_pos ((hm a).mp z)]
    · rw [if_neg z, if_neg (fun w => z ((hm a).mpr w))]
  refine ⟨fun q hq => E.al q ((hm q).mpr hq), E.ex, E.len, fun i s hs => ?_, E.ne, E.mine⟩
  obtain ⟨v, h1, h2⟩ := E.sl i s hs
  refine ⟨v, h1, ?_⟩
  cases s with
  | un => trivial
  | raw v => exact h2
  | im d => obtain ⟨v, k1, k2⟩ := h2; exact ⟨v, k1, o ▸ k2⟩
  | ow p d =>
    refine ⟨h2.1, (hm p).mp h2.2.1, ?_⟩
    have h3 := h2.2.2
    cases d with
    | seq l ds =>
      cases l with
      | true => obtain ⟨xs, k1, k2⟩ := h3; exact ⟨xs, k1, o ▸ k2⟩
      | false => exact h3.elim
    | dic kv => exact h3
    | non => exact h3.elim
    | bl _ => exact h3.elim
    | int _ => exact h3.elim
    | str _ => exact h3.elim
theorem En.frzAt {i : Nat} {p : Addr} (E : En ps bs σ H ρ) (hi : ρ[i]? = some (.ow p d)) : En (ps.filter (fun a => decide (a ≠ p))) bs σ H (ρ.set i (.im d)) := by
  have hp := (E.ow hi).2.1
  refine (E.perm (qs := p :: ps.filter (fun a => decide (a ≠ p))) fun a => ?_).freeze hi (by simp)
  rw [List.mem_cons, List.mem_filter, decide_eq_true_eq]
  constructor
  · intro h
    by_cases z : a = p
    · exact .inl z
    · exact .inr ⟨h, z⟩
  · rintro (h | h)
    · rw [h]; exact hp
    · exact h.1
/-- a test reads an owned object as one that stands still -/
theorem gt_frz {tt : TT} {b : Bool} {i : Nat} {p : Addr} (hi : ρ[i]? = some (.ow p d)) (h : GT tt (ρ.set i (.im d)) b) : GT tt ρ b := fun ps bs σ H E Q q => h _ bs σ H (E.frzAt hi) Q q
theorem gdI_frz {k : Int} {i : Nat} {p : Addr} (hi : ρ[i]? = some (.ow p d)) (h : GD te (ρ.set i (.im d)) (.int k)) : GD te ρ (.int k) := fun ps bs σ H E Q q => h _ bs σ H (E.frzAt hi) Q fun v H' s hv => q v H' s (by rw [is_int hv]; exact .int k)
theorem gdB_frz {k : Bool} {i : Nat} {p : Addr} (hi : ρ[i]? = some (.ow p d)) (h : GD te (ρ.set i (.im d)) (.bl k)) : GD te ρ (.bl k) := fun ps bs σ H E Q q => h _ bs σ H (E.frzAt hi) Q fun v H' s hv => q v H' s (by rw [is_bl hv]; exact .bl k)
theorem ok_appendE {i : Nat} {p : Addr} {ds : List Dt} (hi : ρ[i]? = some (.ow p (.seq true ds))) (h : GE te ρ φ) (hl : ds.length < sizeLine) (q : ∀ d, φ d → ∀ σ H, En ps bs σ H (ρ.set i (.ow p (.seq true (ds ++ [d])))) → D.nx σ H) :
    Ok ps bs (tDrop (tBM K "list" rAppend (tVar i) (tCons te tNil))) ρ D := fun σ H E => by
  obtain ⟨h1, h2, xs, h3, h4⟩ := E.ow hi
  refine ⟨.ref p, h1, .inl ⟨rfl, xs, SqL.of h3⟩, h ps bs σ H E _ fun v H1 d s1 hv hφ => ?_⟩
  have h4' := h4.mono (out_mono s1)
  refine ⟨p, xs, v, rfl, rfl, s1 _ _ h3, by rw [h4.length]; exact hl, q d hφ _ _ ((E.mono s1).put hi ?_)⟩
  exact ⟨_, upd_same, (h4'.append (.one hv)).mono (out_upd h2)⟩
theorem GN.cast {t : TE} {e : Dt} (h : GN t ρ d) (k : d = e) : GN t ρ e := k ▸ h
end
end DL
/-! Plain: joined parts. -/
namespace DL
theorem Rch.trans {A F G : List Cell} {c : Cell} (h : Rch A G c) (hf : ∀ x ∈ G, Rch A F x) : Rch A F c := by
  induction h with
  | base h => exact hf _ h
  | step _ h1 h2 ih => exact .step ih h1 h2
theorem Rch.symm1 {A : List Cell} {s c : Cell} (hs : s ∈ A) (h : Rch A [s] c) : Rch A [c] s := by
  induction h with
  | @base c h =>
    have : c = s := by simpa using h
    subst this
    exact .base (by simp)
  | @step c d h0 h1 h2 ih =>
    refine ih.trans fun x hx => ?_
    have : x = c := by simpa using hx
    subst this
    exact .step (.base (List.mem_singleton.mpr rfl)) (around_symm h1) (h0.inA fun y hy => by have : y = s := by simpa using hy
                                                                                             exact this ▸ hs)
theorem Rch.same {A : List Cell} {s t : Cell} (hs : s ∈ A) (h : Rch A [s] t) (c : Cell) : Rch A [t] c ↔ Rch A [s] c := by
  constructor
  · intro k
    exact k.trans fun x hx => by
      have : x = t := by simpa using hx
      exact this ▸ h
  · intro k
    exact k.trans fun x hx => by
      have : x = s := by simpa using hx
      exact this ▸ h.symm1 hs
structure PtI (A S : List Cell) (kss : List (List Cell)) (i : Nat) : Prop where
  a : ∀ ks ∈ kss, ks.Nodup ∧ ∃ s ∈ A, ∀ c, c ∈ ks ↔ Rch A [s] c
  b : ∀ c ∈ S.take i, ∃ ks ∈ kss, c ∈ ks
  d : kss.Pairwise fun k1 k2 => ∃ c ∈ k2, c ∉ k1
  n : kss.length ≤ i
theorem PtI.start {A S : List Cell} : PtI A S [] 0 := ⟨fun _ h => by simp at h, fun _ h => by simp at h, .nil, Nat.le_refl _⟩
theorem PtI.skip {A S : List Cell} {kss : List (List Cell)} {i : Nat} {c : Cell} (h : PtI A S kss i) (hc : S[i]? = some c) (k : ∃ ks ∈ kss, c ∈ ks) : PtI A S kss (i + 1) :=
  ⟨h.a, fun e he => by
    rw [List.take_add_one, hc] at he
    rcases List.mem_append.mp he with z | z
    · exact h.b e z
    · have : e = c := by simpa using z
      exact this ▸ k, h.d, Nat.le_succ_of_le h.n⟩
theorem PtI.add {A S : List Cell} {kss : List (List Cell)} {i : Nat} {c : Cell} {ks : List Cell} (h : PtI A S kss i) (hc : S[i]? = some c) (k : ∀ ks ∈ kss, c ∉ ks) (hA : c ∈ A) (hn : ks.Nodup) (hk : ∀ x, x ∈ ks ↔ Rch A [c] x) : PtI A S (kss ++ [ks]) (i + 1) where
  a := fun l hl => by
    rcases List.mem_append.mp hl with z | z
    · exact h.a l z
    · have : l = ks := by simpa using z
      exact this ▸ ⟨hn, c, hA, hk⟩
  b := fun e he => by
    rw [List.take_add_one, hc] at he
    rcases List.mem_append.mp he with z | z
    · obtain ⟨l, h1, h2⟩ := h.b e z
      exact ⟨l, List.mem_append_left _ h1, h2⟩
    · have : e = c := by simpa using z
      exact ⟨ks, List.mem_append_right _ (by simp), this ▸ (hk c).mpr (.base (by simp))⟩
  d := by
    rw [List.pairwise_append]
    refine ⟨h.d, List.pairwise_singleton _ _, fun l hl m hm => ?_⟩
    have : m = ks := by simpa using hm
    subst this
    exact ⟨c, (hk c).mpr (.base (by simp)), k l hl⟩
  n := by rw [List.length_append]; exact Nat.succ_le_succ h.n
end DL
set_option maxHeartbeats 1000000
namespace DL
open PySem PySem.Spec PyProof.Rows L2
section
variable {P : Program} {w : World} {K : PySem.W.Frag} {mg : Str → Option Value} {base : Heap}
abbrev spParts : Sp := spI (ι := Bool × Grid × List Cell) (fun i => [dHeap i.1 i.2.1, dCells true i.2.2]) (fun i => Shp i.2.1 ∧ i.2.2.Nodup ∧ ∀ c ∈ i.2.2, inG i.2.1 c = true)
  (fun i d => ∃ parts : List (List Cell), d = .seq true (parts.map (dCells false)) ∧ parts.Nodup ∧ parts.length < 64 ∧ ∀ Q, Q ∈ parts ↔ IsComp i.2.1 i.2.2 Q)
theorem ca_parts_of (T : Top K mg) : Ca P w K mg base 3 "parts_of" spParts := by
  have sc := sc_parts_of
  refine ca_of T.f_parts_of (fun _ _ _ _ _ _ us hl => match us, hl with | [_, _], _ => rfl) sc (fun _ => rfl) fun f cdv A outer s H E hr => ⟨_, (pss_cons (ps_par (i := 2) (j := 3) rfl sc.nd rfl rfl (by decide) rfl rfl (pa_cons (pe_callTy (call_dictC rfl (hu_of hr) hr.units) (by rfl) T.b_dict (by decide +kernel) (pa_cons (pe_lc (own := [("cell", 4)]) rfl sc.nd (pi_seqK (K := K) rfl (pv 1)) (blkOk_by (own := [("cell", 4)]) (N := N_parts_of) (sc := (defScope s_parts_of)) (by decide +kernel)) (fun _ _ _ _ _ => (pg_name (i := 4) sc.nd rfl (Or.inl rfl))) (fun _ _ _ _ _ => pts_nil) (fun _ _ _ _ _ => (pe_tup (pa_cons (pv 4) (pa_cons pe_bl pa_nil))))) pa_nil)) (pa_cons (pe_lst pa_nil) pa_nil)) (by rfl))
    (pss_cons (ps_for PassesOwn.never rfl (pi_seqK (K := K) rfl (pe_callB (cr_sortD rfl) (by rfl) T.b_sorted (by decide +kernel) (pa_cons (pv 2) pa_nil))) (pg_name (i := 4) sc.nd rfl (Or.inr rfl))
      (pss_one (ps_if (pt_not (pt_val (pe_callB (cr_anyK (K := K) rfl rfl) (by rfl) T.b_any (by decide +kernel) (pa_cons (pe_lc (own := [("part", 5)]) rfl sc.nd (pi_seqK (K := K) rfl (pv 3)) (blkOk_by (own := [("part", 5)]) (N := N_parts_of) (sc := (defScope s_parts_of)) (by decide +kernel)) (fun _ _ _ _ _ => (pg_name (i := 5) sc.nd rfl (Or.inl rfl))) (fun _ _ _ _ _ => pts_nil) (fun _ _ _ _ _ => (pe_cmp (pc_din (hu_of hr) (pv 4) (pv 5))))) pa_nil))))
        (pss_one (ps_expr (pe_bm PySem.F.plainAttrs_list PySem.F.slot_list_append PySem.F.type_list_append mt_append (pv 3) (pa_cons (pe_ca (ca_flooded T) hr (by decide) (by rfl) (pa_cons (pv 0) (pa_cons (pe_lst (pa_cons (pv 4) pa_nil)) (pa_cons (pv 2) pa_nil)))) pa_nil))))
        pss_nil)))
    (pss_one (ps_ret (pe_lc (own := [("part", 5)]) rfl sc.nd (pi_seqK (K := K) rfl (pv 3)) (blkOk_by (own := [("part", 5)]) (N := N_parts_of) (sc := (defScope s_parts_of)) (by decide +kernel)) (fun _ _ _ _ _ => (pg_name (i := 5) sc.nd rfl (Or.inl rfl))) (fun _ _ _ _ _ => pts_nil) (fun _ _ _ _ _ => (pe_ca (ca_set_of T) hr (by decide) (by rfl) (pa_cons (pv 5) pa_nil)))))))), ?_⟩
  rintro qs ⟨l, g, G⟩ D ⟨hp, hG, hi⟩ hR
  replace hp : Shp g := hp
  dsimp only at hG hi
  have hl : G.length < 64 := Nat.lt_of_le_of_lt (nodup_len hG fun c hc => mem_allC.mpr (hi c hc)) (shp_len hp)
  have hb : ∀ c ∈ G, Bc c := fun c hc => hp.bc (hi c hc)
  refine ok_parDN (da := tD G) (db := .seq true []) (GN.gd (gn_dictC (cs := G) (d := fun _ => .bl true) (v := fun _ => .bl true) (GN.gd (gn_lcY (xs := G) (f := dCell) (e := fun c => dPair (c, .bl true)) (gw_seq (gd_var rfl)) (sl12 (by omega)) (fun x _ => gg_name (by decide)) (fun x hx => gd_tup (ga_cons (gd_var rfl) (ga_cons gd_bl ga_nil)) fw))) hG (fun _ _ _ h => is_bl h)))
    (gn_lst ga_nil fw) fun r hr => ?_
  refine ok_seq (ok_for [4] (fun i ρ' => ∃ (kss : List (List Cell)) (o : Sl), ρ' = [.im (dHeap l g), .im (dCells true G), .im (tD G), .ow r (.seq true (kss.map tD)), o, .un] ∧ PtI G (sortC G) kss i)
    (gw_seq (l := true) (ds := (sortC G).map dCell) (GD.cast (GN.gd (gn_sortD (GD.gm (gd_var rfl)) (by rw [List.length_map]; exact hl) (fun kv hkv => ?_))) (by rw [keys_map]))) ⟨[], _, rfl, .start⟩ ?_ ?_)
  · obtain ⟨c, hc, rfl⟩ := List.mem_map.mp hkv
    exact hb c hc
  · rintro H1 i _ d hd ⟨kss, o, rfl, pt⟩
    obtain ⟨c, hc, rfl⟩ := get_map hd
    refine ⟨_, gg_name (by decide), ?_⟩
    have hcl : i < G.length := by
      rw [← sortC_len G]
      exact (List.getElem?_eq_some_iff.mp hc).1
    have hks : kss.length ≤ 64 := Nat.le_trans pt.n (by omega)
    have hcG : c ∈ G := sortC_mem.mp (List.mem_of_getElem? hc)
    refine ok_if (gt_frz (i := 3) rfl (gt_not (gt_B (gd_anyM (p := fun ks : List Cell => decide (c ∈ ks)) (GN.gd (gn_lcY (xs := kss) (f := tD) (e := fun ks => .bl (decide (c ∈ ks))) (gw_seq (gd_var rfl)) (sl12 (by omega)) (fun x _ => gg_name (by decide))
      (fun x hx => (gd_din (gd_var rfl) (GD.gm (gd_var rfl))).cast (by rw [tD_look])))))))) (fun hb => ?_) (fun hb => ?_)
    · have hno : ∀ ks ∈ kss, c ∉ ks := fun ks hk hm => by
        rw [Bool.not_eq_true', List.any_eq_false] at hb
        exact hb ks hk (decide_eq_true hm)
      refine ok_appendE rfl (ge_call (i := (l, g, [c], G)) (ga_cons (gd_var rfl) (ga_cons (GN.gd (gn_lst (ga_cons (gd_var rfl) ga_nil) fw)) (ga_cons (gd_var rfl) ga_nil))) ⟨hp.ne, by simp, fun x hx => by
        have : x = c := by simpa using hx
        exact this ▸ hcG, hi, by show G.length ≤ 1000; omega⟩) (by rw [List.length_map]; exact szlt (by omega)) ?_
      rintro _ ⟨ks, rfl, k1, k2⟩
      refine ok_nx ⟨kss ++ [ks], .im (dCell c), ?_, pt.add hc hno hcG k1 k2⟩ rfl
      rw [List.map_append]
      rfl
    · refine ok_next (ok_nx ⟨kss, .im (dCell c), rfl, pt.skip hc ?_⟩ rfl)
      rw [Bool.not_eq_false'] at hb
      obtain ⟨ks, h1, h2⟩ := List.any_eq_true.mp hb
      exact ⟨ks, h1, of_decide_eq_true h2⟩
  · rintro _ ⟨kss, o, rfl, pt⟩
    rw [List.length_map, sortC_len] at pt
    have hks : kss.length ≤ 64 := Nat.le_trans pt.n (by omega)
    have hof : ∀ ks ∈ kss, ∀ s ∈ G, (∀ c, c ∈ ks ↔ Rch G [s] c) → ks.Nodup → sortC ks = setC g (Rch G [s]) := fun ks hk s hs h1 h2 => setC_of hp h2 fun c => ⟨fun h => ⟨hi c (((h1 c).mp h).inA fun x hx => by
      have : x = s := by simpa using hx
      exact this ▸ hs), (h1 c).mp h⟩, fun h => (h1 c).mpr h.2⟩
    have hin : ∀ ks ∈ kss, ∀ c ∈ ks, c ∈ G := fun ks hk c hc => by
      obtain ⟨_, s, hs, h1⟩ := pt.a ks hk
      exact ((h1 c).mp hc).inA fun x hx => by
        have : x = s := by simpa using hx
        exact this ▸ hs
    have hk64 : ∀ ks ∈ kss, ks.length < 64 := fun x hx => Nat.lt_of_le_of_lt (nodup_len (pt.a x hx).1 (hin x hx)) hl
    refine ok_frz (i := 3) (d := .seq true (kss.map tD)) rfl hr (ok_rtD (d := .seq true ((kss.map sortC).map (dCells false))) (GD.cast (GN.gd (gn_lcY (xs := kss) (f := tD) (e := fun ks => dCells false (sortC ks)) (gw_seq (gd_var rfl)) (sl12 (by omega)) (fun x _ => gg_name (by decide))
      (fun x hx => gd_call (i := x) (ga_cons (gd_var rfl) ga_nil) ⟨hk64 x hx, fun c hc => hb c (hin x hx c hc)⟩))) (by rw [List.map_map]; rfl)) hR ⟨kss.map sortC, rfl, ?_, ?_, ?_⟩)
    · rw [List.Nodup, List.pairwise_map]
      refine List.Pairwise.imp ?_ pt.d
      rintro a b ⟨c, h1, h2⟩ e
      rw [← sortC_mem, ← e, sortC_mem] at h1
      exact h2 h1
    · rw [List.length_map]
      exact Nat.lt_of_le_of_lt pt.n hl
    · intro Q
      constructor
      · intro hQ
        obtain ⟨ks, hk, rfl⟩ := List.mem_map.mp hQ
        obtain ⟨h0, s, hs, h1⟩ := pt.a ks hk
        exact ⟨s, hs, hof ks hk s hs h1 h0⟩
      · rintro ⟨s, hs, rfl⟩
        obtain ⟨ks, hk, hm⟩ := pt.b s (by rw [← sortC_len G, List.take_length]; exact sortC_mem.mpr hs)
        obtain ⟨h0, s', hs', h1⟩ := pt.a ks hk
        refine List.mem_map.mpr ⟨ks, hk, ?_⟩
        exact hof ks hk s hs (fun c => (h1 c).trans (Rch.same hs' ((h1 s).mp hm) c).symm) h0
theorem ca_steps_of (T : Top K mg) : Ca P w K mg base 7 "steps_of" (spGrid fun i d => ∃ fs, d = dicI fs ∧ IsSteps i.2 fs) := by
  have sc := sc_steps_of
  refine ca_of T.f_steps_of (fun _ _ _ _ _ _ us hl => match us, hl with | [_], _ => rfl) sc (fun _ => rfl) fun f cdv A outer s H E hr => ⟨_, (pss_cons (ps_setLc (i := 1) (own := [("cell", 5)]) rfl sc.nd rfl rfl (sw_true rfl rfl rfl (by decide +kernel)) (pi_seqK (K := K) rfl (pe_ca (ca_air_cells T) hr (by decide) (by rfl) (pa_cons (pv 0) pa_nil))) (blkOk_by (own := [("cell", 5)]) (N := N_steps_of) (sc := (defScope s_steps_of)) (by decide +kernel)) (fun _ _ _ _ _ => (pg_name (i := 5) sc.nd rfl (Or.inl rfl))) (fun _ _ _ _ _ => pts_one (pt_val (pe_ca (ca_near_stuff T) hr (by decide) (by rfl) (pa_cons (pv 0) (pa_cons (pv 5) pa_nil))))) (fun _ _ _ _ _ => (pv 5)))
    (pss_cons (ps_par (i := 2) (j := 3) rfl sc.nd rfl rfl (by decide) rfl rfl (pa_cons (pe_callTy (call_dictC rfl (hu_of hr) hr.units) (by rfl) T.b_dict (by decide +kernel) (pa_cons (pe_lc (own := [("cell", 5)]) rfl sc.nd (pi_seqK (K := K) rfl (pv 1)) (blkOk_by (own := [("cell", 5)]) (N := N_steps_of) (sc := (defScope s_steps_of)) (by decide +kernel)) (fun _ _ _ _ _ => (pg_name (i := 5) sc.nd rfl (Or.inl rfl))) (fun _ _ _ _ _ => pts_nil) (fun _ _ _ _ _ => (pe_tup (pa_cons (pv 5) (pa_cons pe_int pa_nil))))) pa_nil)) (pa_cons pe_int pa_nil)) (by rfl))
    (pss_cons (ps_while PassesOwn.never (pt_cmpR (op_neDK (K := K) rfl hr.units) (pv 1) (pe_lst pa_nil) (nomark _))
      (pss_cons (ps_par (i := 3) (j := 4) rfl sc.nd rfl rfl (by decide) rfl rfl (pa_cons (pe_op op_add (pv 3) pe_int) (pa_cons (pe_lst pa_nil) pa_nil)) (by rfl))
      (pss_cons (ps_for PassesOwn.never rfl (pi_seqK (K := K) rfl (pv 1)) (pg_name (i := 5) sc.nd rfl (Or.inl rfl))
        (pss_one (ps_for PassesOwn.never rfl (pi_seqK (K := K) rfl (pe_ca (ca_beside T) hr (by decide) (by rfl) (pa_cons (pv 0) (pa_cons (pv 5) pa_nil)))) (pg_name (i := 6) sc.nd rfl (Or.inl rfl))
          (pss_one (ps_if (PW.pt (pw_and (pt_cmpR op_eq (pe_ix (ix_seqK (K := K) rfl) (pe_ix (ix_seqK (K := K) rfl) (pv 0) (pe_ix (ix_seqK (K := K) rfl) (pv 6) pe_int (fun _ _ => rfl)) (fun _ _ => rfl)) (pe_ix (ix_seqK (K := K) rfl) (pv 6) pe_int (fun _ _ => rfl)) (fun _ _ => rfl)) (pe_gcI (by rfl) T.c_AIR) (nomark _)) (pw_and1 (pt_cmp (pc_dnotin (hu_of hr) (pv 6) (pv 2))))))
            (pss_cons (ps_dput (hu_of hr) (pv 2) (pv 6) (pv 3) rfl)
            (pss_one (ps_expr (pe_bm PySem.F.plainAttrs_list PySem.F.slot_list_append PySem.F.type_list_append mt_append (pv 4) (pa_cons (pv 6) pa_nil)))))
            pss_nil)))))
      (pss_one (ps_set (i := 1) sc.nd rfl (Or.inl rfl) (pv 4))))))
    (pss_one (ps_ret (pv 2)))))), ?_⟩
  rintro qs ⟨l, g⟩ D hp hR
  replace hp : Shp g := hp
  have hal : (airC g).length < 64 := Nat.lt_of_le_of_lt (List.length_filter_le _ _) (shp_len hp)
  have hfl : ((airC g).filter (nearSt g)).length ≤ 64 := Nat.le_trans (List.length_filter_le _ _) (by omega)
  refine ok_setD (d := dCells true ((airC g).filter (nearSt g))) (GN.gd (gn_lc (xs := airC g) (f := dCell) (b := nearSt g) (e := dCell) (gw_seq (gd_call (i := (l, g)) (ga_cons (gd_var rfl) ga_nil) hp)) (sl12 (by omega)) (fun x _ => gg_name (by decide))
    (fun x hx => gt_B (gd_call (i := (l, g, x)) (ga_cons (gd_var rfl) (ga_cons (gd_var rfl) ga_nil)) ⟨hp, (mem_airC.mp hx).1⟩)) (fun x _ _ => gd_var rfl))) ?_
  refine ok_parND (da := dicI (((airC g).filter (nearSt g)).map fun c => (c, (1 : Int)))) (GN.cast (gn_dictC (cs := (airC g).filter (nearSt g)) (d := fun _ => .int 1) (v := fun _ => .int 1) (GN.gd (gn_lcY (xs := (airC g).filter (nearSt g)) (f := dCell) (e := fun c => dPair (c, .int 1)) (gw_seq (gd_var rfl)) (sl12 (by omega)) (fun x _ => gg_name (by decide)) (fun x hx => gd_tup (ga_cons (gd_var rfl) (ga_cons gd_int ga_nil)) fw))) ((airC_nodup g).filter _) (fun _ _ _ h => is_int h))
    (by unfold dicI; rw [List.map_map]; rfl)) gd_int fun p hp' => ?_
  have hcap : ∀ {fs m hs}, Bf g fs m hs → fs.length ≤ (airC g).length := fun {fs m hs} B => by
    have := nodup_len (A := airC g) B.nd fun c hc => by
      obtain ⟨v, hv⟩ := key_mem hc
      obtain ⟨k, _, _, _, e4⟩ := B.vl _ hv
      exact ((e4 k).mpr (Nat.le_refl _)).air
    rw [List.length_map] at this
    exact this
  refine ok_seq (ok_while (fun n ρ' => ∃ (fs : List (Cell × Int)) (hs : List Cell) (m : Nat) (o4 o5 o6 : Sl), ρ' = [.im (dHeap l g), .im (dCells true hs), .ow p (dicI fs), .im (.int m), o4, o5, o6] ∧ Bf g fs m hs ∧ n = 2 * ((airC g).length - fs.length) + min 1 hs.length)
    (2 * ((airC g).length - (((airC g).filter (nearSt g)).map fun c => (c, (1 : Int))).length) + min 1 ((airC g).filter (nearSt g)).length) ⟨_, _, 1, _, _, _, rfl, Bf.start g, rfl⟩ ?_)
  rintro n _ ⟨fs, hs, m, o4, o5, o6, rfl, B, rfl⟩
  refine ⟨_, gt_test (gd_neNil (ds := hs.map dCell) (GD.gl (gd_var rfl)) (plain_cells true hs)), fun hb => ?_, fun hb => ?_⟩
  · have hne : hs ≠ [] := by
      rintro rfl
      simp at hb
    have hh1 : 1 ≤ hs.length := by
      cases hs with
      | nil => exact absurd rfl hne
      | cons a b => simp
    have hIn : ∀ c ∈ hs, c ∈ airC g := fun c hc => by
      obtain ⟨k, _, _, _, e4⟩ := B.vl _ ((B.hr c).mp hc)
      exact ((e4 k).mpr (Nat.le_refl _)).air
    refine ok_parDN (da := .int ((m + 1 : Nat) : Int)) (db := dCells true []) ((gd_add (i := (m : Int)) (j := 1) (gd_var rfl) gd_int).cast (congrArg Dt.int (Int.natCast_succ m).symm)) (gn_lst ga_nil fw) fun r hr' => ?_
    have hcap2 : ∀ {ah i j}, BfI g fs hs ah i j → fs.length + ah.length ≤ (airC g).length := fun {ah i j} b => by
      have := nodup_len (A := airC g) b.nd fun c hc => by
        rcases List.mem_append.mp hc with z | z
        · obtain ⟨v, hv⟩ := key_mem z
          obtain ⟨k, _, _, _, e4⟩ := B.vl _ hv
          exact ((e4 k).mpr (Nat.le_refl _)).air
        · exact (b.nw c z).1
      rw [List.length_append, List.length_map] at this
      exact this
    refine ok_seq (ok_for [5] (fun i ρ' => ∃ (ah : List Cell) (o5 o6 : Sl), ρ' = [.im (dHeap l g), .im (dCells true hs), .ow p (dicI (fs ++ ah.map fun c => (c, ((m + 1 : Nat) : Int)))), .im (.int ((m + 1 : Nat) : Int)), .ow r (dCells true ah), o5, o6] ∧ BfI g fs hs ah i 0)
      (gw_seq (l := true) (gd_var rfl)) ⟨[], _, _, by rw [List.map_nil, List.append_nil]; rfl, .start B⟩ ?_ ?_)
    · rintro H1 i _ d hd ⟨ah, o5, o6, rfl, bi⟩
      obtain ⟨x, hx, rfl⟩ := get_map hd
      have hxg := (mem_airC.mp (hIn x (List.mem_of_getElem? hx))).1
      refine ⟨_, gg_name (by decide), ?_⟩
      refine ok_for [6] (fun j ρ' => ∃ (ah : List Cell) (o6 : Sl), ρ' = [.im (dHeap l g), .im (dCells true hs), .ow p (dicI (fs ++ ah.map fun c => (c, ((m + 1 : Nat) : Int)))), .im (.int ((m + 1 : Nat) : Int)), .ow r (dCells true ah), .im (dCell x), o6] ∧ BfI g fs hs ah i j)
        (gw_seq (l := false) (ds := (near g x).map dCell) (gd_call (i := (l, g, x)) (ga_cons (gd_var rfl) (ga_cons (gd_var rfl) ga_nil)) ⟨hp, hxg⟩)) ⟨ah, _, rfl, bi⟩ ?_ ?_
      · rintro H2 j _ d hd ⟨ah, o6, rfl, bi⟩
        obtain ⟨c, hc, rfl⟩ := get_map hd
        refine ⟨_, gg_name (by decide), ?_⟩
        have hcg := near_in (List.mem_of_getElem? hc)
        have hz := hcap2 bi
        refine ok_if (GT.cast (gt_and (gt_test (gd_eqI (gd_at hp hcg (gd_var rfl) (gd_ix (gd_var rfl) gd_int rfl) (gd_ix (gd_var rfl) gd_int rfl)) gd_int)) fun _ => gt_B (gd_dnotin (gd_var rfl) (gm_own rfl))) (by rw [dicI_in])) (fun hb => ?_) (fun hb => ?_)
        · rw [Bool.and_eq_true, Bool.not_eq_true', decide_eq_true_eq, decide_eq_false_iff_not, List.map_append, keys_pair] at hb
          have hk : c ∈ airC g ∧ c ∉ fs.map (·.1) ++ ah := ⟨mem_airC.mpr ⟨hcg, hb.1⟩, hb.2⟩
          refine ok_seq (ok_dput rfl (gd_var rfl) (fun _ _ h => is_int h) (gd_var rfl) (by rw [List.length_map, List.length_append, List.length_map]; exact szlt (by omega)) (ok_append rfl (gd_var rfl) (by rw [List.length_map]; exact szlt (by omega)) (ok_nx ?_ rfl)))
          refine ⟨ah ++ [c], .im (dCell c), ?_, bi.add hx hc hk⟩
          have e1 := dicI_put (fs := fs ++ ah.map fun c => (c, ((m + 1 : Nat) : Int))) (c := c) (v := ((m + 1 : Nat) : Int)) (by rw [List.map_append, keys_pair]; exact hb.2)
          have e2 : dicI (fs ++ (ah ++ [c]).map fun c => (c, ((m + 1 : Nat) : Int))) = dicI ((fs ++ ah.map fun c => (c, ((m + 1 : Nat) : Int))) ++ [(c, ((m + 1 : Nat) : Int))]) := by rw [List.map_append, ← List.append_assoc]; rfl
          have e3 : dCells true (ah ++ [c]) = .seq true (ah.map dCell ++ [dCell c]) := by unfold dCells; rw [List.map_append]; rfl
          rw [e2, e3, ← e1]
          rfl
        · refine ok_next (ok_nx ⟨ah, .im (dCell c), rfl, bi.skip hx hc fun z => ?_⟩ rfl)
          rw [decide_eq_true (mem_airC.mp z.1).2, List.map_append, keys_pair, decide_eq_false z.2] at hb
          cases hb
      · rintro _ ⟨ah, o6, rfl, bi⟩
        rw [List.length_map] at bi
        exact ok_nx ⟨ah, _, _, rfl, bi.next hx⟩ rfl
    · rintro _ ⟨ah, o5, o6, rfl, bi⟩
      rw [List.length_map] at bi
      have B' := bi.done B
      have hz := hcap2 bi
      refine ok_frz (i := 4) (d := dCells true ah) rfl hr' (ok_set1D (gd_var rfl) fun σ H E => ⟨_, _, ?_, ⟨_, ah, m + 1, _, _, _, rfl, B', rfl⟩, E⟩)
      rw [List.length_append, List.length_map]
      have : min 1 ah.length ≤ ah.length := Nat.min_le_right _ _
      have : min 1 hs.length = 1 := by omega
      omega
  · have : hs = [] := by
      cases hs with
      | nil => rfl
      | cons a b => simp at hb
    subst this
    exact ok_rtOwn rfl hp' (fun a h => h) hR ⟨fs, rfl, B.fin⟩
end
end DL
set_option maxHeartbeats 1000000
/-! Plain: steps by cell, eroded air, the tree of parts, chambers. -/
namespace DL
def stF (fs : List (Cell × Int)) (c : Cell) : Int := ((fs.find? fun q => decide (q.1 = c)).map (·.2)).getD 0
theorem stF_look {fs : List (Cell × Int)} {c : Cell} (h : c ∈ fs.map (·.1)) : look (fs.map fun q => (q.1, L2.V.int q.2)) c = some (.int (stF fs c)) := by
  unfold look stF
  induction fs with
  | nil => cases h
  | cons q r ih =>
    rw [List.map_cons, List.find?_cons, List.find?_cons]
    by_cases e : q.1 = c
    · simp only [decide_eq_true e]; rfl
    · simp only [decide_eq_false e]
      rcases List.mem_cons.mp h with z | z
      · exact absurd z.symm e
      · exact ih z
theorem stF_mem {fs : List (Cell × Int)} {c : Cell} (h : c ∈ fs.map (·.1)) : (c, stF fs c) ∈ fs := by
  unfold stF
  induction fs with
  | nil => cases h
  | cons q r ih =>
    rw [List.find?_cons]
    by_cases e : q.1 = c
    · simp only [decide_eq_true e]
      subst e
      exact List.mem_cons_self
    · simp only [decide_eq_false e]
      rcases List.mem_cons.mp h with z | z
      · exact absurd z.symm e
      · exact List.mem_cons_of_mem _ (ih z)
theorem IsSteps.at {g : Grid} {fs : List (Cell × Int)} (S : IsSteps g fs) {c : Cell} (h : c ∈ airC g) : ∃ k : Nat, stF fs c = (k : Nat) ∧ 1 ≤ k ∧ k ≤ ht g ∧ ∀ n, Ball g n c ↔ k ≤ n := S.vl _ (stF_mem ((S.ky c).mpr h))
open Classical in
/-- the air that is more than n steps away -/
noncomputable def er (g : Grid) (n : Nat) : List Cell := (airC g).filter fun c => decide (¬ Ball g n c)
open Classical in
theorem mem_er {g : Grid} {n : Nat} {c : Cell} : c ∈ er g n ↔ c ∈ airC g ∧ ¬ Ball g n c := by
  unfold er
  rw [List.mem_filter, decide_eq_true_eq]
theorem er_succ {g : Grid} {n : Nat} {c : Cell} (h : c ∈ er g (n + 1)) : c ∈ er g n := mem_er.mpr ⟨(mem_er.mp h).1, fun z => (mem_er.mp h).2 z.succ⟩
theorem er_le {g : Grid} {n m : Nat} {c : Cell} (hn : n ≤ m) (h : c ∈ er g m) : c ∈ er g n := mem_er.mpr ⟨(mem_er.mp h).1, fun z => (mem_er.mp h).2 (z.le hn)⟩
theorem air_in {g : Grid} {c : Cell} (h : c ∈ airC g) : inG g c = true := (mem_airC.mp h).1
theorem er_in {g : Grid} {n : Nat} {c : Cell} (h : c ∈ er g n) : inG g c = true := air_in (mem_er.mp h).1
theorem er_lt {g : Grid} {n : Nat} {c : Cell} (h : c ∈ er g n) : n < ht g := by
  obtain ⟨h1, h2⟩ := mem_er.mp h
  have hi := inG_iff.mp (air_in h1)
  have hb := ball_ht c.2.toNat c h1 (by omega)
  by_cases z : n < ht g
  · exact z
  · exact absurd (hb.le (by omega)) h2
theorem isComp_congr {g : Grid} {A B Q : List Cell} (h : ∀ c, c ∈ A ↔ c ∈ B) : IsComp g A Q ↔ IsComp g B Q := by
  have one : ∀ {A B : List Cell}, (∀ c, c ∈ A ↔ c ∈ B) → IsComp g A Q → IsComp g B Q := by
    rintro A B h ⟨s, hs, rfl⟩
    exact ⟨s, (h s).mp hs, setC_ext fun c _ => ⟨fun r => r.mono (fun x hx => (h x).mp hx) fun _ q => q, fun r => r.mono (fun x hx => (h x).mpr hx) fun _ q => q⟩⟩
  exact ⟨one h, one fun c => (h c).symm⟩
theorem single {s x : Cell} (h : x ∈ [s]) : x = s := by simpa using h
theorem IsComp.mem {g : Grid} {A Q : List Cell} (h : IsComp g A Q) {c d : Cell} (hc : c ∈ Q) : d ∈ Q ↔ inG g d = true ∧ Rch A [c] d := by
  obtain ⟨s, hs, rfl⟩ := h
  rw [mem_setC] at hc ⊢
  exact and_congr_right fun _ => (Rch.same hs hc.2 d).symm
theorem IsComp.sub {g : Grid} {A Q : List Cell} (h : IsComp g A Q) {c : Cell} (hc : c ∈ Q) : c ∈ A := by
  obtain ⟨s, hs, rfl⟩ := h
  exact (mem_setC.mp hc).2.inA fun x hx => single hx ▸ hs
theorem IsComp.ne {g : Grid} {A Q : List Cell} (h : IsComp g A Q) (hA : ∀ c ∈ A, inG g c = true) : ∃ c, c ∈ Q := by
  obtain ⟨s, hs, rfl⟩ := h
  exact ⟨s, mem_setC.mpr ⟨hA s hs, .base (by simp)⟩⟩
theorem isComp_of {g : Grid} {A : List Cell} {s : Cell} (hs : s ∈ A) : IsComp g A (setC g (Rch A [s])) := ⟨s, hs, rfl⟩
theorem IsComp.eq {g : Grid} {A Q Q' : List Cell} (h : IsComp g A Q) (h' : IsComp g A Q') {c : Cell} (hc : c ∈ Q) (hc' : c ∈ Q') : Q = Q' := by
  obtain ⟨s, hs, rfl⟩ := h
  obtain ⟨t, ht, rfl⟩ := h'
  refine setC_ext fun d _ => ?_
  exact (Rch.same hs (mem_setC.mp hc).2 d).symm.trans (Rch.same ht (mem_setC.mp hc').2 d)
abbrev Ent := Nat × List Cell × Option Int
def aboveI (told : List Ent) (lvl : Int) (c : Cell) : List Int := (told.zipIdx.filter fun p => decide ((p.1.1 : Int) = lvl) && decide (c ∈ p.1.2.1)).map fun p => (p.2 : Int)
def hd (Q : List Cell) : Cell := Q.headD (0, 0)
theorem hd_mem {Q : List Cell} {c : Cell} (h : c ∈ Q) : hd Q ∈ Q := by
  cases Q with
  | nil => cases h
  | cons a r => exact List.mem_cons_self
structure TreeI (g : Grid) (n : Nat) (told : List Ent) : Prop where
  a : ∀ e ∈ told, e.1 < n ∧ IsComp g (er g e.1) e.2.1
  b : ∀ k < n, ∀ Q, IsComp g (er g k) Q → ∃ e ∈ told, e.1 = k ∧ e.2.1 = Q
  c : (told.map fun e => (e.1, e.2.1)).Nodup
  d : ∀ e ∈ told, (e.1 = 0 → e.2.2 = none) ∧ (e.1 ≠ 0 → ∃ (k : Nat) (e' : Ent), e.2.2 = some (k : Int) ∧ told[k]? = some e' ∧ e'.1 + 1 = e.1 ∧ ∃ c ∈ e.2.1, c ∈ e'.2.1)
  l : told.length ≤ 64 * n
theorem TreeI.start (g : Grid) : TreeI g 0 [] := ⟨fun _ h => by simp at h, fun _ h => absurd h (Nat.not_lt_zero _), List.nodup_nil, fun _ h => by simp at h, Nat.le_refl _⟩
theorem TreeI.step {g : Grid} {n : Nat} {told : List Ent} (T : TreeI g n told) {parts : List (List Cell)} (hn : parts.Nodup) (hl : parts.length < 64) (hp : ∀ Q, Q ∈ parts ↔ IsComp g (er g n) Q) :
    TreeI g (n + 1) (told ++ parts.map fun Q => (n, Q, (aboveI told ((n : Int) - 1) (hd Q)).head?)) where
  a := fun e he => by
    rcases List.mem_append.mp he with z | z
    · exact ⟨Nat.lt_succ_of_lt (T.a e z).1, (T.a e z).2⟩
    · obtain ⟨Q, hQ, rfl⟩ := List.mem_map.mp z
      exact ⟨Nat.lt_succ_self _, (hp Q).mp hQ⟩
  b := fun k hk Q hQ => by
    by_cases z : k = n
    · subst z
      exact ⟨_, List.mem_append_right _ (List.mem_map.mpr ⟨Q, (hp Q).mpr hQ, rfl⟩), rfl, rfl⟩
    · obtain ⟨e, h1, h2⟩ := T.b k (by omega) Q hQ
      exact ⟨e, List.mem_append_left _ h1, h2⟩
  c := by
    rw [List.map_append, List.nodup_append]
    refine ⟨T.c, ?_, fun x hx y hy e => ?_⟩
    · rw [List.map_map, List.Nodup, List.pairwise_map]
      exact List.Pairwise.imp (fun h e => h (Prod.mk.inj e).2) hn
    · obtain ⟨p, hp1, rfl⟩ := List.mem_map.mp hx
      obtain ⟨q, hq1, rfl⟩ := List.mem_map.mp hy
      obtain ⟨Q, _, rfl⟩ := List.mem_map.mp hq1
      have h1 := (T.a p hp1).1
      have h2 : p.1 = n := (Prod.mk.inj e).1
      omega
  d := fun e he => by
    rcases List.mem_append.mp he with z | z
    · refine ⟨(T.d e z).1, fun h => ?_⟩
      obtain ⟨k, e', h1, h2, h3⟩ := (T.d e z).2 h
      refine ⟨k, e', h1, ?_, h3⟩
      rw [List.getElem?_append_left (List.getElem?_eq_some_iff.mp h2).1]
      exact h2
    · obtain ⟨Q, hQ, rfl⟩ := List.mem_map.mp z
      have cQ := (hp Q).mp hQ
      constructor
      · intro h
        have h : n = 0 := h
        subst h
        have : told = [] := by
          cases told with
          | nil => rfl
          | cons x r => exact absurd (T.a x List.mem_cons_self).1 (Nat.not_lt_zero _)
        subst this
        rfl
      · intro h
        have h : n ≠ 0 := h
        obtain ⟨c0, hc0⟩ := cQ.ne fun c hc => er_in hc
        have hh := hd_mem hc0
        have hm := er_le (n := n - 1) (Nat.sub_le _ _) (cQ.sub hh)
        obtain ⟨e, he1, he2, he3⟩ := T.b (n - 1) (by omega) _ (isComp_of hm)
        have hce : hd Q ∈ e.2.1 := by rw [he3]; exact mem_setC.mpr ⟨er_in hm, .base (by simp)⟩
        obtain ⟨j, hj, hj2⟩ := List.getElem_of_mem he1
        cases hf : aboveI told ((n : Int) - 1) (hd Q) with
        | nil =>
          have : ((j : Nat) : Int) ∈ aboveI told ((n : Int) - 1) (hd Q) := by
            refine List.mem_map.mpr ⟨(e, j), List.mem_filter.mpr ⟨?_, ?_⟩, rfl⟩
            · rw [List.mem_zipIdx_iff_getElem?]
              rw [← hj2]
              exact List.getElem?_eq_getElem hj
            · rw [Bool.and_eq_true, decide_eq_true_eq, decide_eq_true_eq]
              exact ⟨by show ((e.1 : Nat) : Int) = _; omega, hce⟩
          rw [hf] at this
          cases this
        | cons x r =>
          have : x ∈ aboveI told ((n : Int) - 1) (hd Q) := by rw [hf]; exact List.mem_cons_self
          obtain ⟨⟨e', k⟩, h1, h2⟩ := List.mem_map.mp this
          obtain ⟨h3, h4⟩ := List.mem_filter.mp h1
          rw [List.mem_zipIdx_iff_getElem?] at h3
          rw [Bool.and_eq_true, decide_eq_true_eq, decide_eq_true_eq] at h4
          refine ⟨k, e', ?_, ?_, ?_, hd Q, hh, h4.2⟩
          · show List.head? (x :: r) = _
            rw [← h2]
            rfl
          · rw [List.getElem?_append_left (List.getElem?_eq_some_iff.mp h3).1]
            exact h3
          · have : ((e'.1 : Nat) : Int) = (n : Int) - 1 := h4.1
            show e'.1 + 1 = n
            omega
  l := by
    rw [List.length_append, List.length_map]
    have := T.l
    omega
structure TreeOk (g : Grid) (told : List Ent) : Prop where
  a : ∀ e ∈ told, IsComp g (er g e.1) e.2.1
  b : ∀ k Q, IsComp g (er g k) Q → ∃ e ∈ told, e.1 = k ∧ e.2.1 = Q
  c : (told.map fun e => (e.1, e.2.1)).Nodup
  d : ∀ e ∈ told, (e.1 = 0 → e.2.2 = none) ∧ (e.1 ≠ 0 → ∃ (k : Nat) (e' : Ent), e.2.2 = some (k : Int) ∧ told[k]? = some e' ∧ e'.1 + 1 = e.1 ∧ ∃ c ∈ e.2.1, c ∈ e'.2.1)
  l : told.length ≤ 1000
theorem TreeI.ok {g : Grid} {n : Nat} {told : List Ent} (T : TreeI g n told) (h : er g n = []) (hn : n ≤ 10) : TreeOk g told where
  a := fun e he => (T.a e he).2
  b := fun k Q hQ => by
    by_cases z : k < n
    · exact T.b k z Q hQ
    · obtain ⟨c, hc⟩ := hQ.ne fun c hc => er_in hc
      have := er_le (n := n) (by omega) (hQ.sub hc)
      rw [h] at this
      cases this
  c := T.c
  d := T.d
  l := by have := T.l; omega
/-- a part that is shut, and that is not so one step nearer to the stuff -/
def IsCh (g : Grid) (n : Nat) (Q : List Cell) : Prop := IsComp g (er g n) Q ∧ (∀ c ∈ Q, isTop g c = false) ∧ (n = 0 ∨ ∃ c ∈ Q, ∃ t, isTop g t = true ∧ inG g t = true ∧ Rch (er g (n - 1)) [c] t)
structure ChOk (g : Grid) (chs : List (Nat × List Cell)) : Prop where
  nd : chs.Nodup
  mm : ∀ n Q, (n, Q) ∈ chs ↔ IsCh g n Q
  l : chs.length ≤ 1000
def mkF (g : Grid) (told : List Ent) (e : Ent) : Bool := (!e.2.1.any (isTop g)) && (match e.2.2 with
  | none => true
  | some k => (told.getD k.toNat (0, [], none)).2.1.any (isTop g))
def chsOf (g : Grid) (told : List Ent) : List (Nat × List Cell) := (told.filter (mkF g told)).map fun e => (e.1, e.2.1)
theorem TreeOk.ch {g : Grid} {told : List Ent} (T : TreeOk g told) : ChOk g (chsOf g told) where
  nd := by
    refine List.Nodup.sublist ?_ T.c
    exact (List.filter_sublist).map _
  l := by
    unfold chsOf
    rw [List.length_map]
    exact Nat.le_trans (List.length_filter_le _ _) T.l
  mm := fun n Q => by
    have key : ∀ e ∈ told, mkF g told e = true ↔ IsCh g e.1 e.2.1 := by
      intro e he
      have hc := T.a e he
      have h1 : (!e.2.1.any (isTop g)) = true ↔ ∀ c ∈ e.2.1, isTop g c = false := by
        rw [Bool.not_eq_true', List.any_eq_false]
        exact ⟨fun h c hc => by simpa using h c hc, fun h c hc => by simpa using h c hc⟩
      unfold mkF IsCh
      rw [Bool.and_eq_true, h1]
      constructor
      · rintro ⟨h2, h3⟩
        refine ⟨hc, h2, ?_⟩
        by_cases z : e.1 = 0
        · exact .inl z
        · obtain ⟨k, e', q1, q2, q3, c, q4, q5⟩ := (T.d e he).2 z
          rw [q1] at h3
          dsimp only at h3
          rw [Int.toNat_natCast, List.getD_eq_getElem?_getD, q2] at h3
          obtain ⟨t, t1, t2⟩ := List.any_eq_true.mp h3
          have hc' := T.a e' (List.mem_of_getElem? q2)
          have e1 : e'.1 = e.1 - 1 := by omega
          have := (hc'.mem q5).mp t1
          rw [e1] at this
          exact .inr ⟨c, q4, t, t2, this.1, this.2⟩
      · rintro ⟨_, h2, h3⟩
        refine ⟨h2, ?_⟩
        by_cases z : e.1 = 0
        · rw [(T.d e he).1 z]
        · obtain ⟨k, e', q1, q2, q3, c, q4, q5⟩ := (T.d e he).2 z
          rw [q1]
          dsimp only
          rw [Int.toNat_natCast, List.getD_eq_getElem?_getD, q2]
          have hc' := T.a e' (List.mem_of_getElem? q2)
          have e1 : e'.1 = e.1 - 1 := by omega
          rw [e1] at hc'
          rcases h3 with h3 | ⟨c', q6, t, t2, t3, t4⟩
          · exact absurd h3 z
          · refine List.any_eq_true.mpr ⟨t, (hc'.mem q5).mpr ⟨t3, ?_⟩, t2⟩
            have r := ((hc.mem q4).mp q6).2
            have r' : Rch (er g (e.1 - 1)) [c] c' := r.mono (fun x hx => er_le (Nat.sub_le _ _) hx) fun _ h => h
            exact t4.trans fun x hx => by rw [single hx]; exact r'
    unfold chsOf
    rw [List.mem_map]
    constructor
    · rintro ⟨e, he, h⟩
      obtain ⟨h1, h2⟩ := List.mem_filter.mp he
      have := (key e h1).mp h2
      rw [← (Prod.mk.inj h).1, ← (Prod.mk.inj h).2]
      exact this
    · intro h
      obtain ⟨e, he, rfl, rfl⟩ := T.b n Q h.1
      exact ⟨e, List.mem_filter.mpr ⟨he, (key e he).mpr h⟩, rfl⟩
theorem IsCh.lt {g : Grid} {n : Nat} {Q : List Cell} (h : IsCh g n Q) : n < ht g := by
  obtain ⟨c, hc⟩ := h.1.ne fun c hc => er_in hc
  exact er_lt (h.1.sub hc)
def mxN (l : List Nat) : Nat := l.foldr max 0
theorem mxN_le {l : List Nat} {x : Nat} (h : x ∈ l) : x ≤ mxN l := by
  induction l with
  | nil => cases h
  | cons a r ih =>
    show x ≤ max a (mxN r)
    rcases List.mem_cons.mp h with z | z
    · rw [z]; exact Nat.le_max_left _ _
    · exact Nat.le_trans (ih z) (Nat.le_max_right _ _)
theorem mxN_mem {l : List Nat} : mxN l = 0 ∨ mxN l ∈ l := by
  induction l with
  | nil => exact .inl rfl
  | cons a r ih =>
    show max a (mxN r) = 0 ∨ max a (mxN r) ∈ a :: r
    rcases Nat.le_total a (mxN r) with z | z
    · rw [Nat.max_eq_right z]
      exact ih.imp id fun h => List.mem_cons_of_mem _ h
    · rw [Nat.max_eq_left z]
      exact .inr List.mem_cons_self
def cntLe (l : List Nat) (r : Nat) : Nat := (l.filter fun n => decide (n ≤ r)).length
def rowOf (l : List Nat) : List Nat := (List.range (mxN l + 1)).map (cntLe l)
end DL
set_option maxHeartbeats 1000000
namespace DL
open PySem PySem.Spec PyProof.Rows L2
def GO (t : TO) (ρ : List Sl) (o : Option Int) : Prop := ∀ ps bs σ H, En ps bs σ H ρ → ∀ Q : Option Int → Hp → Prop, (∀ H', Same H H' → Q o H') → t σ H Q
section
variable {ρ : List Sl} {ps : List Addr} {bs : List (List Addr × Hp)} {D : Ends} {ta te tb tc : TE} {tl th : TO} {d da db dc : Dt} {K : PySem.W.Frag} {i j : Int} {t u : TS}
theorem go_none : GO tNoPart ρ none := fun ps bs σ H E Q q => q H (Same.refl H)
theorem go_some (h : GD te ρ (.int i)) : GO (tPart te) ρ (some i) := fun ps bs σ H E Q q => h ps bs σ H E _ fun v H1 s1 hv => ⟨i, is_int hv, q H1 s1⟩
def cutD (ds : List Dt) (lo hi : Option Int) : List Dt := (ds.drop (HT.sIx ds.length 0 lo)).take (HT.sIx ds.length ds.length hi - HT.sIx ds.length 0 lo)
theorem IsAll.drop {H : Hp} : ∀ {vs : List V} {ds : List Dt} (k : Nat), IsAll H vs ds → IsAll H (vs.drop k) (ds.drop k)
  | _, _, 0, h => h
  | _, _, _ + 1, .nil => .nil
  | _, _, k + 1, .cons _ t => IsAll.drop k t
theorem IsAll.take {H : Hp} : ∀ {vs : List V} {ds : List Dt} (k : Nat), IsAll H vs ds → IsAll H (vs.take k) (ds.take k)
  | _, _, 0, _ => by rw [List.take_zero, List.take_zero]; exact .nil
  | _, _, _ + 1, .nil => .nil
  | _, _, k + 1, .cons h t => .cons h (IsAll.take k t)
theorem isAll_cut {H : Hp} {vs : List V} {ds : List Dt} {lo hi : Option Int} (h : IsAll H vs ds) : IsAll H (cutV vs lo hi) (cutD ds lo hi) := by
  unfold cutV cutD
  rw [h.length]
  exact (h.drop _).take _
theorem gd_slT {ds : List Dt} {lo hi : Option Int} (ha : GD ta ρ (.seq false ds)) (h1 : GO tl ρ lo) (h2 : GO th ρ hi) (hc : ¬ (HT.sIx ds.length 0 lo = 0 ∧ HT.sIx ds.length ds.length hi = ds.length)) : GD (tSl (rSlT K) ta tl th) ρ (.seq false (cutD ds lo hi)) := fun ps bs σ H E Q q =>
  ha ps bs σ H E _ fun x H1 s1 hx => h1 ps bs σ H1 (E.mono s1) _ fun H2 s2 => h2 ps bs σ H2 (E.mono (s1.trans s2)) _ fun H3 s3 => by
    obtain ⟨a, xs, rfl, e1, e2⟩ := is_tup hx
    have s23 := s2.trans s3
    refine ⟨a, xs, rfl, SqT.of (s23 _ _ (out_some e1).1), by rw [e2.length]; exact hc, fun p hp => ?_⟩
    have sn := same_new (o := .tup (cutV xs lo hi)) hp
    exact q _ _ ((s1.trans s23).trans sn) (.tup (out_of upd_same ((E.mono (s1.trans s23)).fresh hp)) (isAll_cut (e2.mono (out_mono (s23.trans sn)))))
theorem gn_slL {ds : List Dt} {lo hi : Option Int} (ha : GD ta ρ (.seq true ds)) (h1 : GO tl ρ lo) (h2 : GO th ρ hi) : GN (tSl (rSlL K) ta tl th) ρ (.seq true (cutD ds lo hi)) := fun ps bs σ H E Q q =>
  ha ps bs σ H E _ fun x H1 s1 hx => h1 ps bs σ H1 (E.mono s1) _ fun H2 s2 => h2 ps bs σ H2 (E.mono (s1.trans s2)) _ fun H3 s3 => by
    obtain ⟨a, xs, rfl, e1, e2⟩ := is_lst hx
    have s23 := s2.trans s3
    refine ⟨a, xs, rfl, SqL.of (s23 _ _ (out_some e1).1), fun p hp => ?_⟩
    have sn := same_new (o := .lst (cutV xs lo hi)) hp
    exact q p _ (Same.free (s1.trans s23) hp) ((s1.trans s23).trans sn) ⟨_, upd_same, isAll_cut ((e2.mono (out_mono s23)).mono (same_wide sn hp))⟩
theorem ok_aug {k : Nat} {f : Int → Int → Int} (hi : ρ[k]? = some (.im (.int i))) (h : GD te ρ (.int j)) (q : ∀ σ H, En ps bs σ H (ρ.set k (.im (.int (f i j)))) → D.nx σ H) : Ok ps bs (tAug k te (ipI f)) ρ D := fun σ H E => by
  obtain ⟨v, h1, h2⟩ := E.im hi
  exact ⟨v, h1, h ps bs σ H E _ fun y H1 s1 hy => ⟨i, j, is_int h2, is_int hy, q _ _ ((E.mono s1).setIm (.int _))⟩⟩
theorem ok_par3 {a b c : Nat} (ha : GD ta ρ da) (hb : GD tb ρ db) (hc : GD tc ρ dc) (q : ∀ σ H, En ps bs σ H (((ρ.set a (.im da)).set b (.im db)).set c (.im dc)) → D.nx σ H) : Ok ps bs (tPar3 a b c (tCons ta (tCons tb (tCons tc tNil)))) ρ D := fun σ H E =>
  ha ps bs σ H E _ fun x H1 s1 h1 => hb ps bs σ H1 (E.mono s1) _ fun y H2 s2 h2 => hc ps bs σ H2 (E.mono (s1.trans s2)) _ fun z H3 s3 h3 => ⟨x, y, z, rfl, q _ _ ((((E.mono ((s1.trans s2).trans s3)).setIm (h1.mono (out_mono (s2.trans s3)))).setIm (h2.mono (out_mono s3))).setIm h3)⟩
/-- a comprehension over what is known by a word alone -/
def GWE (wi : TI) (ρ : List Sl) (Φ : List Dt → Prop) : Prop := ∀ ps bs σ H, En ps bs σ H ρ → ∀ R : It → Hp → Prop, (∀ J H' its, Φ its → Same H H' → WD J its H' ps → R J H') → wi σ H R
theorem gwe_seq {φ : Dt → Prop} {Φ : List Dt → Prop} (h : GE te ρ φ) (hd : ∀ d, φ d → ∃ l its, d = .seq l its ∧ Φ its ∧ l = true) : GWE (iSeq K te) ρ Φ := fun ps bs σ H E R r =>
  .inl (h ps bs σ H E _ fun v H1 d s1 h1 p => by
    obtain ⟨l, its, rfl, hΦ, rfl⟩ := hd d p
    obtain ⟨a, xs, rfl, h2, h3⟩ := is_lst h1
    exact ⟨a, rfl, ⟨xs, SqL.of (out_some h2).1⟩, r _ H1 its hΦ s1 (wd_list (out_some h2).1 (out_some h2).2 h3)⟩)
theorem gne_lc {α : Type} {wi : TI} {g : TG} {tt : TT} {te : TE} {vs : List Nat} {Φ : List Dt → Prop} {φ : Dt → Prop} (hw : GWE wi ρ Φ)
    (h : ∀ its, Φ its → ∃ (xs : List α) (f : α → Dt) (ρ' : α → List Sl) (b : α → Bool) (e : α → Dt), its = xs.map f ∧ xs.length ≤ sizeLine ∧ (∀ x ∈ xs, GG g vs (f x) (wipeR ρ vs) (ρ' x)) ∧ (∀ x ∈ xs, GT tt (ρ' x) (b x)) ∧ (∀ x ∈ xs, b x = true → GD te (ρ' x) (e x)) ∧ φ (.seq true ((xs.filter b).map e))) :
    GNE (tLc wi g tt te vs) ρ φ := fun ps bs σ H E Q q => hw ps bs σ H E _ fun J H1 its hΦ s1 w => by
  obtain ⟨xs, f, ρ', b, e, rfl, h1, h2, h3, h4, h5⟩ := h its hΦ
  exact gn_lc_at (wi := fun _ _ R => R J H1) E (fun R r => r J H1 s1 w) h1 h2 h3 h4 Q fun p H' hp s o => q p H' _ hp s o h5
end
end DL
set_option maxHeartbeats 1000000
namespace DL
open PySem PySem.Spec PyProof.Rows L2
def dOpt : Option Int → Dt
  | none => .non
  | some k => .int k
def dEnt (e : Ent) : Dt := .seq false [.int (e.1 : Nat), dCells false e.2.1, dOpt e.2.2]
def dCh (p : Nat × List Cell) : Dt := .seq false [.int (p.1 : Nat), dCells false p.2]
section
variable {P : Program} {w : World} {K : PySem.W.Frag} {mg : Str → Option Value} {base : Heap}
theorem ca_above_of (T : Top K mg) : Ca P w K mg base 1 "above_of" (spI (ι := List Ent × Int × Cell) (fun i => [.seq true (i.1.map dEnt), .int i.2.1, dCell i.2.2]) (fun i => i.1.length ≤ 1000) (fun i d => d = dOpt (aboveI i.1 i.2.1 i.2.2).head?)) := by
  have sc := sc_above_of
  refine ca_of T.f_above_of (fun _ _ _ _ _ _ us hl => match us, hl with | [_, _, _], _ => rfl) sc (fun _ => rfl) fun f cdv A outer s H E hr => ⟨_, (pss_cons (ps_setLc (i := 3) (own := [("number", 4), ("high", 5), ("part", 6), ("_", 7)]) rfl sc.nd rfl rfl (sw_true rfl rfl rfl (by decide +kernel)) (pi_enumQ (K := K) rfl (by rfl) T.b_enumerate (pa_cons (pv 0) pa_nil)) (blkOk_by (own := [("number", 4), ("high", 5), ("part", 6), ("_", 7)]) (N := N_above_of) (sc := (defScope s_above_of)) (by decide +kernel)) (fun _ _ _ _ _ => (pg_tupK (K := K) (n := 2) rfl rfl (pgs_cons (pg_name (i := 4) sc.nd rfl (Or.inl rfl)) (pgs_cons (pg_tupK (K := K) (n := 3) rfl rfl (pgs_cons (pg_name (i := 5) sc.nd rfl (Or.inl rfl)) (pgs_cons (pg_name (i := 6) sc.nd rfl (Or.inl rfl)) (pgs_cons (pg_name (i := 7) sc.nd rfl (Or.inl rfl)) pgs_nil)))) pgs_nil)))) (fun _ _ _ _ _ => pts_one (PW.pt (pw_and (pt_cmpR op_eq (pv 5) (pv 1) (nomark _)) (pw_and1 (pt_cmpR (op_inQ (K := K) rfl (hu65 hr)) (pv 2) (pv 6) (by rfl)))))) (fun _ _ _ _ _ => (pv 4)))
    (pss_one (ps_ret (pe_ifExp (pt_cmpR (op_neDK (K := K) rfl hr.units) (pv 3) (pe_lst pa_nil) (nomark _)) (pe_ix (ix_seqK (K := K) rfl) (pv 3) pe_int (fun _ _ => rfl)) pe_non)))), ?_⟩
  rintro qs ⟨told, lvl, c⟩ D hp hR
  replace hp : told.length ≤ 1000 := hp
  refine ok_setD (d := .seq true ((aboveI told lvl c).map .int)) (GD.cast (GN.gd (gn_lc (xs := told.zipIdx) (f := fun p => .seq false [.int (p.2 : Nat), dEnt p.1]) (b := fun p => decide ((p.1.1 : Int) = lvl) && decide (c ∈ p.1.2.1)) (e := fun p => .int (p.2 : Nat))
    (gw_enum (f := dEnt) (gd_var rfl)) (sl12 (by rw [List.length_zipIdx]; exact hp)) (fun x _ => gg_tup (ggs_cons (gg_name (by decide)) (ggs_cons (gg_tup (ggs_cons (gg_name (by decide)) (ggs_cons (gg_name (by decide)) (ggs_cons (gg_name (by decide)) ggs_nil))) rfl) ggs_nil)) rfl)
    (fun x _ => gt_and (gt_test (gd_eqI (gd_var rfl) (gd_var rfl))) fun _ => gt_test (gd_inC (gd_var rfl) (gd_var rfl))) (fun x _ _ => gd_var rfl))) (by unfold aboveI; rw [List.map_map]; rfl)) ?_
  refine ok_rt ?_ hR
  show GE _ _ fun d => d = dOpt (aboveI told lvl c).head?
  generalize aboveI told lvl c = ns
  cases ns with
  | nil => exact ge_ifE (b := false) (gt_test ((gd_neNil (GD.gl (gd_var rfl)) (plain_ints true [])).cast rfl)) (fun z => by cases z) fun _ => gd_non.ge rfl
  | cons n r => exact ge_ifE (b := true) (gt_test ((gd_neNil (GD.gl (gd_var rfl)) (plain_ints true (n :: r))).cast rfl)) (fun _ => (gd_ix (d := .int n) (gd_var rfl) gd_int (atI_nat (j := 0) rfl)).ge rfl) fun z => by cases z
theorem ca_tree (T : Top K mg) : Ca P w K mg base 8 "tree" (spGrid fun i d => ∃ told, d = .seq false (told.map dEnt) ∧ TreeOk i.2 told) := by
  have sc := sc_tree
  refine ca_of T.f_tree (fun _ _ _ _ _ _ us hl => match us, hl with | [_], _ => rfl) sc (fun _ => rfl) fun f cdv A outer s H E hr => ⟨_, (pss_cons (ps_asg (pe_tup (pa_cons (pe_ca (ca_tup2 T) hr (by decide) (by rfl) (pa_cons (pv 0) pa_nil)) (pa_cons (pe_lst pa_nil) (pa_cons pe_int pa_nil)))) (pg_tupK (K := K) (n := 3) rfl rfl (pgs_cons (pg_name (i := 1) sc.nd rfl (Or.inl rfl)) (pgs_cons (pg_name (i := 2) sc.nd rfl (Or.inr rfl)) (pgs_cons (pg_name (i := 3) sc.nd rfl (Or.inr rfl)) pgs_nil)))))
    (pss_cons (ps_set (i := 4) sc.nd rfl (Or.inr rfl) (pe_ca (ca_steps_of T) hr (by decide) (by rfl) (pa_cons (pv 1) pa_nil)))
    (pss_cons (ps_set (i := 5) sc.nd rfl (Or.inl rfl) (pe_callTy (call_listDQ rfl) (by rfl) T.b_list (by decide +kernel) (pa_cons (pv 4) pa_nil)))
    (pss_cons (ps_while PassesOwn.never (pt_cmpR (op_neDK (K := K) rfl hr.units) (pv 5) (pe_lst pa_nil) (nomark _))
      (pss_cons (ps_set (i := 6) sc.nd rfl (Or.inl rfl) (pe_ca (ca_parts_of T) hr (by decide) (by rfl) (pa_cons (pv 1) (pa_cons (pv 5) pa_nil))))
      (pss_cons (ps_set (i := 2) sc.nd rfl (Or.inr rfl) (pe_op op_cat (pv 2) (pe_lc (own := [("part", 7)]) rfl sc.nd (pi_seqK (K := K) rfl (pv 6)) (blkOk_by (own := [("part", 7)]) (N := N_tree) (sc := (defScope s_tree)) (by decide +kernel)) (fun _ _ _ _ _ => (pg_name (i := 7) sc.nd rfl (Or.inl rfl))) (fun _ _ _ _ _ => pts_nil) (fun _ _ _ _ _ => (pe_tup (pa_cons (pv 3) (pa_cons (pv 7) (pa_cons (pe_ca (ca_above_of T) hr (by decide) (by rfl) (pa_cons (pv 2) (pa_cons (pe_op op_sub (pv 3) pe_int) (pa_cons (pe_ix (ix_seqK (K := K) rfl) (pv 7) pe_int (fun _ _ => rfl)) pa_nil)))) pa_nil))))))))
      (pss_cons (ps_aug (i := 3) sc.nd rfl (Or.inr rfl) pe_int ip_add)
      (pss_one (ps_setLc (i := 5) (own := [("cell", 8)]) rfl sc.nd rfl rfl (sw_true rfl rfl rfl (by decide +kernel)) (pi_seqK (K := K) rfl (pv 5)) (blkOk_by (own := [("cell", 8)]) (N := N_tree) (sc := (defScope s_tree)) (by decide +kernel)) (fun _ _ _ _ _ => (pg_name (i := 8) sc.nd rfl (Or.inl rfl))) (fun _ _ _ _ _ => pts_one (pt_cmpR op_gt (pe_dget (hu_of hr) (pv 4) (pv 8) (fun _ _ => rfl)) (pv 3) (nomark _))) (fun _ _ _ _ _ => (pv 8))))))))
    (pss_one (ps_ret (pe_callTy (call_tupK (K := K) rfl) (by rfl) T.b_tuple (by decide +kernel) (pa_cons (pv 2) pa_nil)))))))), ?_⟩
  rintro qs ⟨l, g⟩ D hp hR
  replace hp : Shp g := hp
  refine ok_asg (vs := [1, 2, 3]) (d := .seq false [dHeap false g, .seq true [], .int 0]) (gd_tup (ga_cons (gd_call (i := (l, g)) (ga_cons (gd_var rfl) ga_nil) hp) (ga_cons (GN.gd (gn_lst ga_nil fw)) (ga_cons gd_int ga_nil))) fw) (gg_tup (ggs_cons (gg_name (by decide)) (ggs_cons (gg_name (by decide)) (ggs_cons (gg_name (by decide)) ggs_nil))) rfl) ?_
  refine ok_set (ge_call (i := (false, g)) (ga_cons (gd_var rfl) ga_nil) hp) ?_
  rintro _ ⟨fs, rfl, S⟩
  replace S : IsSteps g fs := S
  have hht := hp.hgt
  have hal : (airC g).length < 64 := Nat.lt_of_le_of_lt (List.length_filter_le _ _) (shp_len hp)
  refine ok_setD (d := dCells true (fs.map (·.1))) (GD.cast (GN.gd (gn_listD (GD.gm (gd_var rfl)))) (by rw [dicI_keys]; rfl)) ?_
  refine ok_seq (ok_while (fun n ρ' => ∃ (told : List Ent) (v : Nat) (cs : List Cell) (o6 o7 o8 : Sl), ρ' = [.im (dHeap l g), .im (dHeap false g), .im (.seq true (told.map dEnt)), .im (.int v), .im (dicI fs), .im (dCells true cs), o6, o7, o8] ∧ TreeI g v told ∧ (cs.Nodup ∧ (∀ c, c ∈ cs ↔ c ∈ er g v)) ∧ v ≤ ht g ∧ n = ht g - v)
    (ht g) ⟨[], 0, fs.map (·.1), _, _, _, rfl, .start g, ⟨S.nd, fun c => (S.ky c).trans ⟨fun h => (mem_er (n := 0)).mpr ⟨h, fun z => z.elim⟩, fun h => (mem_er.mp h).1⟩⟩, Nat.zero_le _, rfl⟩ ?_)
  rintro n _ ⟨told, v, cs, o6, o7, o8, rfl, I, ⟨hcn, hcs⟩, hv, rfl⟩
  have htl := I.l
  refine ⟨_, gt_test (gd_neNil (ds := cs.map dCell) (GD.gl (gd_var rfl)) (plain_cells true cs)), fun hb => ?_, fun hb => ?_⟩
  · have hlt : v < ht g := by
      cases cs with
      | nil => simp at hb
      | cons a r => exact er_lt ((hcs a).mp List.mem_cons_self)
    have hcl : cs.length < 64 := Nat.lt_of_le_of_lt (nodup_len hcn fun c hc => mem_allC.mpr (er_in ((hcs c).mp hc))) (shp_len hp)
    refine ok_set (ge_call (i := (false, g, cs)) (ga_cons (gd_var rfl) (ga_cons (gd_var rfl) ga_nil)) ⟨hp, hcn, fun c hc => er_in ((hcs c).mp hc)⟩) ?_
    rintro _ ⟨parts, rfl, hpn, hpl, hpm⟩
    have hpe : ∀ Q, Q ∈ parts ↔ IsComp g (er g v) Q := fun Q => (hpm Q).trans (isComp_congr hcs)
    have hpc : ∀ Q ∈ parts, ∃ c, c ∈ Q := fun Q hQ => ((hpe Q).mp hQ).ne fun c hc => er_in hc
    have ht0 : ∀ Q ∈ parts, atI (Q.map dCell) 0 = some (dCell (hd Q)) := fun Q hQ => by
      obtain ⟨c, hc⟩ := hpc Q hQ
      cases Q with
      | nil => cases hc
      | cons a r => exact atI_nat (j := 0) rfl
    refine ok_setD (d := .seq true ((told ++ parts.map fun Q => (v, Q, (aboveI told ((v : Int) - 1) (hd Q)).head?)).map dEnt)) (GD.cast (GN.gd (gn_cat (gd_var rfl) (GN.gd (gn_lcY (xs := parts) (f := dCells false) (e := fun Q => dEnt (v, Q, (aboveI told ((v : Int) - 1) (hd Q)).head?)) (gw_seq (gd_var rfl)) (sl12 (by omega)) (fun x _ => gg_name (by decide))
      (fun Q hQ => gd_tup (ga_cons (gd_var rfl) (ga_cons (gd_var rfl) (ga_cons (gd_call (i := (told, (v : Int) - 1, hd Q)) (ga_cons (gd_var rfl) (ga_cons (gd_sub (gd_var rfl) gd_int) (ga_cons (gd_ix (l := false) (ds := Q.map dCell) (gd_var rfl) gd_int (ht0 Q hQ)) ga_nil))) (by show told.length ≤ 1000; omega)) ga_nil))) fw))) (by rw [List.length_map, List.length_map]; exact sz (by omega)))) (by rw [List.map_append, List.map_map]; rfl)) ?_
    refine ok_seq (ok_aug rfl gd_int ?_)
    refine ok_set1D (d := dCells true (cs.filter fun c => decide (((v + 1 : Nat) : Int) < stF fs c))) (GN.gd (gn_lc (xs := cs) (f := dCell) (b := fun c => decide (((v + 1 : Nat) : Int) < stF fs c)) (e := dCell) (gw_seq (gd_var rfl)) (sl12 (by omega)) (fun x _ => gg_name (by decide))
      (fun x hx => gt_test (gd_gt (gd_dget (GD.gm (gd_var rfl)) (gd_var rfl) (stF_look ((S.ky x).mpr (mem_er.mp ((hcs x).mp hx)).1)) (fun _ => .int _)) (gd_var rfl))) (fun x _ _ => gd_var rfl))) fun σ H E => ⟨_, _, ?_, ⟨_, v + 1, _, _, _, _, rfl, I.step hpn hpl hpe, ⟨hcn.filter _, fun c => ?_⟩, hlt, rfl⟩, E⟩
    · omega
    · rw [List.mem_filter, decide_eq_true_eq, hcs, mem_er, mem_er]
      constructor
      · rintro ⟨⟨h1, h2⟩, h3⟩
        obtain ⟨k, k1, _, _, k4⟩ := S.at h1
        refine ⟨h1, fun z => ?_⟩
        have := (k4 _).mp z
        omega
      · rintro ⟨h1, h2⟩
        obtain ⟨k, k1, _, _, k4⟩ := S.at h1
        refine ⟨⟨h1, fun z => h2 z.succ⟩, ?_⟩
        have : ¬ k ≤ v + 1 := fun z => h2 ((k4 _).mpr z)
        omega
  · have : cs = [] := by
      cases cs with
      | nil => rfl
      | cons a b => simp at hb
    subst this
    refine ok_rtD (gd_tuple (l := true) (gd_var rfl)) hR ⟨told, rfl, I.ok ?_ (by omega)⟩
    cases he : er g v with
    | nil => rfl
    | cons a r => exact absurd ((hcs a).mpr (by rw [he]; exact List.mem_cons_self)) (by simp)
abbrev spMarks : Sp := spI (ι := Bool × Grid × List Ent) (fun i => [dHeap i.1 i.2.1, .seq false (i.2.2.map dEnt)]) (fun i => Shp i.2.1 ∧ i.2.2.length ≤ 1000 ∧ ∀ e ∈ i.2.2, e.2.1.length ≤ 1000 ∧ ∀ k, e.2.2 = some k → ∃ j : Nat, k = j ∧ j < i.2.2.length)
  (fun i d => d = .seq true ((i.2.2.zipIdx.filter fun p => mkF i.2.1 i.2.2 p.1).map fun p => .int (p.2 : Nat)))
theorem ca_marks_of (T : Top K mg) : Ca P w K mg base 2 "marks_of" spMarks := by
  have sc := sc_marks_of
  refine ca_of T.f_marks_of (fun _ _ _ _ _ _ us hl => match us, hl with | [_, _], _ => rfl) sc (fun _ => rfl) fun f cdv A outer s H E hr => ⟨_, (pss_cons (ps_set (i := 2) sc.nd rfl (Or.inl rfl) (pe_lst pa_nil))
    (pss_cons (ps_for PassesOwn.never rfl (pi_enumQ (K := K) rfl (by rfl) T.b_enumerate (pa_cons (pv 1) pa_nil)) (pg_tupK (K := K) (n := 2) rfl rfl (pgs_cons (pg_name (i := 3) sc.nd rfl (Or.inl rfl)) (pgs_cons (pg_tupK (K := K) (n := 3) rfl rfl (pgs_cons (pg_name (i := 4) sc.nd rfl (Or.inl rfl)) (pgs_cons (pg_name (i := 5) sc.nd rfl (Or.inl rfl)) (pgs_cons (pg_name (i := 6) sc.nd rfl (Or.inl rfl)) pgs_nil)))) pgs_nil)))
      (pss_one (ps_if (PW.pt (pw_and (pt_not (pt_val (pe_ca (ca_tops_out T) hr (by decide) (by rfl) (pa_cons (pv 0) (pa_cons (pv 5) pa_nil))))) (pw_and1 (PW.pt (pw_or (pt_cmpR op_isNQ (pv 6) pe_non (nomark _)) (pw_or1 (pt_val (pe_ca (ca_tops_out T) hr (by decide) (by rfl) (pa_cons (pv 0) (pa_cons (pe_ix (ix_seqK (K := K) rfl) (pe_ix (ix_seqK (K := K) rfl) (pv 1) (pv 6) (fun _ _ => rfl)) pe_int (fun _ _ => rfl)) pa_nil))))))))))
        (pss_one (ps_expr (pe_bm PySem.F.plainAttrs_list PySem.F.slot_list_append PySem.F.type_list_append mt_append (pv 2) (pa_cons (pv 3) pa_nil))))
        pss_nil)))
    (pss_one (ps_ret (pv 2))))), ?_⟩
  rintro qs ⟨l, g, told⟩ D ⟨hp, hl, he⟩ hR
  dsimp only at hp hl he
  refine ok_setN (d := .seq true []) (gn_lst ga_nil fw) fun r hr => ?_
  refine ok_seq (ok_for [3, 4, 5, 6] (fun i ρ' => ∃ (o3 o4 o5 o6 : Sl), ρ' = [.im (dHeap l g), .im (.seq false (told.map dEnt)), .ow r (.seq true (((told.zipIdx.take i).filter fun p => mkF g told p.1).map fun p => .int (p.2 : Nat))), o3, o4, o5, o6])
    (gw_enum (f := dEnt) (xs := told) (gd_var rfl)) ⟨_, _, _, _, rfl⟩ ?_ ?_)
  · rintro H1 i _ d hd ⟨o3, o4, o5, o6, rfl⟩
    obtain ⟨⟨⟨n, Q, a⟩, j⟩, hx, rfl⟩ := get_map hd
    have hm := List.mem_zipIdx_iff_getElem?.mp (List.mem_of_getElem? hx)
    have hQ := he _ (List.mem_of_getElem? hm)
    refine ⟨_, gg_tup (ggs_cons (gg_name (by decide)) (ggs_cons (gg_tup (ggs_cons (gg_name (by decide)) (ggs_cons (gg_name (by decide)) (ggs_cons (gg_name (by decide)) ggs_nil))) rfl) ggs_nil)) rfl, ?_⟩
    have hlen : (List.filter (fun p : Ent × Nat => mkF g told p.1) (told.zipIdx.take i)).length ≤ 1000 := Nat.le_trans (List.length_filter_le _ _) (Nat.le_trans (List.length_take_le' _ _) (by rw [List.length_zipIdx]; exact hl))
    refine ok_if (b := mkF g told (n, Q, a)) ?_ (fun hb => ?_) (fun hb => ?_)
    · refine gt_and (gt_not (gt_B (gd_call (i := (l, g, Q)) (ga_cons (gd_var rfl) (ga_cons (gd_var rfl) ga_nil)) ⟨hp, hQ.1⟩))) fun _ => ?_
      cases a with
      | none => exact GT.cast (gt_or (b := true) (c := true) (gt_test (GD.cast (gd_isN (da := .non) (gd_var rfl)) rfl)) fun z => by cases z) rfl
      | some k =>
        obtain ⟨j', rfl, hj⟩ := hQ.2 k rfl
        have h3 : told.getD j' (0, [], none) = told[j'] := by
          rw [List.getD_eq_getElem?_getD, List.getElem?_eq_getElem hj]
          rfl
        refine GT.cast (gt_or (b := false) (gt_test (GD.cast (gd_isN (da := .int (j' : Nat)) (gd_var rfl)) rfl)) fun _ => gt_B (gd_call (i := (l, g, told[j'].2.1)) (ga_cons (gd_var rfl) (ga_cons (gd_ix (l := false) (gd_ix (l := false) (ds := told.map dEnt) (d := dEnt told[j']) (gd_var rfl) (gd_var rfl) (atI_nat (by rw [List.getElem?_map, List.getElem?_eq_getElem hj]; rfl))) gd_int (atI_nat (j := 1) rfl)) ga_nil)) (show Shp g ∧ told[j'].2.1.length ≤ 1000 from ⟨hp, (he _ (List.getElem_mem hj)).1⟩))) ?_
        dsimp only
        rw [Bool.false_or, Int.toNat_natCast, h3]
    · refine ok_append rfl (gd_var rfl) (by rw [List.length_map]; exact szlt (by omega)) (ok_nx ⟨.im (.int (j : Nat)), .im (.int (n : Nat)), .im (dCells false Q), .im (dOpt a), ?_⟩ rfl)
      rw [take_get hx, List.filter_append, List.map_append, List.filter_cons]
      simp only [hb, if_true, List.filter_nil, List.map_cons, List.map_nil]
      rfl
    · refine ok_next (ok_nx ⟨.im (.int (j : Nat)), .im (.int (n : Nat)), .im (dCells false Q), .im (dOpt a), ?_⟩ rfl)
      rw [take_get hx, List.filter_append, List.map_append, List.filter_cons]
      simp only [hb, List.filter_nil, List.map_nil, List.append_nil, Bool.false_eq_true, if_false]
      rfl
  · rintro _ ⟨o3, o4, o5, o6, rfl⟩
    refine ok_rtOwn rfl hr (fun a h => h) hR ?_
    unfold enumD
    rw [List.length_map, List.take_length]
theorem ca_chambers (T : Top K mg) : Ca P w K mg base 9 "chambers" (spGrid fun i d => ∃ chs, d = .seq true (chs.map dCh) ∧ ChOk i.2 chs) := by
  have sc := sc_chambers
  refine ca_of T.f_chambers (fun _ _ _ _ _ _ us hl => match us, hl with | [_], _ => rfl) sc (fun _ => rfl) fun f cdv A outer s H E hr => ⟨_, (pss_cons (ps_set (i := 1) sc.nd rfl (Or.inr rfl) (pe_ca (ca_tree T) hr (by decide) (by rfl) (pa_cons (pv 0) pa_nil)))
    (pss_one (ps_ret (pe_lc (own := [("number", 2)]) rfl sc.nd (pi_seqK (K := K) rfl (pe_ca (ca_marks_of T) hr (by decide) (by rfl) (pa_cons (pv 0) (pa_cons (pv 1) pa_nil)))) (blkOk_by (own := [("number", 2)]) (N := N_chambers) (sc := (defScope s_chambers)) (by decide +kernel)) (fun _ _ _ _ _ => (pg_name (i := 2) sc.nd rfl (Or.inl rfl))) (fun _ _ _ _ _ => pts_nil) (fun _ _ _ _ _ => (pe_slice (sl_tupK (K := K) rfl) (pe_ix (ix_seqK (K := K) rfl) (pv 1) (pv 2) (fun _ _ => rfl)) po_none (po_some pe_int))))))), ?_⟩
  rintro qs ⟨l, g⟩ D hp hR
  replace hp : Shp g := hp
  refine ok_set (ge_call (i := (l, g)) (ga_cons (gd_var rfl) ga_nil) hp) ?_
  rintro _ ⟨told, rfl, O⟩
  have hpre : ∀ e ∈ told, e.2.1.length ≤ 1000 ∧ ∀ k, e.2.2 = some k → ∃ j : Nat, k = j ∧ j < told.length := fun e he => by
    constructor
    · obtain ⟨s, _, h⟩ := O.a e he
      rw [h]
      exact Nat.le_trans (Nat.le_of_lt (setC_len hp)) (by decide)
    · intro k hk
      by_cases z : e.1 = 0
      · rw [(O.d e he).1 z] at hk; cases hk
      · obtain ⟨j, e', h1, h2, _⟩ := (O.d e he).2 z
        rw [h1] at hk
        exact ⟨j, (Option.some.inj hk).symm, (List.getElem?_eq_some_iff.mp h2).1⟩
  refine ok_rtD (d := .seq true ((chsOf g told).map dCh)) (GD.cast (GN.gd (gn_lcY (xs := told.zipIdx.filter fun p => mkF g told p.1) (f := fun p => .int (p.2 : Nat)) (e := fun p => dCh (p.1.1, p.1.2.1)) (gw_seq (l := true) (gd_call (i := (l, g, told)) (ga_cons (gd_var rfl) (ga_cons (gd_var rfl) ga_nil)) ⟨hp, O.l, hpre⟩))
    (sl12 (Nat.le_trans (List.length_filter_le _ _) (by rw [List.length_zipIdx]; exact O.l))) (fun x _ => gg_name (by decide)) (fun x hx => ?_))) ?_) hR ⟨_, rfl, O.ch⟩
  · have hm := List.mem_zipIdx_iff_getElem?.mp (List.mem_filter.mp hx).1
    refine GD.cast (gd_slT (ds := [.int (x.1.1 : Nat), dCells false x.1.2.1, dOpt x.1.2.2]) (gd_ix (l := false) (ds := told.map dEnt) (gd_var rfl) (gd_var rfl) (atI_nat (by rw [List.getElem?_map, hm]; rfl))) go_none (go_some gd_int) (fun z => ?_)) rfl
    have z2 : (2 : Nat) = 3 := z.2
    cases z2
  · congr 1
    unfold chsOf
    rw [List.map_map]
    have key : ∀ p : Ent → Bool, told.filter p = (told.zipIdx.filter fun q => p q.1).map (·.1) := fun p => by
      conv => lhs; rw [← List.zipIdx_map_fst 0 told]
      rw [List.filter_map]
      rfl
    rw [key, List.map_map]
    rfl
theorem ca_hollow_row (T : Top K mg) : Ca P w K mg base 10 "hollow_row" (spGrid fun i d => ∃ chs, d = .seq false ((rowOf (chs.map (·.1))).map fun n => .int (n : Nat)) ∧ ChOk i.2 chs) := by
  have sc := sc_hollow_row
  refine ca_of T.f_hollow_row (fun _ _ _ _ _ _ us hl => match us, hl with | [_], _ => rfl) sc (fun _ => rfl) fun f cdv A outer s H E hr => ⟨_, (pss_cons (ps_set (i := 1) sc.nd rfl (Or.inr rfl) (pe_lc (own := [("number", 2), ("_", 3)]) rfl sc.nd (pi_seqK (K := K) rfl (pe_ca (ca_chambers T) hr (by decide) (by rfl) (pa_cons (pv 0) pa_nil))) (blkOk_by (own := [("number", 2), ("_", 3)]) (N := N_hollow_row) (sc := (defScope s_hollow_row)) (by decide +kernel)) (fun _ _ _ _ _ => (pg_tupK (K := K) (n := 2) rfl rfl (pgs_cons (pg_name (i := 2) sc.nd rfl (Or.inl rfl)) (pgs_cons (pg_name (i := 3) sc.nd rfl (Or.inl rfl)) pgs_nil)))) (fun _ _ _ _ _ => pts_nil) (fun _ _ _ _ _ => (pv 2))))
    (pss_one (ps_ret (pe_callTy (call_tupK (K := K) rfl) (by rfl) T.b_tuple (by decide +kernel) (pa_cons (pe_lc (own := [("rounds", 4)]) rfl sc.nd (pi_range1 (by rfl) T.b_range (pa_cons (pe_op op_add (pe_callB (cr_maxK (K := K) rfl rfl) (by rfl) T.b_max (by decide +kernel) (pa_cons (pe_op op_cat (pv 1) (pe_lst (pa_cons pe_int pa_nil))) pa_nil)) pe_int) pa_nil)) (blkOk_by (own := [("rounds", 4)]) (N := N_hollow_row) (sc := (defScope s_hollow_row)) (by decide +kernel)) (fun _ _ _ _ _ => (pg_name (i := 4) sc.nd rfl (Or.inr rfl))) (fun _ _ _ _ _ => pts_nil) (fun _ _ _ _ _ => (pe_callB (call_lenK (K := K) rfl) (by rfl) T.b_len (by decide +kernel) (pa_cons (pe_lc (own := [("own", 5)]) rfl sc.nd (pi_seqK (K := K) rfl (pv 1)) (blkOk_by (own := [("own", 5)]) (N := N_hollow_row) (sc := { kind := .function, names := [(".0", .local), ("rounds", .cell), ("len", .globalImplicit), ("shut", .cell)], isGenerator := false, isCoroutine := false }) (by decide +kernel)) (fun _ _ _ _ _ => (pg_name (i := 5) sc.nd rfl (Or.inl rfl))) (fun _ _ _ _ _ => pts_one (pt_cmpR op_le (pv 5) (pv 4) (nomark _))) (fun _ _ _ _ _ => (pv 5))) pa_nil)))) pa_nil))))), ?_⟩
  rintro qs ⟨l, g⟩ D hp hR
  replace hp : Shp g := hp
  refine ok_set (φ := fun d => ∃ chs, d = .seq true ((chs.map (·.1)).map fun n => .int (n : Nat)) ∧ ChOk g chs) (GNE.ge (gne_lc (α := Nat × List Cell) (Φ := fun its => ∃ chs, its = chs.map dCh ∧ ChOk g chs) (gwe_seq (ge_call (i := (l, g)) (ga_cons (gd_var rfl) ga_nil) hp) ?_) ?_)) ?_
  · rintro _ ⟨chs, rfl, O⟩
    exact ⟨true, _, rfl, ⟨chs, rfl, O⟩, rfl⟩
  · rintro _ ⟨chs, rfl, O⟩
    refine ⟨chs, dCh, _, fun _ => true, fun p => .int (p.1 : Nat), rfl, sl12 O.l, fun x _ => gg_tup (ggs_cons (gg_name (by decide)) (ggs_cons (gg_name (by decide)) ggs_nil)) rfl, fun x _ => gt_yes, fun x _ _ => gd_var rfl, chs, ?_, O⟩
    rw [List.filter_eq_self.mpr (fun _ _ => rfl), List.map_map]
    rfl
  · rintro _ ⟨chs, rfl, O⟩
    have hlv : ∀ n ∈ chs.map (·.1), n ≤ 9 := fun n hn => by
      obtain ⟨p, hp', rfl⟩ := List.mem_map.mp hn
      have := ((O.mm p.1 p.2).mp hp').lt
      have := hp.hgt
      omega
    have hll : (chs.map (·.1)).length ≤ 1000 := by rw [List.length_map]; exact O.l
    revert hlv hll
    generalize hns : chs.map (·.1) = ns
    intro hlv hll
    have hmx : mxN ns ≤ 9 := by
      rcases mxN_mem (l := ns) with z | z
      · omega
      · exact hlv _ z
    have hmax : ∀ e, (∃ m, e = Dt.int m ∧ m ∈ ns.map (fun n => ((n : Nat) : Int)) ++ [0] ∧ ∀ y, y ∈ ns.map (fun n => ((n : Nat) : Int)) ++ [0] → y ≤ m) → e = .int (mxN ns : Nat) := by
      rintro _ ⟨m, rfl, h1, h2⟩
      have a1 : ((mxN ns : Nat) : Int) ≤ m := by
        rcases mxN_mem (l := ns) with z | z
        · rw [z]
          exact h2 _ (List.mem_append_right _ (by simp))
        · exact h2 _ (List.mem_append_left _ (List.mem_map.mpr ⟨_, z, rfl⟩))
      have a2 : m ≤ ((mxN ns : Nat) : Int) := by
        rcases List.mem_append.mp h1 with z | z
        · obtain ⟨n, hn, rfl⟩ := List.mem_map.mp z
          have := mxN_le hn
          omega
        · have : m = 0 := by simpa using z
          omega
      have : m = ((mxN ns : Nat) : Int) := by omega
      rw [this]
    refine ok_rtD (d := .seq false ((rowOf ns).map fun n => .int (n : Nat))) (GD.cast (gd_tuple (l := true) (GN.gd (gn_lcY (xs := List.range (mxN ns + 1)) (f := fun (i : Nat) => Dt.int (0 + (i : Nat))) (e := fun (r : Nat) => .int (cntLe ns r : Nat))
      (gw_range1 (j := ((mxN ns : Nat) : Int) + 1) (gd_add (GE.gd (ge_maxL (ns := ns.map (fun n => ((n : Nat) : Int)) ++ [0]) (GD.cast (GN.gd (gn_cat (gd_var rfl) (GN.gd (gn_lst (ga_cons gd_int ga_nil) fw)) (by rw [List.length_map]; exact sz (by show ns.length + 1 ≤ _; omega)))) (by rw [List.map_append, List.map_map]; rfl)) (by simp)) hmax) gd_int) (by omega) (by omega))
      (sl12 (by rw [List.length_range]; omega)) (fun x _ => gg_name (by decide)) (fun r hr => GD.cast (gd_lenM (l := true) (xs := ns.filter fun n => decide (n ≤ r)) (f := fun n => .int (n : Nat)) (GN.gd (gn_lc (xs := ns) (f := fun n => .int (n : Nat)) (b := fun n => decide (n ≤ r)) (e := fun n => .int (n : Nat)) (gw_seq (gd_var rfl)) (sl12 hll) (fun x _ => gg_name (by decide))
        (fun x _ => GT.cast (gt_test (gd_le (gd_var rfl) (gd_var rfl))) (by congr 1; apply propext; omega)) (fun x _ _ => gd_var rfl)))) rfl)))) (by unfold rowOf; rw [List.map_map]; rfl)) hR ⟨chs, by rw [hns], O⟩
end
end DL
set_option maxHeartbeats 1000000
namespace DL
open PySem PySem.Spec PyProof.Rows L2
section
variable {ρ : List Sl} {ps : List Addr} {bs : List (List Addr × Hp)} {D : Ends} {te : TE} {φ : Dt → Prop} {K : PySem.W.Frag}
theorem ok_drop (h : GE te ρ φ) (q : ∀ σ H, En ps bs σ H ρ → D.nx σ H) : Ok ps bs (tDrop te) ρ D := fun σ H E => h ps bs σ H E _ fun v H1 d s1 _ _ => q σ H1 (E.mono s1)
end
section
variable {ρ : List Sl} {ps : List Addr} {bs : List (List Addr × Hp)} {D : Ends} {te ta tb : TE} {φ φa φb : Dt → Prop} {K : PySem.W.Frag} {u : TS}
theorem ok_dropS (h : GE te ρ φ) (q : Ok ps bs u ρ D) : Ok ps bs (tSeq (tDrop te) u) ρ D := fun σ H E => h ps bs σ H E _ fun v H1 d s1 _ _ => q σ H1 (E.mono s1)
theorem ok_asgE {g : TG} {vs : List Nat} (h : GE te ρ φ) (q : ∀ d, φ d → ∃ ρ', GG g vs d ρ ρ' ∧ Ok ps bs u ρ' D) : Ok ps bs (tSeq (tAsg te g) u) ρ D := fun σ H E =>
  h ps bs σ H E _ fun v H1 d s1 h1 hd => by
    obtain ⟨ρ', hg, ok⟩ := q d hd
    exact hg ps bs σ H1 v (E.mono s1) h1 _ fun σ2 H2 s2 E2 _ _ => ok σ2 H2 E2
theorem ge_tup2 (ha : GE ta ρ φa) (hb : GE tb ρ φb) : GE (tTup (tCons ta (tCons tb tNil))) ρ (fun d => ∃ da db, φa da ∧ φb db ∧ d = .seq false [da, db]) := fun ps bs σ H E Q q =>
  ha ps bs σ H E _ fun x H1 da s1 h1 k1 => hb ps bs σ H1 (E.mono s1) _ fun y H2 db s2 h2 k2 => ⟨by rw [sizeLine_eq]; show 2 ≤ _; omega, fun p hp => by
    have e := same_new (o := .tup [x, y]) hp
    have s12 := s1.trans s2
    exact q _ _ _ (s12.trans e) (.tup (out_of upd_same ((E.mono s12).fresh hp)) (.cons (h1.mono (out_mono (s2.trans e))) (.cons (h2.mono (out_mono e)) .nil))) ⟨da, db, k1, k2, rfl⟩⟩
end
theorem eqvAll_map {α : Type} [DecidableEq α] {f : α → PyData} (h : ∀ a b, PyData.eqv (f a) (f b) = decide (a = b)) : ∀ xs ys : List α, PyData.eqvAll (xs.map f) (ys.map f) = decide (xs = ys)
  | [], [] => rfl
  | [], _ :: _ => rfl
  | _ :: _, [] => rfl
  | x :: xs, y :: ys => by
    rw [List.map_cons, List.map_cons, PyData.eqvAll, h, eqvAll_map h xs ys]
    by_cases e1 : x = y <;> by_cases e2 : xs = ys <;> simp [e1, e2]
theorem eqv_seq {α : Type} [DecidableEq α] {f : α → Dt} (h : ∀ a b, PyData.eqv (py (f a)) (py (f b)) = decide (a = b)) (l : Bool) (xs ys : List α) : PyData.eqv (py (.seq l (xs.map f))) (py (.seq l (ys.map f))) = decide (xs = ys) := by
  cases l with
  | true => rw [py, py, pyAll_map, pyAll_map, PyData.eqv]; exact eqvAll_map h xs ys
  | false => rw [py, py, pyAll_map, pyAll_map, PyData.eqv]; exact eqvAll_map h xs ys
theorem eqv_cells (l : Bool) (xs ys : List Cell) : PyData.eqv (py (.seq l (xs.map dCell))) (py (.seq l (ys.map dCell))) = decide (xs = ys) := eqv_seq eqv_cell l xs ys
theorem eqv_int (a b : Int) : PyData.eqv (py (.int a)) (py (.int b)) = decide (a = b) := by rw [py, py, PyData.eqv, Bool.beq_eq_decide_eq]
theorem eqv_ints (l : Bool) (xs ys : List Int) : PyData.eqv (py (.seq l (xs.map .int))) (py (.seq l (ys.map .int))) = decide (xs = ys) := eqv_seq eqv_int l xs ys
section
variable {P : Program} {w : World} {K : PySem.W.Frag} {mg : Str → Option Value} {base : Heap}
/-- a def that may end without a return -/
theorem ca_ofN {ι : Type} {x : Str} {st : Stmt} {N ps : List Str} {k : Nat} {arg : ι → List Dt} {pre : ι → Prop} {post : ι → Dt → Prop} (F : Fn K mg x st)
    (hb : ∀ (kV doc pm : Value) (an : Option Addr) (cdv ct : Value) (us : List Value), us.length = ps.length → bindArgs (PySem.W.fnOf x x (defArgs st) (defBody st) (defScope st) .none kV doc pm an cdv ct) ⟨us, []⟩ = pure (ps.zip us))
    (S : FnScope N ps (defScope st)) (len : ∀ i, (arg i).length = ps.length)
    (hbody : ∀ (f : Addr) (cdv : Value) (A : Around) (outer : List Env) (s : Shared) (H : Hp) (E : XK), Room k (A.deeper (envOfC x (defScope st) s.heap.objs.size f cdv)) →
      ∃ t, PSs (cxOf CX0 P w K mg base N x (defScope st) f cdv A outer s H E).nox (defBody st) t ∧ ∀ qs i D, pre i → (post i .non → ∀ σ H', Bs [([], H)] H' → D.nx σ H') → Rt qs [([], H)] (post i) D → Ok qs [([], H)] t (rho0 N (arg i)) D) : Ca P w K mg base (k + 1) x (spI arg pre post) := by
  obtain ⟨f, fd, F, hm⟩ := F
  refine ⟨f, fd, ps, F.ok S (fun vs H Q E h => ?_) (fun cdv A outer s H vs Q E hr h => ?_), hm, F.kp, F.binds hb⟩
  · obtain ⟨i, qs, _, h2, h3, _⟩ := h
    rw [h2.length]
    exact len i
  · obtain ⟨i, qs, h1, h2, h3, q⟩ := h
    obtain ⟨t, T, ok⟩ := hbody f cdv A outer s H E hr
    exact ⟨t, T, ok qs i { nx := fun _ H' => Q .non H', rt := Q } h3 (fun p σ H' b => q .non H' .non (fun a o h0 => b ([], H) List.mem_cons_self a o (by simp) h0) .non p) (fun v H' d b i p => q v H' d (fun a o h0 => b ([], H) List.mem_cons_self a o (by simp) h0) i p) _ _ (en0 h1 h2)⟩
end
end DL
set_option maxHeartbeats 1000000
/-! A list of lists of ints, its inner lists written. -/
namespace DL
open PySem PySem.Spec PyProof.Rows L2
structure NestAt (H : Hp) (p : Addr) (as : List Addr) (g : List (List Int)) : Prop where
  at_ : H p = some (.lst (as.map V.ref))
  len : as.length = g.length
  inn : ∀ (i : Nat) (a : Addr) (col : List Int), as[i]? = some a → g[i]? = some col → H a = some (.lst (col.map V.int))
  nd : (p :: as).Nodup
theorem NestAt.mono {H H' : Hp} {p : Addr} {as : List Addr} {g : List (List Int)} (e : Same H H') (h : NestAt H p as g) : NestAt H' p as g :=
  ⟨e _ _ h.at_, h.len, fun i a col h1 h2 => e _ _ (h.inn i a col h1 h2), h.nd⟩
theorem NestAt.off {H H' : Hp} {p : Addr} {as : List Addr} {g : List (List Int)} (h : NestAt H p as g) (e : ∀ a o, a ∈ p :: as → H a = some o → H' a = some o) : NestAt H' p as g :=
  ⟨e _ _ List.mem_cons_self h.at_, h.len, fun i a col h1 h2 => e _ _ (List.mem_cons_of_mem _ (List.mem_of_getElem? h1)) (h.inn i a col h1 h2), h.nd⟩
theorem NestAt.ex {H : Hp} {p : Addr} {as : List Addr} {g : List (List Int)} (h : NestAt H p as g) {i : Nat} {col : List Int} (hc : g[i]? = some col) : ∃ a, as[i]? = some a ∧ H a = some (.lst (col.map V.int)) := by
  have hl := (List.getElem?_eq_some_iff.mp hc).1
  have : i < as.length := by rw [h.len]; exact hl
  exact ⟨as[i], List.getElem?_eq_getElem this, h.inn i _ col (List.getElem?_eq_getElem this) hc⟩
theorem NestAt.set {H : Hp} {p : Addr} {as : List Addr} {g : List (List Int)} (h : NestAt H p as g) {i : Nat} {a : Addr} {col : List Int} (ha : as[i]? = some a) : NestAt (upd H a (.lst (col.map V.int))) p as (g.set i col) where
  at_ := by
    rw [upd_ne]
    · exact h.at_
    · rintro rfl
      exact (List.nodup_cons.mp h.nd).1 (List.mem_of_getElem? ha)
  len := by rw [List.length_set]; exact h.len
  inn := fun j b col' hb hc => by
    by_cases e : j = i
    · subst e
      rw [ha] at hb
      cases hb
      have hl : j < g.length := by
        have := (List.getElem?_eq_some_iff.mp hc).1
        rw [List.length_set] at this
        exact this
      rw [List.getElem?_set_self hl] at hc
      cases hc
      exact upd_same
    · rw [List.getElem?_set_ne (Ne.symm e)] at hc
      rw [upd_ne]
      · exact h.inn j b col' hb hc
      · rintro rfl
        obtain ⟨k1, e1⟩ := List.getElem?_eq_some_iff.mp hb
        obtain ⟨k2, e2⟩ := List.getElem?_eq_some_iff.mp ha
        have := List.pairwise_iff_getElem.mp (List.nodup_cons.mp h.nd).2
        rcases Nat.lt_trichotomy j i with z | z | z
        · exact this j i k1 k2 z (by rw [e1, e2])
        · exact e z
        · exact this i j k2 k1 z (by rw [e1, e2])
  nd := h.nd
theorem NestAt.push {H : Hp} {p q : Addr} {as : List Addr} {g : List (List Int)} {col : List Int} (h : NestAt H p as g) (hq : H q = some (.lst (col.map V.int))) (hn : q ∉ p :: as) : NestAt (upd H p (.lst ((as ++ [q]).map V.ref))) p (as ++ [q]) (g ++ [col]) where
  at_ := upd_same
  len := by rw [List.length_append, List.length_append, h.len]; rfl
  inn := fun j b col' hb hc => by
    have hne : b ≠ p := by
      rintro rfl
      rcases List.mem_append.mp (List.mem_of_getElem? hb) with z | z
      · exact (List.nodup_cons.mp h.nd).1 z
      · have : b = q := by simpa using z
        exact hn (this ▸ List.mem_cons_self)
    rw [upd_ne hne]
    by_cases e : j < as.length
    · rw [List.getElem?_append_left e] at hb
      rw [List.getElem?_append_left (by rw [← h.len]; exact e)] at hc
      exact h.inn j b col' hb hc
    · rw [List.getElem?_append_right (by omega)] at hb
      rw [List.getElem?_append_right (by rw [← h.len]; omega), ← h.len] at hc
      have e0 : j - as.length = 0 := by
        have := (List.getElem?_eq_some_iff.mp hb).1
        simp at this
        exact this
      rw [e0] at hb hc
      simp at hb hc
      subst hb hc
      exact hq
  nd := by
    have hd := List.nodup_cons.mp h.nd
    rw [List.nodup_cons]
    refine ⟨fun z => ?_, ?_⟩
    · rcases List.mem_append.mp z with z | z
      · exact hd.1 z
      · have : p = q := by simpa using z
        exact hn (this ▸ List.mem_cons_self)
    · rw [List.nodup_append]
      refine ⟨hd.2, by simp, fun a ha b hb e => ?_⟩
      have : b = q := by simpa using hb
      rw [this] at e
      exact hn (e ▸ List.mem_cons_of_mem _ ha)
/-- it reads as a heap -/
theorem NestAt.is {H : Hp} {p : Addr} {as : List Addr} {g : List (List Int)} (h : NestAt H p as g) : Is H (.ref p) (.seq true (g.map fun c => .seq true (c.map .int))) := by
  have hints : ∀ c : List Int, IsAll H (c.map V.int) (c.map Dt.int) := fun c => by
    induction c with
    | nil => exact .nil
    | cons x r ih => exact .cons (.int x) ih
  refine .lst h.at_ ?_
  have key : ∀ (as : List Addr) (g : List (List Int)), as.length = g.length → (∀ (i : Nat) (a : Addr) (col : List Int), as[i]? = some a → g[i]? = some col → H a = some (.lst (col.map V.int))) → IsAll H (as.map V.ref) (g.map fun c => Dt.seq true (c.map .int)) := by
    intro as
    induction as with
    | nil =>
      intro g hl _
      cases g with
      | nil => exact .nil
      | cons _ _ => cases hl
    | cons a r ih =>
      intro g hl hi
      cases g with
      | nil => cases hl
      | cons c g =>
        exact .cons (.lst (hi 0 a c rfl rfl) (hints c)) (ih g (Nat.succ.inj hl) fun i b col h1 h2 => hi (i + 1) b col (by simpa using h1) (by simpa using h2))
  exact key as g h.len h.inn
theorem raw_set {te : TE} {u : TS} {i : Nat} {D : Ends} {σ : L2.St} {H : Hp} (h : te σ H fun v H1 => u D (σ.set i (some v)) H1) : tSeq (tAsg te (gName i)) u D σ H := h
theorem raw_set1 {te : TE} {i : Nat} {D : Ends} {σ : L2.St} {H : Hp} (h : te σ H fun v H1 => D.nx (σ.set i (some v)) H1) : tAsg te (gName i) D σ H := h
theorem raw_seq {t u : TS} {D : Ends} {σ : L2.St} {H : Hp} (h : t { D with nx := fun σ H => u D σ H } σ H) : tSeq t u D σ H := h
theorem raw_for {ps : List Addr} {bs : List (List Addr × Hp)} {σ : L2.St} {H : Hp} {ρ : List Sl} {wi : TI} {g : TG} {tb : TS} {its : List Dt} {D : Ends} (hw : GW wi ρ its) (E : En ps bs σ H ρ) (Jv : Hp → Nat → L2.St → Hp → Prop)
    (h0 : ∀ H1, Same H H1 → Jv H1 0 σ H1) (hg : ∀ H1 i σ' H', Jv H1 i σ' H' → Same (out H1 ps) (out H' ps) ∧ ∀ q ∈ ps, Mu (H' q))
    (hs : ∀ H1 i σ' H' H3 x d, its[i]? = some d → Jv H1 i σ' H' → Same H' H3 → Is (out H3 ps) x d → g x σ' H3 fun σ4 H4 => tb { D with nx := Jv H1 (i + 1), ct := Jv H1 (i + 1), bk := D.nx } σ4 H4)
    (hd : ∀ H1 σ' H', Jv H1 its.length σ' H' → D.nx σ' H') : tFor wi g tb D σ H :=
  hw ps bs σ H E _ fun J H1 s1 w => by
    have wk := w ps (fun q hq => .inl hq)
    refine for_it wk (Jv H1) (h0 H1 s1) (fun i σ' H' _ j => hg H1 i σ' H' j) ?_ (fun σ' H' j => hd H1 σ' H' j)
    rintro i x σ2 H2 H3 hi j ⟨s3, d, hd', hx⟩
    exact hs H1 i σ2 H2 H3 x d hd' j s3 hx
section
variable {ps : List Addr} {bs : List (List Addr × Hp)} {σ : L2.St} {H H1 : Hp} {ρ : List Sl}
/-- new things join the owned ones -/
theorem En.wides (E : En ps bs σ H ρ) (e : Same H H1) {qs : List Addr} (h0 : ∀ q ∈ qs, H q = none) (h1 : ∀ q ∈ qs, Mu (H1 q)) : En (qs ++ ps) bs σ H1 ρ := by
  have sub : Same (out H ps) (out H1 (qs ++ ps)) := fun a o h => by
    obtain ⟨k1, k2⟩ := out_some h
    refine out_of (e a o k1) fun z => ?_
    rcases List.mem_append.mp z with z | z
    · rw [h0 a z] at k1; cases k1
    · exact k2 z
  refine ⟨fun q hq => ?_, (E.mono e).ex, E.len, fun i s hs => ?_, E.ne, E.mine⟩
  · rcases List.mem_append.mp hq with z | z
    · exact h1 q z
    · exact (E.mono e).al q z
  · obtain ⟨o, k1, k2⟩ := E.sl i s hs
    refine ⟨o, k1, ?_⟩
    cases s with
    | un => trivial
    | im d => obtain ⟨v, a1, a2⟩ := k2; exact ⟨v, a1, a2.mono sub⟩
    | raw v => exact k2
    | ow q d =>
      refine ⟨k2.1, List.mem_append_right _ k2.2.1, ?_⟩
      have h3 := k2.2.2
      cases d with
      | seq l ds =>
        cases l with
        | true => obtain ⟨xs, a1, a2⟩ := h3; exact ⟨xs, e _ _ a1, a2.mono sub⟩
        | false => exact h3.elim
      | dic kvs => exact e _ _ h3
      | non => exact h3.elim
      | bl _ => exact h3.elim
      | int _ => exact h3.elim
      | str _ => exact h3.elim
/-- a thing that no slot owns is written -/
theorem En.ghost (E : En ps bs σ H ρ) {a : Addr} {o : HO} (ha : a ∈ ps) (hno : ∀ (i : Nat) d, ρ[i]? ≠ some (.ow a d)) (hb : ∀ e ∈ bs, a ∈ e.1 ∨ e.2 a = none) (hm : Mu (some o)) : En ps bs σ (upd H a o) ρ := by
  have sub := out_upd (H := H) (o := o) ha
  refine ⟨fun q hq => ?_, fun b hbm c u hc h0 => ?_, E.len, fun i s hs => ?_, E.ne, E.mine⟩
  · by_cases e : q = a
    · rw [e, upd_same]; exact hm
    · rw [upd_ne e]; exact E.al q hq
  · rw [upd_ne]
    · exact E.ex b hbm c u hc h0
    · rintro rfl
      rcases hb b hbm with z | z
      · exact hc z
      · rw [z] at h0; cases h0
  · obtain ⟨ov, k1, k2⟩ := E.sl i s hs
    refine ⟨ov, k1, ?_⟩
    cases s with
    | un => trivial
    | im d => obtain ⟨v, a1, a2⟩ := k2; exact ⟨v, a1, a2.mono sub⟩
    | raw v => exact k2
    | ow q d =>
      have nq : q ≠ a := by
        rintro rfl
        exact hno i d hs
      refine ⟨k2.1, k2.2.1, ?_⟩
      have h3 := k2.2.2
      cases d with
      | seq l ds =>
        cases l with
        | true => obtain ⟨xs, a1, a2⟩ := h3; exact ⟨xs, by rw [upd_ne nq]; exact a1, a2.mono sub⟩
        | false => exact h3.elim
      | dic kvs =>
        show upd H a o q = _
        rw [upd_ne nq]
        exact h3
      | non => exact h3.elim
      | bl _ => exact h3.elim
      | int _ => exact h3.elim
      | str _ => exact h3.elim
/-- [new list for x in xs] -/
theorem nest_lc {α : Type} {wi : TI} {g : TG} {te : TE} {vs : List Nat} {xs : List α} {f : α → Dt} {ρ' : α → List Sl} {e : α → List Int} (hw : GW wi ρ (xs.map f)) (hn : xs.length ≤ sizeLine)
    (hg : ∀ x ∈ xs, GG g vs (f x) (wipeR ρ vs) (ρ' x)) (he : ∀ x ∈ xs, GN te (ρ' x) (.seq true ((e x).map .int))) (E : En ps bs σ H ρ) (Q : VK)
    (q : ∀ p as H', (∀ a ∈ p :: as, H a = none) → Same H H' → NestAt H' p as (xs.map e) → Q (.ref p) H') : tLc wi g tYes te vs σ H Q :=
  hw ps bs σ H E _ fun J H1 s1 w D hD => by
    have wk := w (D :: ps) (fun q hq => (List.mem_cons.mp hq).elim (fun z => .inr (z ▸ hD)) .inl)
    have hln : (xs.map f).length = xs.length := List.length_map _
    rw [hln] at wk
    have E1 := E.mono s1
    refine lc_it wk (fun i H2 => Same H1 H2 ∧ ∃ as, NestAt H2 D as ((xs.take i).map e) ∧ ∀ a ∈ as, H1 a = none) ?_ ?_ ?_ ?_
    · exact ⟨same_new hD, [], ⟨upd_same, rfl, fun i a col h => by simp at h, by simp⟩, fun a h => by simp at h⟩
    · rintro i H2 _ ⟨s2, as, h1, _⟩
      refine ⟨fun a o h => ?_, fun q hq => ?_⟩
      · obtain ⟨h2, h3⟩ := out_some h
        exact out_of (s2 a o h2) h3
      · rcases List.mem_cons.mp hq with r | r
        · rw [r, h1.at_]; trivial
        · exact (E1.mono s2).al q r
    · rintro i x H2 H3 hi ⟨s2, as, h1, h2⟩ ⟨s3, d, hd, hx⟩
      have hil : i < xs.length := hi
      have hxi : xs[i]? = some xs[i] := List.getElem?_eq_getElem hil
      have ed : d = f xs[i] := by
        rw [List.getElem?_map, hxi] at hd
        exact (Option.some.inj hd).symm
      subst ed
      have mem : xs[i] ∈ xs := List.getElem_mem hil
      have E3 : En (D :: ps) bs σ H3 ρ := E1.wide (s2.trans s3) hD (by rw [s3 _ _ h1.at_]; trivial)
      refine hg _ mem (D :: ps) bs _ H3 x (E3.wipe vs) hx _ fun σ4 H4 s4 E4 l4 k4 => ⟨?_, ?_⟩
      · refine wipe_ext l4 (fun j hj => (k4 j hj)) |>.trans ?_
        refine wipe_ext (wipe_length _ _) fun j hj => ?_
        rw [wipe_get, if_neg hj]
      · unfold tYes
        refine iteT (he _ mem _ bs σ4 H4 E4 _ fun p H5 hp s5 o5 => ?_)
        obtain ⟨ys, o1, o2⟩ := o5
        have f4 : Same H2 H4 := s3.trans s4
        have n4 := h1.mono f4
        have pn : p ∉ D :: as := fun z => by
          rcases List.mem_cons.mp z with z | z
          · rw [z, n4.at_] at hp; cases hp
          · obtain ⟨j, hj, ej⟩ := List.getElem_of_mem z
            have hjl : j < ((xs.take i).map e).length := by rw [← n4.len]; exact hj
            have := n4.inn j p _ (by rw [← ej]; exact List.getElem?_eq_getElem hj) (List.getElem?_eq_getElem hjl)
            rw [this] at hp; cases hp
        have n5 := n4.mono s5
        have ey : ys = (e xs[i]).map V.int := by
          have : ∀ (ns : List Int) (ys : List V), IsAll (out H5 (p :: D :: ps)) ys (ns.map Dt.int) → ys = ns.map V.int := by
            intro ns
            induction ns with
            | nil => intro ys h; cases h; rfl
            | cons n r ih =>
              intro ys h
              cases h with
              | cons a t => rw [is_int a, ih _ t]; rfl
          exact this _ _ o2
        rw [ey] at o1
        refine ⟨_, n5.at_, ?_, ?_, as ++ [p], ?_, ?_⟩
        · rw [List.length_map, n5.len, List.length_map, List.length_take]
          omega
        · intro a o ha
          rw [upd_ne (ne_of_none ha hD)]
          exact (f4.trans s5) _ _ (s2 _ _ ha)
        · rw [take_get hxi, List.map_append]
          have := n5.push o1 pn
          rw [List.map_append] at this
          exact this
        · intro a ha
          rcases List.mem_append.mp ha with z | z
          · exact h2 a z
          · have : a = p := by simpa using z
            rw [this]
            exact Same.free ((s2.trans f4)) hp
    · rintro H2 ⟨s2, as, h1, h2⟩
      rw [List.take_length] at h1
      refine q D as H2 (fun a ha => ?_) (s1.trans s2) h1
      rcases List.mem_cons.mp ha with z | z
      · rw [z]; exact Same.free s1 hD
      · exact Same.free s1 (h2 a z)
end
end DL
set_option maxHeartbeats 1000000
/-! Plain: necks, from the top row on, by lists of cells by number. -/
namespace DL
abbrev Lot := Int × PySem.Addr × List Cell
def putL (L : List Lot) (a : PySem.Addr) (cs : List Cell) : List Lot := L.map fun q => if q.2.1 = a then (q.1, q.2.1, cs) else q
theorem putL_fst (L : List Lot) (a : PySem.Addr) (cs : List Cell) : (putL L a cs).map (·.1) = L.map (·.1) := by
  unfold putL
  rw [List.map_map]
  refine List.map_congr_left fun q _ => ?_
  show (if q.2.1 = a then (q.1, q.2.1, cs) else q).1 = q.1
  split <;> rfl
theorem putL_adr (L : List Lot) (a : PySem.Addr) (cs : List Cell) : (putL L a cs).map (·.2.1) = L.map (·.2.1) := by
  unfold putL
  rw [List.map_map]
  refine List.map_congr_left fun q _ => ?_
  show (if q.2.1 = a then (q.1, q.2.1, cs) else q).2.1 = q.2.1
  split <;> rfl
theorem putL_len (L : List Lot) (a : PySem.Addr) (cs : List Cell) : (putL L a cs).length = L.length := List.length_map _
theorem mem_putL {L : List Lot} {a : PySem.Addr} {cs : List Cell} {q : Lot} (h : q ∈ putL L a cs) : (q.2.1 = a ∧ q.2.2 = cs ∧ ∃ old, (q.1, a, old) ∈ L) ∨ (q.2.1 ≠ a ∧ q ∈ L) := by
  obtain ⟨r, hr, e⟩ := List.mem_map.mp h
  by_cases z : r.2.1 = a
  · rw [if_pos z] at e
    subst e
    exact .inl ⟨z, rfl, r.2.2, by show (r.1, a, r.2.2) ∈ L; rw [← z]; exact hr⟩
  · rw [if_neg z] at e
    subst e
    exact .inr ⟨z, hr⟩
theorem putL_new {L : List Lot} {a : PySem.Addr} {n : Int} {old cs : List Cell} (h : (n, a, old) ∈ L) : (n, a, cs) ∈ putL L a cs := List.mem_map.mpr ⟨_, h, if_pos rfl⟩
theorem putL_old {L : List Lot} {a : PySem.Addr} {cs : List Cell} {q : Lot} (h : q ∈ L) (hn : q.2.1 ≠ a) : q ∈ putL L a cs := List.mem_map.mpr ⟨_, h, if_neg hn⟩
theorem adr_eq {L : List Lot} (nd : (L.map (·.2.1)).Nodup) {q r : Lot} (hq : q ∈ L) (hr : r ∈ L) (e : q.2.1 = r.2.1) : q = r := by
  induction L with
  | nil => cases hq
  | cons x t ih =>
    rw [List.map_cons, List.nodup_cons] at nd
    rcases List.mem_cons.mp hq with z | z <;> rcases List.mem_cons.mp hr with y | y
    · rw [z, y]
    · exact absurd (List.mem_map.mpr ⟨r, y, by rw [← e, z]⟩) nd.1
    · exact absurd (List.mem_map.mpr ⟨q, z, by rw [e, y]⟩) nd.1
    · exact ih nd.2 z y
theorem key_eq {L : List Lot} (nd : (L.map (·.1)).Nodup) {q r : Lot} (hq : q ∈ L) (hr : r ∈ L) (e : q.1 = r.1) : q = r := by
  induction L with
  | nil => cases hq
  | cons x t ih =>
    rw [List.map_cons, List.nodup_cons] at nd
    rcases List.mem_cons.mp hq with z | z <;> rcases List.mem_cons.mp hr with y | y
    · rw [z, y]
    · exact absurd (List.mem_map.mpr ⟨r, y, by rw [← e, z]⟩) nd.1
    · exact absurd (List.mem_map.mpr ⟨q, z, by rw [e, y]⟩) nd.1
    · exact ih nd.2 z y
def unf (g : Grid) (f : Cell → Int) : Nat := ((airC g).filter fun c => decide (f c = 0)).length
def NbF (g : Grid) (b d : Cell) : Prop := d ∈ near g b
def NbJ (g : Grid) (c : Cell) (j : Nat) (b d : Cell) : Prop := if b = c then d ∈ (near g c).take j else d ∈ near g b
structure NI (g : Grid) (fs : List (Cell × Int)) (f : Cell → Int) (L : List Lot) (m : Int) (Nb : Cell → Cell → Prop) (k : Nat) : Prop where
  rng : ∀ c ∈ airC g, 0 ≤ f c ∧ f c ≤ stF fs c
  opn : ∀ c ∈ airC g, 0 < f c → Opn g c
  one : ∀ q ∈ L, 1 ≤ q.1
  cel : ∀ q ∈ L, ∀ c ∈ q.2.2, c ∈ airC g ∧ Opn g c ∧ q.1 ≤ stF fs c
  cov : ∀ c ∈ airC g, (isTop g c = true ∨ ∃ b ∈ airC g, 0 < f b ∧ Nb b c) → 0 < f c ∨ ∃ q ∈ L, q.1 ≤ m ∧ c ∈ q.2.2
  sz : L.length + 8 * unf g f ≤ k
  szl : ∀ q ∈ L, q.2.2.length + 8 * unf g f ≤ k
section
variable {g : Grid} {fs : List (Cell × Int)} {f : Cell → Int} {L : List Lot} {m n : Int} {k j : Nat} {a p : PySem.Addr} {cs : List Cell} {c d : Cell} {Nb : Cell → Cell → Prop}
theorem NI.popPos (h : NI g fs f L m Nb k) (hq : (n, a, cs ++ [c]) ∈ L) (nd : (L.map (·.2.1)).Nodup) (hc : 0 < f c) : NI g fs f (putL L a cs) m Nb k where
  rng := h.rng
  opn := h.opn
  one := fun q hm => by
    rcases mem_putL hm with ⟨_, _, old, ho⟩ | ⟨_, ho⟩
    · exact h.one (q.1, a, old) ho
    · exact h.one q ho
  cel := fun q hm x hx => by
    rcases mem_putL hm with ⟨e1, e2, old, ho⟩ | ⟨_, ho⟩
    · rw [e2] at hx
      have := adr_eq nd ho hq rfl
      have e3 : q.1 = n := congrArg Prod.fst this
      rw [e3]
      exact h.cel _ hq x (List.mem_append_left _ hx)
    · exact h.cel _ ho x hx
  cov := fun x hx hy => by
    rcases h.cov x hx hy with z | ⟨q, q1, q2, q3⟩
    · exact .inl z
    · by_cases e : q.2.1 = a
      · have e2 := adr_eq nd q1 hq e
        rw [e2] at q2 q3
        rcases List.mem_append.mp q3 with y | y
        · exact .inr ⟨_, putL_new hq, q2, y⟩
        · rw [show x = c by simpa using y]
          exact .inl hc
      · exact .inr ⟨q, putL_old q1 e, q2, q3⟩
  sz := by rw [putL_len]; exact h.sz
  szl := fun q hm => by
    rcases mem_putL hm with ⟨_, e2, old, ho⟩ | ⟨_, ho⟩
    · rw [e2]
      have := h.szl _ hq
      rw [List.length_append] at this
      omega
    · exact h.szl _ ho
theorem unf_gen {l : List Cell} {f f' : Cell → Int} {c : Cell} (hc : c ∈ l) (nd : l.Nodup) (h0 : f c = 0) (h1 : f' c ≠ 0) (h2 : ∀ x, x ≠ c → f' x = f x) : (l.filter fun c => decide (f' c = 0)).length + 1 = (l.filter fun c => decide (f c = 0)).length := by
  induction l with
  | nil => cases hc
  | cons x r ih =>
    obtain ⟨n1, n2⟩ := List.nodup_cons.mp nd
    rw [List.filter_cons, List.filter_cons]
    by_cases e : x = c
    · subst e
      rw [decide_eq_false h1, decide_eq_true h0]
      simp only [Bool.false_eq_true, if_false, if_true]
      rw [List.length_cons]
      congr 2
      refine List.filter_congr fun y hy => ?_
      rw [h2 y (fun z => n1 (z ▸ hy))]
    · have ih := ih ((List.mem_cons.mp hc).resolve_left fun z => e z.symm) n2
      rw [h2 x e]
      by_cases y : f x = 0
      · rw [decide_eq_true y, if_pos rfl, if_pos rfl, List.length_cons, List.length_cons]; omega
      · rw [decide_eq_false y]; simp only [Bool.false_eq_true, if_false]; exact ih
theorem unf_set (hc : c ∈ airC g) (h0 : f c = 0) (hn : n ≠ 0) : unf g (fun d => if d = c then n else f d) + 1 = unf g f :=
  unf_gen hc (airC_nodup g) h0 (by rw [if_pos rfl]; exact hn) fun x hx => if_neg hx
theorem NI.popSet (h : NI g fs f L m (NbF g) (k + 8)) (hq : (n, a, cs ++ [c]) ∈ L) (nd : (L.map (·.2.1)).Nodup) (hc : f c = 0) : NI g fs (fun d => if d = c then n else f d) (putL L a cs) m (NbJ g c 0) k := by
  obtain ⟨ca, co, cn⟩ := h.cel _ hq c (by simp)
  have n1 : 1 ≤ n := h.one _ hq
  have cn' : n ≤ stF fs c := cn
  have hu := unf_set (n := n) ca hc (by omega)
  have pos : ∀ x, 0 < f x → 0 < (if x = c then n else f x) := fun x hx => by split <;> omega
  refine ⟨fun x hx => ?_, fun x hx hp => ?_, fun q hm => ?_, fun q hm x hx => ?_, fun x hx hy => ?_, ?_, fun q hm => ?_⟩
  · split
    · rename_i e; rw [e]; exact ⟨by omega, cn'⟩
    · exact h.rng x hx
  · by_cases e : x = c
    · rw [e]; exact co
    · rw [if_neg e] at hp; exact h.opn x hx hp
  · rcases mem_putL hm with ⟨_, _, old, ho⟩ | ⟨_, ho⟩
    · exact h.one (q.1, a, old) ho
    · exact h.one q ho
  · rcases mem_putL hm with ⟨e1, e2, old, ho⟩ | ⟨_, ho⟩
    · rw [e2] at hx
      have := adr_eq nd ho hq rfl
      have e3 : q.1 = n := congrArg Prod.fst this
      rw [e3]
      exact h.cel _ hq x (List.mem_append_left _ hx)
    · exact h.cel _ ho x hx
  · have hy' : isTop g x = true ∨ ∃ b ∈ airC g, 0 < f b ∧ NbF g b x := by
      rcases hy with y | ⟨b, b1, b2, b3⟩
      · exact .inl y
      · refine .inr ⟨b, b1, ?_⟩
        unfold NbJ at b3
        by_cases e : b = c
        · rw [if_pos e] at b3; simp at b3
        · rw [if_neg e] at b3
          rw [if_neg e] at b2
          exact ⟨b2, b3⟩
    rcases h.cov x hx hy' with z | ⟨q, q1, q2, q3⟩
    · exact .inl (pos x z)
    · by_cases e : q.2.1 = a
      · have e2 := adr_eq nd q1 hq e
        rw [e2] at q2 q3
        rcases List.mem_append.mp q3 with y | y
        · exact .inr ⟨_, putL_new hq, q2, y⟩
        · rw [show x = c by simpa using y]
          refine .inl ?_
          rw [if_pos rfl]
          omega
      · exact .inr ⟨q, putL_old q1 e, q2, q3⟩
  · have := h.sz
    rw [putL_len]
    omega
  · rcases mem_putL hm with ⟨_, e2, old, ho⟩ | ⟨_, ho⟩
    · rw [e2]
      have := h.szl _ hq
      rw [List.length_append] at this
      omega
    · have := h.szl _ ho
      omega
theorem NI.new (h : NI g fs f L m Nb k) (hn : 1 ≤ n) : NI g fs f (L ++ [(n, p, [])]) m Nb (k + 1) where
  rng := h.rng
  opn := h.opn
  one := fun q hm => by
    rcases List.mem_append.mp hm with z | z
    · exact h.one q z
    · rw [show q = (n, p, []) by simpa using z]; exact hn
  cel := fun q hm x hx => by
    rcases List.mem_append.mp hm with z | z
    · exact h.cel q z x hx
    · rw [show q = (n, p, []) by simpa using z] at hx; cases hx
  cov := fun x hx hy => by
    rcases h.cov x hx hy with z | ⟨q, q1, q2, q3⟩
    · exact .inl z
    · exact .inr ⟨q, List.mem_append_left _ q1, q2, q3⟩
  sz := by
    have := h.sz
    rw [List.length_append, List.length_singleton]
    omega
  szl := fun q hm => by
    rcases List.mem_append.mp hm with z | z
    · have := h.szl q z
      omega
    · rw [show q = (n, p, []) by simpa using z]
      have := h.sz
      show 0 + _ ≤ _
      omega
theorem NI.add (h : NI g fs f L m Nb k) (hq : (n, a, cs) ∈ L) (nd : (L.map (·.2.1)).Nodup) (hd : d ∈ airC g) (ho : Opn g d) (hs : n ≤ stF fs d) : NI g fs f (putL L a (cs ++ [d])) m Nb (k + 1) where
  rng := h.rng
  opn := h.opn
  one := fun q hm => by
    rcases mem_putL hm with ⟨_, _, old, ho⟩ | ⟨_, ho⟩
    · exact h.one (q.1, a, old) ho
    · exact h.one q ho
  cel := fun q hm x hx => by
    rcases mem_putL hm with ⟨e1, e2, old, h1⟩ | ⟨_, h1⟩
    · rw [e2] at hx
      have := adr_eq nd h1 hq rfl
      have e3 : q.1 = n := congrArg Prod.fst this
      rw [e3]
      rcases List.mem_append.mp hx with y | y
      · exact h.cel _ hq x y
      · rw [show x = d by simpa using y]; exact ⟨hd, ho, hs⟩
    · exact h.cel _ h1 x hx
  cov := fun x hx hy => by
    rcases h.cov x hx hy with z | ⟨q, q1, q2, q3⟩
    · exact .inl z
    · by_cases e : q.2.1 = a
      · have e2 := adr_eq nd q1 hq e
        rw [e2] at q2 q3
        exact .inr ⟨_, putL_new hq, q2, List.mem_append_left _ q3⟩
      · exact .inr ⟨q, putL_old q1 e, q2, q3⟩
  sz := by
    have := h.sz
    rw [putL_len]
    omega
  szl := fun q hm => by
    rcases mem_putL hm with ⟨_, e2, old, h1⟩ | ⟨_, h1⟩
    · rw [e2, List.length_append, List.length_singleton]
      have : cs.length + 8 * unf g f ≤ k := h.szl _ hq
      omega
    · have := h.szl _ h1
      omega
theorem NI.le {k' : Nat} (h : NI g fs f L m Nb k) (hk : k ≤ k') : NI g fs f L m Nb k' := ⟨h.rng, h.opn, h.one, h.cel, h.cov, Nat.le_trans h.sz hk, fun q hq => Nat.le_trans (h.szl q hq) hk⟩
/-- the next one beside is looked at -/
theorem NI.turn (h : NI g fs f L m (NbJ g c j) k) (hd : (near g c)[j]? = some d) (ht : d ∈ airC g → 0 < f d ∨ ∃ q ∈ L, q.1 ≤ m ∧ d ∈ q.2.2) : NI g fs f L m (NbJ g c (j + 1)) k where
  rng := h.rng
  opn := h.opn
  one := h.one
  cel := h.cel
  cov := fun x hx hy => by
    rcases hy with y | ⟨b, b1, b2, b3⟩
    · exact h.cov x hx (.inl y)
    · by_cases e : b = c
      · unfold NbJ at b3
        rw [if_pos e, List.take_add_one, hd] at b3
        rcases List.mem_append.mp b3 with y | y
        · exact h.cov x hx (.inr ⟨b, b1, b2, by unfold NbJ; rw [if_pos e]; exact y⟩)
        · have : x = d := by simpa using y
          rw [this] at hx ⊢
          exact ht hx
      · refine h.cov x hx (.inr ⟨b, b1, b2, ?_⟩)
        unfold NbJ at b3 ⊢
        rw [if_neg e] at b3 ⊢
        exact b3
  sz := h.sz
  szl := h.szl
theorem NI.full (h : NI g fs f L m (NbJ g c (near g c).length) k) : NI g fs f L m (NbF g) k := ⟨h.rng, h.opn, h.one, h.cel, fun x hx hy => h.cov x hx (hy.imp id fun ⟨b, b1, b2, b3⟩ => ⟨b, b1, b2, by
  unfold NbJ
  split
  · rename_i e
    rw [List.take_length]
    unfold NbF at b3
    rw [e] at b3
    exact b3
  · exact b3⟩), h.sz, h.szl⟩
theorem NI.down (h : NI g fs f L m (NbF g) k) (he : ∀ q ∈ L, q.1 = m → q.2.2 = []) : NI g fs f L (m - 1) (NbF g) k := ⟨h.rng, h.opn, h.one, h.cel, fun x hx hy => by
  rcases h.cov x hx hy with z | ⟨q, q1, q2, q3⟩
  · exact .inl z
  · refine .inr ⟨q, q1, ?_, q3⟩
    by_cases e : q.1 = m
    · rw [he q q1 e] at q3; cases q3
    · omega, h.sz, h.szl⟩
theorem NI.fin (h : NI g fs f L 0 (NbF g) k) (hc : c ∈ airC g) : 0 < f c ↔ Opn g c := by
  refine ⟨h.opn c hc, fun ho => ?_⟩
  have no : ∀ x ∈ airC g, (isTop g x = true ∨ ∃ b ∈ airC g, 0 < f b ∧ NbF g b x) → 0 < f x := fun x hx hy => by
    rcases h.cov x hx hy with z | ⟨q, q1, q2, q3⟩
    · exact z
    · have := h.one q q1
      omega
  have ho' : Rch (airC g) ((airC g).filter (isTop g)) c := ho
  clear ho hc
  induction ho' with
  | @base c h1 => exact no c (List.mem_filter.mp h1).1 (.inl (List.mem_filter.mp h1).2)
  | @step b d h1 h2 h3 ih => exact no d h3 (.inr ⟨b, h1.inA (fun x hx => (List.mem_filter.mp hx).1), ih, List.mem_filter.mpr ⟨h2, air_in h3⟩⟩)
/-- the first lists -/
structure FI (g : Grid) (fs : List (Cell × Int)) (L : List Lot) (i k : Nat) : Prop where
  one : ∀ q ∈ L, 1 ≤ q.1
  cel : ∀ q ∈ L, ∀ c ∈ q.2.2, c ∈ airC g ∧ Opn g c ∧ q.1 ≤ stF fs c
  cov : ∀ c ∈ (fs.map (·.1)).take i, isTop g c = true → ∃ q ∈ L, q.1 = stF fs c ∧ c ∈ q.2.2
  sz : L.length ≤ k
  szl : ∀ q ∈ L, q.2.2.length ≤ k
theorem FI.start : FI g fs [] 0 0 := ⟨(fun _ h => nomatch h), (fun _ h => nomatch h), (fun _ h => by simp at h), Nat.le_refl _, (fun _ h => nomatch h)⟩
theorem FI.new (h : FI g fs L j k) (hn : 1 ≤ n) : FI g fs (L ++ [(n, p, [])]) j (k + 1) where
  one := fun q hm => by
    rcases List.mem_append.mp hm with z | z
    · exact h.one q z
    · rw [show q = (n, p, []) by simpa using z]; exact hn
  cel := fun q hm x hx => by
    rcases List.mem_append.mp hm with z | z
    · exact h.cel q z x hx
    · rw [show q = (n, p, []) by simpa using z] at hx; cases hx
  cov := fun x hx hy => by
    obtain ⟨q, q1, q2, q3⟩ := h.cov x hx hy
    exact ⟨q, List.mem_append_left _ q1, q2, q3⟩
  sz := by
    have := h.sz
    rw [List.length_append, List.length_singleton]
    omega
  szl := fun q hm => by
    rcases List.mem_append.mp hm with z | z
    · have := h.szl q z
      omega
    · rw [show q = (n, p, []) by simpa using z]
      exact Nat.zero_le _
theorem FI.le {k' : Nat} (h : FI g fs L j k) (hk : k ≤ k') : FI g fs L j k' := ⟨h.one, h.cel, h.cov, Nat.le_trans h.sz hk, fun q hq => Nat.le_trans (h.szl q hq) hk⟩
theorem FI.skip (h : FI g fs L j k) (hd : (fs.map (·.1))[j]? = some d) (ht : ¬ isTop g d = true) : FI g fs L (j + 1) k := ⟨h.one, h.cel, fun x hx hy => by
  rw [List.take_add_one, hd] at hx
  rcases List.mem_append.mp hx with z | z
  · exact h.cov x z hy
  · rw [show x = d by simpa using z] at hy
    exact absurd hy ht, h.sz, h.szl⟩
theorem FI.add (h : FI g fs L j k) (hq : (stF fs d, a, cs) ∈ L) (nd : (L.map (·.2.1)).Nodup) (hd : (fs.map (·.1))[j]? = some d) (ha : d ∈ airC g) (ho : Opn g d) : FI g fs (putL L a (cs ++ [d])) (j + 1) (k + 1) where
  one := fun q hm => by
    rcases mem_putL hm with ⟨_, _, old, ho⟩ | ⟨_, ho⟩
    · exact h.one (q.1, a, old) ho
    · exact h.one q ho
  cel := fun q hm x hx => by
    rcases mem_putL hm with ⟨e1, e2, old, h1⟩ | ⟨_, h1⟩
    · rw [e2] at hx
      have := adr_eq nd h1 hq rfl
      have e3 : q.1 = stF fs d := congrArg Prod.fst this
      rw [e3]
      rcases List.mem_append.mp hx with y | y
      · exact h.cel _ hq x y
      · rw [show x = d by simpa using y]; exact ⟨ha, ho, Int.le_refl _⟩
    · exact h.cel _ h1 x hx
  cov := fun x hx hy => by
    rw [List.take_add_one, hd] at hx
    have old : x ∈ (fs.map (·.1)).take j → ∃ q ∈ putL L a (cs ++ [d]), q.1 = stF fs x ∧ x ∈ q.2.2 := fun z => by
      obtain ⟨q, q1, q2, q3⟩ := h.cov x z hy
      by_cases e : q.2.1 = a
      · have e2 := adr_eq nd q1 hq e
        rw [e2] at q2 q3
        exact ⟨_, putL_new hq, q2, List.mem_append_left _ q3⟩
      · exact ⟨q, putL_old q1 e, q2, q3⟩
    rcases List.mem_append.mp hx with z | z
    · exact old z
    · rw [show x = d by simpa using z]
      exact ⟨_, putL_new hq, rfl, List.mem_append_right _ (by simp)⟩
  sz := by
    have := h.sz
    rw [putL_len]
    omega
  szl := fun q hm => by
    rcases mem_putL hm with ⟨_, e2, old, h1⟩ | ⟨_, h1⟩
    · rw [e2, List.length_append, List.length_singleton]
      have : cs.length ≤ k := h.szl _ hq
      omega
    · have := h.szl _ h1
      omega
theorem FI.fin {k' : Nat} (S : IsSteps g fs) (h : FI g fs L fs.length k) (hk : k + 8 * (airC g).length ≤ k') (hm : ∀ c ∈ airC g, stF fs c ≤ m) : NI g fs (fun _ => 0) L m (NbF g) k' where
  rng := fun c hc => by
    obtain ⟨v, v1, v2, _⟩ := S.at hc
    exact ⟨Int.le_refl _, by omega⟩
  opn := fun c _ hp => absurd hp (by decide)
  one := h.one
  cel := h.cel
  cov := fun c hc hy => by
    rcases hy with y | ⟨b, _, b2, _⟩
    · obtain ⟨q, q1, q2, q3⟩ := h.cov c (by rw [List.take_of_length_le (by rw [List.length_map]; exact Nat.le_refl _)]; exact (S.ky c).mpr hc) y
      exact .inr ⟨q, q1, by rw [q2]; exact hm c hc, q3⟩
    · exact absurd b2 (by decide)
  sz := by
    have : unf g (fun _ => 0) ≤ (airC g).length := List.length_filter_le _ _
    have := h.sz
    omega
  szl := fun q hq => by
    have : unf g (fun _ => 0) ≤ (airC g).length := List.length_filter_le _ _
    have := h.szl q hq
    omega
end
end DL
set_option maxHeartbeats 1000000
/-! A dict by numbers of lists of cells, the lists written. -/
namespace DL
open PySem PySem.Spec PyProof.Rows L2
structure LotsAt (H : Hp) (ps : List Addr) (bs : List (List Addr × Hp)) (pl : Addr) (L : List Lot) : Prop where
  at_ : H pl = some (.dK (L.map fun q => ((Sum.inl q.1 : Key), V.ref q.2.1)))
  inn : ∀ q ∈ L, ∃ xs, H q.2.1 = some (.lst xs) ∧ IsAll (out H ps) xs (q.2.2.map dCell)
  mem : ∀ a ∈ pl :: L.map (·.2.1), a ∈ ps
  nd : (pl :: L.map (·.2.1)).Nodup
  ky : (L.map (·.1)).Nodup
  mine : ∀ a ∈ pl :: L.map (·.2.1), ∀ e ∈ bs, a ∈ e.1 ∨ e.2 a = none
structure LE (ps : List Addr) (bs : List (List Addr × Hp)) (σ : L2.St) (H : Hp) (ρ : List Sl) (pl : Addr) (L : List Lot) : Prop where
  en : En ps bs σ H ρ
  lt : LotsAt H ps bs pl L
  no : ∀ (i : Nat) a d, ρ[i]? = some (.ow a d) → a ∉ pl :: L.map (·.2.1)
section
variable {ps : List Addr} {bs : List (List Addr × Hp)} {σ : L2.St} {H H' : Hp} {ρ : List Sl} {pl a p : Addr} {L : List Lot} {n : Int} {cs old : List Cell} {c : Cell} {i : Nat} {K : PySem.W.Frag} {D : Ends}
theorem LE.mono (E : LE ps bs σ H ρ pl L) (e : Same H H') : LE ps bs σ H' ρ pl L :=
  ⟨E.en.mono e, ⟨e _ _ E.lt.at_, fun q hq => let ⟨xs, h1, h2⟩ := E.lt.inn q hq; ⟨xs, e _ _ h1, h2.mono (out_mono e)⟩, E.lt.mem, E.lt.nd, E.lt.ky, E.lt.mine⟩, E.no⟩
theorem no_set {s : Sl} {bad : List Addr} (h : ∀ (i : Nat) a d, ρ[i]? = some (.ow a d) → a ∉ bad) (hs : ∀ a d, s ≠ .ow a d) : ∀ (j : Nat) a d, (ρ.set i s)[j]? = some (.ow a d) → a ∉ bad := fun j a d q => by
  rcases get_set_cases q with ⟨_, z⟩ | ⟨_, q⟩
  · exact absurd z.symm (hs _ _)
  · exact h j a d q
theorem LE.setIm {v : V} {d : Dt} (E : LE ps bs σ H ρ pl L) (h : Is (out H ps) v d) : LE ps bs (σ.set i (some v)) H (ρ.set i (.im d)) pl L := ⟨E.en.setIm h, E.lt, no_set E.no fun _ _ z => by cases z⟩
theorem LE.setRaw {v : V} (E : LE ps bs σ H ρ pl L) : LE ps bs (σ.set i (some v)) H (ρ.set i (.raw v)) pl L := ⟨E.en.setRaw, E.lt, no_set E.no fun _ _ z => by cases z⟩
theorem LotsAt.adr (h : LotsAt H ps bs pl L) : (L.map (·.2.1)).Nodup := (List.nodup_cons.mp h.nd).2
theorem LotsAt.ne (h : LotsAt H ps bs pl L) {q : Lot} (hq : q ∈ L) : q.2.1 ≠ pl := fun z => (List.nodup_cons.mp h.nd).1 (List.mem_map.mpr ⟨q, hq, z⟩)
theorem putL_dic (L : List Lot) (a : Addr) (cs : List Cell) : (putL L a cs).map (fun q => ((Sum.inl q.1 : Key), V.ref q.2.1)) = L.map fun q => ((Sum.inl q.1 : Key), V.ref q.2.1) := by
  unfold putL
  rw [List.map_map]
  refine List.map_congr_left fun q _ => ?_
  show (Sum.inl (if q.2.1 = a then (q.1, q.2.1, cs) else q).1, V.ref (if q.2.1 = a then (q.1, q.2.1, cs) else q).2.1) = _
  split <;> rfl
/-- a list of the lots is written -/
theorem LE.write (E : LE ps bs σ H ρ pl L) (hq : (n, a, old) ∈ L) {xs : List V} (hx : IsAll (out H ps) xs (cs.map dCell)) : LE ps bs σ (upd H a (.lst xs)) ρ pl (putL L a cs) := by
  have ham : a ∈ pl :: L.map (·.2.1) := List.mem_cons_of_mem _ (List.mem_map.mpr ⟨_, hq, rfl⟩)
  have hap := E.lt.mem a ham
  have sub := out_upd (H := H) (o := .lst xs) hap
  refine ⟨E.en.ghost hap (fun i d z => E.no i a d z ham) (E.lt.mine a ham) trivial, ⟨?_, fun q hm => ?_, ?_, ?_, ?_, ?_⟩, ?_⟩
  · rw [putL_dic, upd_ne (fun z => E.lt.ne hq z.symm)]
    exact E.lt.at_
  · rcases mem_putL hm with ⟨e1, e2, o, ho⟩ | ⟨e1, ho⟩
    · rw [e1, e2]
      exact ⟨xs, upd_same, hx.mono sub⟩
    · obtain ⟨ys, h1, h2⟩ := E.lt.inn q ho
      exact ⟨ys, by rw [upd_ne e1]; exact h1, h2.mono sub⟩
  · rw [putL_adr]; exact E.lt.mem
  · rw [putL_adr]; exact E.lt.nd
  · rw [putL_fst]; exact E.lt.ky
  · rw [putL_adr]; exact E.lt.mine
  · rw [putL_adr]; exact E.no
/-- a new thing joins the owned ones -/
theorem LE.wide (E : LE ps bs σ H ρ pl L) {H1 : Hp} (e : Same H H1) (hp : H p = none) (hm : Mu (H1 p)) : LE (p :: ps) bs σ H1 ρ pl L :=
  ⟨E.en.wide e hp hm, ⟨e _ _ E.lt.at_, fun q hq => let ⟨xs, h1, h2⟩ := E.lt.inn q hq; ⟨xs, e _ _ h1, h2.mono (same_wide e hp)⟩, fun b hb => List.mem_cons_of_mem _ (E.lt.mem b hb), E.lt.nd, E.lt.ky, E.lt.mine⟩, E.no⟩
theorem En.free (E : En ps bs σ H ρ) (hp : H p = none) : ∀ e ∈ bs, p ∈ e.1 ∨ e.2 p = none := fun e he => by
  by_cases z : p ∈ e.1
  · exact .inl z
  · refine .inr ?_
    cases q : e.2 p with
    | none => rfl
    | some o => rw [E.ex e he p o z q] at hp; cases hp
/-- a new empty list is put into the lots -/
theorem LE.grow (E : LE ps bs σ H ρ pl L) {H1 : Hp} (e : Same H H1) (hp : H p = none) (h1 : H1 p = some (.lst [])) (hn : ∀ q ∈ L, q.1 ≠ n) (hno : ∀ (i : Nat) d, ρ[i]? ≠ some (.ow p d)) :
    LE (p :: ps) bs σ (upd H1 pl (.dK (L.map (fun q => ((Sum.inl q.1 : Key), V.ref q.2.1)) ++ [(Sum.inl n, V.ref p)]))) ρ pl (L ++ [(n, p, [])]) := by
  have W := E.wide e hp (by rw [h1]; trivial)
  have hpl : pl ∈ pl :: L.map (·.2.1) := List.mem_cons_self
  have hne : p ≠ pl := by
    rintro rfl
    rw [E.lt.at_] at hp
    cases hp
  have hpL : ∀ q ∈ L, q.2.1 ≠ p := fun q hq z => by
    obtain ⟨xs, k1, _⟩ := E.lt.inn q hq
    rw [z, hp] at k1
    cases k1
  have hap := W.lt.mem pl hpl
  have sub := out_upd (H := H1) (o := .dK (L.map (fun q => ((Sum.inl q.1 : Key), V.ref q.2.1)) ++ [(Sum.inl n, V.ref p)])) hap
  have bad : ∀ x, x ∈ pl :: (L ++ [((n, p, []) : Lot)]).map (·.2.1) → x ∈ pl :: L.map (·.2.1) ∨ x = p := fun x hx => by
    rcases List.mem_cons.mp hx with z | z
    · exact .inl (z ▸ List.mem_cons_self)
    · rw [List.map_append] at z
      rcases List.mem_append.mp z with z | z
      · exact .inl (List.mem_cons_of_mem _ z)
      · exact .inr (by simpa using z)
  refine ⟨W.en.ghost hap (fun i d z => W.no i pl d z hpl) (W.lt.mine pl hpl) trivial, ⟨?_, fun q hm => ?_, fun x hx => ?_, ?_, ?_, fun x hx => ?_⟩, fun i x d hx hm => ?_⟩
  · rw [List.map_append]
    exact upd_same
  · rcases List.mem_append.mp hm with z | z
    · obtain ⟨ys, k1, k2⟩ := W.lt.inn q z
      exact ⟨ys, by rw [upd_ne (W.lt.ne z)]; exact k1, k2.mono sub⟩
    · rw [show q = (n, p, []) by simpa using z]
      exact ⟨[], by rw [upd_ne hne]; exact h1, .nil⟩
  · rcases bad x hx with z | z
    · exact W.lt.mem x z
    · rw [z]; exact List.mem_cons_self
  · rw [List.map_append]
    have hd := List.nodup_cons.mp E.lt.nd
    refine List.nodup_cons.mpr ⟨fun z => ?_, ?_⟩
    · rcases List.mem_append.mp z with z | z
      · exact hd.1 z
      · exact hne ((show pl = p by simpa using z).symm)
    · rw [List.nodup_append]
      refine ⟨hd.2, by simp, fun x hx y hy e => ?_⟩
      have hy' : y = p := by simpa using hy
      obtain ⟨q, hq, e2⟩ := List.mem_map.mp hx
      exact hpL q hq (by rw [e2, e, hy'])
  · rw [List.map_append, List.nodup_append]
    refine ⟨E.lt.ky, by simp, fun x hx y hy e => ?_⟩
    have hy' : y = n := by simpa using hy
    obtain ⟨q, hq, e2⟩ := List.mem_map.mp hx
    exact hn q hq (by rw [e2, e, hy'])
  · rcases bad x hx with z | z
    · exact W.lt.mine x z
    · rw [z]; exact E.en.free hp
  · rcases bad x hm with z | z
    · exact W.no i x d hx z
    · rw [z] at hx; exact hno i d hx
theorem val_lots (L : List Lot) (n : Int) : (∃ a cs, (n, a, cs) ∈ L ∧ valV (L.map fun q => ((Sum.inl q.1 : Key), V.ref q.2.1)) (Sum.inl n) = some (V.ref a)) ∨ ((∀ q ∈ L, q.1 ≠ n) ∧ valV (L.map fun q => ((Sum.inl q.1 : Key), V.ref q.2.1)) (Sum.inl n) = none) := by
  induction L with
  | nil => exact .inr ⟨(fun _ h => nomatch h), rfl⟩
  | cons q r ih =>
    rw [List.map_cons]
    by_cases e : q.1 = n
    · refine .inl ⟨q.2.1, q.2.2, by rw [← e]; exact List.mem_cons_self, valV_pos (by rw [e])⟩
    · have e2 : ¬ (((Sum.inl q.1 : Key), V.ref q.2.1) : Key × V).1 = Sum.inl n := fun z => e (Sum.inl.inj z)
      rw [valV_neg e2]
      rcases ih with ⟨a, cs, h1, h2⟩ | ⟨h1, h2⟩
      · exact .inl ⟨a, cs, List.mem_cons_of_mem _ h1, h2⟩
      · refine .inr ⟨fun x hx => ?_, h2⟩
        rcases List.mem_cons.mp hx with z | z
        · rw [z]; exact e
        · exact h1 x z
theorem putK_lots {L : List Lot} {n : Int} {v : V} (h : ∀ q ∈ L, q.1 ≠ n) : putK (L.map fun q => ((Sum.inl q.1 : Key), V.ref q.2.1)) (Sum.inl n) v = L.map (fun q => ((Sum.inl q.1 : Key), V.ref q.2.1)) ++ [(Sum.inl n, v)] := by
  unfold putK
  rw [if_neg]
  intro z
  obtain ⟨x, hx, e⟩ := List.any_eq_true.mp z
  obtain ⟨q, hq, rfl⟩ := List.mem_map.mp hx
  exact h q hq (Sum.inl.inj (of_decide_eq_true e))
/-- lots.setdefault(n, []) -/
theorem le_setd (E : LE ps bs σ H ρ pl L) {ty : TE} (h3 : ρ[i]? = some (.raw (.ref pl))) (hy : GD ty ρ (.int n)) (hl : L.length < sizeLine) (Q : VK)
    (q1 : ∀ a H1 cs, LE ps bs σ H1 ρ pl L → (n, a, cs) ∈ L → Q (.ref a) H1) (q2 : ∀ p H1, LE (p :: ps) bs σ H1 ρ pl (L ++ [(n, p, [])]) → Q (.ref p) H1) : tDSetd (tVar i) ty (tLst tNil) σ H Q :=
  ⟨_, E.en.raw h3, pl, rfl, .inl ⟨_, .inl E.lt.at_⟩, hy ps bs σ H E.en _ fun y H1 s1 h1 => ⟨Nat.zero_le _, fun p hp => by
    have E1 := E.mono s1
    have sm : Same H1 (upd H1 p (.lst [])) := same_new hp
    have E2 := E1.mono sm
    refine ⟨_, Sum.inl n, E2.lt.at_, is_int h1, by rw [List.length_map]; exact hl, fun v hv => ?_, fun hv => ?_⟩
    · rcases val_lots L n with ⟨a, cs, k1, k2⟩ | ⟨_, k2⟩
      · rw [k2] at hv
        cases hv
        exact q1 a _ cs E2 k1
      · rw [k2] at hv; cases hv
    · rcases val_lots L n with ⟨a, cs, k1, k2⟩ | ⟨k1, _⟩
      · rw [k2] at hv; cases hv
      · rw [putK_lots k1]
        exact q2 p _ (E1.grow sm hp upd_same k1 fun j d z => by
          have := ow_mu (E1.en.ow z).2.2
          rw [hp] at this
          exact this)⟩⟩
/-- lots.get(n, []) -/
theorem le_get (E : LE ps bs σ H ρ pl L) {ty : TE} (h3 : ρ[i]? = some (.raw (.ref pl))) (hy : GD ty ρ (.int n)) (Q : VK)
    (q1 : ∀ a H1 cs, LE ps bs σ H1 ρ pl L → (n, a, cs) ∈ L → Q (.ref a) H1) (q2 : ∀ p H1, LE ps bs σ H1 ρ pl L → p ∉ ps → H1 p = some (.lst []) → (∀ q ∈ L, q.1 ≠ n) → Q (.ref p) H1) : tDGet2 (tVar i) ty (tLst tNil) σ H Q :=
  ⟨_, E.en.raw h3, pl, rfl, .inl ⟨_, .inl E.lt.at_⟩, hy ps bs σ H E.en _ fun y H1 s1 h1 => ⟨Nat.zero_le _, fun p hp => by
    have E1 := E.mono s1
    have sm : Same H1 (upd H1 p (.lst [])) := same_new hp
    have E2 := E1.mono sm
    refine ⟨_, by rw [is_int h1]; exact DGet.k (k := Sum.inl n) E2.lt.at_, ?_⟩
    rcases val_lots L n with ⟨a, cs, k1, k2⟩ | ⟨k1, k2⟩
    · rw [k2]
      exact q1 a _ cs E2 k1
    · rw [k2]
      exact q2 p _ E2 (E1.en.fresh hp) upd_same k1⟩⟩
/-- xs.append(c), xs one of the lots -/
theorem le_append {recv ti : TE} {P : List Addr → List Lot → Int → Addr → List Cell → Prop} (hr : ∀ Q : VK, (∀ a H1 ps1 L1 n cs, LE ps1 bs σ H1 ρ pl L1 → (n, a, cs) ∈ L1 → P ps1 L1 n a cs → Q (.ref a) H1) → recv σ H Q) (hi : GD ti ρ (dCell c))
    (q : ∀ ps1 L1 n a cs H2, P ps1 L1 n a cs → (n, a, cs) ∈ L1 → (L1.map (·.2.1)).Nodup → cs.length < sizeLine ∧ (LE ps1 bs σ H2 ρ pl (putL L1 a (cs ++ [c])) → D.nx σ H2)) : tDrop (tBM K "list" rAppend recv (tCons ti tNil)) D σ H :=
  hr _ fun a H1 ps1 L1 n cs E1 hq hP => by
    obtain ⟨xs, k1, k2⟩ := E1.lt.inn _ hq
    refine ⟨.inl ⟨rfl, xs, SqL.of k1⟩, hi ps1 bs σ H1 E1.en _ fun v H2 s2 hv => ?_⟩
    have k3 := k2.mono (out_mono s2)
    have hlen : xs.length = cs.length := by have := k2.length; rw [List.length_map] at this; exact this
    have hz := q ps1 L1 n a cs
    refine ⟨a, xs, v, rfl, rfl, s2 _ _ k1, by rw [hlen]; exact (hz H2 hP hq E1.lt.adr).1, (hz _ hP hq E1.lt.adr).2 ((E1.mono s2).write hq ?_)⟩
    rw [List.map_append]
    exact k3.append (.one hv)
/-- xs.pop() -/
theorem le_pop (E : LE ps bs σ H ρ pl L) (hi : ρ[i]? = some (.raw (.ref a))) (hq : (n, a, cs ++ [c]) ∈ L) (Q : VK) (q : ∀ v H', LE ps bs σ H' ρ pl (putL L a cs) → Is (out H' ps) v (dCell c) → Q v H') : tBM0 K "list" rPop (tVar i) σ H Q := by
  obtain ⟨xs, k1, k2⟩ := E.lt.inn _ hq
  have k2' : IsAll (out H ps) xs (cs.map dCell ++ [dCell c]) := by rw [← List.map_singleton (f := dCell), ← List.map_append]; exact k2
  obtain ⟨ys, y, rfl, h5, h6⟩ := dropLast_isAll k2'
  refine ⟨_, E.en.raw hi, .inl ⟨rfl, _, SqL.of k1⟩, a, ys ++ [y], y, rfl, rfl, k1, by simp, ?_⟩
  rw [List.dropLast_concat]
  have hap : a ∈ ps := E.lt.mem a (List.mem_cons_of_mem _ (List.mem_map.mpr ⟨_, hq, rfl⟩))
  exact q y _ (E.write hq h5) (h6.mono (out_upd hap))
/-- such a list seen as a slot's own -/
theorem LE.view (E : LE ps bs σ H ρ pl L) (hi : ρ[i]? = some (.raw (.ref a))) (hq : (n, a, cs) ∈ L) : En ps bs σ H (ρ.set i (.ow a (dCells true cs))) := by
  have ham : a ∈ pl :: L.map (·.2.1) := List.mem_cons_of_mem _ (List.mem_map.mpr ⟨_, hq, rfl⟩)
  refine ⟨E.en.al, E.en.ex, by rw [List.length_set]; exact E.en.len, fun j s h => ?_, fun x y p d r e h1 h2 hxy => ?_, fun j p d h => ?_⟩
  · rcases get_set_cases h with ⟨rfl, rfl⟩ | ⟨_, h⟩
    · exact ⟨_, E.en.raw hi, rfl, E.lt.mem a ham, E.lt.inn _ hq⟩
    · exact E.en.sl j s h
  · rcases get_set_cases h1 with ⟨e1, z1⟩ | ⟨e1, h1⟩
    · cases z1
      rcases get_set_cases h2 with ⟨e2, z2⟩ | ⟨e2, h2⟩
      · exact absurd (e1.trans e2.symm) hxy
      · exact fun z => E.no y r e h2 (z ▸ ham)
    · rcases get_set_cases h2 with ⟨e2, z2⟩ | ⟨e2, h2⟩
      · cases z2
        exact fun z => E.no x p d h1 (z ▸ ham)
      · exact E.en.ne x y p d r e h1 h2 hxy
  · rcases get_set_cases h with ⟨_, z⟩ | ⟨_, h⟩
    · cases z; exact E.lt.mine a ham
    · exact E.en.mine j p d h
end
end DL
namespace DL
open PySem PySem.Spec PyProof.Rows L2
def tLockSQ (t : TS) : TS := fun D σ H => tLock t D σ H ∨ t D σ H
theorem ps_lockQ {X : Cx} {st : Stmt} {t : TS} (h : PS X st t) : PS X st (tLockSQ t) := ⟨fun pins s σ H D I hw => by
  rcases hw with hw | hw
  · exact (ps_lock h).run pins s σ H D I hw
  · exact h.run pins s σ H D I hw⟩
theorem raw_forW {ps : List Addr} {σ : L2.St} {H : Hp} {wi : TI} {g : TG} {tb : TS} {its : List Dt} {D : Ends} (hw : ∀ R : It → Hp → Prop, (∀ J H', Same H H' → WD J its H' ps → R J H') → wi σ H R) (Jv : Hp → Nat → L2.St → Hp → Prop)
    (h0 : ∀ H1, Same H H1 → Jv H1 0 σ H1) (hg : ∀ H1 i σ' H', Jv H1 i σ' H' → Same (out H1 ps) (out H' ps) ∧ ∀ q ∈ ps, Mu (H' q))
    (hs : ∀ H1 i σ' H' H3 x d, Same H H1 → its[i]? = some d → Jv H1 i σ' H' → Same H' H3 → Is (out H3 ps) x d → g x σ' H3 fun σ4 H4 => tb { D with nx := Jv H1 (i + 1), ct := Jv H1 (i + 1), bk := D.nx } σ4 H4)
    (hd : ∀ H1 σ' H', Same H H1 → Jv H1 its.length σ' H' → D.nx σ' H') : tFor wi g tb D σ H :=
  hw _ fun J H1 s1 w => by
    have wk := w ps (fun q hq => .inl hq)
    refine for_it wk (Jv H1) (h0 H1 s1) (fun i σ' H' _ j => hg H1 i σ' H' j) ?_ (fun σ' H' j => hd H1 σ' H' s1 j)
    rintro i x σ2 H2 H3 hi j ⟨s3, d, hd', hx⟩
    exact hs H1 i σ2 H2 H3 x d s1 hd' j s3 hx
theorem raw_while {tc : TT} {tb : TS} {D : Ends} {σ : L2.St} {H : Hp} (J : Nat → L2.St → Hp → Prop) (n0 : Nat) (h0 : J n0 σ H)
    (hs : ∀ n σ' H', J n σ' H' → ∃ b, (∀ Q : Bool → Hp → Prop, (∀ H2, Same H' H2 → Q b H2) → tc σ' H' Q) ∧ (b = true → ∀ H2, Same H' H2 → tb { D with nx := fun σ H => ∃ m, m < n ∧ J m σ H, ct := fun σ H => ∃ m, m < n ∧ J m σ H, bk := D.nx } σ' H2) ∧ (b = false → ∀ H2, Same H' H2 → D.nx σ' H2)) : tWhile tc tb D σ H :=
  ⟨J, ⟨n0, h0⟩, fun n σ' H' j => by
    obtain ⟨b, h1, h2, h3⟩ := hs n σ' H' j
    refine h1 _ fun H2 s2 => ?_
    cases b with
    | true => exact iteT ⟨fun σ H => ∃ m, m < n ∧ J m σ H, fun _ _ h => h, h2 rfl H2 s2⟩
    | false => exact iteF (h3 rfl H2 s2)⟩
section
variable {ps : List Addr} {bs : List (List Addr × Hp)} {σ : L2.St} {H H' : Hp} {ρ : List Sl} {pl : Addr} {L : List Lot}
theorem LE.put {i : Nat} {pf : Addr} {d d' : Dt} {o : HO} (E : LE ps bs σ H ρ pl L) (h : ρ[i]? = some (.ow pf d)) (h' : Ow (upd H pf o) ps pf d') : LE ps bs σ (upd H pf o) (ρ.set i (.ow pf d')) pl L := by
  have hn := E.no i pf d h
  rw [List.mem_cons, not_or] at hn
  have sub := out_upd (H := H) (o := o) (E.en.ow h).2.1
  refine ⟨E.en.put h h', ⟨by rw [upd_ne (fun z => hn.1 z.symm)]; exact E.lt.at_, fun q hq => ?_, E.lt.mem, E.lt.nd, E.lt.ky, E.lt.mine⟩, fun j a e q => ?_⟩
  · obtain ⟨xs, k1, k2⟩ := E.lt.inn q hq
    exact ⟨xs, by rw [upd_ne (fun z => hn.2 (List.mem_map.mpr ⟨q, hq, z⟩))]; exact k1, k2.mono sub⟩
  · rcases get_set_cases q with ⟨_, z⟩ | ⟨_, q⟩
    · cases z; exact E.no i pf d h
    · exact E.no j a e q
theorem LE.base {H1 : Hp} (E : LE ps bs σ H ρ pl L) (h : Same (out H1 ps) (out H ps)) : LE ps ((ps, H1) :: bs) σ H ρ pl L :=
  ⟨E.en.base h, ⟨E.lt.at_, E.lt.inn, E.lt.mem, E.lt.nd, E.lt.ky, fun a ha e he => by
    rcases List.mem_cons.mp he with z | z
    · rw [z]; exact .inl (E.lt.mem a ha)
    · exact E.lt.mine a ha e z⟩, E.no⟩
theorem LE.unbase {e : List Addr × Hp} (E : LE ps (e :: bs) σ H ρ pl L) : LE ps bs σ H ρ pl L := ⟨E.en.unbase, ⟨E.lt.at_, E.lt.inn, E.lt.mem, E.lt.nd, E.lt.ky, fun a ha x hx => E.lt.mine a ha x (List.mem_cons_of_mem _ hx)⟩, E.no⟩
end
theorem stF_f {fs : List (Cell × Int)} {f : Cell → Int} {c : Cell} (h : c ∈ fs.map (·.1)) : stF (fs.map fun q => (q.1, f q.1)) c = f c := by
  have hk : (fs.map fun q => (q.1, f q.1)).map (·.1) = fs.map (·.1) := by rw [List.map_map]; rfl
  have := stF_mem (fs := fs.map fun q => (q.1, f q.1)) (c := c) (by rw [hk]; exact h)
  obtain ⟨q, _, e⟩ := List.mem_map.mp this
  have e1 : q.1 = c := congrArg Prod.fst e
  have e2 : f q.1 = _ := congrArg Prod.snd e
  exact (show stF (fs.map fun q => (q.1, f q.1)) c = f q.1 from e2.symm).trans (congrArg f e1)
theorem look_f {fs : List (Cell × Int)} {f : Cell → Int} {c : Cell} (h : c ∈ fs.map (·.1)) : look ((fs.map fun q => (q.1, f q.1)).map fun q => (q.1, V.int q.2)) c = some (.int (f c)) := by
  rw [stF_look (by rw [List.map_map]; exact h), stF_f h]
theorem put_f {fs : List (Cell × Int)} {f : Cell → Int} {c : Cell} {n : Int} (h : c ∈ fs.map (·.1)) : putD ((fs.map fun q => (q.1, f q.1)).map fun q => (q.1, V.int q.2)) c (.int n) = (fs.map fun q => (q.1, (fun d => if d = c then n else f d) q.1)).map fun q => (q.1, V.int q.2) := by
  unfold putD
  rw [if_pos (by rw [look_f h]; rfl), List.map_map, List.map_map, List.map_map]
  refine List.map_congr_left fun q _ => ?_
  show (if q.1 = c then (q.1, V.int n) else (q.1, V.int (f q.1))) = (q.1, V.int (if q.1 = c then n else f q.1))
  split <;> rfl
theorem isAll_unlock {H : Hp} {a : Addr} {od : Obj} {kvs : List (List Key × V)} {ps : List Addr} {xs : List V} {ds : List Dt} (h : H a = some (.frz od (.dT kvs))) (ha : a ∉ ps) (hx : IsAll (out H ps) xs ds) : IsAll (out (upd H a (.dT kvs)) ps) xs ds := by
  rw [out_updC ha]
  exact hx.unlock (out_of h ha)
def owsIn : List Sl → List Addr
  | [] => []
  | .ow p _ :: r => p :: owsIn r
  | _ :: r => owsIn r
theorem mem_ows : ∀ {ρ : List Sl} {i : Nat} {a : Addr} {d : Dt}, ρ[i]? = some (.ow a d) → a ∈ owsIn ρ
  | [], _, _, _, h => by simp at h
  | .ow p e :: r, 0, a, d, h => by cases h; exact List.mem_cons_self
  | .ow p e :: r, i + 1, a, d, h => List.mem_cons_of_mem _ (mem_ows (ρ := r) (i := i) (by simpa using h))
  | .un :: r, 0, _, _, h => by cases h
  | .im _ :: r, 0, _, _, h => by cases h
  | .raw _ :: r, 0, _, _, h => by cases h
  | .un :: r, i + 1, a, d, h => mem_ows (ρ := r) (i := i) (by simpa using h)
  | .im _ :: r, i + 1, a, d, h => mem_ows (ρ := r) (i := i) (by simpa using h)
  | .raw _ :: r, i + 1, a, d, h => mem_ows (ρ := r) (i := i) (by simpa using h)
theorem En.cell {ps qs : List Addr} {bs : List (List Addr × Hp)} {σ : L2.St} {H : Hp} {ρ : List Sl} {x : V} {c : Cell} (E : En ps bs σ H ρ) (h : Is (out H qs) x (dCell c)) : Is (out H ps) x (dCell c) := by
  obtain ⟨b, rfl, hb⟩ := is_cell h
  have h1 := (out_some hb).1
  exact is_cell_of (out_of h1 (E.tup h1))
section
variable {ps : List Addr} {bs : List (List Addr × Hp)} {σ : L2.St} {H : Hp} {ρ : List Sl} {pl a : Addr} {L : List Lot} {kvs : List (List Key × V)} {od : Obj}
theorem ne_of_mem {ps : List Addr} {x a : Addr} (hx : x ∈ ps) (ha : a ∉ ps) : x ≠ a := fun z => ha (z ▸ hx)
theorem LE.lock (E : LE ps bs σ H ρ pl L) (h : H a = some (.dT kvs)) (ha : a ∉ ps) : LE ps (lockB a bs) σ (upd H a (.frz od (.dT kvs))) ρ pl L := by
  have ne : ∀ x ∈ pl :: L.map (·.2.1), x ≠ a := fun x hx => ne_of_mem (E.lt.mem x hx) ha
  refine ⟨E.en.lock h ha, ⟨by rw [upd_ne (ne pl List.mem_cons_self)]; exact E.lt.at_, fun q hq => ?_, E.lt.mem, E.lt.nd, E.lt.ky, fun x hx e he => ?_⟩, E.no⟩
  · obtain ⟨xs, k1, k2⟩ := E.lt.inn q hq
    refine ⟨xs, by rw [upd_ne (ne _ (List.mem_cons_of_mem _ (List.mem_map.mpr ⟨q, hq, rfl⟩)))]; exact k1, ?_⟩
    rw [out_updC ha]
    exact k2.lock (out_of h ha)
  · obtain ⟨e', he', rfl⟩ := List.mem_map.mp he
    exact (E.lt.mine x hx e' he').imp (List.mem_cons_of_mem _) id
theorem LE.unlock (E : LE ps (lockB a bs) σ H ρ pl L) (h : H a = some (.frz od (.dT kvs))) (hB : ∀ e ∈ bs, ∀ o, a ∉ e.1 → e.2 a = some o → o = .dT kvs) : LE ps bs σ (upd H a (.dT kvs)) ρ pl L := by
  have ha : a ∉ ps := fun z => by
    have := E.en.al a z
    rw [h] at this
    exact this
  have ne : ∀ x ∈ pl :: L.map (·.2.1), x ≠ a := fun x hx => ne_of_mem (E.lt.mem x hx) ha
  have back : ∀ x, x ∈ ps → (∀ e ∈ lockB a bs, x ∈ e.1 ∨ e.2 x = none) → ∀ e ∈ bs, x ∈ e.1 ∨ e.2 x = none := fun x hx hm e he => by
    rcases hm (a :: e.1, e.2) (List.mem_map.mpr ⟨e, he, rfl⟩) with z | z
    · exact .inl ((List.mem_cons.mp z).resolve_left (ne_of_mem hx ha))
    · exact .inr z
  refine ⟨E.en.unlock h ha hB fun i p d hi => back p (E.en.ow hi).2.1 (E.en.mine i p d hi), ⟨by rw [upd_ne (ne pl List.mem_cons_self)]; exact E.lt.at_, fun q hq => ?_, E.lt.mem, E.lt.nd, E.lt.ky, fun x hx => back x (E.lt.mem x hx) (E.lt.mine x hx)⟩, E.no⟩
  obtain ⟨xs, k1, k2⟩ := E.lt.inn q hq
  exact ⟨xs, by rw [upd_ne (ne _ (List.mem_cons_of_mem _ (List.mem_map.mpr ⟨q, hq, rfl⟩)))]; exact k1, isAll_unlock h ha k2⟩
end
theorem ex_max : ∀ (a : Int) (ns : List Int), ∃ m ∈ a :: ns, ∀ y ∈ a :: ns, y ≤ m
  | a, [] => ⟨a, by simp, fun y hy => by rw [show y = a by simpa using hy]; exact Int.le_refl _⟩
  | a, b :: r => by
    obtain ⟨m, h1, h2⟩ := ex_max b r
    by_cases z : m ≤ a
    · exact ⟨a, List.mem_cons_self, fun y hy => by
        rcases List.mem_cons.mp hy with e | e
        · rw [e]; exact Int.le_refl _
        · exact Int.le_trans (h2 y e) z⟩
    · exact ⟨m, List.mem_cons_of_mem _ h1, fun y hy => by
        rcases List.mem_cons.mp hy with e | e
        · rw [e]; omega
        · exact h2 y e⟩
section
variable {ρ : List Sl} {ta : TE} {K : PySem.W.Frag}
theorem gd_maxI {ns : List Int} {m : Int} (ha : GD ta ρ (.seq true (ns.map .int))) (h1 : m ∈ ns) (h2 : ∀ y ∈ ns, y ≤ m) : GD (tCB (rMax K) (tCons ta tNil)) ρ (.int m) :=
  (ge_maxL ha (List.length_pos_of_mem h1)).gd fun e ⟨k, e1, e2, e3⟩ => by
    rw [e1]
    exact congrArg Dt.int (Int.le_antisymm (h2 k e2) (e3 m h1))
theorem wd_rangeC {lo c : Int} {n : Nat} {H : Hp} {ps : List Addr} : WD (Itc lo c n) ((List.range n).map fun (i : Nat) => Dt.int (lo + (i : Nat) * c)) H ps := fun qs hq => by
  have w := walk_rangeC (lo := lo) (c := c) (n := n)
  have e : ((List.range n).map fun (i : Nat) => Dt.int (lo + (i : Nat) * c)).length = n := by simp
  rw [e]
  refine w.mono (fun _ _ => trivial) fun i H1 x H2 hi g y => ?_
  obtain ⟨rfl, rfl⟩ := y
  exact ⟨Same.refl _, .int (lo + (i : Nat) * c), by simp [hi], .int _⟩
theorem gw_down {m : Int} (h : GD ta ρ (.int m)) (h1 : 0 ≤ m) (h2 : m ≤ 1000) : GW (iRng3 (tCons ta (tCons (tC (.int 0)) (tCons (tUn (rU fun i => V.int (-i)) (tC (.int 1))) tNil)))) ρ ((List.range m.toNat).map fun (i : Nat) => Dt.int (m + (i : Nat) * (-1))) := fun ps bs σ H E R r =>
  h ps bs σ H E _ fun v H1 s1 hv => gd_int ps bs σ H1 (E.mono s1) _ fun v2 H2 s2 hv2 => gd_neg gd_int ps bs σ H2 (E.mono (s1.trans s2)) _ fun v3 H3 s3 hv3 =>
    ⟨m, 0, -1, m.toNat, by rw [is_int hv, is_int hv2, is_int hv3], by
      have := RgC.neg (i := m) (j := 0) (by omega) (by omega) (by omega) (by omega)
      rw [Int.sub_zero] at this
      exact this, r _ H3 ((s1.trans s2).trans s3) wd_rangeC⟩
end
end DL
set_option maxHeartbeats 1000000
namespace DL
open PySem PySem.Spec PyProof.Rows L2
section
variable {P : Program} {w : World} {K : PySem.W.Frag} {mg : Str → Option Value} {base : Heap}
abbrev spNecks : Sp := spI (ι := Bool × Grid × List (Cell × Int)) (fun i => [dHeap i.1 i.2.1, dicI i.2.2]) (fun i => Shp i.2.1 ∧ IsSteps i.2.1 i.2.2)
  (fun i d => ∃ nf, d = dicI nf ∧ nf.map (·.1) = i.2.2.map (·.1) ∧ ∀ c ∈ airC i.2.1, 0 ≤ stF nf c ∧ stF nf c ≤ stF i.2.2 c ∧ (0 < stF nf c ↔ Opn i.2.1 c))
/-- the slots while necks are told -/
abbrev rhoN (l : Bool) (g : Grid) (fs : List (Cell × Int)) (pf : Addr) (f : Cell → Int) (pl : Addr) (o5 o6 o7 o8 o9 : Sl) : List Sl := [.im (dHeap l g), .im (dicI fs), .ow pf (dicI (fs.map fun q => (q.1, f q.1))), .raw (.ref pl), .im (.int ((ht g : Int) - 1)), o5, o6, o7, o8, o9]
theorem ca_necks_of (T : Top K mg) : Ca P w K mg base 6 "necks_of" spNecks := by
  have sc := sc_necks_of
  refine ca_of T.f_necks_of (fun _ _ _ _ _ _ us hl => match us, hl with | [_, _], _ => rfl) sc (fun _ => rfl) fun f cdv A outer s H E hr => ⟨_, (pss_cons (ps_par3 (i := 2) (j := 3) (l := 4) rfl sc.nd rfl rfl rfl (by decide) (by decide) (by decide) rfl rfl rfl (pa_cons (pe_callTy (call_dictC rfl (hu_of hr) hr.units) (by rfl) T.b_dict (by decide +kernel) (pa_cons (pe_lockQ (pe_lc (own := [("cell", 5)]) rfl sc.nd (pi_keys (pv 1)) (blkOk_by (own := [("cell", 5)]) (N := N_necks_of) (sc := (defScope s_necks_of)) (by decide +kernel)) (fun _ _ _ _ _ => (pg_name (i := 5) sc.nd rfl (Or.inl rfl))) (fun _ _ _ _ _ => pts_nil) (fun _ _ _ _ _ => (pe_tup (pa_cons (pv 5) (pa_cons pe_int pa_nil)))))) pa_nil)) (pa_cons pe_dnewK (pa_cons (pe_op op_sub (pe_ca (ca_heights_of T) hr (by decide) (by rfl) (pa_cons (pv 0) pa_nil)) pe_int) pa_nil))) (by rfl))
    (pss_cons (ps_lockQ (ps_for PassesOwn.never rfl (pi_keys (pv 1)) (pg_name (i := 5) sc.nd rfl (Or.inl rfl))
      (pss_one (ps_if (pt_cmpR op_eq (pe_ix (ix_seqK (K := K) rfl) (pv 5) pe_int (fun _ _ => rfl)) (pv 4) (nomark _))
        (pss_one (ps_expr (pe_bm PySem.F.plainAttrs_list PySem.F.slot_list_append PySem.F.type_list_append mt_append (pe_dsetd (pv 3) (pe_dget (hu_of hr) (pv 1) (pv 5) (fun _ _ => rfl)) (pe_lst pa_nil) ⟨rfl, rfl, rfl, rfl⟩) (pa_cons (pv 5) pa_nil))))
        pss_nil))))
    (pss_cons (ps_for PassesOwn.never rfl (pi_range3 (by rfl) T.b_range (pa_cons (pe_callB (cr_maxK (K := K) rfl rfl) (by rfl) T.b_max (by decide +kernel) (pa_cons (pe_op op_cat (pe_listVals rfl (by rfl) T.b_list (pv 1)) (pe_lst (pa_cons pe_int pa_nil))) pa_nil)) (pa_cons pe_int (pa_cons (pe_un un_neg pe_int) pa_nil)))) (pg_name (i := 6) sc.nd rfl (Or.inl rfl))
      (pss_cons (ps_set (i := 7) sc.nd rfl (Or.inl rfl) (pe_dget2 (hu_of hr) (pv 3) (pv 6) (pe_lst pa_nil) ⟨rfl, rfl, rfl, rfl⟩))
      (pss_one (ps_while PassesOwn.never (pt_cmpR (op_neDK (K := K) rfl hr.units) (pv 7) (pe_lst pa_nil) (nomark _))
        (pss_cons (ps_set (i := 5) sc.nd rfl (Or.inl rfl) (pe_bm0 PySem.F.plainAttrs_list PySem.F.slot_list_pop PySem.F.type_list_pop mt_pop (pv 7)))
        (pss_one (ps_if (pt_cmpR op_eq (pe_dget (hu_of hr) (pv 2) (pv 5) (fun _ _ => rfl)) pe_int (nomark _))
          (pss_cons (ps_dput (hu_of hr) (pv 2) (pv 5) (pv 6) rfl)
          (pss_one (ps_for PassesOwn.never rfl (pi_seqK (K := K) rfl (pe_ca (ca_beside T) hr (by decide) (by rfl) (pa_cons (pv 0) (pa_cons (pv 5) pa_nil)))) (pg_name (i := 8) sc.nd rfl (Or.inl rfl))
            (pss_one (ps_if (PW.pt (pw_and (pt_cmp (pc_din (hu_of hr) (pv 8) (pv 1))) (pw_and1 (pt_cmpR op_eq (pe_dget (hu_of hr) (pv 2) (pv 8) (fun _ _ => rfl)) pe_int (nomark _)))))
              (pss_cons (ps_set (i := 9) sc.nd rfl (Or.inl rfl) (pe_callB (call_min2Q rfl) (by rfl) T.b_min (by decide +kernel) (pa_cons (pv 6) (pa_cons (pe_dget (hu_of hr) (pv 1) (pv 8) (fun _ _ => rfl)) pa_nil))))
              (pss_one (ps_expr (pe_bm PySem.F.plainAttrs_list PySem.F.slot_list_append PySem.F.type_list_append mt_append (pe_ifExp (pt_cmpR op_eq (pv 9) (pv 6) (nomark _)) (pv 7) (pe_dsetd (pv 3) (pv 9) (pe_lst pa_nil) ⟨rfl, rfl, rfl, rfl⟩)) (pa_cons (pv 8) pa_nil)))))
              pss_nil)))))
          pss_nil)))))))
    (pss_one (ps_ret (pv 2)))))), ?_⟩
  rintro qs ⟨l, g, fs⟩ D ⟨hp, S⟩ hR
  dsimp only at hp S hR
  have hal : (airC g).length < 64 := Nat.lt_of_le_of_lt (List.length_filter_le _ _) (shp_len hp)
  have hfl : fs.length ≤ 63 := by
    have := nodup_len (A := airC g) S.nd fun c hc => (S.ky c).mp hc
    rw [List.length_map] at this
    omega
  intro σ H0 E0
  refine raw_seq (gn_dictC (cs := fs.map (·.1)) (d := fun _ => .int 0) (v := fun _ => .int 0) (GN.gd (GN.cast (gn_lcKY (i := 1) (kvs := fs.map fun q => (q.1, V.int q.2)) (e := fun c => dPair (c, .int 0)) rfl (by rw [List.length_map]; exact sl12 (by omega)) (fun x _ => gg_name (by decide)) (fun x hx => gd_tup (ga_cons (gd_var rfl) (ga_cons gd_int ga_nil)) fw)) (by rw [dicI_keys]))) S.nd (fun _ _ _ h => is_int h) qs _ σ H0 E0 _ fun pf H1 hpf s1 o1 pl hpl => ?_)
  have o1' : Ow H1 (pf :: qs) pf (dicI (fs.map fun q => (q.1, (fun _ => (0 : Int)) q.1))) := by
    have e : ((fs.map (·.1)).map fun c => (c, V.int 0)) = ((fs.map fun q => (q.1, (fun _ => (0 : Int)) q.1)).map fun q => (q.1, V.int q.2)) := by rw [List.map_map, List.map_map]; rfl
    unfold dicI
    rw [← e]
    exact o1
  have E1 := E0.setNew (i := 2) s1 hpf o1'
  have W1 := E0.wide s1 hpf (ow_mu o1)
  have sm := same_new (o := .dK []) hpl
  have W2 := W1.wide (p := pl) sm hpl (by rw [upd_same]; trivial)
  have E2 := (E1.wide (p := pl) sm hpl (by rw [upd_same]; trivial)).setRaw (i := 3) (v := .ref pl)
  refine gd_sub (gd_call (i := (l, g)) (ga_cons (gd_var rfl) ga_nil) hp) gd_int (pl :: pf :: qs) _ σ _ W2 _ fun v3 H3 s3 h3 => ⟨_, _, _, rfl, ?_⟩
  have hplf : pl ≠ pf := by
    rintro rfl
    have := ow_mu o1
    rw [hpl] at this
    exact this
  have hfree := W1.free hpl
  have LE0 : LE (pl :: pf :: qs) [([], H)] (((σ.set 2 (some (.ref pf))).set 3 (some (.ref pl))).set 4 (some v3)) H3 (rhoN l g fs pf (fun _ => 0) pl .un .un .un .un .un) pl [] := by
    refine ⟨(E2.mono s3).setIm (i := 4) h3, ⟨s3 _ _ upd_same, (fun _ h => nomatch h), fun a ha => ?_, by simp, by simp, fun a ha => ?_⟩, fun i a d h hm => ?_⟩
    · rw [show a = pl by simpa using ha]; exact List.mem_cons_self
    · rw [show a = pl by simpa using ha]; exact hfree
    · have ea : a = pl := by simpa using hm
      rw [ea] at h
      exact hplf (by simpa [owsIn] using mem_ows h)
  -- the first lists
  have hk1 : ∀ c ∈ fs.map (·.1), c ∈ airC g := fun c hc => (S.ky c).mp hc
  have first : ∀ (bs' : List (List Addr × Hp)) (H4 : Hp) (a : Addr) (od : Obj) (D' : Ends), LE (pl :: pf :: qs) bs' (((σ.set 2 (some (.ref pf))).set 3 (some (.ref pl))).set 4 (some v3)) H4 (rhoN l g fs pf (fun _ => 0) pl .un .un .un .un .un) pl [] →
      H4 a = some (.frz od (.dT (rawD (fs.map fun q => (q.1, V.int q.2))))) → a ∉ pl :: pf :: qs → (((σ.set 2 (some (.ref pf))).set 3 (some (.ref pl))).set 4 (some v3))[1]? = some (some (.ref a)) →
      (∀ ps1 L o5 σ' H', LE ps1 bs' σ' H' (rhoN l g fs pf (fun _ => 0) pl o5 .un .un .un .un) pl L → FI g fs L fs.length (2 * fs.length) → H' a = some (.frz od (.dT (rawD (fs.map fun q => (q.1, V.int q.2))))) → D'.nx σ' H') →
      tFor (iKeys (tVar 1)) (gName 5) (tIfS (tTest (tOp rEq (tOp (rIx K) (tVar 5) (tC (V.int 1))) (tVar 4))) (tDrop (tBM K "list" rAppend (tDSetd (tVar 3) (tDGet (tVar 1) (tVar 5)) (tLst tNil)) (tCons (tVar 5) tNil))) tNext) D' (((σ.set 2 (some (.ref pf))).set 3 (some (.ref pl))).set 4 (some v3)) H4 := by
    intro bs' H4 a od D' E4 hf ha h1 q
    refine raw_forW (ps := pl :: pf :: qs) (its := (fs.map (·.1)).map dCell) (fun R r => ⟨_, h1, a, od, rfl, .inr ⟨_, hf, r _ H4 (Same.refl H4) (by
      have := wd_keys (K := default) hf ha
      rw [dicI_keys] at this
      exact this)⟩⟩) (fun H5 i σ' H' => ∃ ps1 L o5, LE ps1 ((pl :: pf :: qs, H5) :: bs') σ' H' (rhoN l g fs pf (fun _ => 0) pl o5 .un .un .un .un) pl L ∧ FI g fs L i (2 * i) ∧ ∀ x ∈ pl :: pf :: qs, x ∈ ps1)
      (fun H5 s5 => ⟨_, [], .un, (E4.mono s5).base (Same.refl _), .start, fun x hx => hx⟩) ?_ ?_ ?_
    · rintro H5 i σ' H' ⟨ps1, L, o5, E5, _, hs⟩
      refine ⟨fun x o h => ?_, fun x hx => E5.en.al x (hs x hx)⟩
      obtain ⟨k1, k2⟩ := out_some h
      exact out_of (E5.en.ex _ List.mem_cons_self x o k2 k1) k2
    · rintro H5 i σ' H' H6 x d s5 hd ⟨ps1, L, o5, E5, F5, hs⟩ s6 hx
      obtain ⟨c, hc, rfl⟩ := get_map hd
      have hcm : c ∈ fs.map (·.1) := List.mem_of_getElem? hc
      have hil : i < fs.length := by
        have := (List.getElem?_eq_some_iff.mp hc).1
        rw [List.length_map] at this
        exact this
      have E6 := E5.mono s6
      have E7 := E6.setIm (i := 5) (E6.en.cell hx)
      refine (GT.cast (c := isTop g c) (gt_test (gd_eqI (gd_ix (gd_var rfl) gd_int rfl) (gd_var rfl))) rfl) ps1 _ (σ'.set 5 (some x)) H6 E7.en _ fun H7 s7 => ?_
      have E8 := E7.mono s7
      by_cases hb : isTop g c = true
      · rw [hb]
        refine iteT (le_append (P := fun ps2 L2 n a cs => n = stF fs c ∧ FI g fs L2 i (2 * i + 1) ∧ ∀ x ∈ pl :: pf :: qs, x ∈ ps2) (fun Q r => le_setd E8 (i := 3) (n := stF fs c) rfl (gd_dget (GD.gm (gd_var rfl)) (gd_var rfl) (stF_look hcm) fun _ => .int _) (szlt (by have := F5.sz; omega)) Q
          (fun a H8 cs E9 hm => r a H8 ps1 L _ cs E9 hm ⟨rfl, F5.le (by omega), hs⟩) (fun p H8 E9 => r p H8 (p :: ps1) _ _ [] E9 (List.mem_append_right _ (by simp)) ⟨rfl, F5.new (by obtain ⟨k, k1, k2, _⟩ := S.at (hk1 c hcm); omega), fun x hx => List.mem_cons_of_mem _ (hs x hx)⟩)) (gd_var (i := 5) rfl) ?_)
        rintro ps2 L2 n a cs H9 ⟨rfl, F6, hs2⟩ hm nd
        refine ⟨szlt (by have : cs.length ≤ 2 * i + 1 := F6.szl _ hm; omega), fun E10 => ⟨ps2, _, _, E10, F6.add hm nd hc (hk1 c hcm) (.base (List.mem_filter.mpr ⟨hk1 c hcm, hb⟩)), hs2⟩⟩
      · rw [Bool.not_eq_true] at hb
        rw [hb]
        exact iteF ⟨ps1, L, _, E8, (F5.skip hc (by rw [hb]; decide)).le (by omega), hs⟩
    · rintro H5 σ' H' s5 ⟨ps1, L, o5, E5, F5, hs⟩
      rw [List.length_map, List.length_map] at F5
      exact q ps1 L o5 σ' H' E5.unbase F5 (E5.en.ex _ List.mem_cons_self a _ ha (s5 _ _ hf))
  suffices after : ∀ ps1 L o5 σ' H', LE ps1 [([], H)] σ' H' (rhoN l g fs pf (fun _ => 0) pl o5 .un .un .un .un) pl L → FI g fs L fs.length (2 * fs.length) → tSeq (tFor
          (iRng3
            (tCons (tCB (rMax K) (tCons (tOp rCat (tListVals (tVar 1)) (tLst (tCons (tC (V.int 0)) tNil))) tNil))
              (tCons (tC (V.int 0)) (tCons (tUn (rU fun i => V.int (-i)) (tC (V.int 1))) tNil))))
          (gName 6)
          (tSeq (tAsg (tDGet2 (tVar 3) (tVar 6) (tLst tNil)) (gName 7))
            (tWhile (tTest (tOp (rNeD K) (tVar 7) (tLst tNil)))
              (tSeq
                (tAsg
                  (tBM0 K "list" rPop (tVar 7))
                  (gName 5))
                (tIfS (tTest (tOp rEq (tDGet (tVar 2) (tVar 5)) (tC (V.int 0))))
                  (tSeq (sDPut (tVar 2) (tVar 5) (tVar 6))
                    (tFor
                      (iSeq K
                        (tCall (spCellP fun i d => d = dCells false (near i.snd.fst i.snd.snd)) [] E
                          (tCons (tVar 0) (tCons (tVar 5) tNil))))
                      (gName 8)
                      (tIfS
                        (tAnd (tB (tDIn (tVar 8) (tVar 1))) (tTest (tOp rEq (tDGet (tVar 2) (tVar 8)) (tC (V.int 0)))))
                        (tSeq (tAsg (tCB rMin2Q (tCons (tVar 6) (tCons (tDGet (tVar 1) (tVar 8)) tNil))) (gName 9))
                          (tDrop
                            (tBM K "list" rAppend
                              (tIf (tTest (tOp rEq (tVar 9) (tVar 6))) (tVar 7) (tDSetd (tVar 3) (tVar 9) (tLst tNil)))
                              (tCons (tVar 8) tNil))))
                        tNext)))
                  tNext)))))
        (tRet (tVar 2)) D σ' H' by
    obtain ⟨v, h1, h2⟩ := LE0.en.im (i := 1) rfl
    obtain ⟨a, rfl, h3'⟩ := is_dic h2
    rcases h3' with h3' | ⟨od, h3'⟩
    · obtain ⟨h4, ha⟩ := out_some h3'
      refine .inl ⟨a, _, h4, trivial, fun od => first (lockB a [([], H)]) _ a od _ (LE0.lock h4 ha) upd_same ha h1 fun ps1 L o5 σ' H' E' F' hf => ⟨hf, after ps1 L o5 σ' _ (E'.unlock hf fun e he o ho h0 => ?_) F'⟩⟩
      rw [show e = ([], H) by simpa using he] at h0
      have := LE0.en.ex ([], H) (by simp) a o (by simp) h0
      rw [h4] at this
      exact (Option.some.inj this).symm
    · obtain ⟨h4, ha⟩ := out_some h3'
      exact .inr (first [([], H)] H3 a od _ LE0 h4 ha h1 fun ps1 L o5 σ' H' E' F' hf => after ps1 L o5 σ' H' E' F')
  intro ps1 L1 o5 σ1 H4 E4 F4
  obtain ⟨M, hM1, hM2⟩ := ex_max 0 (fs.map (·.2))
  have hst : ∀ c ∈ airC g, 1 ≤ stF fs c ∧ stF fs c ≤ M := fun c hc => by
    obtain ⟨k, k1, k2, _⟩ := S.at hc
    have := hM2 (stF fs c) (List.mem_cons_of_mem _ (List.mem_map.mpr ⟨(c, stF fs c), stF_mem ((S.ky c).mpr hc), rfl⟩))
    exact ⟨by omega, this⟩
  have hM0 : 0 ≤ M := hM2 0 List.mem_cons_self
  have hM9 : M ≤ 1000 := by
    rcases List.mem_cons.mp hM1 with z | z
    · omega
    · obtain ⟨q, hq, e⟩ := List.mem_map.mp z
      obtain ⟨k, k1, _, k3, _⟩ := S.vl q hq
      have := hp.hgt
      rw [← e, k1]
      omega
  have N0 : NI g fs (fun _ => 0) L1 M (NbF g) 640 := F4.fin S (by omega) fun c hc => (hst c hc).2
  have gmax : ∀ {ρ : List Sl}, ρ[1]? = some (.im (dicI fs)) → GD (tCB (rMax K) (tCons (tOp rCat (tListVals (tVar 1)) (tLst (tCons (tC (V.int 0)) tNil))) tNil)) ρ (.int M) := fun h1 =>
    gd_maxI (ns := fs.map (·.2) ++ [0]) (GD.cast (GN.gd (gn_cat (GN.gd (gn_listVals (kvs := fs) (GD.gm (gd_var h1)))) (GN.gd (gn_lst (ga_cons gd_int ga_nil) fw)) (sz (by rw [List.length_map]; show fs.length + 1 ≤ _; omega)))) (by rw [List.map_append, List.map_map]; rfl)) (by
      rcases List.mem_cons.mp hM1 with z | z
      · rw [z]; simp
      · exact List.mem_append_left _ z) fun y hy => by
      rcases List.mem_append.mp hy with z | z
      · exact hM2 y (List.mem_cons_of_mem _ z)
      · rw [show y = 0 by simpa using z]; exact hM0
  refine raw_seq (raw_forW (ps := ps1) (fun R r => gw_down (gmax rfl) hM0 hM9 ps1 _ _ H4 E4.en R r) (fun H5 i σ' H' => ∃ ps2 L f o5 o6 o7 o8 o9, LE ps2 ((ps1, H5) :: [([], H)]) σ' H' (rhoN l g fs pf f pl o5 o6 o7 o8 o9) pl L ∧ NI g fs f L (M - i) (NbF g) 640 ∧ ∀ x ∈ ps1, x ∈ ps2)
    (fun H5 s5 => ⟨_, _, _, _, _, _, _, _, (E4.mono s5).base (Same.refl _), by rw [show M - ((0 : Nat) : Int) = M by omega]; exact N0, fun x hx => hx⟩) ?_ ?_ ?_)
  · rintro H5 i σ' H' ⟨ps2, L, f, o5, o6, o7, o8, o9, E5, _, hs⟩
    refine ⟨fun x o h => ?_, fun x hx => E5.en.al x (hs x hx)⟩
    obtain ⟨k1, k2⟩ := out_some h
    exact out_of (E5.en.ex _ List.mem_cons_self x o k2 k1) k2
  · rintro H5 i σ' H' H6 x d s5 hd ⟨ps2, L, f, o5, o6, o7, o8, o9, E5, N5, hs⟩ s6 hx
    obtain ⟨k, hk, rfl⟩ := get_map hd
    have hil : i < M.toNat := by
      have := (List.getElem?_eq_some_iff.mp hk).1
      rw [List.length_range] at this
      exact this
    rw [List.getElem?_range hil] at hk
    cases hk
    obtain ⟨m, hm⟩ : ∃ m, m = M - (i : Int) := ⟨_, rfl⟩
    have hm1 : 1 ≤ m := by omega
    rw [← hm] at N5
    have hmi : M - ((i + 1 : Nat) : Int) = m - 1 := by omega
    rw [hmi]
    have ex : x = V.int m := by
      rw [is_int hx]
      congr 1
      omega
    rw [ex]
    have E6 := E5.mono s6
    have E7 := E6.setIm (i := 6) (v := .int m) (d := .int m) (.int m)
    show tSeq _ _ _ (σ'.set 6 (some (.int m))) H6
    refine raw_set (le_get E7 (i := 3) (n := m) rfl (gd_var rfl) _ (fun a H7 cs E8 hmem => ?_) (fun p H7 E8 hpp h0 hno => ?_))
    · have E9 := E8.setRaw (i := 7) (v := .ref a)
      refine raw_while (fun n σ2 H2 => ∃ ps3 L f cs o5 o8 o9, LE ps3 [(ps1, H5), ([], H)] σ2 H2 (rhoN l g fs pf f pl o5 (.im (.int m)) (.raw (.ref a)) o8 o9) pl L ∧ (m, a, cs) ∈ L ∧ NI g fs f L m (NbF g) 640 ∧ n = 5 * unf g f + cs.length ∧ ∀ x ∈ ps1, x ∈ ps3)
        _ ⟨ps2, L, f, cs, o5, o8, o9, E9, hmem, N5, rfl, hs⟩ ?_
      rintro n σ2 H8 ⟨ps3, L, f, cs, o5, o8, o9, E10, hmem, N10, rfl, hs3⟩
      refine ⟨!(cs.map dCell).isEmpty, fun Q q => gt_test (gd_neNil (gl_own rfl) (plain_cells true cs)) ps3 _ _ _ (E10.view (i := 7) rfl hmem) Q q, fun hb H9 s9 => ?_, fun hb H9 s9 => ?_⟩
      · rcases List.eq_nil_or_concat cs with rfl | ⟨cs', c, rfl⟩
        · simp at hb
        rw [List.concat_eq_append] at hmem
        rw [List.concat_eq_append]
        have nd10 := E10.lt.adr
        obtain ⟨hca, hco, hcs⟩ := N10.cel _ hmem c (by simp)
        have hcf : c ∈ fs.map (·.1) := (S.ky c).mpr hca
        have hcg := air_in hca
        refine raw_set (le_pop (E10.mono s9) (i := 7) rfl hmem _ fun v H10 E11 hv => ?_)
        have E12 := E11.setIm (i := 5) hv
        refine (GT.cast (c := decide (f c = 0)) (gt_test (gd_eqI (gd_dget (gm_own (i := 2) rfl) (gd_var (i := 5) rfl) (look_f hcf) (fun _ => .int _)) gd_int)) rfl) ps3 _ _ _ E12.en _ fun H11 s11 => ?_
        have E13 := E12.mono s11
        by_cases hf : f c = 0
        · rw [decide_eq_true hf]
          obtain ⟨v6, k6, k6'⟩ := E13.en.im (i := 6) rfl
          rw [is_int k6'] at k6
          obtain ⟨e1, e2, e3⟩ := E13.en.ow (i := 2) rfl
          obtain ⟨v5, k5, k5'⟩ := E13.en.im (i := 5) rfl
          obtain ⟨b, rfl, hb5⟩ := is_cell k5'
          have hu := unf_set (g := g) (f := f) (n := m) hca hf (by omega)
          refine iteT (raw_seq ⟨_, k6, _, e1, _, k5, pf, _, rfl, DPut.t e3 (out_some hb5).1 (by rw [rawD_length, List.length_map, List.length_map]; exact szlt (by omega)), ?_⟩)
          rw [putK_rawD, put_f hcf]
          have E14 := E13.put (i := 2) (d' := dicI (fs.map fun q => (q.1, (fun d => if d = c then m else f d) q.1))) rfl (show upd H11 pf _ pf = _ from upd_same)
          have N14 := N10.popSet (k := 632) hmem nd10 hf
          obtain ⟨f', ef'⟩ : ∃ f' : Cell → Int, f' = fun d => if d = c then m else f d := ⟨_, rfl⟩
          rw [← ef'] at E14 N14 hu ⊢
          refine raw_forW (ps := ps3) (its := (near g c).map dCell) (fun R r => gw_seq (l := false) (gd_call (i := (l, g, c)) (ga_cons (gd_var rfl) (ga_cons (gd_var rfl) ga_nil)) ⟨hp, hcg⟩) ps3 _ _ _ E14.en R r)
            (fun H12 j σ3 H' => ∃ ps4 L cs4 o8 o9, LE ps4 [(ps3, H12), (ps1, H5), ([], H)] σ3 H' (rhoN l g fs pf f' pl (.im (dCell c)) (.im (.int m)) (.raw (.ref a)) o8 o9) pl L ∧ (m, a, cs4) ∈ L ∧ cs4.length ≤ cs'.length + j ∧ NI g fs f' L m (NbJ g c j) (632 + 2 * j) ∧ ∀ x ∈ ps3, x ∈ ps4)
            (fun H12 s12 => ⟨_, _, cs', o8, o9, (E14.mono s12).base (Same.refl _), putL_new hmem, Nat.le_refl _, N14, fun x hx => hx⟩) ?_ ?_ ?_
          · rintro H12 j σ3 H' ⟨ps4, L4, cs4, o8, o9, E15, _, _, _, hs4⟩
            refine ⟨fun x o h => ?_, fun x hx => E15.en.al x (hs4 x hx)⟩
            obtain ⟨k1, k2⟩ := out_some h
            exact out_of (E15.en.ex _ List.mem_cons_self x o k2 k1) k2
          · rintro H12 j σ3 H' H13 x d s12 hd ⟨ps4, L4, cs4, o8, o9, E15, hm4, hl4, N15, hs4⟩ s13 hx
            obtain ⟨dd, hdd, rfl⟩ := get_map hd
            have hj4 : j < 4 := Nat.lt_of_lt_of_le (List.getElem?_eq_some_iff.mp hdd).1 (near_len g c)
            have hdn : dd ∈ near g c := List.mem_of_getElem? hdd
            have E16 := (E15.mono s13).setIm (i := 8) ((E15.mono s13).en.cell hx)
            have ht : GT (tAnd (tB (tDIn (tVar 8) (tVar 1))) (tTest (tOp rEq (tDGet (tVar 2) (tVar 8)) (tC (V.int 0))))) (rhoN l g fs pf f' pl (.im (dCell c)) (.im (.int m)) (.raw (.ref a)) (.im (dCell dd)) o9) (decide (dd ∈ fs.map (·.1)) && decide (f' dd = 0)) := by
              rw [← dicI_in]
              exact gt_and (gt_B (gd_din (gd_var (i := 8) rfl) (GD.gm (gd_var (i := 1) rfl)))) fun hb => gt_test (gd_eqI (gd_dget (gm_own (i := 2) rfl) (gd_var (i := 8) rfl) (look_f (f := f') (c := dd) (by rw [dicI_in] at hb; exact of_decide_eq_true hb)) (fun _ => .int _)) gd_int)
            refine ht ps4 _ _ _ E16.en _ fun H14 s14 => ?_
            have E17 := E16.mono s14
            by_cases hb2 : dd ∈ fs.map (·.1) ∧ f' dd = 0
            · rw [decide_eq_true hb2.1, decide_eq_true hb2.2]
              have hda := (S.ky dd).mp hb2.1
              have hdo : Opn g dd := .step hco (near_around hdn) hda
              have hds := (hst dd hda).1
              have hmin : GD (tCB rMin2Q (tCons (tVar 6) (tCons (tDGet (tVar 1) (tVar 8)) tNil))) (rhoN l g fs pf f' pl (.im (dCell c)) (.im (.int m)) (.raw (.ref a)) (.im (dCell dd)) o9) (.int (if stF fs dd < m then stF fs dd else m)) :=
                gd_min2 (gd_var (i := 6) rfl) (gd_dget (GD.gm (gd_var (i := 1) rfl)) (gd_var (i := 8) rfl) (stF_look hb2.1) (fun _ => .int _))
              refine iteT (raw_set (hmin ps4 _ _ _ E17.en _ fun v9 H15 s15 hv9 => ?_))
              obtain ⟨lv, hlv⟩ : ∃ lv : Int, lv = if stF fs dd < m then stF fs dd else m := ⟨_, rfl⟩
              rw [← hlv] at hv9
              have hl1 : 1 ≤ lv ∧ lv ≤ m ∧ lv ≤ stF fs dd := by rw [hlv]; split <;> omega
              have E18 := (E17.mono s15).setIm (i := 9) hv9
              refine le_append (c := dd) (pl := pl) (bs := [(ps3, H12), (ps1, H5), ([], H)]) (ρ := rhoN l g fs pf f' pl (.im (dCell c)) (.im (.int m)) (.raw (.ref a)) (.im (dCell dd)) (.im (.int lv))) (P := fun ps5 L5 n b cs5 => n ≤ m ∧ n ≤ stF fs dd ∧ NI g fs f' L5 m (NbJ g c j) (633 + 2 * j) ∧ (∃ cs4', (m, a, cs4') ∈ L5 ∧ cs4'.length ≤ cs'.length + j) ∧ ∀ x ∈ ps3, x ∈ ps5) (fun Q r => ?_) (gd_var (i := 8) rfl) ?_
              · refine gt_test (gd_eqI (gd_var (i := 9) rfl) (gd_var (i := 6) rfl)) ps4 _ _ _ E18.en _ fun H16 s16 => ?_
                have E19 := E18.mono s16
                by_cases z : lv = m
                · rw [decide_eq_true z]
                  exact iteT ⟨_, E19.en.raw (i := 7) rfl, r a H16 ps4 L4 m cs4 E19 hm4 ⟨Int.le_refl _, z ▸ hl1.2.2, N15.le (by omega), ⟨cs4, hm4, hl4⟩, hs4⟩⟩
                · rw [decide_eq_false z]
                  exact iteF (le_setd E19 (i := 3) (n := lv) rfl (gd_var (i := 9) rfl) (szlt (by have := N15.sz; omega)) Q
                    (fun b H17 cs5 E20 hb5 => r b H17 ps4 L4 lv cs5 E20 hb5 ⟨hl1.2.1, hl1.2.2, N15.le (by omega), ⟨cs4, hm4, hl4⟩, hs4⟩)
                    (fun p H17 E20 => r p H17 (p :: ps4) _ lv [] E20 (List.mem_append_right _ (by simp)) ⟨hl1.2.1, hl1.2.2, (N15.new hl1.1).le (by omega), ⟨cs4, List.mem_append_left _ hm4, hl4⟩, fun x hx => List.mem_cons_of_mem _ (hs4 x hx)⟩))
              · rintro ps5 L5 n b cs5 H16 ⟨hnm, hns, N16, ⟨cs4', hm4', hl4'⟩, hs5⟩ hb5 nd5
                refine ⟨szlt (by have : cs5.length + 8 * unf g f' ≤ 633 + 2 * j := N16.szl _ hb5; omega), fun E20 => ?_⟩
                obtain ⟨cs6, h6, hl6⟩ : ∃ cs6, (m, a, cs6) ∈ putL L5 b (cs5 ++ [dd]) ∧ cs6.length ≤ cs'.length + (j + 1) := by
                  by_cases e : b = a
                  · subst e
                    have e2 := adr_eq nd5 hb5 hm4' rfl
                    have e3 : n = m := congrArg Prod.fst e2
                    have e4 : cs5 = cs4' := congrArg (fun q : Lot => q.2.2) e2
                    subst e3 e4
                    exact ⟨_, putL_new hb5, by rw [List.length_append, List.length_singleton]; omega⟩
                  · exact ⟨cs4', putL_old hm4' (fun z => e z.symm), by omega⟩
                exact ⟨ps5, _, cs6, _, _, E20, h6, hl6, ((N16.add hb5 nd5 hda hdo hns).turn hdd fun _ => .inr ⟨_, putL_new hb5, hnm, by simp⟩).le (by omega), hs5⟩
            · have : (decide (dd ∈ fs.map (·.1)) && decide (f' dd = 0)) = false := by
                rw [← Bool.not_eq_true, Bool.and_eq_true, decide_eq_true_eq, decide_eq_true_eq]
                exact hb2
              rw [this]
              refine iteF ⟨ps4, L4, cs4, _, _, E17, hm4, by omega, (N15.turn hdd fun hda => .inl ?_).le (by omega), hs4⟩
              have := (N15.rng dd hda).1
              have : f' dd ≠ 0 := fun z => hb2 ⟨(S.ky dd).mpr hda, z⟩
              omega
          · rintro H12 σ3 H' s12 ⟨ps4, L4, cs4, o8, o9, E15, hm4, hl4, N15, hs4⟩
            rw [List.length_map] at N15 hl4
            have := near_len g c
            exact ⟨_, by rw [List.length_append, List.length_singleton]; omega, ps4, L4, f', cs4, _, _, _, E15.unbase, hm4, N15.full.le (by omega), rfl, fun x hx => hs4 x (hs3 x hx)⟩
        · rw [decide_eq_false hf]
          refine iteF ⟨_, by rw [List.length_append, List.length_singleton]; omega, ps3, _, f, cs', _, _, _, E13, putL_new hmem, N10.popPos hmem nd10 ?_, rfl, hs3⟩
          have := (N10.rng c hca).1
          omega
      · have : cs = [] := by
          cases cs with
          | nil => rfl
          | cons a b => simp at hb
        subst this
        exact ⟨ps3, L, f, _, _, _, _, _, E10.mono s9, N10.down fun q hq e => by rw [key_eq E10.lt.ky hq hmem e], hs3⟩
    · have E9 := E8.setIm (i := 7) (v := .ref p) (d := dCells true []) (.lst (out_of h0 hpp) .nil)
      refine raw_while (fun n σ2 H2 => n = 0 ∧ σ2 = (σ'.set 6 (some (.int m))).set 7 (some (.ref p)) ∧ Same H7 H2) 0 ⟨rfl, rfl, Same.refl _⟩ ?_
      rintro n σ2 H8 ⟨_, rfl, s8⟩
      refine ⟨false, fun Q q => (GT.cast (gt_test (gd_neNil (GD.gl (gd_var rfl)) (plain_cells true []))) rfl) ps2 _ _ _ ((E9.mono s8).en) Q q, (fun z => nomatch z), fun _ H9 s9 => ?_⟩
      exact ⟨ps2, L, f, _, _, _, _, _, (E9.mono s8).mono s9, N5.down fun q hq e => absurd e (hno q hq), hs⟩
  · rintro H5 σ' H' s5 ⟨ps2, L, f, o5, o6, o7, o8, o9, E5, N5, hs⟩
    rw [List.length_map, List.length_range, show M - (M.toNat : Int) = 0 by omega] at N5
    obtain ⟨e1, e2, e3⟩ := E5.en.ow (i := 2) rfl
    have hpq : pf ∉ qs := E0.fresh hpf
    refine ⟨_, e1, hR _ H' _ (fun b hb => E5.en.ex b (List.mem_cons_of_mem _ hb)) (.dic (.inl (out_of e3 hpq))) ⟨_, rfl, by rw [List.map_map]; rfl, fun c hc => ?_⟩⟩
    rw [stF_f ((S.ky c).mpr hc)]
    exact ⟨(N5.rng c hc).1, (N5.rng c hc).2, N5.fin hc⟩
end
end DL
set_option maxHeartbeats 1000000
/-! A call by keywords alone. -/
namespace DL
open PySem PySem.Spec PyProof.Rows L2
section
variable {P : Program} {w : World} {K : PySem.W.Frag} {mg : Str → Option Value} {base : Heap}
/-- as Ca, and the def's own text stands with it -/
structure CaF (P : Program) (w : World) (K : PySem.W.Frag) (mg : Str → Option Value) (base : Heap) (k : Nat) (x : Str) (st : Stmt) (ps : List Str) (sp : Sp) : Prop where
  ex : ∃ (f : Addr) (fd : FuncData), FnOk P w K mg base CX0 k f fd ps sp ∧ mg x = some (.ref f) ∧ PySem.W.keepIn K (.ref f) = true ∧ Binds K fd ps []
    ∧ ∃ (kV doc pm : Value) (an : Option Addr) (cdv ct : Value), fd = PySem.W.fnOf x x (defArgs st) (defBody st) (defScope st) .none kV doc pm an cdv ct
theorem CaF.ca {k : Nat} {x : Str} {st : Stmt} {ps : List Str} {sp : Sp} (c : CaF P w K mg base k x st ps sp) : Ca P w K mg base k x sp := by
  obtain ⟨f, fd, F, a, b, d, _⟩ := c.ex
  exact ⟨f, fd, ps, F, a, b, d⟩
theorem caF_of {ι : Type} {x : Str} {st : Stmt} {N ps : List Str} {k : Nat} {arg : ι → List Dt} {pre : ι → Prop} {post : ι → Dt → Prop} (F : Fn K mg x st)
    (hb : ∀ (kV doc pm : Value) (an : Option Addr) (cdv ct : Value) (us : List Value), us.length = ps.length → bindArgs (PySem.W.fnOf x x (defArgs st) (defBody st) (defScope st) .none kV doc pm an cdv ct) ⟨us, []⟩ = pure (ps.zip us))
    (S : FnScope N ps (defScope st)) (len : ∀ i, (arg i).length = ps.length)
    (hbody : ∀ (f : Addr) (cdv : Value) (A : Around) (outer : List Env) (s : Shared) (H : Hp) (E : XK), Room k (A.deeper (envOfC x (defScope st) s.heap.objs.size f cdv)) →
      ∃ t, PSs (cxOf CX0 P w K mg base N x (defScope st) f cdv A outer s H E).nox (defBody st) t ∧ ∀ qs i D, pre i → Rt qs [([], H)] (post i) D → Ok qs [([], H)] t (rho0 N (arg i)) D) : CaF P w K mg base (k + 1) x st ps (spI arg pre post) := by
  obtain ⟨f, fd, F, hm⟩ := F
  have F2 := F.ex
  obtain ⟨oc, od, kV, doc, pm, an, cdv, ct, osl, e, _, _⟩ := F2
  refine ⟨f, fd, F.ok S (fun vs H Q E h => ?_) (fun cdv A outer s H vs Q E hr h => ?_), hm, F.kp, F.binds hb, kV, doc, pm, an, cdv, ct, e⟩
  · obtain ⟨i, qs, _, h2, h3, _⟩ := h
    rw [h2.length]
    exact len i
  · obtain ⟨i, qs, h1, h2, h3, q⟩ := h
    obtain ⟨t, T, ok⟩ := hbody f cdv A outer s H E hr
    exact ⟨t, T, ok qs i { nx := fun _ H' => Q .non H', rt := Q } h3 (fun v H' d b i p => q v H' d (fun a o h0 => b ([], H) List.mem_cons_self a o (by simp) h0) i p) _ _ (en0 h1 h2)⟩
def rv2 {α : Type} : List α → List α
  | [a, b] => [b, a]
  | l => l
theorem rv2_vals : ∀ {zs : List V} {ws : List Value}, Vals zs ws → Vals (rv2 zs) (rv2 ws)
  | _, _, .nil => .nil
  | _, _, .cons a .nil => .cons a .nil
  | _, _, .cons a (.cons b .nil) => .cons b (.cons a .nil)
  | _, _, .cons a (.cons b (.cons c r)) => .cons a (.cons b (.cons c r))
/-- f(y = e, x = e'): two parameters x, y -/
def tCallR (sp : Sp) (t : TA) : TE := fun σ H Q => t σ H fun zs H1 => zs.length = 2 ∧ sp (rv2 zs) H1 Q E0
theorem pe_caK {X : Cx} {k j : Nat} {x : Str} {st : Stmt} {pa pb : Str} {sp : Sp} {p pos : Pos} {kws : List Keyword} {tk : TA} (c : CaF X.prog X.w X.K X.mg X.base k x st [pa, pb] sp) (hr : Room j X.A) (hk : k ≤ j) (hg : Gl X x)
    (hb : ∀ (kV doc pm : Value) (an : Option Addr) (cdv ct a b : Value), bindArgs (PySem.W.fnOf x x (defArgs st) (defBody st) (defScope st) .none kV doc pm an cdv ct) ⟨[], [(pb, b), (pa, a)]⟩ = pure [(pa, a), (pb, b)])
    (hkw : PK X kws tk) (hall : (backToKw pos (keywordEach kws X.env)).all (·.1.isSome) = true := by rfl) (hks : (backToKw pos (keywordEach kws X.env)).filterMap (·.1) = [pb, pa] := by rfl)
    (hdb : (x == ("__debug__" : Str)) = false := by decide)
    (hpl : ((backTo pos (starEach [] X.env)).any (·.1) || (backToKw pos (keywordEach kws X.env)).any (·.1.isNone)) = false := by rfl) :
    PE X (.Call (.Name x p) [] kws pos) (tCallR sp tk) := by
  obtain ⟨f, fd, F, hm, kp, _, kV, doc, pm, an, cdv, ct, e⟩ := c.ex
  refine ⟨fun pins s σ H Q I h => ?_⟩
  refine wpAny_Call_Name_kw (ld_glob I hg hm ?_ hdb)
  refine PySem.W.callWith_KW0 (h₀ := X.base) I.ok.mod.kin kp hall ?_ hpl
  refine thn (hkw.run pos pins s σ H _ I h) fun ws s2 ⟨zs, H2, I2, rz, l2, q2⟩ => ⟨I2.kIn, ?_⟩
  rw [hks]
  have lw : ws.length = 2 := rz.length.symm.trans l2
  refine run_fnN (us := []) (vs := []) (n := 0) (g := fun _ ws => rv2 ws) (gV := fun _ zs => rv2 zs) F (hr.mono hk) ⟨fun s us ws _ l1 l2 => ?_, fun _ r => rv2_vals r⟩ pass0 I2 .nil rz rfl l2 q2
  match us, l1, ws, l2 with
  | [], _, [b, a], _ => rw [e]; exact .of_eq (hb kV doc pm an cdv ct a b)
end
section
variable {ρ : List Sl}
theorem ge_callR {ι : Type} {arg : ι → List Dt} {pre : ι → Prop} {post : ι → Dt → Prop} {ta tb : TE} {da db : Dt} (i : ι) (h : GA (tCons ta (tCons tb tNil)) ρ [da, db]) (ha : arg i = [db, da]) (hp : pre i) : GE (tCallR (spI arg pre post) (tCons ta (tCons tb tNil))) ρ (post i) := fun ps bs σ H E Q q =>
  h ps bs σ H E _ fun vs H1 s1 h1 => by
    match vs, h1 with
    | [_, _], .cons x (.cons y .nil) => exact ⟨rfl, i, ps, (E.mono s1).al, by rw [ha]; exact .cons y (.cons x .nil), hp, fun v H2 d s2 h2 p => q v H2 d (s1.trans s2) h2 p⟩
end
end DL
set_option maxHeartbeats 1000000
namespace DL
open PySem PySem.Spec PyProof.Rows L2
def Lay1 (g : Grid) (c : Cell) : Prop := Opn g c ∧ nearSt g c = true
theorem opn_air {g : Grid} {c : Cell} (h : Opn g c) : c ∈ airC g := h.inA fun x hx => (List.mem_filter.mp hx).1
noncomputable def symL (g g' : Grid) : List Cell := setC g fun c => (Lay1 g c ∧ ¬ Lay1 g' c) ∨ (Lay1 g' c ∧ ¬ Lay1 g c)
def dHd : List Cell → Dt
  | [] => .non
  | c :: _ => dCell c
def AlikeS (g g' : Grid) : Prop := g.length = g'.length ∧ ht g = ht g'
theorem alike_in {g g' : Grid} (h : AlikeS g g') (c : Cell) : inG g c = inG g' c := by unfold inG; rw [h.1, h.2]
theorem ltC_iff {a b : Cell} : ltC a b = true ↔ a.1 < b.1 ∨ (a.1 = b.1 ∧ a.2 < b.2) := by
  show (if a.1 = b.1 then decide (a.2 < b.2) else decide (a.1 < b.1)) = true ↔ _
  split <;> simp_all <;> omega
theorem minC_spec (x : Cell) (xs : List Cell) : minC x xs ∈ x :: xs ∧ ∀ y ∈ x :: xs, ltC y (minC x xs) = false := by
  unfold minC
  induction xs generalizing x with
  | nil =>
    refine ⟨List.mem_cons_self, fun y hy => ?_⟩
    rw [single hy]
    cases h : ltC x x with
    | false => exact h
    | true => rw [ltC_iff] at h; omega
  | cons z r ih =>
    rw [List.foldl_cons]
    have h := ih (if ltC z x = true then z else x)
    by_cases e : ltC z x = true
    · rw [if_pos e] at h ⊢
      refine ⟨List.mem_cons_of_mem _ h.1, fun y hy => ?_⟩
      rcases List.mem_cons.mp hy with q | q
      · cases hh : ltC y (List.foldl (fun a y => if ltC y a = true then y else a) z r) with
        | false => rfl
        | true =>
          have := h.2 z List.mem_cons_self
          rw [← Bool.not_eq_true, ltC_iff] at this
          rw [ltC_iff] at hh e
          rw [q] at hh
          omega
      · exact h.2 y q
    · rw [if_neg e] at h ⊢
      refine ⟨?_, fun y hy => ?_⟩
      · rcases List.mem_cons.mp h.1 with q | q
        · rw [q]; exact List.mem_cons_self
        · exact List.mem_cons_of_mem _ (List.mem_cons_of_mem _ q)
      · rcases List.mem_cons.mp hy with q | q
        · rw [q]; exact h.2 x List.mem_cons_self
        · rcases List.mem_cons.mp q with q | q
          · cases hh : ltC y (List.foldl (fun a y => if ltC y a = true then y else a) x r) with
            | false => rfl
            | true =>
              have := h.2 x List.mem_cons_self
              rw [← Bool.not_eq_true, ltC_iff] at this
              rw [ltC_iff] at hh e
              rw [q] at hh
              omega
          · exact h.2 y (List.mem_cons_of_mem _ q)
/-- the least is the first in order -/
theorem minC_hd {x : Cell} {xs : List Cell} (hb : ∀ c ∈ x :: xs, Bc c) : dCell (minC x xs) = dHd (sortC (x :: xs)) := by
  obtain ⟨h1, h2⟩ := minC_spec x xs
  cases e : sortC (x :: xs) with
  | nil =>
    have := sortC_mem.mpr h1
    rw [e] at this
    cases this
  | cons y ys =>
    have hs := sortC_sorted (x :: xs)
    rw [e] at hs
    have hy : y ∈ x :: xs := sortC_mem.mp (by rw [e]; exact List.mem_cons_self)
    have hle : cc y ≤ cc (minC x xs) := by
      have := sortC_mem.mpr h1
      rw [e] at this
      rcases List.mem_cons.mp this with z | z
      · rw [z]; exact Int.le_refl _
      · exact (List.pairwise_cons.mp hs).1 _ z
    have hn := h2 y hy
    rw [← Bool.not_eq_true, ltC_iff] at hn
    have b1 := hb _ hy
    have b2 := hb _ h1
    have : minC x xs = y := by
      unfold cc at hle
      obtain ⟨⟨a1, a2⟩, a3, a4⟩ := b1
      obtain ⟨⟨c1, c2⟩, c3, c4⟩ := b2
      refine Prod.ext ?_ ?_ <;> omega
    rw [this]
    rfl
theorem symL_hd {g g' : Grid} (S : Shp g) (A : AlikeS g g') {l : List Cell} (hn : l.Nodup) (h : ∀ c, c ∈ l ↔ (Lay1 g c ∧ ¬ Lay1 g' c) ∨ (Lay1 g' c ∧ ¬ Lay1 g c)) : sortC l = symL g g' := by
  refine setC_of S hn fun c => (h c).trans ⟨fun k => ⟨?_, k⟩, fun k => k.2⟩
  rcases k with k | k
  · exact air_in (opn_air k.1.1)
  · rw [alike_in A]; exact air_in (opn_air k.1.1)
def leastU (a b : List Nat) : Option Nat := (List.range (max a.length b.length)).find? fun r => !decide (a.getD (min r (a.length - 1)) 0 = b.getD (min r (b.length - 1)) 0)
def dOptN : Option Nat → Dt
  | none => .non
  | some k => .int k
section
variable {P : Program} {w : World} {K : PySem.W.Frag} {mg : Str → Option Value} {base : Heap}
theorem ca_first_laid (T : Top K mg) : Ca P w K mg base 8 "first_laid" (spGrid fun i d => ∃ ls, d = dCells true ls ∧ ls.Nodup ∧ ∀ c, c ∈ ls ↔ Lay1 i.2 c) := by
  have sc := sc_first_laid
  refine ca_of T.f_first_laid (fun _ _ _ _ _ _ us hl => match us, hl with | [_], _ => rfl) sc (fun _ => rfl) fun f cdv A outer s H E hr => ⟨_, (pss_cons (ps_set (i := 1) sc.nd rfl (Or.inr rfl) (pe_ca (ca_steps_of T) hr (by decide) (by rfl) (pa_cons (pv 0) pa_nil)))
    (pss_cons (ps_set (i := 2) sc.nd rfl (Or.inr rfl) (pe_ca (ca_necks_of T) hr (by decide) (by rfl) (pa_cons (pv 0) (pa_cons (pv 1) pa_nil))))
    (pss_one (ps_ret (pe_lockQ (pe_lc (own := [("cell", 3)]) rfl sc.nd (pi_keys (pv 1)) (blkOk_by (own := [("cell", 3)]) (N := N_first_laid) (sc := (defScope s_first_laid)) (by decide +kernel)) (fun _ _ _ _ _ => (pg_name (i := 3) sc.nd rfl (Or.inl rfl))) (fun _ _ _ _ _ => pts_one (PW.pt (pw_and (pt_cmpR op_eq (pe_dget (hu_of hr) (pv 1) (pv 3) (fun _ _ => rfl)) pe_int (nomark _)) (pw_and1 (pt_cmpR op_eq (pe_dget (hu_of hr) (pv 2) (pv 3) (fun _ _ => rfl)) pe_int (nomark _)))))) (fun _ _ _ _ _ => (pv 3)))))))), ?_⟩
  rintro qs ⟨l, g⟩ D hp hR
  replace hp : Shp g := hp
  refine ok_set (ge_call (i := (l, g)) (ga_cons (gd_var rfl) ga_nil) hp) ?_
  rintro _ ⟨fs, rfl, S⟩
  replace S : IsSteps g fs := S
  refine ok_set (ge_call (i := (l, g, fs)) (ga_cons (gd_var rfl) (ga_cons (gd_var rfl) ga_nil)) ⟨hp, S⟩) ?_
  rintro _ ⟨nf, rfl, hk, hv⟩
  dsimp only at hk hv
  have hal : (airC g).length < 64 := Nat.lt_of_le_of_lt (List.length_filter_le _ _) (shp_len hp)
  have hfl : fs.length ≤ 64 := by
    have := nodup_len (A := airC g) S.nd fun c hc => (S.ky c).mp hc
    rw [List.length_map] at this
    omega
  refine ok_rtD (d := dCells true ((List.map (fun (q : Cell × Int) => q.1) fs).filter fun c => decide (stF fs c = 1) && decide (stF nf c = 1))) (GD.cast (GN.gd (gn_lcK (i := 1) (kvs := fs.map fun q => (q.1, V.int q.2)) (b := fun c => decide (stF fs c = 1) && decide (stF nf c = 1)) (e := dCell) rfl (by rw [List.length_map]; exact sl12 (by omega)) (fun x _ => gg_name (by decide))
    (fun x hx => gt_and (gt_test (gd_eqI (gd_dget (GD.gm (gd_var rfl)) (gd_var rfl) (stF_look (by rw [dicI_keys] at hx; exact hx)) (fun _ => .int _)) gd_int)) fun _ => gt_test (gd_eqI (gd_dget (GD.gm (gd_var rfl)) (gd_var rfl) (stF_look (by rw [dicI_keys] at hx; rw [hk]; exact hx)) (fun _ => .int _)) gd_int)) (fun x _ _ => gd_var rfl))) (by rw [dicI_keys]; rfl)) hR ⟨_, rfl, List.Pairwise.filter _ S.nd, fun c => ?_⟩
  rw [List.mem_filter, Bool.and_eq_true, decide_eq_true_eq, decide_eq_true_eq, S.ky]
  constructor
  · rintro ⟨h1, h2, h3⟩
    obtain ⟨k, k1, k2, _, k4⟩ := S.at h1
    obtain ⟨_, _, n3⟩ := hv c h1
    exact ⟨n3.mp (by omega), (Ball.one.mp ((k4 1).mpr (by omega))).2⟩
  · rintro ⟨h1, h2⟩
    have ha := opn_air h1
    obtain ⟨k, k1, k2, _, k4⟩ := S.at ha
    obtain ⟨n1, n2, n3⟩ := hv c ha
    have := (k4 1).mp (Ball.one.mpr ⟨ha, h2⟩)
    have := n3.mpr h1
    exact ⟨ha, by omega, by omega⟩
abbrev spTwo (post : Bool × Grid × Bool × Grid → Dt → Prop) : Sp := spI (ι := Bool × Grid × Bool × Grid) (fun i => [dHeap i.1 i.2.1, dHeap i.2.2.1 i.2.2.2]) (fun i => Shp i.2.1 ∧ Shp i.2.2.2 ∧ AlikeS i.2.1 i.2.2.2) post
theorem ca_sure_alike (T : Top K mg) : Ca P w K mg base 1 "sure_alike" (spTwo fun _ d => d = .non) := by
  have sc := sc_sure_alike
  refine ca_ofN T.f_sure_alike (fun _ _ _ _ _ _ us hl => match us, hl with | [_, _], _ => rfl) sc (fun _ => rfl) fun f cdv A outer s H E hr => ⟨_, (pss_one (ps_if (PW.pt (pw_or (pt_cmpR op_ne (pe_callB (call_lenK (K := K) rfl) (by rfl) T.b_len (by decide +kernel) (pa_cons (pv 0) pa_nil)) (pe_callB (call_lenK (K := K) rfl) (by rfl) T.b_len (by decide +kernel) (pa_cons (pv 1) pa_nil)) (nomark _)) (pw_or1 (pt_cmpR op_ne (pe_callB (call_lenK (K := K) rfl) (by rfl) T.b_len (by decide +kernel) (pa_cons (pe_ix (ix_seqK (K := K) rfl) (pv 0) pe_int (fun _ _ => rfl)) pa_nil)) (pe_callB (call_lenK (K := K) rfl) (by rfl) T.b_len (by decide +kernel) (pa_cons (pe_ix (ix_seqK (K := K) rfl) (pv 1) pe_int (fun _ _ => rfl)) pa_nil)) (nomark _)))))
      (pss_one ps_never)
      pss_nil)), ?_⟩
  rintro qs ⟨l, g, l', g'⟩ D ⟨h1, h2, h3⟩ hN hR
  dsimp only at h1 h2 h3
  refine ok_if (GT.cast (c := false) (gt_or (gt_test (gd_neI (gd_wid (gd_var rfl)) (gd_wid (gd_var rfl)))) fun _ => gt_test (gd_neI (gd_ht (gd_var rfl) h1.ne) (gd_ht (gd_var rfl) h2.ne))) (by rw [h3.1, h3.2]; simp)) (fun z => by cases z) fun _ => ok_next fun σ H E => hN rfl σ H E.ex
theorem caF_alike_laid (T : Top K mg) : CaF P w K mg base 5 "alike_laid" s_alike_laid ["section", "other"] (spTwo fun i d => d = .bl (decide (setC i.2.1 (Opn i.2.1) = setC i.2.2.2 (Opn i.2.2.2)))) := by
  have sc := sc_alike_laid
  refine caF_of T.f_alike_laid (fun _ _ _ _ _ _ us hl => match us, hl with | [_, _], _ => rfl) sc (fun _ => rfl) fun f cdv A outer s H E hr => ⟨_, (pss_cons (ps_expr (pe_ca (ca_sure_alike T) hr (by decide) (by rfl) (pa_cons (pv 0) (pa_cons (pv 1) pa_nil))))
    (pss_one (ps_ret (pe_cmpR (op_eqDK (K := K) rfl hr.units) (pe_ca (ca_opened T) hr (by decide) (by rfl) (pa_cons (pv 0) pa_nil)) (pe_ca (ca_opened T) hr (by decide) (by rfl) (pa_cons (pv 1) pa_nil)) (nomark _))))), ?_⟩
  rintro qs ⟨l, g, l', g'⟩ D ⟨h1, h2, h3⟩ hR
  dsimp only at h1 h2 h3
  refine ok_dropS ((gd_call (i := (l, g, l', g')) (ga_cons (gd_var rfl) (ga_cons (gd_var rfl) ga_nil)) ⟨h1, h2, h3⟩).ge (φ := fun _ => True) trivial) ?_
  refine ok_rtD (GD.cast (gd_eqD (d := dCells false (setC g (Opn g))) (e := dCells false (setC g' (Opn g'))) ?_ ?_ (plain_cells false _) (plain_cells false _)) (congrArg Dt.bl (eqv_cells false (setC g (Opn g)) (setC g' (Opn g'))))) hR rfl
  · exact gd_call (i := (l, g)) (ga_cons (gd_var rfl) ga_nil) h1
  · exact gd_call (i := (l', g')) (ga_cons (gd_var rfl) ga_nil) h2
theorem ca_alike_laid (T : Top K mg) : Ca P w K mg base 5 "alike_laid" (spTwo fun i d => d = .bl (decide (setC i.2.1 (Opn i.2.1) = setC i.2.2.2 (Opn i.2.2.2)))) := (caF_alike_laid T).ca
theorem caF_parting_cell (T : Top K mg) : CaF P w K mg base 9 "parting_cell" s_parting_cell ["section", "other"] (spTwo fun i d => d = dHd (symL i.2.1 i.2.2.2)) := by
  have sc := sc_parting_cell
  refine caF_of T.f_parting_cell (fun _ _ _ _ _ _ us hl => match us, hl with | [_, _], _ => rfl) sc (fun _ => rfl) fun f cdv A outer s H E hr => ⟨_, (pss_cons (ps_expr (pe_ca (ca_sure_alike T) hr (by decide) (by rfl) (pa_cons (pv 0) (pa_cons (pv 1) pa_nil))))
    (pss_cons (ps_asg (pe_tup (pa_cons (pe_ca (ca_first_laid T) hr (by decide) (by rfl) (pa_cons (pv 0) pa_nil)) (pa_cons (pe_ca (ca_first_laid T) hr (by decide) (by rfl) (pa_cons (pv 1) pa_nil)) pa_nil))) (pg_tupK (K := K) (n := 2) rfl rfl (pgs_cons (pg_name (i := 2) sc.nd rfl (Or.inr rfl)) (pgs_cons (pg_name (i := 3) sc.nd rfl (Or.inr rfl)) pgs_nil))))
    (pss_cons (ps_set (i := 4) sc.nd rfl (Or.inl rfl) (pe_op op_cat (pe_lc (own := [("cell", 5)]) rfl sc.nd (pi_seqK (K := K) rfl (pv 2)) (blkOk_by (own := [("cell", 5)]) (N := N_parting_cell) (sc := (defScope s_parting_cell)) (by decide +kernel)) (fun _ _ _ _ _ => (pg_name (i := 5) sc.nd rfl (Or.inl rfl))) (fun _ _ _ _ _ => pts_one (pt_cmpR (op_notInQ (K := K) rfl (hu65 hr)) (pv 5) (pv 3) (by rfl))) (fun _ _ _ _ _ => (pv 5))) (pe_lc (own := [("cell", 5)]) rfl sc.nd (pi_seqK (K := K) rfl (pv 3)) (blkOk_by (own := [("cell", 5)]) (N := N_parting_cell) (sc := (defScope s_parting_cell)) (by decide +kernel)) (fun _ _ _ _ _ => (pg_name (i := 5) sc.nd rfl (Or.inl rfl))) (fun _ _ _ _ _ => pts_one (pt_cmpR (op_notInQ (K := K) rfl (hu65 hr)) (pv 5) (pv 2) (by rfl))) (fun _ _ _ _ _ => (pv 5)))))
    (pss_one (ps_ret (pe_ifExp (pt_cmpR (op_neDK (K := K) rfl hr.units) (pv 4) (pe_lst pa_nil) (nomark _)) (pe_callB (cr_minC rfl hr.units) (by rfl) T.b_min (by decide +kernel) (pa_cons (pv 4) pa_nil)) pe_non)))))), ?_⟩
  rintro qs ⟨l, g, l', g'⟩ D ⟨h1, h2, h3⟩ hR
  dsimp only at h1 h2 h3
  refine ok_dropS ((gd_call (i := (l, g, l', g')) (ga_cons (gd_var rfl) (ga_cons (gd_var rfl) ga_nil)) ⟨h1, h2, h3⟩).ge (φ := fun _ => True) trivial) ?_
  refine ok_asgE (vs := [2, 3]) (ge_tup2 (φa := fun d => ∃ ls, d = dCells true ls ∧ ls.Nodup ∧ ∀ c, c ∈ ls ↔ Lay1 g c) (φb := fun d => ∃ ls, d = dCells true ls ∧ ls.Nodup ∧ ∀ c, c ∈ ls ↔ Lay1 g' c) ?_ ?_) ?_
  · exact ge_call (i := (l, g)) (ga_cons (gd_var rfl) ga_nil) h1
  · exact ge_call (i := (l', g')) (ga_cons (gd_var rfl) ga_nil) h2
  rintro _ ⟨_, _, ⟨ls, rfl, n1, m1⟩, ⟨ls', rfl, n2, m2⟩, rfl⟩
  refine ⟨_, gg_tup (ggs_cons (gg_name (by decide)) (ggs_cons (gg_name (by decide)) ggs_nil)) rfl, ?_⟩
  have hls : ls.length < 64 := Nat.lt_of_le_of_lt (nodup_len n1 fun c hc => mem_allC.mpr (air_in (opn_air ((m1 c).mp hc).1))) (shp_len h1)
  have hls' : ls'.length < 64 := Nat.lt_of_le_of_lt (nodup_len n2 fun c hc => mem_allC.mpr (air_in (opn_air ((m2 c).mp hc).1))) (shp_len h2)
  have hf : ∀ (a b : List Cell), (a.filter fun c => !decide (c ∈ b)).length ≤ a.length := fun a b => List.length_filter_le _ _
  have hf1 := hf ls ls'
  have hf2 := hf ls' ls
  refine ok_setD (d := dCells true ((ls.filter fun c => !decide (c ∈ ls')) ++ ls'.filter fun c => !decide (c ∈ ls))) (GD.cast (GN.gd (gn_cat (GN.gd (gn_lc (xs := ls) (f := dCell) (b := fun c => !decide (c ∈ ls')) (e := dCell) (gw_seq (gd_var rfl)) (sl12 (by omega)) (fun x _ => gg_name (by decide)) (fun x _ => gt_test (gd_notInC (gd_var rfl) (gd_var rfl))) (fun x _ _ => gd_var rfl)))
    (GN.gd (gn_lc (xs := ls') (f := dCell) (b := fun c => !decide (c ∈ ls)) (e := dCell) (gw_seq (gd_var rfl)) (sl12 (by omega)) (fun x _ => gg_name (by decide)) (fun x _ => gt_test (gd_notInC (gd_var rfl) (gd_var rfl))) (fun x _ _ => gd_var rfl))) (by rw [List.length_map, List.length_map]; exact sz (by omega)))) (by unfold dCells; rw [List.map_append])) ?_
  have hsym : sortC ((ls.filter fun c => !decide (c ∈ ls')) ++ ls'.filter fun c => !decide (c ∈ ls)) = symL g g' := by
    refine symL_hd h1 h3 ?_ fun c => ?_
    · rw [List.nodup_append]
      refine ⟨n1.filter _, n2.filter _, fun a ha b hb e => ?_⟩
      have ha2 := (List.mem_filter.mp ha).2
      rw [Bool.not_eq_true', decide_eq_false_iff_not] at ha2
      exact ha2 (e ▸ (List.mem_filter.mp hb).1)
    · rw [List.mem_append, List.mem_filter, List.mem_filter, Bool.not_eq_true', Bool.not_eq_true', decide_eq_false_iff_not, decide_eq_false_iff_not, m1, m2]
  have hbc : ∀ c ∈ (ls.filter fun c => !decide (c ∈ ls')) ++ ls'.filter fun c => !decide (c ∈ ls), Bc c := fun c hc => by
    rcases List.mem_append.mp hc with z | z
    · exact h1.bc (air_in (opn_air ((m1 c).mp (List.mem_filter.mp z).1).1))
    · exact h2.bc (air_in (opn_air ((m2 c).mp (List.mem_filter.mp z).1).1))
  refine ok_rt ?_ hR
  show GE _ _ fun d => d = dHd (symL g g')
  rw [← hsym]
  revert hbc
  generalize ((ls.filter fun c => !decide (c ∈ ls')) ++ ls'.filter fun c => !decide (c ∈ ls)) = cs
  intro hbc
  cases cs with
  | nil => exact ge_ifE (b := false) (gt_test ((gd_neNil (GD.gl (gd_var rfl)) (plain_cells true [])).cast rfl)) (fun z => by cases z) fun _ => gd_non.ge rfl
  | cons c r => exact ge_ifE (b := true) (gt_test ((gd_neNil (GD.gl (gd_var rfl)) (plain_cells true (c :: r))).cast rfl)) (fun _ => (gd_minC (c := c) (cs := r) (gd_var rfl)).ge (minC_hd hbc)) fun z => by cases z
theorem ca_parting_cell (T : Top K mg) : Ca P w K mg base 9 "parting_cell" (spTwo fun i d => d = dHd (symL i.2.1 i.2.2.2)) := (caF_parting_cell T).ca
theorem row_len {chs : List (Nat × List Cell)} {g : Grid} (S : Shp g) (O : ChOk g chs) : 0 < (rowOf (chs.map (·.1))).length ∧ (rowOf (chs.map (·.1))).length ≤ 10 := by
  unfold rowOf
  rw [List.length_map, List.length_range]
  refine ⟨Nat.succ_pos _, ?_⟩
  have := S.hgt
  rcases mxN_mem (l := chs.map (·.1)) with z | z
  · omega
  · obtain ⟨p, hp, e⟩ := List.mem_map.mp z
    have := ((O.mm p.1 p.2).mp hp).lt
    omega
theorem atI_row {r : List Nat} {k : Nat} (h : 0 < r.length) : atI (r.map fun n => Dt.int (n : Nat)) (if (r.length : Int) - 1 < (k : Int) then (r.length : Int) - 1 else (k : Int)) = some (.int (r.getD (min k (r.length - 1)) 0 : Nat)) := by
  have e : (if (r.length : Int) - 1 < (k : Int) then (r.length : Int) - 1 else (k : Int)) = ((min k (r.length - 1) : Nat) : Int) := by split <;> omega
  rw [e]
  have hl : min k (r.length - 1) < r.length := by omega
  exact atI_nat (by rw [List.getElem?_map, List.getElem?_eq_getElem hl, List.getD_eq_getElem?_getD, List.getElem?_eq_getElem hl]; rfl)
theorem caF_least_unlike (T : Top K mg) : CaF P w K mg base 11 "least_unlike" s_least_unlike ["section", "other"] (spI (ι := Bool × Grid × Bool × Grid) (fun i => [dHeap i.1 i.2.1, dHeap i.2.2.1 i.2.2.2]) (fun i => Shp i.2.1 ∧ Shp i.2.2.2)
    fun i d => ∃ chs chs', ChOk i.2.1 chs ∧ ChOk i.2.2.2 chs' ∧ d = dOptN (leastU (rowOf (chs.map (·.1))) (rowOf (chs'.map (·.1))))) := by
  have sc := sc_least_unlike
  refine caF_of T.f_least_unlike (fun _ _ _ _ _ _ us hl => match us, hl with | [_, _], _ => rfl) sc (fun _ => rfl) fun f cdv A outer s H E hr => ⟨_, (pss_cons (ps_par (i := 2) (j := 3) rfl sc.nd rfl rfl (by decide) rfl rfl (pa_cons (pe_ca (ca_hollow_row T) hr (by decide) (by rfl) (pa_cons (pv 0) pa_nil)) (pa_cons (pe_ca (ca_hollow_row T) hr (by decide) (by rfl) (pa_cons (pv 1) pa_nil)) pa_nil)) (by rfl))
    (pss_cons (ps_for PassesOwn.never rfl (pi_range1 (by rfl) T.b_range (pa_cons (pe_callB (call_max2Q rfl) (by rfl) T.b_max (by decide +kernel) (pa_cons (pe_callB (call_lenK (K := K) rfl) (by rfl) T.b_len (by decide +kernel) (pa_cons (pv 2) pa_nil)) (pa_cons (pe_callB (call_lenK (K := K) rfl) (by rfl) T.b_len (by decide +kernel) (pa_cons (pv 3) pa_nil)) pa_nil))) pa_nil)) (pg_name (i := 4) sc.nd rfl (Or.inl rfl))
      (pss_one (ps_if (pt_cmpR op_ne (pe_ix (ix_seqK (K := K) rfl) (pv 2) (pe_callB (call_min2Q rfl) (by rfl) T.b_min (by decide +kernel) (pa_cons (pv 4) (pa_cons (pe_op op_sub (pe_callB (call_lenK (K := K) rfl) (by rfl) T.b_len (by decide +kernel) (pa_cons (pv 2) pa_nil)) pe_int) pa_nil))) (fun _ _ => rfl)) (pe_ix (ix_seqK (K := K) rfl) (pv 3) (pe_callB (call_min2Q rfl) (by rfl) T.b_min (by decide +kernel) (pa_cons (pv 4) (pa_cons (pe_op op_sub (pe_callB (call_lenK (K := K) rfl) (by rfl) T.b_len (by decide +kernel) (pa_cons (pv 3) pa_nil)) pe_int) pa_nil))) (fun _ _ => rfl)) (nomark _))
        (pss_one (ps_ret (pv 4)))
        pss_nil)))
    (pss_one (ps_ret pe_non)))), ?_⟩
  rintro qs ⟨l, g, l', g'⟩ D ⟨h1, h2⟩ hR
  dsimp only at h1 h2
  refine ok_parE (ge_call (i := (l, g)) (ga_cons (gd_var rfl) ga_nil) h1) (ge_call (i := (l', g')) (ga_cons (gd_var rfl) ga_nil) h2) ?_
  rintro _ _ ⟨chs, rfl, O⟩ ⟨chs', rfl, O'⟩
  obtain ⟨r1, r2⟩ := row_len h1 O
  obtain ⟨r3, r4⟩ := row_len h2 O'
  replace hR : Rt qs [([], H)] (fun d => d = dOptN (leastU (rowOf (chs.map (·.1))) (rowOf (chs'.map (·.1))))) D := fun v H' d b i p => hR v H' d b i ⟨chs, chs', O, O', p⟩
  revert r1 r2 r3 r4 hR
  generalize rowOf (chs.map (·.1)) = a
  generalize rowOf (chs'.map (·.1)) = b
  intro r1 r2 r3 r4 hR
  have hmx : (if (b.length : Int) > (a.length : Int) then (b.length : Int) else (a.length : Int)).toNat = max a.length b.length := by split <;> omega
  refine ok_seq (ok_for [4] (fun i ρ' => ∃ o, ρ' = [.im (dHeap l g), .im (dHeap l' g'), .im (.seq false (a.map fun n => .int (n : Nat))), .im (.seq false (b.map fun n => .int (n : Nat))), o] ∧ ∀ j < i, a.getD (min j (a.length - 1)) 0 = b.getD (min j (b.length - 1)) 0)
    (GW.cast (gw_range1 (gd_max2 (gd_lenM (gd_var rfl)) (gd_lenM (gd_var rfl))) (by split <;> omega) (by split <;> omega)) (by rw [hmx])) ⟨_, rfl, fun j hj => absurd hj (Nat.not_lt_zero _)⟩ ?_ ?_)
  · rintro H1 i _ d hd ⟨o, rfl, hi⟩
    obtain ⟨k, hk, rfl⟩ := get_map hd
    have hil : i < max a.length b.length := by
      have := (List.getElem?_eq_some_iff.mp hk).1
      rw [List.length_range] at this
      exact this
    rw [List.getElem?_range hil] at hk
    cases hk
    refine ⟨_, gg_name (by decide), ?_⟩
    have e0 : (0 : Int) + (i : Nat) = (i : Nat) := by omega
    rw [e0]
    refine ok_if (GT.cast (gt_test (gd_neI (gd_ix (l := false) (gd_var rfl) (gd_min2 (gd_var rfl) (gd_sub (gd_lenM (gd_var rfl)) gd_int)) (atI_row r1)) (gd_ix (l := false) (gd_var rfl) (gd_min2 (gd_var rfl) (gd_sub (gd_lenM (gd_var rfl)) gd_int)) (atI_row r3))))
      (c := !decide (a.getD (min i (a.length - 1)) 0 = b.getD (min i (b.length - 1)) 0)) (by congr 2; apply propext; omega)) (fun hb => ?_) (fun hb => ?_)
    · refine ok_rtD (gd_var rfl) (hR.wide (fun _ h => h) (fun _ h => List.mem_cons_of_mem _ h) rfl) ?_
      have : leastU a b = some i := by
        unfold leastU
        rw [List.find?_range_eq_some]
        refine ⟨hb, List.mem_range.mpr hil, fun j hj => ?_⟩
        rw [hi j hj]
        simp
      rw [this]
      rfl
    · refine ok_next (ok_nx ⟨.im (.int (i : Nat)), rfl, fun j hj => ?_⟩ rfl)
      rw [Bool.not_eq_false', decide_eq_true_eq] at hb
      by_cases z : j = i
      · rw [z]; exact hb
      · exact hi j (by omega)
  · rintro _ ⟨o, rfl, hi⟩
    rw [List.length_map, List.length_range] at hi
    refine ok_rtD gd_non hR ?_
    have : leastU a b = none := by
      unfold leastU
      rw [List.find?_range_eq_none]
      intro j hj
      rw [hi j hj]
      simp
    rw [this]
    rfl
theorem ca_least_unlike (T : Top K mg) : Ca P w K mg base 11 "least_unlike" (spI (ι := Bool × Grid × Bool × Grid) (fun i => [dHeap i.1 i.2.1, dHeap i.2.2.1 i.2.2.2]) (fun i => Shp i.2.1 ∧ Shp i.2.2.2)
    fun i d => ∃ chs chs', ChOk i.2.1 chs ∧ ChOk i.2.2.2 chs' ∧ d = dOptN (leastU (rowOf (chs.map (·.1))) (rowOf (chs'.map (·.1))))) := (caF_least_unlike T).ca
end
end DL
set_option maxHeartbeats 1000000
/-! What raises Unfit. -/
namespace DL
open PySem PySem.Spec PyProof.Rows L2
/-- X() of an own class without __init__ -/
theorem pmk_own0 {X : Cx} {C : Addr} {bmB : List Value} {B newId initId : String} {x : Str} {p pos : Pos} (F : ExcBaseFacts B newId initId bmB) (q : PySem.W.excIn X.K C bmB newId = true) (gC : X.mg x = some (.ref C)) (kC : PySem.W.keepIn X.K (.ref C) = true) (r : Raises X (.ref C)) (hg : Gl X x)
    (hdb : (x == ("__debug__" : Str)) = false := by decide) : PMk X (.Call (.Name x p) [] [] pos) (fun _ H Q => Q (.ref C) none H) := fun pins s σ H Q I h => by
  refine wpAny_Call_Name_kw (ld_glob I hg gC (PySem.W.callWith_K0 I.kIn kC ?_) hdb)
  obtain ⟨bm, N, nm, qn, bs, hdct, sn, sub, ab, col, dd, k0, k1, k2, k3, k5, mN, hC, hN, hni, T⟩ := exc_obj I.kIn q
  exact wpAny_call_exc_subT F T hC hN hni (fun h' e hm => mk_of I hm r h (I.hok.gone hm.new)) (Nat.zero_le _)
/-- what the top leaves of Unfit -/
structure Unf (K : PySem.W.Frag) (mg : Str → Option Value) (C : Addr) : Prop where
  gP : mg "Unfit" = some (.ref C)
  xP : PySem.W.excIn K C [.type "ValueError", .type "Exception", .type "BaseException", .type "object"] "ValueError.__new__" = true
  kP : PySem.W.keepIn K (.ref C) = true
  bP : PySem.W.subIn K (.ref C) (.type "BaseException") = some true
  tP : PySem.W.typeIn K (.ref C) = some (.type "type")
  iP : PySem.W.isClsIn K C = true
  sP : PySem.W.subIn K (.ref C) (.ref C) = some true
  ex : ExcC K C
  kit : PySem.W.kitOne K (.ref C) (.type "ValueError") = some true
  bV : mg "ValueError" = none
section
variable {P : Program} {w : World} {K : PySem.W.Frag} {mg : Str → Option Value} {base : Heap} {C : Addr}
/-- it may be called by its name, and raises -/
structure CaX (P : Program) (w : World) (K : PySem.W.Frag) (mg : Str → Option Value) (base : Heap) (k : Nat) (x : Str) (sp : Sp) : Prop where
  ex : ∃ (f : Addr) (fd : FuncData) (ps : List Str), FnOk P w K mg base (L2.CX P w) k f fd ps sp ∧ mg x = some (.ref f) ∧ PySem.W.keepIn K (.ref f) = true ∧ Binds K fd ps []
def spX (C : Addr) {ι : Type} (arg : ι → List Dt) (pre : ι → Prop) : Sp := fun vs H Q E => ∃ (i : ι) (ps : List Addr), (∀ q ∈ ps, Mu (H q)) ∧ IsAll (out H ps) vs (arg i) ∧ pre i ∧ ∀ H', Same H H' → E (.ref C) none H'
theorem caX_of {ι : Type} {x : Str} {st : Stmt} {N ps : List Str} {k : Nat} {arg : ι → List Dt} {pre : ι → Prop} (F : Fn K mg x st)
    (hb : ∀ (kV doc pm : Value) (an : Option Addr) (cdv ct : Value) (us : List Value), us.length = ps.length → bindArgs (PySem.W.fnOf x x (defArgs st) (defBody st) (defScope st) .none kV doc pm an cdv ct) ⟨us, []⟩ = pure (ps.zip us))
    (S : FnScope N ps (defScope st)) (len : ∀ i, (arg i).length = ps.length)
    (hbody : ∀ (f : Addr) (cdv : Value) (A : Around) (outer : List Env) (s : Shared) (H : Hp) (E : XK), Room k (A.deeper (envOfC x (defScope st) s.heap.objs.size f cdv)) →
      ∃ t, PSs (cxOf (L2.CX P w) P w K mg base N x (defScope st) f cdv A outer s H E) (defBody st) t ∧ ∀ qs i D, pre i → (∀ H', Bs [([], H)] H' → E (.ref C) none H') → Ok qs [([], H)] t (rho0 N (arg i)) D) : CaX P w K mg base (k + 1) x (spX C arg pre) := by
  obtain ⟨f, fd, F, hm⟩ := F
  refine ⟨f, fd, ps, F.okX S (fun vs H Q E h => ?_) (fun cdv A outer s H vs Q E hr h => ?_), hm, F.kp, F.binds hb⟩
  · obtain ⟨i, qs, _, h2, h3, _⟩ := h
    rw [h2.length]
    exact len i
  · obtain ⟨i, qs, h1, h2, h3, q⟩ := h
    obtain ⟨t, T, ok⟩ := hbody f cdv A outer s H E hr
    exact ⟨t, T, ok qs i { nx := fun _ H' => Q .non H', rt := Q } h3 (fun H' b => q H' fun a o h0 => b ([], H) List.mem_cons_self a o (by simp) h0) _ _ (en0 h1 h2)⟩
theorem pe_caX {X : Cx} {W : WX} {k j : Nat} {x : Str} {sp : Sp} {p pos : Pos} {e : Expr} {es : List Expr} {t : TA} (c : CaX X.prog X.w X.K X.mg X.base k x sp) (tk : Takes X W) (hr : Room j X.A) (hk : k ≤ j) (hg : Gl X x) (ha : PA X (e :: es) t)
    (hdb : (x == ("__debug__" : Str)) = false := by decide) (he : starEach (e :: es) X.env = (false, eval e X.env) :: starEach es X.env := by rfl) (hpl : (backTo pos (starEach es X.env)).any (·.1) = false := by rfl) :
    PE X (.Call (.Name x p) (e :: es) [] pos) (tCallS sp (WE W) t) := by
  obtain ⟨f, fd, ps, F, hm, kp, b⟩ := c.ex
  exact pe_callS F (hr.mono hk) hg hm kp b (fun σ => passAt tk σ) ha hdb he hpl
theorem ok_dropX {ps : List Addr} {bs : List (List Addr × Hp)} {ρ : List Sl} {D : Ends} {ι : Type} {arg : ι → List Dt} {pre : ι → Prop} {W : WX} {ta : TA} {u : TS} (i : ι) (h : GA ta ρ (arg i)) (hp : pre i) (q : ∀ σ H', En ps bs σ H' ρ → W (.ref C) none σ H') : Ok ps bs (tSeq (tDrop (tCallS (spX C arg pre) (WE W) ta)) u) ρ D := fun σ H E =>
  h ps bs σ H E _ fun vs H1 s1 h1 => ⟨i, ps, (E.mono s1).al, h1, hp, fun H2 s2 => q σ H2 (E.mono (s1.trans s2))⟩
abbrev argTwo : Bool × Grid × Bool × Grid → List Dt := fun i => [dHeap i.1 i.2.1, dHeap i.2.2.1 i.2.2.2]
abbrev preUn : Bool × Grid × Bool × Grid → Prop := fun i => i.2.1 ≠ [] ∧ i.2.2.2 ≠ [] ∧ ¬ AlikeS i.2.1 i.2.2.2
theorem caX_sure_alike (T : Top K mg) (U : Unf K mg C) : CaX P w K mg base 1 "sure_alike" (spX C argTwo preUn) := by
  have sc := sc_sure_alike
  refine caX_of T.f_sure_alike (fun _ _ _ _ _ _ us hl => match us, hl with | [_, _], _ => rfl) sc (fun _ => rfl) fun f cdv A outer s H E hr => ⟨_, (pss_one (ps_if (PW.pt (pw_or (pt_cmpR op_ne (pe_callB (call_lenK (K := K) rfl) (by rfl) T.b_len (by decide +kernel) (pa_cons (pv 0) pa_nil)) (pe_callB (call_lenK (K := K) rfl) (by rfl) T.b_len (by decide +kernel) (pa_cons (pv 1) pa_nil)) (nomark _)) (pw_or1 (pt_cmpR op_ne (pe_callB (call_lenK (K := K) rfl) (by rfl) T.b_len (by decide +kernel) (pa_cons (pe_ix (ix_seqK (K := K) rfl) (pv 0) pe_int (fun _ _ => rfl)) pa_nil)) (pe_callB (call_lenK (K := K) rfl) (by rfl) T.b_len (by decide +kernel) (pa_cons (pe_ix (ix_seqK (K := K) rfl) (pv 1) pe_int (fun _ _ => rfl)) pa_nil)) (nomark _)))))
      (pss_one (ps_raise rfl (takes_of rfl rfl rfl rfl) (pmk_own0 PySem.F.excBase_ValueError U.xP U.gP U.kP (raises_own U.bP U.tP) (by rfl))))
      pss_nil)), ?_⟩
  rintro qs ⟨l, g, l', g'⟩ D ⟨h1, h2, h3⟩ hE
  dsimp only at h1 h2 h3
  refine ok_if (GT.cast (c := true) (gt_or (gt_test (gd_neI (gd_wid (gd_var rfl)) (gd_wid (gd_var rfl)))) fun _ => gt_test (gd_neI (gd_ht (gd_var rfl) h1) (gd_ht (gd_var rfl) h2))) ?_) (fun _ => ?_) (fun z => nomatch z)
  · by_cases e1 : (g.length : Int) = g'.length
    · have e2 : ¬ (ht g : Int) = ht g' := fun e2 => h3 ⟨by omega, by omega⟩
      rw [decide_eq_false e2]
      simp
    · rw [decide_eq_false e1]
      rfl
  · exact fun σ H' E' => hE H' E'.ex
theorem caX_alike_laid (T : Top K mg) (U : Unf K mg C) : CaX P w K mg base 2 "alike_laid" (spX C argTwo preUn) := by
  have sc := sc_alike_laid
  refine caX_of T.f_alike_laid (fun _ _ _ _ _ _ us hl => match us, hl with | [_, _], _ => rfl) sc (fun _ => rfl) fun f cdv A outer s H E hr => ⟨_, (pss_cons (ps_expr (pe_caX (caX_sure_alike T U) (takes_of rfl rfl rfl rfl) hr (by decide) (by rfl) (pa_cons (pv 0) (pa_cons (pv 1) pa_nil))))
    (pss_one ps_never)), ?_⟩
  rintro qs ⟨l, g, l', g'⟩ D hp hE
  exact ok_dropX (i := (l, g, l', g')) (ga_cons (gd_var rfl) (ga_cons (gd_var rfl) ga_nil)) hp fun σ H' E' => hE H' E'.ex
theorem caX_parting_cell (T : Top K mg) (U : Unf K mg C) : CaX P w K mg base 2 "parting_cell" (spX C argTwo preUn) := by
  have sc := sc_parting_cell
  refine caX_of T.f_parting_cell (fun _ _ _ _ _ _ us hl => match us, hl with | [_, _], _ => rfl) sc (fun _ => rfl) fun f cdv A outer s H E hr => ⟨_, (pss_cons (ps_expr (pe_caX (caX_sure_alike T U) (takes_of rfl rfl rfl rfl) hr (by decide) (by rfl) (pa_cons (pv 0) (pa_cons (pv 1) pa_nil))))
    (pss_cons ps_never (pss_cons ps_never (pss_one ps_never)))), ?_⟩
  rintro qs ⟨l, g, l', g'⟩ D hp hE
  exact ok_dropX (i := (l, g, l', g')) (ga_cons (gd_var rfl) (ga_cons (gd_var rfl) ga_nil)) hp fun σ H' E' => hE H' E'.ex
end
end DL
set_option maxHeartbeats 1000000
/-! The reply to sections of unlike sizes. -/
namespace DL
open PySem PySem.Spec PyProof.Rows L2
theorem raw_if {tt : TT} {ta tb : TE} {σ : L2.St} {H : Hp} {Q : VK} (h : tt σ H fun c H1 => if c = true then ta σ H1 Q else tb σ H1 Q) : tIf tt ta tb σ H Q := h
theorem ps_and {X : Cx} {st : Stmt} {t : TS} {p : Prop} (h : p → PS X st t) : PS X st (fun D σ H => p ∧ t D σ H) := ⟨fun pins s σ H D I hw => (h hw.1).run pins s σ H D I hw.2⟩
section
variable {P : Program} {w : World} {K : PySem.W.Frag} {mg : Str → Option Value} {base : Heap} {C : Addr}
def tSuite (K : PySem.W.Frag) (C a : Addr) (cls : Value) (d : Option Addr) : TS := fun D σ H => (cls = .ref C ∧ d = none) ∧ tAsg (tLst (tCons (tC (.str (Str.ofString "unfit"))) (tCons (tCB (rIsE K C a) (tCons (tVar 4) (tCons (tC (.ty "ValueError")) tNil))) tNil))) (gName 3) D σ H
theorem ca__law_reply (T : Top K mg) (U : Unf K mg C) : Ca P w K mg base 3 "_law_reply" (spI (ι := Bool × Bool × Grid × Bool × Grid) (fun i => .bl i.1 :: argTwo i.2) (fun i => preUn i.2) (fun _ d => d = .seq true [.str (Str.ofString "unfit"), .bl true])) := by
  have sc := sc__law_reply
  refine ca_of T.f__law_reply (fun _ _ _ _ _ _ us hl => match us, hl with | [_, _, _], _ => rfl) sc (fun _ => rfl) fun f cdv A outer s H E hr => ⟨_, (pss_cons (ps_set (i := 3) sc.nd rfl (Or.inl rfl) pe_non)
    (pss_cons (ps_try_as (i := 4) (tb := fun W => tAsg (tIf (tB (tVar 0)) (tCallS (spX C argTwo preUn) (WE W) (tCons (tVar 1) (tCons (tVar 2) tNil))) (tCallS (spX C argTwo preUn) (WE W) (tCons (tVar 1) (tCons (tVar 2) tNil)))) (gName 3)) (ts := tSuite K C) (Wout := fun _ _ _ _ => False) rfl rfl sc.nd rfl rfl ⟨by rfl, by decide, .inl U.gP⟩ takes0
      (fun W pn xe tk _ => pss_one (ps_set (i := 3) sc.nd rfl (Or.inl rfl) (pe_ifExp (pt_val (pv 0)) (pe_caX (caX_parting_cell T U) tk hr (by decide) (by rfl) (pa_cons (pv 1) (pa_cons (pv 2) pa_nil))) (pe_caX (caX_alike_laid T U) tk hr (by decide) (by rfl) (pa_cons (pv 1) (pa_cons (pv 2) pa_nil))))))
      (fun a oe cls d pn hz hf => pss_one (ps_and fun hcd => ps_set (i := 3) sc.nd rfl (Or.inl rfl) (pe_lst (pa_cons pe_str (pa_cons (pe_callB (call_isE U.ex (by rw [← hcd.1, ← hcd.2]; exact hz) hf) (by rfl) T.b_isinstance (by decide +kernel) (pa_cons (pv 4) (pa_cons (pe_bltn (v := .ty "ValueError") (u := .type "ValueError") (by rfl) U.bV (by decide +kernel) rfl) pa_nil))) pa_nil))))))
    (pss_one (ps_ret (pv 3))))), ?_⟩
  rintro qs ⟨b, l, g, l', g'⟩ D hp hR
  refine ok_setD gd_non ?_
  intro σ H1 E1
  refine raw_seq ?_
  have wish : ∀ H2, Same H1 H2 → wAs K (.ref C) 4 (tSuite K C) (fun _ _ _ _ => False) { nx := fun σ H => tRet (tVar 3) D σ H, rt := D.rt, bk := D.bk, ct := D.ct } (.ref C) none σ H2 := fun H2 s2 => by
    refine ⟨true, PySem.W.exm_ref U.bP U.ex.hd U.tP U.sP, fun _ a ha => ⟨⟨rfl, rfl⟩, ?_⟩, fun z => nomatch z⟩
    have E2 := (E1.mono s2).setRaw (i := 4) (v := .ref a)
    refine ⟨_, E2.raw (i := 4) rfl, .ty "ValueError", .type "ValueError", true, rfl, fun u r => r, U.kit, by show 2 ≤ sizeLine; rw [sizeLine_eq]; omega, fun p hp => ?_⟩
    have E3 := ((E2.mono (same_new (o := .lst [.str (Str.ofString "unfit"), .bl true]) hp)).setIm (i := 3) (v := .ref p) (d := .seq true [.str (Str.ofString "unfit"), .bl true]) (.lst (out_of upd_same (E2.fresh hp)) (.cons (.str _) (.cons (.bl _) .nil)))).clear (i := 4)
    exact ok_rtD (gd_var rfl) hR rfl _ _ E3
  refine raw_set1 (raw_if (gt_B (gd_var (i := 0) (d := .bl b) rfl) qs _ σ H1 E1 _ fun H2 s2 => ?_))
  have ha : GA (tCons (tVar 1) (tCons (tVar 2) tNil)) [.im (.bl b), .im (dHeap l g), .im (dHeap l' g'), .im .non, .un] (argTwo (l, g, l', g')) := ga_cons (gd_var rfl) (ga_cons (gd_var rfl) ga_nil)
  have call : tCallS (spX C argTwo preUn) (WE (wAs K (.ref C) 4 (tSuite K C) (fun _ _ _ _ => False) { nx := fun σ H => tRet (tVar 3) D σ H, rt := D.rt, bk := D.bk, ct := D.ct })) (tCons (tVar 1) (tCons (tVar 2) tNil)) σ H2 (fun v H1 => tRet (tVar 3) D (σ.set 3 (some v)) H1) :=
    ha qs _ σ H2 (E1.mono s2) _ fun vs H3 s3 h3 => ⟨(l, g, l', g'), qs, (E1.mono (s2.trans s3)).al, h3, hp, fun H4 s4 => wish H4 ((s2.trans s3).trans s4)⟩
  cases b with
  | true => exact iteT call
  | false => exact iteF call
end
end DL
set_option maxHeartbeats 1000000
/-! sorted(xs), xs a list of tuples of cells. -/
namespace DL
open PySem PySem.Spec PyProof.Rows L2
def rSortH : List V → Hp → VK → Prop := fun xs H Q => ∃ (a : Addr) (hs : List (List Cell)) (ys : List V), xs = [.ref a] ∧ H a = some (.lst ys) ∧ IsAll H ys (hs.map (dCells false)) ∧ (∀ h ∈ hs, h ≠ []) ∧ hs.length ≤ 1000 ∧
  ∀ p (hs' : List (List Cell)) (zs : List V), H p = none → hs'.Perm hs → zs.Perm ys → (∀ H', IsAll H' ys (hs.map (dCells false)) → IsAll H' zs (hs'.map (dCells false))) → Q (.ref p) (upd H p (.lst zs))
abbrev VCs := V × List Cell
theorem isAll_zip {H : Hp} : ∀ {hs : List (List Cell)} {ys : List V}, IsAll H ys (hs.map (dCells false)) → ∀ b ∈ ys.zip hs, Is H b.1 (dCells false b.2)
  | [], _, .nil, b, hb => nomatch hb
  | h :: hs, _, .cons a t, b, hb => by
    rw [List.zip_cons_cons] at hb
    rcases List.mem_cons.mp hb with z | z
    · rw [z]; exact a
    · exact isAll_zip t b z
theorem isAll_unzip {H : Hp} : ∀ {bs : List VCs}, (∀ b ∈ bs, Is H b.1 (dCells false b.2)) → IsAll H (bs.map (·.1)) ((bs.map (·.2)).map (dCells false))
  | [], _ => .nil
  | b :: bs, h => .cons (h b List.mem_cons_self) (isAll_unzip fun c hc => h c (List.mem_cons_of_mem _ hc))
theorem each_zip : ∀ {hs : List (List Cell)} {ys : List V} {us : List Value}, ys.length = hs.length → Vals ys us → PySem.W.EachIs (fun v (b : VCs) => RelV b.1 v) us (ys.zip hs)
  | [], _, _, h, r => by
    cases r with
    | nil => exact .nil
    | cons _ _ => cases h
  | _ :: _, _, _, h, r => by
    cases r with
    | nil => cases h
    | cons a t => exact .cons a (each_zip (by simpa using h) t)
theorem each_vals : ∀ {bs : List VCs} {us : List Value}, PySem.W.EachIs (fun v (b : VCs) => RelV b.1 v) us bs → Vals (bs.map (·.1)) us
  | _, _, .nil => .nil
  | _, _, .cons a t => .cons a (each_vals t)
theorem each_and {α β : Type} {R S : α → β → Prop} : ∀ {as : List α} {bs : List β}, PySem.W.EachIs R as bs → (∀ a b, b ∈ bs → R a b → S a b) → PySem.W.EachIs S as bs
  | _, _, .nil, _ => .nil
  | _, _, .cons a t, h => .cons (h _ _ List.mem_cons_self a) (each_and t fun a b m r => h a b (List.mem_cons_of_mem _ m) r)
def encH (b : VCs) : PyData := PySem.W.Datum.toD (PySem.W.Tup.mk b.2)
theorem hold_tup {X : Cx} {pins : List (Addr × Obj)} {σ : L2.St} {H : Hp} {s : Shared} (I : Inv X pins σ H s) {y : V} {v : Value} {cs : List Cell} (h : Is H y (dCells false cs)) (r : RelV y v) : PySem.W.Holds s.heap v (PySem.W.Tup.mk cs) := by
  obtain ⟨a, xs, rfl, ha, hx⟩ := is_tup h
  cases r
  obtain ⟨_, its, rv, tt⟩ := I.hok a _ ha
  exact PySem.W.holds_tup tt (hold_cells I hx (by simpa using rv))
theorem cr_sortH {X : Cx} (hc : X.calm = true) (hu : X.A.units + 64 < cLine) : CallR X (.builtin "sorted") rSortH := by
  rintro pins s σ H xs us Q I r ⟨a, hs, ys, rfl, ha, hy, hne, h1, q⟩
  rw [Vals.ref1 r]
  obtain ⟨its, rv, hl, hz⟩ := I.list (SqL.of ha)
  have hlen : ys.length = hs.length := by have := hy.length; rw [List.length_map] at this; exact this
  have e := each_zip hlen rv
  have er : PySem.W.EachIs (fun v (b : VCs) => ∃ as, Reads s.heap v (encH b) as) its (ys.zip hs) := each_and e fun v b hb rb => hold_tup I (isAll_zip hy b hb) rb
  have hzl : (ys.zip hs).length = hs.length := by rw [List.length_zip, hlen, Nat.min_self]
  refine PySem.W.sorted_data (enc := encH) (R := fun v (b : VCs) => RelV b.1 v) hl.isList e er (PySem.W.AllAlike.of fun b b' => PySem.W.DatumOrd.alike (PySem.W.Tup.mk b.2) (PySem.W.Tup.mk b'.2)) (.inl fun d hd => ?_) (by rw [hzl, sizeLine_eq]; omega) (fun b _ => ?_) fun out ho eo => ?_
  · obtain ⟨b, hb, rfl⟩ := List.mem_map.mp hd
    have hb2 := hne b.2 (List.of_mem_zip hb).2
    obtain ⟨v, cs⟩ := b
    cases cs with
    | nil => exact absurd rfl hb2
    | cons c r => exact ⟨_, _, rfl⟩
  · have := PySem.W.Datum.depth_le (PySem.W.Tup.mk b.2)
    have h2 : PySem.W.Datum.depth (PySem.W.Tup Cell) ≤ 32 := by decide
    show X.A.units + 2 + (PySem.W.Datum.toD (PySem.W.Tup.mk b.2)).depth < cLine
    omega
  · have pm : ((ys.zip hs).mergeSort (PySem.W.dataLe false encH)).Perm (ys.zip hs) := List.mergeSort_perm _ _
    generalize (ys.zip hs).mergeSort (PySem.W.dataLe false encH) = bs at eo pm
    have p1 : (bs.map (·.1)).Perm ys := by
      have := pm.map Prod.fst
      rw [List.map_fst_zip (Nat.le_of_eq hlen)] at this
      exact this
    have p2 : (bs.map (·.2)).Perm hs := by
      have := pm.map Prod.snd
      rw [List.map_snd_zip (Nat.le_of_eq hlen.symm)] at this
      exact this
    obtain ⟨ep, he'⟩ := PyProof.Rows.sortedAll_at s.heap its (List.toArray out)
    refine ⟨.ref _, upd H (s.heap.objs.size + 1) (.lst (bs.map (·.1))), I.laid (t' := s.toks) (fun _ _ => PyProof.Rows.sortedAll_old) (Nat.le_succ _) ⟨by rw [p1.length_eq]; exact hz, out, ep, each_vals eo, he'⟩, rfl,
      q _ (bs.map (·.2)) (bs.map (·.1)) (I.hok.fresh (Nat.le_succ _)) p2 p1 fun H' hA => isAll_unzip fun b hb => isAll_zip hA b (pm.mem_iff.mp hb)⟩
section
variable {ρ : List Sl} {ta : TE}
theorem gne_sortH {hs : List (List Cell)} (ha : GL ta ρ (hs.map (dCells false))) (h1 : ∀ h ∈ hs, h ≠ []) (h2 : hs.length ≤ 1000) : GNE (tCB rSortH (tCons ta tNil)) ρ (fun d => ∃ hs' : List (List Cell), hs'.Perm hs ∧ d = .seq true (hs'.map (dCells false))) := fun ps bs σ H E Q q =>
  ha ps bs σ H E _ fun a xs H1 s1 e1 e2 => ⟨a, hs, xs, rfl, e1, e2.mono out_le, h1, h2, fun p hs' zs hp h3 h4 h5 => q p _ (.seq true (hs'.map (dCells false))) (Same.free s1 hp) (s1.trans (same_new hp)) ⟨zs, upd_same, h5 _ (e2.mono (same_wide (same_new hp) hp))⟩ ⟨hs', h3, rfl⟩⟩
end
end DL
set_option maxHeartbeats 1000000
namespace DL
open PySem PySem.Spec PyProof.Rows L2
def atV (g : Grid) (c : Cell) : Option Int := if (decide (0 ≤ c.1) && decide (c.1 < (g.length : Int))) = true ∧ c.2 < (ht g : Int) then some (if c.2 < 0 then -1 else atG g c) else none
def rb (c : Cell) : List Cell := [(c.1 - 1, c.2), (c.1 + 1, c.2), (c.1, c.2 - 1), (c.1, c.2 + 1)]
theorem rb_around {c d : Cell} : d ∈ rb c ↔ d ∈ around c := by
  simp only [rb, around, List.mem_cons, List.not_mem_nil, or_false]
  constructor <;> rintro (h | h | h | h) <;> simp [h]
/-- the cells of a kind: air, stuff -/
def kindC (g : Grid) (b : Bool) : List Cell := (allC g).filter fun c => decide (atG g c = 0) == b
theorem mem_kindC {g : Grid} {b : Bool} {c : Cell} : c ∈ kindC g b ↔ inG g c = true ∧ (decide (atG g c = 0) == b) = true := by
  unfold kindC
  rw [List.mem_filter, mem_allC]
theorem kind_air (g : Grid) : kindC g true = airC g := by
  unfold kindC airC
  congr 1
  funext c
  simp
theorem atV_in {g : Grid} {c : Cell} (h : inG g c = true) : atV g c = some (atG g c) := by
  obtain ⟨⟨h1, h2⟩, h3, h4⟩ := inG_iff.mp h
  unfold atV
  rw [if_pos ⟨by rw [decide_eq_true h1, decide_eq_true h2]; rfl, h4⟩, if_neg (by omega)]
theorem atV_nn {g : Grid} {c : Cell} {v : Int} (h : atV g c = some v) (hv : 0 ≤ v) : inG g c = true ∧ v = atG g c := by
  unfold atV at h
  split at h
  · rename_i k
    rw [Bool.and_eq_true, decide_eq_true_eq, decide_eq_true_eq] at k
    split at h
    · cases h; omega
    · exact ⟨inG_iff.mpr ⟨k.1, by omega, k.2⟩, (Option.some.inj h).symm⟩
  · cases h
theorem atG_nn {g : Grid} (S : Shp g) {c : Cell} (h : inG g c = true) : 0 ≤ atG g c := by
  obtain ⟨col, e1, e2⟩ := atG_col h
  exact S.nn col e2 _ (List.mem_of_getElem? (atG_get S h e1))
theorem mem_kindV {g : Grid} (S : Shp g) {b : Bool} {c : Cell} : c ∈ kindC g b ↔ ∃ v, atV g c = some v ∧ 0 ≤ v ∧ (decide (v = 0) == b) = true := by
  rw [mem_kindC]
  constructor
  · rintro ⟨h1, h2⟩
    exact ⟨_, atV_in h1, atG_nn S h1, h2⟩
  · rintro ⟨v, h1, h2, h3⟩
    obtain ⟨h4, h5⟩ := atV_nn h1 h2
    exact ⟨h4, h5 ▸ h3⟩
theorem plain_int (i : Int) : plainD (.int i) := ⟨rfl, shaped_of rfl (by show PyData.depth (.int i) ≤ 64; simp [PyData.depth])⟩
theorem plain_non : plainD .non := ⟨rfl, shaped_of rfl (by show PyData.depth .none ≤ 64; simp [PyData.depth])⟩
theorem plain_opt : ∀ a : Option Int, plainD (dOpt a)
  | none => plain_non
  | some i => plain_int i
theorem eqv_opt (a : Option Int) (i : Int) : PyData.eqv (py (dOpt a)) (py (.int i)) = decide (a = some i) := by
  cases a with
  | none => rfl
  | some j => rw [dOpt, eqv_int]; simp
section
variable {ρ : List Sl} {te : TE} {d : Dt}
theorem ok_nextS {ps : List Addr} {bs : List (List Addr × Hp)} {D : Ends} {u : TS} (h : Ok ps bs u ρ D) : Ok ps bs tNext ρ { D with nx := fun σ H => u D σ H } := h
theorem gnD_frz {i : Nat} {p : Addr} {kvs : List (Cell × V)} (hi : ρ[i]? = some (.ow p d)) (h : GN te (ρ.set i (.im d)) (.dic kvs)) : GN te ρ (.dic kvs) := fun ps bs σ H E Q q => h _ bs σ H (E.frzAt hi) Q fun p' H' hp s o => q p' H' hp s o
end
section
variable {P : Program} {w : World} {K : PySem.W.Frag} {mg : Str → Option Value} {base : Heap}
theorem ca__law_at (T : Top K mg) : Ca P w K mg base 1 "_law_at" (spI (ι := Bool × Grid × Cell) (fun i => [dHeap i.1 i.2.1, .int i.2.2.1, .int i.2.2.2]) (fun i => Shp i.2.1) (fun i d => d = dOpt (atV i.2.1 i.2.2))) := by
  have sc := sc__law_at
  refine ca_of T.f__law_at (fun _ _ _ _ _ _ us hl => match us, hl with | [_, _, _], _ => rfl) sc (fun _ => rfl) fun f cdv A outer s H E hr => ⟨_, (pss_cons (ps_if (PW.pt (pw_or (pt_not (pt_chain op_le op_lt pe_int (pv 1) (pe_callB (call_lenK (K := K) rfl) (by rfl) T.b_len (by decide +kernel) (pa_cons (pv 0) pa_nil)))) (pw_or1 (pt_cmpR op_ge (pv 2) (pe_callB (call_lenK (K := K) rfl) (by rfl) T.b_len (by decide +kernel) (pa_cons (pe_ix (ix_seqK (K := K) rfl) (pv 0) pe_int (fun _ _ => rfl)) pa_nil)) (nomark _)))))
      (pss_one (ps_ret pe_non))
      pss_nil)
    (pss_one (ps_ret (pe_ifExp (pt_cmpR op_lt (pv 2) pe_int (nomark _)) (pe_un un_neg pe_int) (pe_ix (ix_seqK (K := K) rfl) (pe_ix (ix_seqK (K := K) rfl) (pv 0) (pv 1) (fun _ _ => rfl)) (pv 2) (fun _ _ => rfl)))))), ?_⟩
  rintro qs ⟨l, g, c⟩ D hp hR
  replace hp : Shp g := hp
  refine ok_seq (ok_if (gt_or (gt_not (gt_test (gd_chain gd_int (gd_var rfl) (gd_wid (gd_var rfl))))) fun _ => gt_test (gd_ge (gd_var rfl) (gd_ht (gd_var rfl) hp.ne))) (fun hb => ?_) (fun hb => ok_nextS (ok_rt ?_ hR)))
  · refine ok_rtD gd_non hR ?_
    dsimp only at hb
    show Dt.non = dOpt (atV g c)
    unfold atV
    rw [if_neg]
    · rfl
    · rintro ⟨h1, h2⟩
      rw [h1, decide_eq_false (by omega)] at hb
      cases hb
  · have h1 : (decide (0 ≤ c.1) && decide (c.1 < (g.length : Int))) = true := by
      cases z : (decide (0 ≤ c.1) && decide (c.1 < (g.length : Int))) with
      | true => rfl
      | false => rw [z] at hb; cases hb
    dsimp only at hb
    rw [h1, Bool.not_true, Bool.false_or, decide_eq_false_iff_not] at hb
    have hv : atV g c = some (if c.2 < 0 then -1 else atG g c) := by
      unfold atV
      rw [if_pos ⟨h1, by omega⟩]
    show GE _ _ fun d => d = dOpt (atV g c)
    rw [hv]
    rw [Bool.and_eq_true, decide_eq_true_eq, decide_eq_true_eq] at h1
    refine ge_ifE (gt_test (gd_lt (gd_var rfl) gd_int)) (fun z => ?_) (fun z => ?_)
    · rw [decide_eq_true_eq] at z
      dsimp only at z
      rw [if_pos z]
      exact (gd_neg gd_int).ge rfl
    · rw [decide_eq_false_iff_not] at z
      dsimp only at z
      rw [if_neg z]
      exact (gd_at hp (inG_iff.mpr ⟨h1, by omega, by omega⟩) (gd_var rfl) (gd_var rfl) (gd_var rfl)).ge rfl
theorem ca__law_round_about (T : Top K mg) : Ca P w K mg base 1 "_law_round_about" (spI (ι := Cell) (fun c => [dCell c]) (fun _ => True) (fun c d => d = dCells true (rb c))) := by
  have sc := sc__law_round_about
  refine ca_of T.f__law_round_about (fun _ _ _ _ _ _ us hl => match us, hl with | [_], _ => rfl) sc (fun _ => rfl) fun f cdv A outer s H E hr => ⟨_, (pss_cons (ps_asg (pv 0) (pg_tupK (K := K) (n := 2) rfl rfl (pgs_cons (pg_name (i := 1) sc.nd rfl (Or.inl rfl)) (pgs_cons (pg_name (i := 2) sc.nd rfl (Or.inl rfl)) pgs_nil))))
    (pss_one (ps_ret (pe_lst (pa_cons (pe_tup (pa_cons (pe_op op_sub (pv 1) pe_int) (pa_cons (pv 2) pa_nil))) (pa_cons (pe_tup (pa_cons (pe_op op_add (pv 1) pe_int) (pa_cons (pv 2) pa_nil))) (pa_cons (pe_tup (pa_cons (pv 1) (pa_cons (pe_op op_sub (pv 2) pe_int) pa_nil))) (pa_cons (pe_tup (pa_cons (pv 1) (pa_cons (pe_op op_add (pv 2) pe_int) pa_nil))) pa_nil)))))))), ?_⟩
  rintro qs c D - hR
  refine ok_asg (gd_var rfl) (gg_tup (vs := [1, 2]) (ggs_cons (gg_name (by decide)) (ggs_cons (gg_name (by decide)) ggs_nil)) rfl) ?_
  exact ok_rtD (GN.gd (gn_lst (ga_cons (gd_tup (ga_cons (gd_sub (gd_var rfl) gd_int) (ga_cons (gd_var rfl) ga_nil)) fw)
    (ga_cons (gd_tup (ga_cons (gd_add (gd_var rfl) gd_int) (ga_cons (gd_var rfl) ga_nil)) fw)
    (ga_cons (gd_tup (ga_cons (gd_var rfl) (ga_cons (gd_sub (gd_var rfl) gd_int) ga_nil)) fw)
    (ga_cons (gd_tup (ga_cons (gd_var rfl) (ga_cons (gd_add (gd_var rfl) gd_int) ga_nil)) fw) ga_nil)))) fw)) hR rfl
theorem ca__law_all_spots (T : Top K mg) : Ca P w K mg base 1 "_law_all_spots" (spGrid fun i d => d = dCells true (allC i.2)) := by
  have sc := sc__law_all_spots
  refine ca_of T.f__law_all_spots (fun _ _ _ _ _ _ us hl => match us, hl with | [_], _ => rfl) sc (fun _ => rfl) fun f cdv A outer s H E hr => ⟨_, (pss_cons (ps_set (i := 1) sc.nd rfl (Or.inl rfl) (pe_lst pa_nil))
    (pss_cons (ps_for PassesOwn.never rfl (pi_range1 (by rfl) T.b_range (pa_cons (pe_callB (call_lenK (K := K) rfl) (by rfl) T.b_len (by decide +kernel) (pa_cons (pv 0) pa_nil)) pa_nil)) (pg_name (i := 2) sc.nd rfl (Or.inr rfl))
      (pss_one (ps_set (i := 1) sc.nd rfl (Or.inl rfl) (pe_op op_cat (pv 1) (pe_lc (own := [("_law_h", 3)]) rfl sc.nd (pi_range1 (by rfl) T.b_range (pa_cons (pe_callB (call_lenK (K := K) rfl) (by rfl) T.b_len (by decide +kernel) (pa_cons (pe_ix (ix_seqK (K := K) rfl) (pv 0) pe_int (fun _ _ => rfl)) pa_nil)) pa_nil)) (blkOk_by (own := [("_law_h", 3)]) (N := N__law_all_spots) (sc := (defScope s__law_all_spots)) (by decide +kernel)) (fun _ _ _ _ _ => (pg_name (i := 3) sc.nd rfl (Or.inl rfl))) (fun _ _ _ _ _ => pts_nil) (fun _ _ _ _ _ => (pe_tup (pa_cons (pv 2) (pa_cons (pv 3) pa_nil)))))))))
    (pss_one (ps_ret (pv 1))))), ?_⟩
  rintro qs ⟨l, g⟩ D hp hR
  replace hp : Shp g := hp
  have hw := hp.wid
  have hh := hp.hgt
  let F : Nat → List Cell := fun i => (List.range (ht g)).map fun (j : Nat) => ((i : Int), (j : Int))
  have hFl : ∀ i, (F i).length = ht g := fun i => by show ((List.range (ht g)).map _).length = _; rw [List.length_map, List.length_range]
  refine ok_setD (d := dCells true []) (GN.gd (gn_lst ga_nil fw)) ?_
  refine ok_seq (ok_for [2] (fun i ρ' => ∃ o2, ρ' = [.im (dHeap l g), .im (dCells true ((List.range i).flatMap F)), o2, .un]) (gw_range1 (gd_wid (l := l) (g := g) (gd_var rfl)) (by omega) (by omega)) ⟨_, rfl⟩ ?_ ?_)
  · rintro H1 i _ d hd ⟨o2, rfl⟩
    rw [Int.toNat_natCast] at hd
    obtain ⟨k, hk, rfl⟩ := get_map hd
    have hil : i < g.length := by
      have := (List.getElem?_eq_some_iff.mp hk).1
      rw [List.length_range] at this
      exact this
    rw [List.getElem?_range hil] at hk
    cases hk
    have e0 : (0 : Int) + (i : Nat) = (i : Nat) := by omega
    rw [e0]
    have hlen : ((List.range i).flatMap F).length ≤ 200 := by
      have : ∀ n, ((List.range n).flatMap F).length = n * ht g := by
        intro n
        induction n with
        | zero => simp
        | succ n ih => rw [List.range_succ, List.flatMap_append, List.length_append, ih, List.flatMap_cons, List.flatMap_nil, List.append_nil, hFl, Nat.succ_mul]
      rw [this]
      have := Nat.mul_le_mul (Nat.le_of_lt (Nat.lt_of_lt_of_le hil hw)) hh
      omega
    refine ⟨_, gg_name (by decide), ?_⟩
    refine ok_set1D (d := dCells true ((List.range (i + 1)).flatMap F)) (GD.cast (GN.gd (gn_cat (gd_var rfl) (GN.gd (gn_lcY (xs := List.range (ht g)) (f := fun (j : Nat) => Dt.int (0 + (j : Nat))) (e := fun (j : Nat) => dCell ((i : Int), (j : Int)))
      (gw_range1 (gd_ht (gd_var rfl) hp.ne) (by omega) (by omega)) (sl12 (by rw [List.length_range]; omega)) (fun x _ => gg_name (by decide)) (fun x _ => GD.cast (gd_tup (ga_cons (gd_var rfl) (ga_cons (gd_var rfl) ga_nil)) fw) (by simp [dCell])))) (by rw [List.length_map, List.length_map, List.length_range]; exact sz (by omega)))) ?_) (ok_nx ⟨_, rfl⟩ rfl)
    unfold dCells
    rw [List.range_succ, List.flatMap_append, List.map_append, List.flatMap_cons, List.flatMap_nil, List.append_nil, List.map_map]
    rfl
  · rintro _ ⟨o2, rfl⟩
    refine ok_rtD (gd_var rfl) hR ?_
    rw [Int.toNat_natCast, List.length_map, List.length_range]
    rfl
theorem ca__law_grown (T : Top K mg) : Ca P w K mg base 2 "_law_grown" (spI (ι := Bool × Grid × List Cell × Bool) (fun i => [dHeap i.1 i.2.1, dCells true i.2.2.1, .bl i.2.2.2]) (fun i => Shp i.2.1 ∧ i.2.2.1.Nodup ∧ ∀ c ∈ i.2.2.1, inG i.2.1 c = true)
    (fun i d => d = dCells true (setC i.2.1 (Rch (kindC i.2.1 i.2.2.2) (i.2.2.1.filter fun c => decide (atG i.2.1 c = 0) == i.2.2.2))))) := by
  have sc := sc__law_grown
  refine ca_of T.f__law_grown (fun _ _ _ _ _ _ us hl => match us, hl with | [_, _, _], _ => rfl) sc (fun _ => rfl) fun f cdv A outer s H E hr => ⟨_, (pss_cons (ps_setLc (i := 3) (own := [("_law_own", 5)]) rfl sc.nd rfl rfl (sw_true rfl rfl rfl (by decide +kernel)) (pi_seqK (K := K) rfl (pv 1)) (blkOk_by (own := [("_law_own", 5)]) (N := N__law_grown) (sc := (defScope s__law_grown)) (by decide +kernel)) (fun _ _ _ _ _ => (pg_name (i := 5) sc.nd rfl (Or.inl rfl))) (fun _ _ _ _ _ => pts_one (pt_cmpR op_eq (pe_cmpR (op_eqDK (K := K) rfl hr.units) (pe_ca (ca__law_at T) hr (by decide) (by rfl) (pa_cons (pv 0) (pa_cons (pe_ix (ix_seqK (K := K) rfl) (pv 5) pe_int (fun _ _ => rfl)) (pa_cons (pe_ix (ix_seqK (K := K) rfl) (pv 5) pe_int (fun _ _ => rfl)) pa_nil)))) pe_int (nomark _)) (pv 2) (nomark _))) (fun _ _ _ _ _ => (pv 5)))
    (pss_cons (ps_set (i := 4) sc.nd rfl (Or.inl rfl) (pe_callTy (call_dictC rfl (hu_of hr) hr.units) (by rfl) T.b_dict (by decide +kernel) (pa_cons (pe_lc (own := [("_law_own", 5)]) rfl sc.nd (pi_seqK (K := K) rfl (pv 3)) (blkOk_by (own := [("_law_own", 5)]) (N := N__law_grown) (sc := (defScope s__law_grown)) (by decide +kernel)) (fun _ _ _ _ _ => (pg_name (i := 5) sc.nd rfl (Or.inl rfl))) (fun _ _ _ _ _ => pts_nil) (fun _ _ _ _ _ => (pe_tup (pa_cons (pv 5) (pa_cons pe_bl pa_nil))))) pa_nil)))
    (pss_cons (ps_while PassesOwn.never (pt_cmpR (op_neDK (K := K) rfl hr.units) (pv 3) (pe_lst pa_nil) (nomark _))
      (pss_cons (ps_set (i := 5) sc.nd rfl (Or.inl rfl) (pe_bm0 PySem.F.plainAttrs_list PySem.F.slot_list_pop PySem.F.type_list_pop mt_pop (pv 3)))
      (pss_one (ps_for PassesOwn.never rfl (pi_seqK (K := K) rfl (pe_ca (ca__law_round_about T) hr (by decide) (by rfl) (pa_cons (pv 5) pa_nil))) (pg_name (i := 6) sc.nd rfl (Or.inl rfl))
        (pss_cons (ps_set (i := 7) sc.nd rfl (Or.inl rfl) (pe_ca (ca__law_at T) hr (by decide) (by rfl) (pa_cons (pv 0) (pa_cons (pe_ix (ix_seqK (K := K) rfl) (pv 6) pe_int (fun _ _ => rfl)) (pa_cons (pe_ix (ix_seqK (K := K) rfl) (pv 6) pe_int (fun _ _ => rfl)) pa_nil)))))
        (pss_one (ps_if (PW.pt (pw_and (pt_cmp (pc_dnotin (hu_of hr) (pv 6) (pv 4))) (pw_and (pt_cmpR op_notNQ (pv 7) pe_non (nomark _)) (pw_and (pt_cmpR op_ge (pv 7) pe_int (nomark _)) (pw_and1 (pt_cmpR op_eq (pe_cmpR (op_eqDK (K := K) rfl hr.units) (pv 7) pe_int (nomark _)) (pv 2) (nomark _)))))))
          (pss_cons (ps_dput (hu_of hr) (pv 4) (pv 6) pe_bl rfl)
          (pss_one (ps_expr (pe_bm PySem.F.plainAttrs_list PySem.F.slot_list_append PySem.F.type_list_append mt_append (pv 3) (pa_cons (pv 6) pa_nil)))))
          pss_nil)))))))
    (pss_one (ps_ret (pe_callB (cr_sortD rfl) (by rfl) T.b_sorted (by decide +kernel) (pa_cons (pv 4) pa_nil))))))), ?_⟩
  rintro qs ⟨l, g, sd, b⟩ D ⟨hp, hn, hi⟩ hR
  dsimp only at hn hi
  replace hp : Shp g := hp
  let F : List Cell := sd.filter fun c => decide (atG g c = 0) == b
  let G : List Cell := kindC g b
  have hF : F.Nodup := hn.filter _
  have hFG : ∀ c ∈ F, c ∈ G := fun c hc => mem_kindC.mpr ⟨hi c (List.mem_filter.mp hc).1, (List.mem_filter.mp hc).2⟩
  have hln : G.length ≤ 64 := Nat.le_trans (List.length_filter_le _ _) (Nat.le_of_lt (shp_len hp))
  have hsd : sd.length ≤ 64 := Nat.le_trans (nodup_len hn fun c hc => mem_allC.mpr (hi c hc)) (Nat.le_of_lt (shp_len hp))
  have hFl : F.length ≤ G.length := nodup_len hF hFG
  refine ok_setN (d := dCells true F) (gn_lc (xs := sd) (f := dCell) (b := fun c => decide (atG g c = 0) == b) (e := dCell) (gw_seq (gd_var rfl)) (sl12 (by omega)) (fun x _ => gg_name (by decide))
    (fun x hx => gt_test (gd_eqB (GD.cast (gd_eqD (d := .int (atG g x)) (GD.cast (gd_call (i := (l, g, x)) (ga_cons (gd_var rfl) (ga_cons (gd_ix (gd_var rfl) gd_int rfl) (ga_cons (gd_ix (gd_var rfl) gd_int rfl) ga_nil))) hp) (by dsimp only; rw [atV_in (hi x hx)]; rfl)) gd_int (plain_int _) (plain_int _)) (congrArg Dt.bl (eqv_int _ _))) (gd_var rfl))) (fun x _ _ => gd_var rfl)) fun r hr => ?_
  refine ok_setN (d := tD F) (gnD_frz (i := 3) rfl (gn_dictC (cs := F) (d := fun _ => .bl true) (v := fun _ => .bl true) (GN.gd (gn_lcY (xs := F) (f := dCell) (e := fun c => dPair (c, .bl true)) (gw_seq (gd_var rfl)) (sl12 (by omega)) (fun x _ => gg_name (by decide)) (fun x hx => gd_tup (ga_cons (gd_var rfl) (ga_cons gd_bl ga_nil)) fw))) hF (fun _ _ _ h => is_bl h))) fun p hp' => ?_
  refine ok_seq (ok_while (fun n ρ' => ∃ ks ls o5 o6 o7, ρ' = [.im (dHeap l g), .im (dCells true sd), .im (.bl b), .ow r (dCells true ls), .ow p (tD ks), o5, o6, o7] ∧ Fl G F ks ls ∧ n = 2 * (G.length - ks.length) + ls.length ∧ n ≤ 2 * G.length) (2 * (G.length - F.length) + F.length) ⟨F, F, _, _, _, rfl, Fl.start hF hFG, rfl, by omega⟩ ?_)
  rintro n _ ⟨ks, ls, o5, o6, o7, rfl, fl, rfl, hcap⟩
  refine ⟨_, gt_test (gd_neNil (ds := ls.map dCell) (gl_own rfl) (plain_cells true ls)), fun hb => ?_, fun hb => ?_⟩
  · rcases List.eq_nil_or_concat ls with rfl | ⟨ls', x, rfl⟩
    · simp at hb
    rw [List.concat_eq_append] at fl hcap ⊢
    have hx1 : (ls' ++ [x]).length = ls'.length + 1 := by rw [List.length_append]; rfl
    rw [hx1] at hcap
    have hls : dCells true (ls' ++ [x]) = .seq true (ls'.map dCell ++ [dCell x]) := by unfold dCells; rw [List.map_append]; rfl
    refine ok_setX (gx_pop (i := 3) (congrArg (fun d => some (Sl.ow r d)) hls)) ?_
    refine ok_for [6] (fun i ρ' => ∃ ks' ls'' o6 o7, ρ' = [.im (dHeap l g), .im (dCells true sd), .im (.bl b), .ow r (dCells true ls''), .ow p (tD ks'), .im (dCell x), o6, o7] ∧ FlI G F ks' ls'' x (rb x) i ∧ 2 * (G.length - ks'.length) + ls''.length < 2 * (G.length - ks.length) + (ls' ++ [x]).length)
      (gw_seq (l := true) (ds := (rb x).map dCell) (gd_call (i := x) (ga_cons (gd_var rfl) ga_nil) trivial)) ⟨ks, ls', _, _, rfl, fl.pop, by rw [hx1]; omega⟩ ?_ ?_
    · rintro H1 i _ d hd ⟨ks', ls'', o6, o7, rfl, fi, hm⟩
      obtain ⟨dd, hdd, rfl⟩ := get_map hd
      refine ⟨_, gg_name (by decide), ?_⟩
      have hkl : ks'.length ≤ G.length := nodup_len fi.nd fi.ga
      rw [hx1] at hm
      refine ok_setD (d := dOpt (atV g dd)) (gd_call (i := (l, g, dd)) (ga_cons (gd_var rfl) (ga_cons (gd_ix (gd_var rfl) gd_int rfl) (ga_cons (gd_ix (gd_var rfl) gd_int rfl) ga_nil))) hp) ?_
      refine ok_if (b := !decide (dd ∈ ks') && decide (dd ∈ G)) ?_ (fun hb => ?_) (fun hb => ?_)
      · refine gt_and (gt_B (GD.cast (gd_dnotin (gd_var rfl) (gm_own rfl)) (by rw [tD_look]))) fun _ => ?_
        cases hv : atV g dd with
        | none =>
          refine GT.cast (gt_and (b := false) (c := false) (gt_test (GD.cast (gd_notN (da := .non) (gd_var rfl)) rfl)) fun z => by cases z) ?_
          symm
          rw [Bool.false_and, decide_eq_false_iff_not]
          intro hm2
          obtain ⟨v, h1, _⟩ := (mem_kindV hp).mp hm2
          rw [hv] at h1; cases h1
        | some v =>
          refine GT.cast (gt_and (b := true) (gt_test (GD.cast (gd_notN (da := .int v) (gd_var rfl)) rfl)) fun _ => gt_and (gt_test (gd_ge (gd_var rfl) gd_int)) fun _ => gt_test (gd_eqB (GD.cast (gd_eqD (gd_var rfl) gd_int (plain_int v) (plain_int 0)) (congrArg Dt.bl (eqv_int _ _))) (gd_var rfl))) ?_
          rw [Bool.true_and]
          rw [Bool.eq_iff_iff, Bool.and_eq_true, decide_eq_true_eq, decide_eq_true_eq]
          constructor
          · exact fun h => (mem_kindV hp).mpr ⟨v, hv, h.1, h.2⟩
          · intro h
            obtain ⟨v', h1, h2⟩ := (mem_kindV hp).mp h
            rw [hv] at h1
            cases h1
            exact h2
      · rw [Bool.and_eq_true, Bool.not_eq_true', decide_eq_true_eq, decide_eq_false_iff_not] at hb
        have fa := fi.add hdd (fun e he => rb_around.mp he) hb.2 hb.1
        have hs := nodup_len (l := ks' ++ [dd]) (A := G) fa.nd fa.ga
        refine ok_seq (ok_dput rfl gd_bl (fun _ _ h => is_bl h) (gd_var rfl) (by rw [List.length_map]; exact szlt (by omega)) (ok_append rfl (gd_var rfl) (by rw [List.length_map]; exact szlt (by omega)) (ok_nx ?_ rfl)))
        refine ⟨ks' ++ [dd], ls'' ++ [dd], .im (dCell dd), .im (dOpt (atV g dd)), ?_, fa, ?_⟩
        · rw [← tD_put hb.1]
          unfold dCells
          rw [List.map_append]
          rfl
        · rw [hx1]
          simp only [List.length_append, List.length_cons, List.length_nil] at hs ⊢
          omega
      · refine ok_next (ok_nx ?_ rfl)
        refine ⟨ks', ls'', .im (dCell dd), .im (dOpt (atV g dd)), rfl, fi.skip hdd fun z => ?_, by rw [hx1]; exact hm⟩
        rw [decide_eq_true z.1, decide_eq_false z.2] at hb
        cases hb
    · rintro _ ⟨ks', ls'', o6, o7, rfl, fi, hm⟩ σ H E
      rw [List.length_map] at fi
      rw [hx1] at hm
      exact ⟨_, _, by rw [hx1]; exact hm, ⟨ks', ls'', _, o6, o7, rfl, fi.done fun e he ha => rb_around.mpr he, rfl, by omega⟩, E⟩
  · have : ls = [] := by
      cases ls with
      | nil => rfl
      | cons a b => simp at hb
    subst this
    have hki : ∀ c ∈ ks, inG g c = true := fun c hc => (mem_kindC.mp (fl.ga c hc)).1
    refine ok_rtD (d := dCells true (sortC ks)) (GD.cast (GN.gd (gn_sortD (gm_own rfl) (by rw [List.length_map]; exact Nat.lt_of_le_of_lt (nodup_len fl.nd fun c hc => mem_allC.mpr (hki c hc)) (shp_len hp)) (fun kv hkv => ?_))) (by rw [keys_map]; rfl))
      (hR.wide (fun a h => List.mem_cons_of_mem _ (List.mem_cons_of_mem _ h)) (fun _ h => h) rfl) ?_
    · obtain ⟨c, hc, rfl⟩ := List.mem_map.mp hkv
      exact hp.bc (hki c hc)
    · show dCells true _ = dCells true _
      rw [setC_of hp fl.nd fun c => ⟨fun h => ⟨hki c h, fl.all.mp h⟩, fun h => fl.all.mpr h.2⟩]
end
end DL
set_option maxHeartbeats 1000000
/-! Plain: what stands at some cells is put; rounds. -/
namespace DL
def putG (g : Grid) (cs : List Cell) (v : Int) : Grid := (List.range g.length).map fun (i : Nat) => (List.range (ht g)).map fun (j : Nat) => if ((i : Int), (j : Int)) ∈ cs then v else atG g ((i : Int), (j : Int))
theorem putG_len {g : Grid} {cs : List Cell} {v : Int} : (putG g cs v).length = g.length := by unfold putG; rw [List.length_map, List.length_range]
theorem putG_ht {g : Grid} (S : Shp g) {cs : List Cell} {v : Int} : ht (putG g cs v) = ht g := by
  unfold putG
  have h : 0 < g.length := List.length_pos_iff.mpr S.ne
  obtain ⟨n, hn⟩ : ∃ n, g.length = n + 1 := ⟨g.length - 1, by omega⟩
  conv => lhs; unfold ht
  rw [hn, List.range_succ_eq_map, List.map_cons, List.headD_cons, List.length_map, List.length_range]
  rfl
theorem putG_alike {g : Grid} (S : Shp g) {cs : List Cell} {v : Int} : AlikeS (putG g cs v) g := ⟨putG_len, putG_ht S⟩
theorem putG_in {g : Grid} (S : Shp g) {cs : List Cell} {v : Int} (c : Cell) : inG (putG g cs v) c = inG g c := alike_in (putG_alike S) c
theorem putG_at {g : Grid} {cs : List Cell} {v : Int} {c : Cell} (h : inG g c = true) : atG (putG g cs v) c = if c ∈ cs then v else atG g c := by
  obtain ⟨⟨h1, h2⟩, h3, h4⟩ := inG_iff.mp h
  have e1 : ((c.1.toNat : Nat) : Int) = c.1 := by omega
  have e2 : ((c.2.toNat : Nat) : Int) = c.2 := by omega
  have e3 : (((c.1.toNat : Nat) : Int), ((c.2.toNat : Nat) : Int)) = c := by rw [e1, e2]
  conv => lhs; unfold atG putG
  rw [List.getD_eq_getElem?_getD (l := List.map _ _), List.getElem?_map, List.getElem?_range (by omega), Option.map_some, Option.getD_some, List.getD_eq_getElem?_getD, List.getElem?_map, List.getElem?_range (by omega), Option.map_some, Option.getD_some, e3]
theorem putG_shp {g : Grid} (S : Shp g) {cs : List Cell} {v : Int} (hv : 0 ≤ v) : Shp (putG g cs v) where
  ne := fun h => by
    have := congrArg List.length h
    rw [putG_len] at this
    exact S.ne (List.length_eq_zero_iff.mp this)
  hp := by rw [putG_ht S]; exact S.hp
  col := fun c hc => by
    rw [putG_ht S]
    unfold putG at hc
    obtain ⟨i, _, rfl⟩ := List.mem_map.mp hc
    rw [List.length_map, List.length_range]
  wid := by rw [putG_len]; exact S.wid
  hgt := by rw [putG_ht S]; exact S.hgt
  few := by rw [putG_len, putG_ht S]; exact S.few
  nn := fun c hc x hx => by
    unfold putG at hc
    obtain ⟨i, hi, rfl⟩ := List.mem_map.mp hc
    obtain ⟨j, hj, rfl⟩ := List.mem_map.mp hx
    split
    · exact hv
    · refine atG_nn S (inG_iff.mpr ?_)
      rw [List.mem_range] at hi hj
      show (0 ≤ (i : Int) ∧ (i : Int) < _) ∧ 0 ≤ (j : Int) ∧ (j : Int) < _
      omega
theorem grid_ext {g h : Grid} (S : Shp g) (T : Shp h) (A : AlikeS g h) (e : ∀ c, inG g c = true → atG g c = atG h c) : g = h := by
  refine List.ext_getElem A.1 fun i h1 h2 => ?_
  refine List.ext_getElem (by rw [S.col _ (List.getElem_mem h1), T.col _ (List.getElem_mem h2), A.2]) fun j h3 h4 => ?_
  have hj : j < ht g := by rw [← S.col _ (List.getElem_mem h1)]; exact h3
  have hc : inG g ((i : Int), (j : Int)) = true := inG_iff.mpr (by show (0 ≤ (i : Int) ∧ (i : Int) < _) ∧ 0 ≤ (j : Int) ∧ (j : Int) < _; omega)
  have := e _ hc
  unfold atG at this
  simp only [Int.toNat_natCast, List.getD_eq_getElem?_getD, List.getElem?_eq_getElem h1, List.getElem?_eq_getElem h2, Option.getD_some, List.getElem?_eq_getElem h3, List.getElem?_eq_getElem h4] at this
  exact this
theorem putG_get {g : Grid} (cs : List Cell) (v : Int) {i : Nat} (hi : i < g.length) : (putG g cs v)[i]? = some ((List.range (ht g)).map fun (j : Nat) => if ((i : Int), (j : Int)) ∈ cs then v else atG g ((i : Int), (j : Int))) := by
  unfold putG
  rw [List.getElem?_map, List.getElem?_range hi]
  rfl
theorem putG_nil {g : Grid} (S : Shp g) {v : Int} : putG g [] v = g := by
  refine List.ext_getElem putG_len fun i h1 h2 => ?_
  have e := Option.some.inj ((List.getElem?_eq_getElem h1).symm.trans (putG_get [] v h2))
  rw [e]
  refine List.ext_getElem (by rw [List.length_map, List.length_range, S.col _ (List.getElem_mem h2)]) fun j h3 h4 => ?_
  rw [List.getElem_map, List.getElem_range, if_neg (by simp)]
  unfold atG
  simp only [Int.toNat_natCast, List.getD_eq_getElem?_getD, List.getElem?_eq_getElem h2, Option.getD_some, List.getElem?_eq_getElem h4]
/-- one cell more -/
theorem putG_one {g : Grid} (S : Shp g) {cs : List Cell} {c : Cell} {v : Int} (hc : inG g c = true) {col : List Int} (hcol : (putG g cs v)[c.1.toNat]? = some col) : putG g (cs ++ [c]) v = (putG g cs v).set c.1.toNat (col.set c.2.toNat v) := by
  obtain ⟨⟨h1, h2⟩, h3, h4⟩ := inG_iff.mp hc
  refine List.ext_getElem (by rw [List.length_set, putG_len, putG_len]) fun i k1 k2 => ?_
  have hi : i < g.length := by rw [putG_len] at k1; exact k1
  have e1 := Option.some.inj ((List.getElem?_eq_getElem k1).symm.trans (putG_get (cs ++ [c]) v hi))
  rw [e1, List.getElem_set]
  by_cases e : c.1.toNat = i
  · rw [if_pos e]
    rw [e, putG_get cs v hi] at hcol
    cases hcol
    refine List.ext_getElem (by rw [List.length_set, List.length_map, List.length_map]) fun j q1 q2 => ?_
    rw [List.getElem_map, List.getElem_range, List.getElem_set]
    by_cases e2 : c.2.toNat = j
    · rw [if_pos e2, if_pos]
      refine List.mem_append_right _ (List.mem_singleton.mpr (Prod.ext ?_ ?_))
      · show (i : Int) = c.1; omega
      · show (j : Int) = c.2; omega
    · rw [if_neg e2, List.getElem_map, List.getElem_range]
      have : ((i : Int), (j : Int)) ∈ cs ++ [c] ↔ ((i : Int), (j : Int)) ∈ cs := by
        rw [List.mem_append, List.mem_singleton]
        constructor
        · rintro (z | z)
          · exact z
          · exfalso
            have : (j : Int) = c.2 := congrArg Prod.snd z
            omega
        · exact .inl
      simp only [this]
  · rw [if_neg e]
    have e2 := Option.some.inj ((List.getElem?_eq_getElem (by rw [putG_len]; exact hi)).symm.trans (putG_get cs v hi))
    rw [e2]
    refine List.map_congr_left fun j _ => ?_
    have : ((i : Int), (j : Int)) ∈ cs ++ [c] ↔ ((i : Int), (j : Int)) ∈ cs := by
      rw [List.mem_append, List.mem_singleton]
      constructor
      · rintro (z | z)
        · exact z
        · exfalso
          have : (i : Int) = c.1 := congrArg Prod.fst z
          omega
      · exact .inl
    simp only [this]
/-- the cells that a round lays -/
noncomputable def layC (g : Grid) : List Cell := (setC g (Opn g)).filter (nearSt g)
theorem mem_layC {g : Grid} {c : Cell} : c ∈ layC g ↔ Lay1 g c := by
  unfold layC Lay1
  rw [List.mem_filter, mem_setC]
  exact ⟨fun h => ⟨h.1.2, h.2⟩, fun h => ⟨⟨air_in (opn_air h.1), h.1⟩, h.2⟩⟩
noncomputable def layG (g : Grid) : Grid := putG g (layC g) 9
noncomputable def layN (g : Grid) : Nat → Grid
  | 0 => g
  | n + 1 => layG (layN g n)
theorem layN_shp {g : Grid} (S : Shp g) : ∀ n, Shp (layN g n)
  | 0 => S
  | n + 1 => putG_shp (layN_shp S n) (by decide)
theorem layN_alike {g : Grid} (S : Shp g) : ∀ n, AlikeS (layN g n) g
  | 0 => ⟨rfl, rfl⟩
  | n + 1 => ⟨putG_len.trans (layN_alike S n).1, (putG_ht (layN_shp S n)).trans (layN_alike S n).2⟩
end DL
set_option maxHeartbeats 1000000
namespace DL
open PySem PySem.Spec PyProof.Rows L2
section
variable {ps qs : List Addr} {bs : List (List Addr × Hp)} {σ : L2.St} {H : Hp} {ρ : List Sl}
theorem En.less (E : En ps bs σ H ρ) (hno : noOw ρ = true) (h : ∀ a ∈ qs, a ∈ ps) : En qs bs σ H ρ := by
  have sub : Same (out H ps) (out H qs) := out_sub h
  refine ⟨fun q hq => E.al q (h q hq), E.ex, E.len, fun i s hs => ?_, E.ne, E.mine⟩
  obtain ⟨o, k1, k2⟩ := E.sl i s hs
  refine ⟨o, k1, ?_⟩
  cases s with
  | un => trivial
  | im d => obtain ⟨v, a1, a2⟩ := k2; exact ⟨v, a1, a2.mono sub⟩
  | raw v => exact k2
  | ow q d => exact (noOw_get hno hs).elim
theorem ixD_nat {n j : Nat} (hj : j < n) : ixN n (j : Int) = some j := by
  unfold ixN
  rw [if_pos (Int.natCast_nonneg j), if_pos (Int.ofNat_lt.mpr hj), Int.toNat_natCast]
theorem un_no (q : Addr) (d : Dt) : Sl.un ≠ .ow q d := fun z => by cases z
/-- a slot's value is seen as what it is -/
theorem En.see (E : En ps bs σ H ρ) {i : Nat} {v : V} {d : Dt} (h : σ[i]? = some (some v)) (hd : Is (out H ps) v d) : En ps bs σ H (ρ.set i (.im d)) := by
  have := E.setIm (i := i) hd
  have e : σ.set i (some v) = σ := by
    refine List.ext_getElem? fun j => ?_
    rw [List.getElem?_set]
    split
    · rename_i k
      subst k
      rw [h]
      have := (List.getElem?_eq_some_iff.mp h).1
      simp [this]
    · rfl
  rw [e] at this
  exact this
end
section
variable {P : Program} {w : World} {K : PySem.W.Frag} {mg : Str → Option Value} {base : Heap}
abbrev spPut : Sp := spI (ι := Bool × Grid × List Cell × Int) (fun i => [dHeap i.1 i.2.1, dCells true i.2.2.1, .int i.2.2.2]) (fun i => Shp i.2.1 ∧ ∀ c ∈ i.2.2.1, inG i.2.1 c = true) (fun i d => d = dHeap false (putG i.2.1 i.2.2.1 i.2.2.2))
theorem ca__law_put (T : Top K mg) : Ca P w K mg base 1 "_law_put" spPut := by
  have sc := sc__law_put
  refine ca_of T.f__law_put (fun _ _ _ _ _ _ us hl => match us, hl with | [_, _, _], _ => rfl) sc (fun _ => rfl) fun f cdv A outer s H E hr => ⟨_, (pss_cons (ps_setLc (i := 3) (own := [("_law_own", 6)]) rfl sc.nd rfl rfl (sw_true rfl rfl rfl (by decide +kernel)) (pi_seqK (K := K) rfl (pv 0)) (blkOk_by (own := [("_law_own", 6)]) (N := N__law_put) (sc := (defScope s__law_put)) (by decide +kernel)) (fun _ _ _ _ _ => (pg_name (i := 6) sc.nd rfl (Or.inl rfl))) (fun _ _ _ _ _ => pts_nil) (fun _ _ _ _ _ => (pe_callTy (call_listK (K := K) rfl) (by rfl) T.b_list (by decide +kernel) (pa_cons (pv 6) pa_nil))))
    (pss_cons (ps_for PassesOwn.never rfl (pi_seqK (K := K) rfl (pv 1)) (pg_tupK (K := K) (n := 2) rfl rfl (pgs_cons (pg_name (i := 4) sc.nd rfl (Or.inl rfl)) (pgs_cons (pg_name (i := 5) sc.nd rfl (Or.inl rfl)) pgs_nil)))
      (pss_one (ps_asg (pv 2) (pg_sub (pe_ix (ix_seqK (K := K) rfl) (pv 3) (pv 4) (fun _ _ => rfl)) (pv 5) set_list))))
    (pss_one (ps_ret (pe_callTy (call_tupK (K := K) rfl) (by rfl) T.b_tuple (by decide +kernel) (pa_cons (pe_lc (own := [("_law_own", 6)]) rfl sc.nd (pi_seqK (K := K) rfl (pv 3)) (blkOk_by (own := [("_law_own", 6)]) (N := N__law_put) (sc := (defScope s__law_put)) (by decide +kernel)) (fun _ _ _ _ _ => (pg_name (i := 6) sc.nd rfl (Or.inl rfl))) (fun _ _ _ _ _ => pts_nil) (fun _ _ _ _ _ => (pe_callTy (call_tupK (K := K) rfl) (by rfl) T.b_tuple (by decide +kernel) (pa_cons (pv 6) pa_nil)))) pa_nil)))))), ?_⟩
  rintro qs ⟨l, g, cs, v⟩ D ⟨hp, hi⟩ hR
  dsimp only at hi
  replace hp : Shp g := hp
  intro σ H0 E
  refine raw_set (nest_lc (xs := g) (f := tupI l) (e := fun c => c) (gw_seq (gd_var rfl)) (sl12 (Nat.le_trans hp.wid (by decide))) (fun x _ => gg_name (by decide)) (fun x hx => gn_list (l := l) (gd_var rfl)) E _ fun p as H1 hf s1 n1 => ?_)
  rw [List.map_id'] at n1
  have hmu : ∀ a ∈ p :: as, Mu (H1 a) := fun a ha => by
    rcases List.mem_cons.mp ha with z | z
    · rw [z, n1.at_]; trivial
    · obtain ⟨j, hj, e⟩ := List.getElem_of_mem z
      have : j < g.length := by rw [← n1.len]; exact hj
      rw [n1.inn j a _ (by rw [← e]; exact List.getElem?_eq_getElem hj) (List.getElem?_eq_getElem this)]
      trivial
  have E1 := (E.wides s1 hf hmu).setRaw (i := 3) (v := .ref p)
  have hnq : ∀ a ∈ p :: as, a ∉ qs := fun a ha => E.fresh (hf a ha)
  have hpin : ∀ a ∈ p :: as, a ∈ p :: as ++ qs := fun a ha => List.mem_append_left _ ha
  have hbs : ∀ a ∈ p :: as, ∀ e ∈ [(([] : List Addr), H)], a ∈ e.1 ∨ e.2 a = none := fun a ha e he => by
    refine .inr ?_
    cases z : e.2 a with
    | none => rfl
    | some o =>
      have he' : e = ([], H) := by simpa using he
      have := E.ex e he a o (by rw [he']; simp) z
      rw [hf a ha] at this; cases this
  refine raw_seq (raw_for (its := cs.map dCell) (gw_seq (l := true) (gd_var rfl)) E1 (fun H2 i σ' H' => ∃ (o4 o5 : Sl), (∀ q d, o4 ≠ .ow q d) ∧ (∀ q d, o5 ≠ .ow q d) ∧ En (p :: as ++ qs) ((p :: as ++ qs, H2) :: [([], H)]) σ' H' [.im (dHeap l g), .im (dCells true cs), .im (.int v), .raw (.ref p), o4, o5, .un] ∧ NestAt H' p as (putG g (cs.take i) v)) ?_ ?_ ?_ ?_)
  · intro H2 s2
    exact ⟨.un, .un, un_no, un_no, (E1.mono s2).base (H1 := H2) (Same.refl _), by rw [List.take_zero, putG_nil hp]; exact n1.mono s2⟩
  · rintro H2 i σ' H' ⟨o4, o5, _, _, E', _⟩
    refine ⟨fun a o h => ?_, E'.al⟩
    obtain ⟨h1, h2⟩ := out_some h
    exact out_of (E'.ex _ List.mem_cons_self a o h2 h1) h2
  · rintro H2 i σ' H' H3 x d hd ⟨o4, o5, q4, q5, E', n'⟩ s3 hx
    obtain ⟨c, hc, rfl⟩ := get_map hd
    have hcg := hi c (List.mem_of_getElem? hc)
    have hci := inG_iff.mp hcg
    refine gg_tup (vs := [4, 5]) (ggs_cons (gg_name (i := 4) (by decide)) (ggs_cons (gg_name (i := 5) (by decide)) ggs_nil)) rfl _ _ σ' H3 x (E'.mono s3) hx _ fun σ4 H4 s4 E4 _ _ => ?_
    have n4 := n'.mono (s3.trans s4)
    have hcl : c.1.toNat < (putG g (cs.take i) v).length := by rw [putG_len]; omega
    obtain ⟨col, hcol⟩ : ∃ col, (putG g (cs.take i) v)[c.1.toNat]? = some col := ⟨_, List.getElem?_eq_getElem hcl⟩
    obtain ⟨a, ha, hHa⟩ := n4.ex hcol
    have hcolen : col.length = ht g := by
      have e := putG_get (cs.take i) v (show c.1.toNat < g.length by omega)
      rw [e] at hcol
      cases hcol
      rw [List.length_map, List.length_range]
    obtain ⟨v2, e2, i2⟩ := E4.im (i := 2) rfl
    obtain ⟨v4, e4, i4⟩ := E4.im (i := 4) rfl
    obtain ⟨v5, e5, i5⟩ := E4.im (i := 5) rfl
    rw [is_int i2] at e2
    rw [is_int i4] at e4
    rw [is_int i5] at e5
    have z1 : ((c.1.toNat : Nat) : Int) = c.1 := by omega
    have z2 : ((c.2.toNat : Nat) : Int) = c.2 := by omega
    refine ⟨_, e2, _, E4.raw (i := 3) rfl, _, e4, .inl ⟨p, as.map V.ref, c.1, .ref a, rfl, rfl, SqL.of n4.at_, ?_, _, e5, a, col.map V.int, c.2, c.2.toNat, rfl, rfl, hHa, ?_, ?_⟩⟩
    · rw [← z1]
      exact atI_nat (by rw [List.getElem?_map, ha]; rfl)
    · rw [← z2, List.length_map, hcolen]
      exact ixD_nat (by omega)
    · have ham : a ∈ p :: as := List.mem_cons_of_mem _ (List.mem_of_getElem? ha)
      refine ⟨_, _, ?_, ?_, E4.ghost (hpin a ham) (fun j d hj => ?_) (fun e he => ?_) trivial, ?_⟩
      · exact fun _ _ z => by cases z
      · exact fun _ _ z => by cases z
      · match j, hj with
        | 0, hj => cases hj
        | 1, hj => cases hj
        | 2, hj => cases hj
        | 3, hj => cases hj
        | 4, hj => cases hj
        | 5, hj => cases hj
        | 6, hj => cases hj
      · rcases List.mem_cons.mp he with z | z
        · rw [z]; exact .inl (hpin a ham)
        · exact hbs a ham e z
      · rw [take_get hc, putG_one hp hcg hcol, ← List.map_set]
        exact n4.set ha
  · rintro H2 σ' H' ⟨o4, o5, q4, q5, E', n'⟩
    rw [List.length_map, List.take_length] at n'
    have hno : noOw [.im (dHeap l g), .im (dCells true cs), .im (.int v), .raw (.ref p), o4, o5, .un] = true := by
      cases o4 <;> cases o5 <;> first | rfl | (exact absurd rfl (q4 _ _)) | (exact absurd rfl (q5 _ _))
    have E3 := (E'.unbase.less (qs := qs) hno fun a ha => List.mem_append_right _ ha).see (i := 3) (d := dHeap true (putG g cs v)) (E'.raw (i := 3) rfl) (n'.off (H' := out H' qs) fun a o ha h => out_of h (hnq a ha)).is
    have S' := putG_len (g := g) (cs := cs) (v := v)
    exact ok_rtD (ps := qs) (gd_tuple (l := true) (GN.gd (gn_lcY (xs := putG g cs v) (f := tupI true) (e := tupI false) (gw_seq (gd_var rfl)) (sl12 (Nat.le_trans (by rw [S']; exact hp.wid) (by decide))) (fun x _ => gg_name (by decide)) (fun x hx => gd_tuple (l := true) (gd_var rfl))))) hR rfl σ' H' E3
end
end DL
set_option maxHeartbeats 1000000
namespace DL
open PySem PySem.Spec PyProof.Rows L2
theorem rch_congr {A B F F' : List Cell} (ha : ∀ c, c ∈ A ↔ c ∈ B) (hf : ∀ c, c ∈ F ↔ c ∈ F') (c : Cell) : Rch A F c ↔ Rch B F' c :=
  ⟨fun h => h.mono (fun x hx => (ha x).mp hx) fun x hx => (hf x).mp hx, fun h => h.mono (fun x hx => (ha x).mpr hx) fun x hx => (hf x).mpr hx⟩
/-- stuff that is joined to the ground by stuff -/
def HeldC (g : Grid) (c : Cell) : Prop := Rch (kindC g false) ((kindC g false).filter fun c => decide (c.2 = 0)) c
noncomputable def loose (g : Grid) : List Cell := (allC g).filter fun c => !decide (c ∈ setC g (HeldC g))
noncomputable def washG (g : Grid) : Grid := putG g (loose g) 0
theorem near_rb {g : Grid} (S : Shp g) {c : Cell} (hc : inG g c = true) : nearSt g c = ((rb c).any fun d => !(decide (atV g d = none) || decide (atV g d = some 0))) := by
  obtain ⟨⟨h1, h2⟩, h3, h4⟩ := inG_iff.mp hc
  rw [Bool.eq_iff_iff]
  unfold nearSt
  rw [Bool.or_eq_true, decide_eq_true_eq, List.any_eq_true, List.any_eq_true]
  constructor
  · rintro (h | ⟨d, hd, h⟩)
    · refine ⟨(c.1, c.2 - 1), by simp [rb], ?_⟩
      have : atV g (c.1, c.2 - 1) = some (-1) := by
        unfold atV
        rw [if_pos ⟨by rw [decide_eq_true h1, decide_eq_true h2]; rfl, by show c.2 - 1 < _; omega⟩, if_pos (by show c.2 - 1 < 0; omega)]
      rw [this]
      rfl
    · refine ⟨d, rb_around.mpr (near_around hd), ?_⟩
      rw [atV_in (near_in hd)]
      rw [Bool.not_eq_true', decide_eq_false_iff_not] at h
      simp [h]
  · rintro ⟨d, hd, h⟩
    cases hv : atV g d with
    | none => rw [hv] at h; simp at h
    | some v =>
      rw [hv] at h
      by_cases z : d.2 < 0
      · refine .inl ?_
        have := rb_around.mp hd
        simp only [around, List.mem_cons, List.not_mem_nil, or_false] at this
        rcases this with e | e | e | e <;> rw [e] at z <;> simp at z <;> omega
      · have hin : inG g d = true := by
          unfold atV at hv
          split at hv
          · rename_i k
            have k1 := k.1
            rw [Bool.and_eq_true, decide_eq_true_eq, decide_eq_true_eq] at k1
            exact inG_iff.mpr ⟨k1, by omega, k.2⟩
          · cases hv
        refine .inr ⟨d, List.mem_filter.mpr ⟨rb_around.mp hd, hin⟩, ?_⟩
        rw [atV_in hin] at hv
        cases hv
        simp at h
        simp [h]
theorem filter_any {α : Type} (p : α → Bool) : ∀ l : List α, (!(l.filter p).isEmpty) = l.any p
  | [] => rfl
  | x :: r => by
    rw [List.filter_cons, List.any_cons]
    cases p x with
    | true => rfl
    | false => exact filter_any p r
theorem atI_last {α : Type} (f : Nat → α) (n : Nat) : atI ((List.range (n + 1)).map f) (-1) = some (f n) := by
  unfold atI ixN
  rw [List.length_map, List.length_range, if_neg (by omega), if_pos (by omega)]
  have : ((-1 : Int) + ((n + 1 : Nat) : Int)).toNat = n := by omega
  show ((List.range (n + 1)).map f)[((-1 : Int) + ((n + 1 : Nat) : Int)).toNat]? = _
  rw [this, List.getElem?_map, List.getElem?_range (by omega)]
  rfl
theorem tupI_lay (l : Bool) (ns : List Int) : (py (tupI l ns)).canLay0 = true := by
  unfold tupI
  cases l with
  | true => rw [py, pyAll_map]; simp only [PyData.canLay0]; exact lay_map (fun _ => by simp [py, PyData.canLay0]) ns
  | false => rw [py, pyAll_map]; simp only [PyData.canLay0]; exact lay_map (fun _ => by simp [py, PyData.canLay0]) ns
theorem tupI_depth (l : Bool) (ns : List Int) : (py (tupI l ns)).depth ≤ 1 := by
  have e := depth_map (f := fun n : Int => py (.int n)) (n := 0) (fun _ => by simp [py, PyData.depth]) ns
  unfold tupI
  cases l with
  | true => rw [py, pyAll_map]; simp only [PyData.depth]; omega
  | false => rw [py, pyAll_map]; simp only [PyData.depth]; omega
theorem tupI_noD (l : Bool) (ns : List Int) : noD (tupI l ns) = true := by
  unfold tupI
  rw [noD]
  exact noDAll_map (f := Dt.int) (fun _ => rfl) ns
theorem plain_heap (l : Bool) (g : Grid) : plainD (dHeap l g) := plain_seq l (tupI l) g 1 (tupI_noD l) (tupI_lay l) (tupI_depth l) (by decide)
theorem eqv_heap (l : Bool) (g h : Grid) : PyData.eqv (py (dHeap l g)) (py (dHeap l h)) = decide (g = h) := eqv_seq (f := tupI l) (eqv_ints l) l g h
def tNevT : TT := fun _ _ _ => False
theorem pt_nev {X : Cx} {e : Expr} : PT X e tNevT := ⟨fun _ _ _ _ _ _ h => h.elim⟩
section
variable {ρ : List Sl} {ta tb : TE} {K : PySem.W.Frag} {d : Dt} {l : Bool} {ds : List Dt}
theorem gd_notInG (ha : GD ta ρ d) (hb : GD tb ρ (.seq l ds)) (h1 : plainD d) (h2 : plainD (.seq l ds)) : GD (tOp (rInQ K true) ta tb) ρ (.bl (!(pyAll ds).any fun z => PyData.eqv z (py d))) :=
  gd_op ha hb fun ps bs σ H x y E hx hy Q q => ⟨py d, pyAll ds, l, dp_of (hx.mono out_le) h1.1, dp_seq (hy.mono out_le) (by have := h2.1; rw [noD] at this; exact this), h1.2, shaped_l h2, by
    simp only [if_true]
    exact q _ H (Same.refl H) (.bl _)⟩
end
section
variable {P : Program} {w : World} {K : PySem.W.Frag} {mg : Str → Option Value} {base : Heap}
theorem ca__law_opened (T : Top K mg) : Ca P w K mg base 3 "_law_opened" (spGrid fun i d => d = dCells true (setC i.2 (Opn i.2))) := by
  have sc := sc__law_opened
  refine ca_of T.f__law_opened (fun _ _ _ _ _ _ us hl => match us, hl with | [_], _ => rfl) sc (fun _ => rfl) fun f cdv A outer s H E hr => ⟨_, (pss_cons (ps_set (i := 1) sc.nd rfl (Or.inr rfl) (pe_op op_sub (pe_callB (call_lenK (K := K) rfl) (by rfl) T.b_len (by decide +kernel) (pa_cons (pe_ix (ix_seqK (K := K) rfl) (pv 0) pe_int (fun _ _ => rfl)) pa_nil)) pe_int))
    (pss_one (ps_ret (pe_ca (ca__law_grown T) hr (by decide) (by rfl) (pa_cons (pv 0) (pa_cons (pe_lc (own := [("_law_c", 2)]) rfl sc.nd (pi_range1 (by rfl) T.b_range (pa_cons (pe_callB (call_lenK (K := K) rfl) (by rfl) T.b_len (by decide +kernel) (pa_cons (pv 0) pa_nil)) pa_nil)) (blkOk_by (own := [("_law_c", 2)]) (N := N__law_opened) (sc := (defScope s__law_opened)) (by decide +kernel)) (fun _ _ _ _ _ => (pg_name (i := 2) sc.nd rfl (Or.inl rfl))) (fun _ _ _ _ _ => pts_nil) (fun _ _ _ _ _ => (pe_tup (pa_cons (pv 2) (pa_cons (pv 1) pa_nil))))) (pa_cons pe_bl pa_nil))))))), ?_⟩
  rintro qs ⟨l, g⟩ D hp hR
  replace hp : Shp g := hp
  have hw := hp.wid
  have hh := hp.hgt
  have hpos := hp.hp
  let sd : List Cell := (List.range g.length).map fun (i : Nat) => ((i : Int), (ht g : Int) - 1)
  have hsd : ∀ c, c ∈ sd ↔ inG g c = true ∧ isTop g c = true := fun c => by
    unfold isTop
    rw [List.mem_map, inG_iff, decide_eq_true_eq]
    constructor
    · rintro ⟨i, hi, rfl⟩
      rw [List.mem_range] at hi
      refine ⟨⟨⟨?_, ?_⟩, ?_, ?_⟩, rfl⟩
      · show (0 : Int) ≤ (i : Int); omega
      · show (i : Int) < _; omega
      · show (0 : Int) ≤ (ht g : Int) - 1; omega
      · show (ht g : Int) - 1 < _; omega
    · rintro ⟨⟨⟨h1, h2⟩, h3, h4⟩, h5⟩
      exact ⟨c.1.toNat, by rw [List.mem_range]; omega, Prod.ext (by show ((c.1.toNat : Nat) : Int) = c.1; omega) h5.symm⟩
  refine ok_setD (gd_sub (gd_ht (l := l) (g := g) (gd_var rfl) hp.ne) gd_int) ?_
  refine ok_rtD (GD.cast (gd_call (i := (l, g, sd, true)) (ga_cons (gd_var rfl) (ga_cons (GN.gd (GN.cast (gn_lcY (xs := List.range g.length) (f := fun (i : Nat) => Dt.int (0 + (i : Nat))) (e := fun (i : Nat) => dCell ((i : Int), (ht g : Int) - 1)) (gw_range1 (gd_wid (l := l) (g := g) (gd_var rfl)) (by omega) (by omega))
    (sl12 (by rw [List.length_range]; omega)) (fun x _ => gg_name (by decide)) (fun x _ => GD.cast (gd_tup (ga_cons (gd_var rfl) (ga_cons (gd_var rfl) ga_nil)) fw) (by simp [dCell]))) (by unfold dCells; rw [List.map_map]; rfl))) (ga_cons gd_bl ga_nil))) ⟨hp, ?_, fun c hc => ((hsd c).mp hc).1⟩) ?_) hR rfl
  · exact nodup_map_int _ _ (fun i j e => by have := congrArg Prod.fst e; show i = j; have : (i : Int) = (j : Int) := this; omega)
  · dsimp only
    congr 1
    refine setC_ext fun c _ => ?_
    unfold Opn
    rw [kind_air]
    refine rch_congr (fun _ => Iff.rfl) (fun c => ?_) c
    rw [List.mem_filter, List.mem_filter, hsd, mem_airC]
    simp only [beq_true, decide_eq_true_eq]
    constructor
    · rintro ⟨⟨h1, h2⟩, h3⟩; exact ⟨⟨h1, h3⟩, h2⟩
    · rintro ⟨⟨h1, h3⟩, h2⟩; exact ⟨⟨h1, h2⟩, h3⟩
theorem ca__law_held (T : Top K mg) : Ca P w K mg base 3 "_law_held" (spGrid fun i d => d = dCells true (setC i.2 (HeldC i.2))) := by
  have sc := sc__law_held
  refine ca_of T.f__law_held (fun _ _ _ _ _ _ us hl => match us, hl with | [_], _ => rfl) sc (fun _ => rfl) fun f cdv A outer s H E hr => ⟨_, (pss_one (ps_ret (pe_ca (ca__law_grown T) hr (by decide) (by rfl) (pa_cons (pv 0) (pa_cons (pe_lc (own := [("_law_c", 1)]) rfl sc.nd (pi_range1 (by rfl) T.b_range (pa_cons (pe_callB (call_lenK (K := K) rfl) (by rfl) T.b_len (by decide +kernel) (pa_cons (pv 0) pa_nil)) pa_nil)) (blkOk_by (own := [("_law_c", 1)]) (N := N__law_held) (sc := (defScope s__law_held)) (by decide +kernel)) (fun _ _ _ _ _ => (pg_name (i := 1) sc.nd rfl (Or.inl rfl))) (fun _ _ _ _ _ => pts_nil) (fun _ _ _ _ _ => (pe_tup (pa_cons (pv 1) (pa_cons pe_int pa_nil))))) (pa_cons pe_bl pa_nil)))))), ?_⟩
  rintro qs ⟨l, g⟩ D hp hR
  replace hp : Shp g := hp
  have hw := hp.wid
  have hpos := hp.hp
  let sd : List Cell := (List.range g.length).map fun (i : Nat) => ((i : Int), (0 : Int))
  have hsd : ∀ c, c ∈ sd ↔ inG g c = true ∧ c.2 = 0 := fun c => by
    rw [List.mem_map, inG_iff]
    constructor
    · rintro ⟨i, hi, rfl⟩
      rw [List.mem_range] at hi
      refine ⟨⟨⟨?_, ?_⟩, ?_, ?_⟩, rfl⟩
      · show (0 : Int) ≤ (i : Int); omega
      · show (i : Int) < _; omega
      · show (0 : Int) ≤ 0; omega
      · show (0 : Int) < _; omega
    · rintro ⟨⟨⟨h1, h2⟩, h3, h4⟩, h5⟩
      exact ⟨c.1.toNat, by rw [List.mem_range]; omega, Prod.ext (by show ((c.1.toNat : Nat) : Int) = c.1; omega) h5.symm⟩
  refine ok_rtD (GD.cast (gd_call (i := (l, g, sd, false)) (ga_cons (gd_var rfl) (ga_cons (GN.gd (GN.cast (gn_lcY (xs := List.range g.length) (f := fun (i : Nat) => Dt.int (0 + (i : Nat))) (e := fun (i : Nat) => dCell ((i : Int), (0 : Int))) (gw_range1 (gd_wid (l := l) (g := g) (gd_var rfl)) (by omega) (by omega))
    (sl12 (by rw [List.length_range]; omega)) (fun x _ => gg_name (by decide)) (fun x _ => GD.cast (gd_tup (ga_cons (gd_var rfl) (ga_cons gd_int ga_nil)) fw) (by simp [dCell]))) (by unfold dCells; rw [List.map_map]; rfl))) (ga_cons gd_bl ga_nil))) ⟨hp, ?_, fun c hc => ((hsd c).mp hc).1⟩) ?_) hR rfl
  · exact nodup_map_int _ _ (fun i j e => by have : (i : Int) = (j : Int) := congrArg Prod.fst e; omega)
  · dsimp only
    congr 1
    refine setC_ext fun c _ => ?_
    unfold HeldC
    refine rch_congr (fun _ => Iff.rfl) (fun c => ?_) c
    rw [List.mem_filter, List.mem_filter, hsd, mem_kindC, decide_eq_true_eq]
    constructor
    · rintro ⟨⟨h1, h2⟩, h3⟩; exact ⟨⟨h1, h3⟩, h2⟩
    · rintro ⟨⟨h1, h3⟩, h2⟩; exact ⟨⟨h1, h2⟩, h3⟩
theorem ca__law_washed (T : Top K mg) : Ca P w K mg base 4 "_law_washed" (spGrid fun i d => d = dHeap false (washG i.2)) := by
  have sc := sc__law_washed
  refine ca_of T.f__law_washed (fun _ _ _ _ _ _ us hl => match us, hl with | [_], _ => rfl) sc (fun _ => rfl) fun f cdv A outer s H E hr => ⟨_, (pss_cons (ps_set (i := 1) sc.nd rfl (Or.inr rfl) (pe_callTy (call_dictC rfl (hu_of hr) hr.units) (by rfl) T.b_dict (by decide +kernel) (pa_cons (pe_lc (own := [("_law_own", 2)]) rfl sc.nd (pi_seqK (K := K) rfl (pe_ca (ca__law_held T) hr (by decide) (by rfl) (pa_cons (pv 0) pa_nil))) (blkOk_by (own := [("_law_own", 2)]) (N := N__law_washed) (sc := (defScope s__law_washed)) (by decide +kernel)) (fun _ _ _ _ _ => (pg_name (i := 2) sc.nd rfl (Or.inl rfl))) (fun _ _ _ _ _ => pts_nil) (fun _ _ _ _ _ => (pe_tup (pa_cons (pv 2) (pa_cons pe_bl pa_nil))))) pa_nil)))
    (pss_one (ps_ret (pe_ca (ca__law_put T) hr (by decide) (by rfl) (pa_cons (pv 0) (pa_cons (pe_lc (own := [("_law_own", 2)]) rfl sc.nd (pi_seqK (K := K) rfl (pe_ca (ca__law_all_spots T) hr (by decide) (by rfl) (pa_cons (pv 0) pa_nil))) (blkOk_by (own := [("_law_own", 2)]) (N := N__law_washed) (sc := (defScope s__law_washed)) (by decide +kernel)) (fun _ _ _ _ _ => (pg_name (i := 2) sc.nd rfl (Or.inl rfl))) (fun _ _ _ _ _ => pts_one (pt_cmp (pc_dnotin (hu_of hr) (pv 2) (pv 1)))) (fun _ _ _ _ _ => (pv 2))) (pa_cons pe_int pa_nil))))))), ?_⟩
  rintro qs ⟨l, g⟩ D hp hR
  replace hp : Shp g := hp
  have hl := setC_len (p := HeldC g) hp
  have hal := shp_len hp
  refine ok_setD (d := tD (setC g (HeldC g))) (GN.gd (gn_dictC (cs := setC g (HeldC g)) (d := fun _ => .bl true) (v := fun _ => .bl true) (GN.gd (gn_lcY (xs := setC g (HeldC g)) (f := dCell) (e := fun c => dPair (c, .bl true)) (gw_seq (l := true) (gd_call (i := (l, g)) (ga_cons (gd_var rfl) ga_nil) hp)) (sl12 (by omega)) (fun x _ => gg_name (by decide)) (fun x hx => gd_tup (ga_cons (gd_var rfl) (ga_cons gd_bl ga_nil)) fw))) setC_nodup (fun _ _ _ h => is_bl h))) ?_
  refine ok_rtD (gd_call (i := (l, g, loose g, 0)) (ga_cons (gd_var rfl) (ga_cons (GN.gd (GN.cast (gn_lc (xs := allC g) (f := dCell) (b := fun c => !decide (c ∈ setC g (HeldC g))) (e := dCell) (gw_seq (l := true) (gd_call (i := (l, g)) (ga_cons (gd_var rfl) ga_nil) hp)) (sl12 (by omega)) (fun x _ => gg_name (by decide))
    (fun x _ => gt_B (GD.cast (gd_dnotin (gd_var rfl) (GD.gm (gd_var rfl))) (by rw [tD_look]))) (fun x _ _ => gd_var rfl)) ?_)) (ga_cons gd_int ga_nil))) ⟨hp, fun c hc => mem_allC.mp (List.mem_filter.mp hc).1⟩) hR rfl
  rfl
theorem ca__law_growth (T : Top K mg) : Ca P w K mg base 4 "_law_growth" (spI (ι := Bool × Grid) (fun i => [dHeap i.1 i.2, .seq false [.str "lay", .int 9]]) (fun i => Shp i.2) (fun i d => d = dCells true (layC i.2))) := by
  have sc := sc__law_growth
  refine ca_of T.f__law_growth (fun _ _ _ _ _ _ us hl => match us, hl with | [_, _], _ => rfl) sc (fun _ => rfl) fun f cdv A outer s H E hr => ⟨_, (pss_cons (ps_if (pt_cmpR op_eq (pe_ix (ix_seqK (K := K) rfl) (pv 1) pe_int (fun _ _ => rfl)) pe_str (nomark _))
      (pss_cons ps_never (pss_one ps_never))
      pss_nil)
    (pss_cons (ps_set (i := 3) sc.nd rfl (Or.inl rfl) (pe_lst pa_nil))
    (pss_cons (ps_for PassesOwn.never rfl (pi_seqK (K := K) rfl (pe_ca (ca__law_opened T) hr (by decide) (by rfl) (pa_cons (pv 0) pa_nil))) (pg_tupK (K := K) (n := 2) rfl rfl (pgs_cons (pg_name (i := 4) sc.nd rfl (Or.inl rfl)) (pgs_cons (pg_name (i := 5) sc.nd rfl (Or.inl rfl)) pgs_nil)))
      (pss_cons (ps_setLc (i := 6) (own := [("_law_its", 7)]) rfl sc.nd rfl rfl (sw_true rfl rfl rfl (by decide +kernel)) (pi_seqK (K := K) rfl (pe_ca (ca__law_round_about T) hr (by decide) (by rfl) (pa_cons (pe_tup (pa_cons (pv 4) (pa_cons (pv 5) pa_nil))) pa_nil))) (blkOk_by (own := [("_law_its", 7)]) (N := N__law_growth) (sc := (defScope s__law_growth)) (by decide +kernel)) (fun _ _ _ _ _ => (pg_name (i := 7) sc.nd rfl (Or.inl rfl))) (fun _ _ _ _ _ => pts_nil) (fun _ _ _ _ _ => (pe_ca (ca__law_at T) hr (by decide) (by rfl) (pa_cons (pv 0) (pa_cons (pe_ix (ix_seqK (K := K) rfl) (pv 7) pe_int (fun _ _ => rfl)) (pa_cons (pe_ix (ix_seqK (K := K) rfl) (pv 7) pe_int (fun _ _ => rfl)) pa_nil))))))
      (pss_cons (ps_if (PW.pt (pw_and (pt_cmpR op_eq (pe_ix (ix_seqK (K := K) rfl) (pv 1) pe_int (fun _ _ => rfl)) pe_str (nomark _)) (pw_and1 (pt_cmpR (op_neDK (K := K) rfl hr.units) (pe_lc (own := [("_law_own", 8)]) rfl sc.nd (pi_seqK (K := K) rfl (pv 6)) (blkOk_by (own := [("_law_own", 8)]) (N := N__law_growth) (sc := (defScope s__law_growth)) (by decide +kernel)) (fun _ _ _ _ _ => (pg_name (i := 8) sc.nd rfl (Or.inl rfl))) (fun _ _ _ _ _ => pts_one (pt_cmpR (op_notInQ (K := K) rfl (hu65 hr)) (pv 8) (pe_tup (pa_cons pe_non (pa_cons pe_int pa_nil))) (by rfl))) (fun _ _ _ _ _ => pe_int)) (pe_lst pa_nil) (nomark _)))))
        (pss_one (ps_expr (pe_bm PySem.F.plainAttrs_list PySem.F.slot_list_append PySem.F.type_list_append mt_append (pv 3) (pa_cons (pe_tup (pa_cons (pv 4) (pa_cons (pv 5) pa_nil))) pa_nil))))
        pss_nil)
      (pss_cons (ps_if (PW.pt (pw_and (pt_cmpR op_eq (pe_ix (ix_seqK (K := K) rfl) (pv 1) pe_int (fun _ _ => rfl)) pe_str (nomark _)) (pw_and1 pt_nev)))
        (pss_one ps_never)
        pss_nil)
      (pss_one (ps_if (PW.pt (pw_and (pt_cmpR op_eq (pe_ix (ix_seqK (K := K) rfl) (pv 1) pe_int (fun _ _ => rfl)) pe_str (nomark _)) (pw_and1 pt_nev)))
        (pss_one ps_never)
        pss_nil))))))
    (pss_one (ps_ret (pv 3)))))), ?_⟩
  rintro qs ⟨l, g⟩ D hp hR
  replace hp : Shp g := hp
  have hl := setC_len (p := Opn g) hp
  refine ok_seq (ok_if (GT.cast (c := false) (gt_test (gd_eqS (gd_ix (gd_var rfl) gd_int rfl) gd_str)) (by decide +kernel)) (fun z => by cases z) fun _ => ok_nextS ?_)
  refine ok_setN (d := .seq true []) (gn_lst ga_nil fw) fun r hr' => ?_
  refine ok_seq (ok_for [4, 5] (fun i ρ' => ∃ (o4 o5 o6 : Sl), ρ' = [.im (dHeap l g), .im (.seq false [.str "lay", .int 9]), .un, .ow r (.seq true ((((setC g (Opn g)).take i).filter (nearSt g)).map dCell)), o4, o5, o6, .un, .un]) (gw_seq (l := true) (ds := (setC g (Opn g)).map dCell) (gd_call (i := (l, g)) (ga_cons (gd_var rfl) ga_nil) hp)) ⟨_, _, _, rfl⟩ ?_ ?_)
  · rintro H1 i _ d hd ⟨o4, o5, o6, rfl⟩
    obtain ⟨c, hc, rfl⟩ := get_map hd
    have hcg := (mem_setC.mp (List.mem_of_getElem? hc)).1
    refine ⟨_, gg_tup (ggs_cons (gg_name (by decide)) (ggs_cons (gg_name (by decide)) ggs_nil)) rfl, ?_⟩
    refine ok_setD (d := .seq true ((rb c).map fun d => dOpt (atV g d))) (GN.gd (gn_lcY (xs := rb c) (f := dCell) (e := fun d => dOpt (atV g d)) (gw_seq (l := true) (gd_call (i := c) (ga_cons (gd_tup (ga_cons (gd_var rfl) (ga_cons (gd_var rfl) ga_nil)) fw) ga_nil) trivial)) fw (fun x _ => gg_name (by decide))
      (fun x _ => gd_call (i := (l, g, x)) (ga_cons (gd_var rfl) (ga_cons (gd_ix (gd_var rfl) gd_int rfl) (ga_cons (gd_ix (gd_var rfl) gd_int rfl) ga_nil))) hp))) ?_
    have tail : ∀ {PS BS R} {D' : Ends} (fl : List Dt), (∀ σ H, En PS BS σ H [.im (dHeap l g), .im (.seq false [.str "lay", .int 9]), .un, .ow r (.seq true fl), .im (.int c.1), .im (.int c.2), .im (.seq true ((rb c).map fun d => dOpt (atV g d))), .un, .un] → D'.nx σ H) → R = [.im (dHeap l g), .im (.seq false [.str "lay", .int 9]), .un, .ow r (.seq true fl), .im (.int c.1), .im (.int c.2), .im (.seq true ((rb c).map fun d => dOpt (atV g d))), .un, .un] →
        Ok PS BS (tSeq (tIfS (tAnd (tTest (tOp rEq (tOp (rIx K) (tVar 1) (tC (.int 0))) (tC (.str "seed")))) tNevT) tNever tNext) (tIfS (tAnd (tTest (tOp rEq (tOp (rIx K) (tVar 1) (tC (.int 0))) (tC (.str "fill")))) tNevT) tNever tNext)) R D' := by
      rintro PS BS _ D' fl h rfl
      refine ok_seq (ok_if (gt_and (b := false) (c := false) (GT.cast (gt_test (gd_eqS (gd_ix (gd_var rfl) gd_int rfl) gd_str)) (by decide +kernel)) fun z => by cases z) (fun z => by cases z) fun _ => ok_nextS ?_)
      exact ok_if (gt_and (b := false) (c := false) (GT.cast (gt_test (gd_eqS (gd_ix (gd_var rfl) gd_int rfl) gd_str)) (by decide +kernel)) fun z => by cases z) (fun z => by cases z) fun _ => ok_next h
    have hlen : ((((setC g (Opn g)).take i).filter (nearSt g)).map dCell).length ≤ 64 := by
      rw [List.length_map]
      exact Nat.le_trans (List.length_filter_le _ _) (Nat.le_trans (List.length_take_le' _ _) (by omega))
    refine ok_seq (ok_if (b := nearSt g c) ?_ (fun hb => ?_) (fun hb => ok_nextS ?_))
    · refine GT.cast (gt_and (b := true) (GT.cast (gt_test (gd_eqS (gd_ix (gd_var rfl) gd_int rfl) gd_str)) (by decide +kernel)) fun _ => gt_test (gd_neNil (ds := ((rb c).filter fun d => !(decide (atV g d = none) || decide (atV g d = some 0))).map fun _ => .int 1) (GD.gl (GN.gd (gn_lc (xs := rb c) (f := fun d => dOpt (atV g d)) (b := fun d => !(decide (atV g d = none) || decide (atV g d = some 0))) (e := fun _ => .int 1)
        (gw_seq (gd_var rfl)) fw (fun x _ => gg_name (by decide)) (fun x _ => gt_test (GD.cast (gd_notInG (d := dOpt (atV g x)) (ds := [.non, .int 0]) (gd_var rfl) (gd_tup (ga_cons gd_non (ga_cons gd_int ga_nil)) fw) (plain_opt _) ?_) ?_)) (fun x _ _ => gd_int)))) ?_)) ?_
      · exact plain_seq false dOpt [none, some 0] 0 (fun a => by cases a <;> rfl) (fun a => by cases a <;> simp [dOpt, py, PyData.canLay0]) (fun a => by cases a <;> simp [dOpt, py, PyData.depth]) (by decide)
      · congr 2
        cases atV g x with
        | none => rfl
        | some v =>
          show (PyData.eqv PyData.none (PyData.int v) || (PyData.eqv (PyData.int 0) (PyData.int v) || false)) = _
          have e1 : PyData.eqv PyData.none (PyData.int v) = false := rfl
          have e2 := eqv_int 0 v
          rw [py, py] at e2
          rw [e1, e2, Bool.false_or, Bool.or_false, decide_eq_false (show ¬ (some v = none) from fun z => by cases z), Bool.false_or]
          by_cases z : v = 0
          · subst z; rfl
          · rw [decide_eq_false (fun q => z q.symm), decide_eq_false (fun q => z (Option.some.inj q))]
      · exact plain_seq true (fun _ : Cell => Dt.int 1) _ 0 (fun _ => rfl) (fun _ => by simp [py, PyData.canLay0]) (fun _ => by simp [py, PyData.depth]) (by decide)
      · rw [near_rb hp hcg, Bool.true_and, List.isEmpty_map]
        exact filter_any _ _
    · refine ok_append rfl (gd_tup (ga_cons (gd_var rfl) (ga_cons (gd_var rfl) ga_nil)) fw) (szlt (by omega)) (tail _ (ok_nx ⟨.im (.int c.1), .im (.int c.2), .im (.seq true ((rb c).map fun d => dOpt (atV g d))), ?_⟩ rfl) rfl)
      rw [take_get hc, List.filter_append, List.map_append, List.filter_cons, hb]
      rfl
    · refine tail _ (ok_nx ⟨.im (.int c.1), .im (.int c.2), .im (.seq true ((rb c).map fun d => dOpt (atV g d))), ?_⟩ rfl) rfl
      rw [take_get hc, List.filter_append, List.map_append, List.filter_cons, hb]
      simp
  · rintro _ ⟨o4, o5, o6, rfl⟩
    refine ok_rtOwn rfl hr' (fun a h => h) hR ?_
    rw [List.length_map, List.take_length]
    rfl
theorem ca__law_layers (T : Top K mg) : Ca P w K mg base 5 "_law_layers" (spI (ι := Grid) (fun g => [dHeap false g, .int 9]) (fun g => Shp g) (fun g d => ∃ k, k ≤ 9 ∧ d = .seq true (((List.range (k + 1)).map (layN g)).map (dHeap false)) ∧ (k = 9 ∨ layN g (k + 1) = layN g k))) := by
  have sc := sc__law_layers
  refine ca_of T.f__law_layers (fun _ _ _ _ _ _ us hl => match us, hl with | [_, _], _ => rfl) sc (fun _ => rfl) fun f cdv A outer s H E hr => ⟨_, (pss_cons (ps_set (i := 2) sc.nd rfl (Or.inl rfl) (pe_lst (pa_cons (pv 0) pa_nil)))
    (pss_cons (ps_for PassesOwn.never rfl (pi_range1 (by rfl) T.b_range (pa_cons (pv 1) pa_nil)) (pg_name (i := 3) sc.nd rfl (Or.inl rfl))
      (pss_cons (ps_set (i := 4) sc.nd rfl (Or.inl rfl) (pe_ca (ca__law_put T) hr (by decide) (by rfl) (pa_cons (pe_ix (ix_seqK (K := K) rfl) (pv 2) (pe_un un_neg pe_int) (fun _ _ => rfl)) (pa_cons (pe_ca (ca__law_growth T) hr (by decide) (by rfl) (pa_cons (pe_ix (ix_seqK (K := K) rfl) (pv 2) (pe_un un_neg pe_int) (fun _ _ => rfl)) (pa_cons (pe_tup (pa_cons pe_str (pa_cons pe_int pa_nil))) pa_nil))) (pa_cons pe_int pa_nil)))))
      (pss_cons (ps_if (pt_cmpR (op_eqDK (K := K) rfl hr.units) (pv 4) (pe_ix (ix_seqK (K := K) rfl) (pv 2) (pe_un un_neg pe_int) (fun _ _ => rfl)) (nomark _))
        (pss_one (ps_ret (pv 2)))
        pss_nil)
      (pss_one (ps_expr (pe_bm PySem.F.plainAttrs_list PySem.F.slot_list_append PySem.F.type_list_append mt_append (pv 2) (pa_cons (pv 4) pa_nil)))))))
    (pss_one (ps_ret (pv 2))))), ?_⟩
  rintro qs g D hp hR
  replace hp : Shp g := hp
  refine ok_setN (d := .seq true (((List.range 1).map (layN g)).map (dHeap false))) (gn_lst (ga_cons (gd_var rfl) ga_nil) fw) fun r hr' => ?_
  refine ok_seq (ok_for [3] (fun i ρ' => ∃ (o3 o4 : Sl), ρ' = [.im (dHeap false g), .im (.int 9), .ow r (.seq true (((List.range (i + 1)).map (layN g)).map (dHeap false))), o3, o4]) (gw_range1 (j := 9) (gd_var rfl) (by decide) (by decide)) ⟨_, _, rfl⟩ ?_ ?_)
  · rintro H1 i _ d hd ⟨o3, o4, rfl⟩
    obtain ⟨k, hk, rfl⟩ := get_map hd
    have hil : i < 9 := by
      have := (List.getElem?_eq_some_iff.mp hk).1
      rw [List.length_range] at this
      exact this
    refine ⟨_, gg_name (by decide), ?_⟩
    have hi := layN_shp hp i
    have hla : atI (((List.range (i + 1)).map (layN g)).map (dHeap false)) (-1) = some (dHeap false (layN g i)) := by
      rw [List.map_map]
      exact atI_last _ i
    refine ok_setD (d := dHeap false (layN g (i + 1))) (gd_call (i := (false, layN g i, layC (layN g i), 9)) (ga_cons (gd_ixL (gl_own rfl) (gd_neg gd_int) hla) (ga_cons (gd_call (i := (false, layN g i)) (ga_cons (gd_ixL (gl_own rfl) (gd_neg gd_int) hla) (ga_cons (gd_tup (ga_cons gd_str (ga_cons gd_int ga_nil)) fw) ga_nil)) hi) (ga_cons gd_int ga_nil))) ⟨hi, fun c hc => air_in (opn_air (mem_layC.mp hc).1)⟩) ?_
    refine ok_seq (ok_if (GT.cast (gt_test (gd_eqD (gd_var rfl) (gd_ixL (gl_own rfl) (gd_neg gd_int) hla) (plain_heap false _) (plain_heap false _))) (eqv_heap false _ _)) (fun hb => ?_) (fun hb => ok_nextS ?_))
    · exact ok_rtOwn rfl hr' (fun a h => h) (hR.wide (fun _ h => h) (fun _ h => List.mem_cons_of_mem _ h) rfl) ⟨i, by omega, rfl, .inr (of_decide_eq_true hb)⟩
    · refine ok_append rfl (gd_var rfl) (by rw [List.length_map, List.length_map, List.length_range]; exact szlt (by omega)) (ok_nx ⟨.im (.int (0 + (k : Nat))), .im (dHeap false (layN g (i + 1))), ?_⟩ rfl)
      rw [List.range_succ (n := i + 1), List.map_append, List.map_append]
      rfl
  · rintro _ ⟨o3, o4, rfl⟩
    exact ok_rtOwn rfl hr' (fun a h => h) hR ⟨9, Nat.le_refl _, rfl, .inl rfl⟩
theorem ca__law_laid (T : Top K mg) : Ca P w K mg base 2 "_law_laid" (spI (ι := List Grid × Nat) (fun i => [.seq true (i.1.map (dHeap false)), .int (i.2 : Nat)]) (fun i => i.1 ≠ [] ∧ ∀ g ∈ i.1, Shp g) (fun i d => d = dCells true ((allC (i.1.getD (min i.2 (i.1.length - 1)) [])).filter fun c => decide (atG (i.1.getD (min i.2 (i.1.length - 1)) []) c = 9)))) := by
  have sc := sc__law_laid
  refine ca_of T.f__law_laid (fun _ _ _ _ _ _ us hl => match us, hl with | [_, _], _ => rfl) sc (fun _ => rfl) fun f cdv A outer s H E hr => ⟨_, (pss_cons (ps_set (i := 2) sc.nd rfl (Or.inr rfl) (pe_ix (ix_seqK (K := K) rfl) (pv 0) (pe_callB (call_min2Q rfl) (by rfl) T.b_min (by decide +kernel) (pa_cons (pv 1) (pa_cons (pe_op op_sub (pe_callB (call_lenK (K := K) rfl) (by rfl) T.b_len (by decide +kernel) (pa_cons (pv 0) pa_nil)) pe_int) pa_nil))) (fun _ _ => rfl)))
    (pss_one (ps_ret (pe_lc (own := [("_law_own", 3)]) rfl sc.nd (pi_seqK (K := K) rfl (pe_ca (ca__law_all_spots T) hr (by decide) (by rfl) (pa_cons (pv 2) pa_nil))) (blkOk_by (own := [("_law_own", 3)]) (N := N__law_laid) (sc := (defScope s__law_laid)) (by decide +kernel)) (fun _ _ _ _ _ => (pg_name (i := 3) sc.nd rfl (Or.inl rfl))) (fun _ _ _ _ _ => pts_one (pt_cmpR op_eq (pe_ix (ix_seqK (K := K) rfl) (pe_ix (ix_seqK (K := K) rfl) (pv 2) (pe_ix (ix_seqK (K := K) rfl) (pv 3) pe_int (fun _ _ => rfl)) (fun _ _ => rfl)) (pe_ix (ix_seqK (K := K) rfl) (pv 3) pe_int (fun _ _ => rfl)) (fun _ _ => rfl)) pe_int (nomark _))) (fun _ _ _ _ _ => (pv 3)))))), ?_⟩
  rintro qs ⟨gs, n⟩ D ⟨hne, hs⟩ hR
  dsimp only at hne hs
  have hpos : 0 < gs.length := List.length_pos_iff.mpr hne
  have hl : min n (gs.length - 1) < gs.length := by omega
  have e : (if ((gs.length : Int) - 1) < (n : Int) then (gs.length : Int) - 1 else (n : Int)) = ((min n (gs.length - 1) : Nat) : Int) := by split <;> omega
  have hg : gs.getD (min n (gs.length - 1)) [] = gs[min n (gs.length - 1)] := by rw [List.getD_eq_getElem?_getD, List.getElem?_eq_getElem hl]; rfl
  have hp := hs _ (List.getElem_mem hl)
  rw [← hg] at hp
  refine ok_setD (d := dHeap false (gs.getD (min n (gs.length - 1)) [])) (gd_ix (l := true) (ds := gs.map (dHeap false)) (gd_var rfl) (gd_min2 (gd_var rfl) (gd_sub (gd_lenM (f := dHeap false) (gd_var rfl)) gd_int)) ?_) ?_
  · rw [e]
    exact atI_nat (by rw [List.getElem?_map, List.getElem?_eq_getElem hl, hg]; rfl)
  · have hal := shp_len hp
    exact ok_rtD (GN.gd (gn_lc (xs := allC (gs.getD (min n (gs.length - 1)) [])) (f := dCell) (b := fun c => decide (atG (gs.getD (min n (gs.length - 1)) []) c = 9)) (e := dCell) (gw_seq (l := true) (gd_call (i := (false, gs.getD (min n (gs.length - 1)) [])) (ga_cons (gd_var rfl) ga_nil) hp)) (sl12 (by omega)) (fun x _ => gg_name (by decide))
      (fun x hx => gt_test (gd_eqI (gd_at hp (mem_allC.mp hx) (gd_var rfl) (gd_ix (gd_var rfl) gd_int rfl) (gd_ix (gd_var rfl) gd_int rfl)) gd_int)) (fun x _ _ => gd_var rfl))) hR rfl
end
end DL
set_option maxHeartbeats 1000000
namespace DL
open PySem PySem.Spec PyProof.Rows L2
def IsHol (g : Grid) (Q : List Cell) : Prop := ∃ s ∈ airC g, ¬ Opn g s ∧ Q = setC g (Rch (airC g) [s])
structure HlOk (g : Grid) (hs : List (List Cell)) : Prop where
  nd : hs.Nodup
  mm : ∀ Q, Q ∈ hs ↔ IsHol g Q
  l : hs.length ≤ 64
theorem Opn.rch {g : Grid} {c d : Cell} (h : Opn g c) (r : Rch (airC g) [c] d) : Opn g d := r.trans fun x hx => by rw [single hx]; exact h
theorem Opn.rchR {g : Grid} {c d : Cell} (hc : c ∈ airC g) (h : Opn g d) (r : Rch (airC g) [c] d) : Opn g c := h.rch (r.symm1 hc)
structure HlI (g : Grid) (ks : List Cell) (hs : List (List Cell)) (i : Nat) : Prop where
  nd : ks.Nodup
  ky : ∀ c, c ∈ ks ↔ Opn g c ∨ ∃ Q ∈ hs, c ∈ Q
  pa : ∀ Q ∈ hs, IsHol g Q
  di : hs.Nodup
  cv : ∀ c ∈ (allC g).take i, c ∈ airC g → c ∈ ks
  n : hs.length ≤ i
theorem HlI.start (g : Grid) : HlI g (setC g (Opn g)) [] 0 :=
  ⟨setC_nodup, fun c => by rw [mem_setC]; exact ⟨fun h => .inl h.2, fun h => h.elim (fun o => ⟨air_in (opn_air o), o⟩) fun ⟨_, h, _⟩ => by simp at h⟩, fun _ h => by simp at h, List.nodup_nil, fun _ h => by simp at h, Nat.le_refl _⟩
section
variable {g : Grid} {ks : List Cell} {hs : List (List Cell)} {i : Nat} {c : Cell}
theorem HlI.skip (h : HlI g ks hs i) (hc : (allC g)[i]? = some c) (k : c ∈ airC g → c ∈ ks) : HlI g ks hs (i + 1) :=
  ⟨h.nd, h.ky, h.pa, h.di, fun e he => by
    rw [List.take_add_one, hc] at he
    rcases List.mem_append.mp he with z | z
    · exact h.cv e z
    · have : e = c := by simpa using z
      rw [this]; exact k, Nat.le_succ_of_le h.n⟩
theorem HlI.new (h : HlI g ks hs i) (ha : c ∈ airC g) (hk : c ∉ ks) : ∀ d ∈ setC g (Rch (airC g) [c]), d ∉ ks := fun d hd hdk => by
  have r := (mem_setC.mp hd).2
  rcases (h.ky d).mp hdk with o | ⟨Q, hQ, hm⟩
  · exact hk ((h.ky c).mpr (.inl (o.rchR ha r)))
  · obtain ⟨s, hs1, _, rfl⟩ := h.pa Q hQ
    refine hk ((h.ky c).mpr (.inr ⟨_, hQ, mem_setC.mpr ⟨air_in ha, ?_⟩⟩))
    exact (r.symm1 ha).trans fun x hx => by rw [single hx]; exact (mem_setC.mp hm).2
theorem HlI.add (h : HlI g ks hs i) (hc : (allC g)[i]? = some c) (ha : c ∈ airC g) (hk : c ∉ ks) : HlI g (ks ++ setC g (Rch (airC g) [c])) (hs ++ [setC g (Rch (airC g) [c])]) (i + 1) where
  nd := by
    rw [List.nodup_append]
    exact ⟨h.nd, setC_nodup, fun a h1 b hb e => h.new ha hk b hb (e ▸ h1)⟩
  ky := fun d => by
    rw [List.mem_append, h.ky]
    constructor
    · rintro ((o | ⟨Q, hQ, hm⟩) | hm)
      · exact .inl o
      · exact .inr ⟨Q, List.mem_append_left _ hQ, hm⟩
      · exact .inr ⟨_, List.mem_append_right _ (by simp), hm⟩
    · rintro (o | ⟨Q, hQ, hm⟩)
      · exact .inl (.inl o)
      · rcases List.mem_append.mp hQ with z | z
        · exact .inl (.inr ⟨Q, z, hm⟩)
        · have : Q = setC g (Rch (airC g) [c]) := by simpa using z
          rw [this] at hm
          exact .inr hm
  pa := fun Q hQ => by
    rcases List.mem_append.mp hQ with z | z
    · exact h.pa Q z
    · have : Q = setC g (Rch (airC g) [c]) := by simpa using z
      exact ⟨c, ha, fun o => hk ((h.ky c).mpr (.inl o)), this⟩
  di := by
    rw [List.nodup_append]
    refine ⟨h.di, by simp, fun a h1 b hb e => ?_⟩
    have h2 : b = setC g (Rch (airC g) [c]) := by simpa using hb
    refine hk ((h.ky c).mpr (.inr ⟨a, h1, ?_⟩))
    rw [e, h2]
    exact mem_setC.mpr ⟨air_in ha, .base (by simp)⟩
  cv := fun e he hae => by
    rw [List.take_add_one, hc] at he
    rcases List.mem_append.mp he with z | z
    · exact List.mem_append_left _ (h.cv e z hae)
    · have : e = c := by simpa using z
      rw [this]
      exact List.mem_append_right _ (mem_setC.mpr ⟨air_in ha, .base (by simp)⟩)
  n := by rw [List.length_append]; exact Nat.succ_le_succ h.n
theorem HlI.ok (S : Shp g) (h : HlI g ks hs (allC g).length) : HlOk g hs where
  nd := h.di
  mm := fun Q => by
    constructor
    · exact h.pa Q
    · rintro ⟨s, hs1, hn, rfl⟩
      have : s ∈ ks := h.cv s (by rw [List.take_length]; exact mem_allC.mpr (air_in hs1)) hs1
      rcases (h.ky s).mp this with o | ⟨Q, hQ, hm⟩
      · exact absurd o hn
      · obtain ⟨t, ht, _, rfl⟩ := h.pa Q hQ
        have e : setC g (Rch (airC g) [s]) = setC g (Rch (airC g) [t]) := setC_ext fun d _ => Rch.same ht (mem_setC.mp hm).2 d
        rw [e]; exact hQ
  l := Nat.le_trans h.n (Nat.le_of_lt (shp_len S))
end
section
variable {P : Program} {w : World} {K : PySem.W.Frag} {mg : Str → Option Value} {base : Heap}
theorem ca__law_hollows (T : Top K mg) : Ca P w K mg base 4 "_law_hollows" (spGrid fun i d => ∃ hs, d = .seq true (hs.map (dCells false)) ∧ HlOk i.2 hs) := by
  have sc := sc__law_hollows
  refine ca_of T.f__law_hollows (fun _ _ _ _ _ _ us hl => match us, hl with | [_], _ => rfl) sc (fun _ => rfl) fun f cdv A outer s H E hr => ⟨_, (pss_cons (ps_par (i := 1) (j := 2) rfl sc.nd rfl rfl (by decide) rfl rfl (pa_cons (pe_callTy (call_dictC rfl (hu_of hr) hr.units) (by rfl) T.b_dict (by decide +kernel) (pa_cons (pe_lc (own := [("_law_own", 3)]) rfl sc.nd (pi_seqK (K := K) rfl (pe_ca (ca__law_opened T) hr (by decide) (by rfl) (pa_cons (pv 0) pa_nil))) (blkOk_by (own := [("_law_own", 3)]) (N := N__law_hollows) (sc := (defScope s__law_hollows)) (by decide +kernel)) (fun _ _ _ _ _ => (pg_name (i := 3) sc.nd rfl (Or.inl rfl))) (fun _ _ _ _ _ => pts_nil) (fun _ _ _ _ _ => (pe_tup (pa_cons (pv 3) (pa_cons pe_bl pa_nil))))) pa_nil)) (pa_cons (pe_lst pa_nil) pa_nil)) (by rfl))
    (pss_cons (ps_for PassesOwn.never rfl (pi_seqK (K := K) rfl (pe_ca (ca__law_all_spots T) hr (by decide) (by rfl) (pa_cons (pv 0) pa_nil))) (pg_name (i := 3) sc.nd rfl (Or.inl rfl))
      (pss_one (ps_if (PW.pt (pw_and (pt_cmpR op_eq (pe_ix (ix_seqK (K := K) rfl) (pe_ix (ix_seqK (K := K) rfl) (pv 0) (pe_ix (ix_seqK (K := K) rfl) (pv 3) pe_int (fun _ _ => rfl)) (fun _ _ => rfl)) (pe_ix (ix_seqK (K := K) rfl) (pv 3) pe_int (fun _ _ => rfl)) (fun _ _ => rfl)) pe_int (nomark _)) (pw_and1 (pt_cmp (pc_dnotin (hu_of hr) (pv 3) (pv 1))))))
        (pss_cons (ps_set (i := 4) sc.nd rfl (Or.inl rfl) (pe_ca (ca__law_grown T) hr (by decide) (by rfl) (pa_cons (pv 0) (pa_cons (pe_lst (pa_cons (pv 3) pa_nil)) (pa_cons pe_bl pa_nil)))))
        (pss_cons (ps_expr (pe_bm PySem.F.plainAttrs_list PySem.F.slot_list_append PySem.F.type_list_append mt_append (pv 2) (pa_cons (pe_callTy (call_tupK (K := K) rfl) (by rfl) T.b_tuple (by decide +kernel) (pa_cons (pv 4) pa_nil)) pa_nil)))
        (pss_one (ps_for PassesOwn.never rfl (pi_seqK (K := K) rfl (pv 4)) (pg_name (i := 5) sc.nd rfl (Or.inl rfl))
          (pss_one (ps_dput (hu_of hr) (pv 1) (pv 5) pe_bl rfl))))))
        pss_nil)))
    (pss_one (ps_ret (pe_callB (cr_sortH rfl hr.units) (by rfl) T.b_sorted (by decide +kernel) (pa_cons (pv 2) pa_nil)))))), ?_⟩
  rintro qs ⟨l, g⟩ D hp hR
  replace hp : Shp g := hp
  have hal := shp_len hp
  have hol := setC_len (p := Opn g) hp
  refine ok_parNN (da := tD (setC g (Opn g))) (db := .seq true []) (by decide) (gn_dictC (cs := setC g (Opn g)) (d := fun _ => .bl true) (v := fun _ => .bl true) (GN.gd (gn_lcY (xs := setC g (Opn g)) (f := dCell) (e := fun c => dPair (c, .bl true)) (gw_seq (l := true) (gd_call (i := (l, g)) (ga_cons (gd_var rfl) ga_nil) hp)) (sl12 (by omega)) (fun x _ => gg_name (by decide)) (fun x hx => gd_tup (ga_cons (gd_var rfl) (ga_cons gd_bl ga_nil)) fw))) setC_nodup (fun _ _ _ h => is_bl h))
    (gn_lst ga_nil fw) fun p r hp' hr' hrp => ?_
  refine ok_seq (ok_for [3] (fun i ρ' => ∃ (ks : List Cell) (hs : List (List Cell)) (o3 o4 o5 : Sl), ρ' = [.im (dHeap l g), .ow p (tD ks), .ow r (.seq true (hs.map (dCells false))), o3, o4, o5] ∧ HlI g ks hs i) (gw_seq (l := true) (ds := (allC g).map dCell) (gd_call (i := (l, g)) (ga_cons (gd_var rfl) ga_nil) hp)) ⟨_, [], _, _, _, rfl, .start g⟩ ?_ ?_)
  · rintro H1 i _ d hd ⟨ks, hs, o3, o4, o5, rfl, hi⟩
    obtain ⟨c, hc, rfl⟩ := get_map hd
    have hcg := mem_allC.mp (List.mem_of_getElem? hc)
    refine ⟨_, gg_name (by decide), ?_⟩
    have hil : i < 64 := Nat.lt_trans (List.getElem?_eq_some_iff.mp hc).1 hal
    have hn := hi.n
    refine ok_if (GT.cast (gt_and (gt_test (gd_eqI (gd_at hp hcg (gd_var rfl) (gd_ix (gd_var rfl) gd_int rfl) (gd_ix (gd_var rfl) gd_int rfl)) gd_int)) fun _ => gt_B (gd_dnotin (gd_var rfl) (gm_own rfl))) (by rw [tD_look])) (fun hb => ?_) (fun hb => ?_)
    · rw [Bool.and_eq_true, Bool.not_eq_true', decide_eq_true_eq, decide_eq_false_iff_not] at hb
      have ha : c ∈ airC g := mem_airC.mpr ⟨hcg, hb.1⟩
      have hql := setC_len (p := Rch (airC g) [c]) hp
      have hf : [c].filter (fun c => decide (atG g c = 0) == true) = [c] := by rw [List.filter_cons]; simp [hb.1]
      have hkin : ∀ e ∈ ks ++ setC g (Rch (airC g) [c]), e ∈ allC g := fun e he => by
        rcases List.mem_append.mp he with z | z
        · rcases (hi.ky e).mp z with o | ⟨Q, hQ, hm⟩
          · exact mem_allC.mpr (air_in (opn_air o))
          · obtain ⟨s, _, _, rfl⟩ := hi.pa Q hQ
            exact mem_allC.mpr (mem_setC.mp hm).1
        · exact mem_allC.mpr (mem_setC.mp z).1
      have hks : ks.length + (setC g (Rch (airC g) [c])).length < 64 := by
        have := nodup_len (hi.add hc ha hb.2).nd hkin
        rw [List.length_append] at this
        omega
      refine ok_setD (d := dCells true (setC g (Rch (airC g) [c]))) (GD.cast (gd_call (i := (l, g, [c], true)) (ga_cons (gd_var rfl) (ga_cons (GN.gd (gn_lst (ga_cons (gd_var rfl) ga_nil) fw)) (ga_cons gd_bl ga_nil))) ⟨hp, by simp, fun x hx => by rw [single hx]; exact hcg⟩) (by dsimp only; rw [hf, kind_air])) ?_
      refine ok_seq (ok_append rfl (gd_tuple (l := true) (gd_var rfl)) (by rw [List.length_map]; exact szlt (by omega)) ?_)
      refine ok_for [5] (fun j ρ' => ∃ (o5 : Sl), ρ' = [.im (dHeap l g), .ow p (tD (ks ++ (setC g (Rch (airC g) [c])).take j)), .ow r (.seq true (hs.map (dCells false) ++ [dCells false (setC g (Rch (airC g) [c]))])), .im (dCell c), .im (dCells true (setC g (Rch (airC g) [c]))), o5])
        (gw_seq (l := true) (ds := (setC g (Rch (airC g) [c])).map dCell) (gd_var rfl)) ⟨_, by rw [List.take_zero, List.append_nil]; rfl⟩ ?_ ?_
      · rintro H2 j _ d hd ⟨o5, rfl⟩
        obtain ⟨e, he, rfl⟩ := get_map hd
        refine ⟨_, gg_name (by decide), ?_⟩
        refine ok_dput rfl gd_bl (fun _ _ h => is_bl h) (gd_var rfl) ?_ (ok_nx ⟨.im (dCell e), ?_⟩ rfl)
        · rw [List.length_map, List.length_append]
          have := List.length_take_le' j (setC g (Rch (airC g) [c]))
          exact szlt (by omega)
        · rw [List.take_add_one, he, ← List.append_assoc]
          show _ = [_, Sl.ow p (tD ((ks ++ (setC g (Rch (airC g) [c])).take j) ++ [e])), _, _, _, _]
          rw [← tD_put]
          · rfl
          · intro hm
            rcases List.mem_append.mp hm with z | z
            · exact hi.new ha hb.2 e (List.mem_of_getElem? he) z
            · have hnd := setC_nodup (g := g) (p := Rch (airC g) [c])
              obtain ⟨hj, ej⟩ := List.getElem?_eq_some_iff.mp he
              obtain ⟨k, hk, ek⟩ := List.getElem_of_mem z
              rw [List.length_take] at hk
              rw [List.getElem_take] at ek
              exact List.pairwise_iff_getElem.mp hnd k j (by omega) hj (by omega) (by rw [ek, ej])
      · rintro _ ⟨o5, rfl⟩
        rw [List.length_map, List.take_length]
        refine ok_nx ⟨_, hs ++ [setC g (Rch (airC g) [c])], .im (dCell c), .im (dCells true (setC g (Rch (airC g) [c]))), o5, ?_, hi.add hc ha hb.2⟩ rfl
        rw [List.map_append]
        rfl
    · refine ok_next (ok_nx ⟨ks, hs, .im (dCell c), o4, o5, rfl, hi.skip hc fun ha => ?_⟩ rfl)
      rw [decide_eq_true (mem_airC.mp ha).2, Bool.true_and, Bool.not_eq_false', decide_eq_true_eq] at hb
      exact hb
  · rintro _ ⟨ks, hs, o3, o4, o5, rfl, hi⟩
    rw [List.length_map] at hi
    have O := hi.ok hp
    have hlen := O.l
    refine ok_rt (φ := fun d => ∃ hs, d = .seq true (hs.map (dCells false)) ∧ HlOk g hs) (GE.imp (GNE.ge (gne_sortH (hs := hs) (gl_own rfl) (fun h hh z => ?_) (by omega))) ?_) (hR.wide (fun a h => List.mem_cons_of_mem _ (List.mem_cons_of_mem _ h)) (fun _ h => h) rfl)
    · obtain ⟨s, hs1, _, e⟩ := (O.mm h).mp hh
      have : s ∈ h := by rw [e]; exact mem_setC.mpr ⟨air_in hs1, .base (by simp)⟩
      rw [z] at this
      cases this
    · rintro _ ⟨hs', pm, rfl⟩
      exact ⟨hs', rfl, pm.nodup_iff.mpr O.nd, fun Q => pm.mem_iff.trans (O.mm Q), by rw [pm.length_eq]; exact O.l⟩
theorem ca__law_all_of (T : Top K mg) : Ca P w K mg base 1 "_law_all_of" (spI (ι := List (List Cell)) (fun hs => [.seq true (hs.map (dCells false))]) (fun hs => hs.length ≤ 64 ∧ ∀ h ∈ hs, h.length ≤ 64) (fun hs d => d = dCells true hs.flatten)) := by
  have sc := sc__law_all_of
  refine ca_of T.f__law_all_of (fun _ _ _ _ _ _ us hl => match us, hl with | [_], _ => rfl) sc (fun _ => rfl) fun f cdv A outer s H E hr => ⟨_, (pss_cons (ps_set (i := 1) sc.nd rfl (Or.inl rfl) (pe_lst pa_nil))
    (pss_cons (ps_for PassesOwn.never rfl (pi_seqK (K := K) rfl (pv 0)) (pg_name (i := 2) sc.nd rfl (Or.inl rfl))
      (pss_one (ps_set (i := 1) sc.nd rfl (Or.inl rfl) (pe_op op_cat (pv 1) (pe_callTy (call_listK (K := K) rfl) (by rfl) T.b_list (by decide +kernel) (pa_cons (pv 2) pa_nil))))))
    (pss_one (ps_ret (pv 1))))), ?_⟩
  rintro qs hs D ⟨h1, h2⟩ hR
  refine ok_setD (d := dCells true []) (GN.gd (gn_lst ga_nil fw)) ?_
  refine ok_seq (ok_for [2] (fun i ρ' => ∃ (o2 : Sl), ρ' = [.im (.seq true (hs.map (dCells false))), .im (dCells true (hs.take i).flatten), o2]) (gw_seq (l := true) (gd_var rfl)) ⟨_, rfl⟩ ?_ ?_)
  · rintro H1 i _ d hd ⟨o2, rfl⟩
    obtain ⟨h, hh, rfl⟩ := get_map hd
    refine ⟨_, gg_name (by decide), ?_⟩
    have hl : (hs.take i).flatten.length ≤ 64 * 64 := by
      have key : ∀ l : List (List Cell), (∀ h ∈ l, h.length ≤ 64) → l.flatten.length ≤ l.length * 64 := by
        intro l
        induction l with
        | nil => intro _; exact Nat.le_refl _
        | cons a r ih =>
          intro hl
          rw [List.flatten_cons, List.length_append, List.length_cons, Nat.succ_mul]
          have := ih fun h hm => hl h (List.mem_cons_of_mem _ hm)
          have := hl a List.mem_cons_self
          omega
      have h3 := key (hs.take i) fun h hm => h2 h (List.mem_of_mem_take hm)
      have := List.length_take_le' i hs
      omega
    have hl2 := h2 h (List.mem_of_getElem? hh)
    refine ok_set1D (d := dCells true (hs.take (i + 1)).flatten) (GD.cast (GN.gd (gn_cat (gd_var rfl) (GN.gd (gn_list (l := false) (gd_var rfl))) (by rw [List.length_map, List.length_map]; exact sz (by omega)))) ?_) (ok_nx ⟨_, rfl⟩ rfl)
    rw [take_get hh]
    unfold dCells
    rw [List.flatten_append, List.map_append]
    simp
  · rintro _ ⟨o2, rfl⟩
    refine ok_rtD (gd_var rfl) hR ?_
    rw [List.length_map, List.take_length]
end
end DL
set_option maxHeartbeats 1000000
/-! Drawing: a list of three ints that is drawn from, environments of ints. -/
namespace DL
open PySem PySem.Spec PyProof.Rows L2
def TinAt (H : Hp) (p : Addr) (N : Nat) : Prop := ∃ a b c : Int, H p = some (.lst [.int a, .int b, .int c]) ∧ 0 ≤ a ∧ (0 ≤ b ∧ b < 2 ^ 62) ∧ 0 ≤ c ∧ c ≤ N
def Sm (p : Addr) (H H' : Hp) : Prop := ∀ a o, a ≠ p → H a = some o → H' a = some o
theorem Sm.of {p : Addr} {H H' : Hp} (s : Same H H') : Sm p H H' := fun a o _ h => s a o h
theorem Sm.trans {p : Addr} {H H1 H2 : Hp} (a : Sm p H H1) (b : Sm p H1 H2) : Sm p H H2 := fun c o n h => b c o n (a c o n h)
theorem TinAt.mono {H H' : Hp} {p : Addr} {N : Nat} (s : Same H H') (h : TinAt H p N) : TinAt H' p N := by
  obtain ⟨a, b, c, h1, h2⟩ := h
  exact ⟨a, b, c, s _ _ h1, h2⟩
theorem TinAt.le {H : Hp} {p : Addr} {N M : Nat} (h : TinAt H p N) (hm : N ≤ M) : TinAt H p M := by
  obtain ⟨a, b, c, h1, h2, h3, h4, h5⟩ := h
  exact ⟨a, b, c, h1, h2, h3, h4, by omega⟩
theorem TinAt.mu {H : Hp} {p : Addr} {N : Nat} (h : TinAt H p N) : Mu (H p) := by
  obtain ⟨a, b, c, h1, _⟩ := h
  rw [h1]; trivial
def flatS : Sl → Bool
  | .un => true
  | .raw _ => true
  | .im (.int _) => true
  | _ => false
def flatR (ρ : List Sl) : Bool := ρ.all flatS
theorem flatR_get {ρ : List Sl} (h : flatR ρ = true) {i : Nat} {s : Sl} (hs : ρ[i]? = some s) : flatS s = true := List.all_eq_true.mp h s (List.mem_of_getElem? hs)
theorem flatR_set {ρ : List Sl} (h : flatR ρ = true) {i : Nat} {k : Int} : flatR (ρ.set i (.im (.int k))) = true := by
  unfold flatR
  rw [List.all_eq_true]
  intro s hs
  rcases List.mem_or_eq_of_mem_set hs with z | z
  · exact List.all_eq_true.mp h s z
  · rw [z]; rfl
def BsF (own : List Addr) (bs : List (List Addr × Hp)) : Prop := ∀ e ∈ bs, ∀ a ∈ own, a ∈ e.1 ∨ e.2 a = none
theorem BsF.push {own : List Addr} {bs : List (List Addr × Hp)} {H1 : Hp} (h : BsF own bs) : BsF own ((own, H1) :: bs) := fun e he a ha => by
  rcases List.mem_cons.mp he with z | z
  · rw [z]; exact .inl ha
  · exact h e z a ha
/-- but for own things all stands -/
def Off (own : List Addr) (H H' : Hp) : Prop := ∀ a o, a ∉ own → H a = some o → H' a = some o
theorem Off.of {own : List Addr} {p : Addr} {H H' : Hp} (hp : p ∈ own) (s : Sm p H H') : Off own H H' := fun a o n h => s a o (fun z => n (z ▸ hp)) h
theorem Off.trans {own : List Addr} {H H1 H2 : Hp} (a : Off own H H1) (b : Off own H1 H2) : Off own H H2 := fun c o n h => b c o n (a c o n h)
theorem En.flat {own : List Addr} {bs : List (List Addr × Hp)} {σ : L2.St} {H H' : Hp} {ρ : List Sl} (E : En own bs σ H ρ) (hf : flatR ρ = true) (hb : BsF own bs) (o : Off own H H') (al : ∀ q ∈ own, Mu (H' q)) : En own bs σ H' ρ where
  al := al
  ex := fun e he a u ha h0 => by
    refine o a u (fun z => ?_) (E.ex e he a u ha h0)
    rcases hb e he a z with k | k
    · exact ha k
    · rw [k] at h0; cases h0
  len := E.len
  sl := fun i s hs => by
    obtain ⟨v, k1, k2⟩ := E.sl i s hs
    refine ⟨v, k1, ?_⟩
    have := flatR_get hf hs
    cases s with
    | un => trivial
    | raw v => exact k2
    | ow p d => cases this
    | im d =>
      obtain ⟨x, x1, x2⟩ := k2
      cases d with
      | int i => exact ⟨x, x1, by rw [is_int x2]; exact .int i⟩
      | non => cases this
      | bl _ => cases this
      | str _ => cases this
      | seq _ _ => cases this
      | dic _ => cases this
  ne := fun i j p d q e h1 _ _ => by cases flatR_get hf h1
  mine := fun i p d h1 => by cases flatR_get hf h1
structure Cf (own : List Addr) (p : Addr) (W : Hp → Prop) : Prop where
  st : ∀ H H', Sm p H H' → W H → W H'
  mu : ∀ H N, TinAt H p N → W H → ∀ q ∈ own, Mu (H q)
  pin : p ∈ own
def isI (lo hi : Int) (v : V) : Prop := ∃ i, v = .int i ∧ lo ≤ i ∧ i ≤ hi
def FX (own : List Addr) (p : Addr) (W : Hp → Prop) (t : TE) (ρ : List Sl) (k : Nat) (φ : V → Prop) : Prop := ∀ bs σ H N, BsF own bs → En own bs σ H ρ → TinAt H p N → W H → N + k ≤ 1000000 → ∀ Q : VK, (∀ v H', Sm p H H' → TinAt H' p (N + k) → φ v → Q v H') → t σ H Q
def FT (own : List Addr) (p : Addr) (W : Hp → Prop) (t : TT) (ρ : List Sl) (k : Nat) : Prop := ∀ bs σ H N, BsF own bs → En own bs σ H ρ → TinAt H p N → W H → N + k ≤ 1000000 → ∀ Q : Bool → Hp → Prop, (∀ b H', Sm p H H' → TinAt H' p (N + k) → Q b H') → t σ H Q
def FW (own : List Addr) (p : Addr) (W : Hp → Prop) (wi : TI) (ρ : List Sl) (k : Nat) (lo hi : Int) (m : Nat) : Prop := ∀ bs σ H N, BsF own bs → En own bs σ H ρ → TinAt H p N → W H → N + k ≤ 1000000 → ∀ R : It → Hp → Prop,
  (∀ J H' its, Sm p H H' → TinAt H' p (N + k) → its.length ≤ m → (∀ d ∈ its, ∃ i, d = .int i ∧ lo ≤ i ∧ i ≤ hi) → WD J its H' own → R J H') → wi σ H R
def FOk (own : List Addr) (bs : List (List Addr × Hp)) (p : Addr) (W : Hp → Prop) (t : TS) (ρ : List Sl) (N : Nat) (D : Ends) : Prop := ∀ σ H, En own bs σ H ρ → TinAt H p N → W H → t D σ H
section
variable {own : List Addr} {bs : List (List Addr × Hp)} {p : Addr} {W : Hp → Prop} {ρ : List Sl} {t u : TS} {ta tb te : TE} {tt : TT} {k k1 k2 N : Nat} {i l1 h1 l2 h2 lo hi : Int} {D : Ends} {K : PySem.W.Frag} {φ : V → Prop}
theorem Cf.en {σ : L2.St} {H H' : Hp} (C : Cf own p W) (hf : flatR ρ = true) (hb : BsF own bs) (E : En own bs σ H ρ) (s : Sm p H H') (T : TinAt H' p N) (w : W H) : En own bs σ H' ρ := E.flat hf hb (Off.of C.pin s) (C.mu H' N T (C.st H H' s w))
theorem fx_gd (h : GD te ρ (.int i)) (a : lo ≤ i) (b : i ≤ hi) : FX own p W te ρ 0 (isI lo hi) := fun bs σ H N _ E T w _ Q q => h own bs σ H E Q fun v H' s hv => q v H' (.of s) (T.mono s) ⟨i, is_int hv, a, b⟩
theorem fx_le (h : FX own p W te ρ k (isI lo hi)) (hk : k ≤ k1) (a : l1 ≤ lo) (b : hi ≤ h1) : FX own p W te ρ k1 (isI l1 h1) := fun bs σ H N hb E T w hN Q q => h bs σ H N hb E T w (by omega) Q fun v H' s T' ⟨i, e, c, d⟩ => q v H' s (T'.le (by omega)) ⟨i, e, by omega, by omega⟩
theorem fx_op {f : Int → Int → Int} (C : Cf own p W) (hf : flatR ρ = true) (ha : FX own p W ta ρ k1 (isI l1 h1)) (hb : FX own p W tb ρ k2 (isI l2 h2)) (hr : ∀ i j, l1 ≤ i → i ≤ h1 → l2 ≤ j → j ≤ h2 → lo ≤ f i j ∧ f i j ≤ hi) :
    FX own p W (tOp (rI0 fun i j => .int (f i j)) ta tb) ρ (k1 + k2) (isI lo hi) := fun bs σ H N hbs E T w hN Q q =>
  ha bs σ H N hbs E T w (by omega) _ fun v H1 s1 T1 ⟨i, e1, a1, b1⟩ => hb bs σ H1 (N + k1) hbs (C.en hf hbs E s1 T1 w) T1 (C.st _ _ s1 w) (by omega) _ fun v2 H2 s2 T2 ⟨j, e2, a2, b2⟩ =>
    ⟨i, j, e1, e2, q _ H2 (s1.trans s2) (by rw [← Nat.add_assoc]; exact T2) ⟨_, rfl, (hr i j a1 b1 a2 b2).1, (hr i j a1 b1 a2 b2).2⟩⟩
theorem fx_add (C : Cf own p W) (hf : flatR ρ = true) (ha : FX own p W ta ρ k1 (isI l1 h1)) (hb : FX own p W tb ρ k2 (isI l2 h2)) : FX own p W (tOp (rI0 fun i j => .int (i + j)) ta tb) ρ (k1 + k2) (isI (l1 + l2) (h1 + h2)) :=
  fx_op C hf ha hb fun i j _ _ _ _ => by omega
theorem fx_sub (C : Cf own p W) (hf : flatR ρ = true) (ha : FX own p W ta ρ k1 (isI l1 h1)) (hb : FX own p W tb ρ k2 (isI l2 h2)) : FX own p W (tOp (rI0 fun i j => .int (i - j)) ta tb) ρ (k1 + k2) (isI (l1 - h2) (h1 - l2)) :=
  fx_op C hf ha hb fun i j _ _ _ _ => by omega
theorem fx_min2 (C : Cf own p W) (hf : flatR ρ = true) (ha : FX own p W ta ρ k1 (isI l1 h1)) (hb : FX own p W tb ρ k2 (isI l2 h2)) (a : lo ≤ l1) (b : lo ≤ l2) (c : h1 ≤ hi ∨ h2 ≤ hi) : FX own p W (tCB rMin2Q (tCons ta (tCons tb tNil))) ρ (k1 + k2) (isI lo hi) := fun bs σ H N hbs E T w hN Q q =>
  ha bs σ H N hbs E T w (by omega) _ fun v H1 s1 T1 ⟨i, e1, a1, b1⟩ => hb bs σ H1 (N + k1) hbs (C.en hf hbs E s1 T1 w) T1 (C.st _ _ s1 w) (by omega) _ fun v2 H2 s2 T2 ⟨j, e2, a2, b2⟩ =>
    ⟨i, j, by rw [e1, e2], q _ H2 (s1.trans s2) (by rw [← Nat.add_assoc]; exact T2) ⟨_, rfl, by split <;> omega, by split <;> omega⟩⟩
def spTake : Sp := fun vs H Q E => ∃ (p : Addr) (n : Int) (N : Nat), vs = [.ref p, .int n] ∧ TinAt H p N ∧ N + 1 ≤ 1000000 ∧ 1 ≤ n ∧ n ≤ 1000 ∧ ∀ (i : Int) H', 0 ≤ i → i < n → Sm p H H' → TinAt H' p (N + 1) → Q (.int i) H'
theorem fx_take {X : XK} {j : Nat} (C : Cf own p W) (hf : flatR ρ = true) (hj : ρ[j]? = some (.raw (.ref p))) (hb : FX own p W tb ρ k (isI lo hi)) (h1 : 1 ≤ lo) (h2 : hi ≤ 1000) : FX own p W (tCall spTake [] X (tCons (tVar j) (tCons tb tNil))) ρ (k + 1) (isI 0 (hi - 1)) := fun bs σ H N hbs E T w hN Q q =>
  ⟨_, E.raw hj, hb bs σ H N hbs E T w (by omega) _ fun v H1 s1 T1 ⟨n, e, a1, b1⟩ => ⟨p, n, N + k, by rw [e]; rfl, T1, by omega, by omega, by omega, fun i H' c1 c2 s2 T2 => q _ H' (s1.trans s2) (by rw [← Nat.add_assoc]; exact T2) ⟨i, rfl, c1, by omega⟩⟩⟩
theorem fx_intEq (C : Cf own p W) (ha : FX own p W ta ρ k (isI l1 h1)) : FX own p W (tCB rInt1Q (tCons (tOp rEq ta (tC (.int 0))) tNil)) ρ k (isI 0 1) := fun bs σ H N hbs E T w hN Q q =>
  ha bs σ H N hbs E T w hN _ fun v H1 s1 T1 ⟨i, e1, a1, b1⟩ => by
    subst e1
    refine ⟨rfl, .inr ⟨decide (i = 0), ?_, ?_⟩⟩
    · have e : decide (V.int i = V.int 0) = decide (i = 0) := by rw [dec_int, Bool.beq_eq_decide_eq]
      rw [e]
    · exact q _ H1 s1 T1 ⟨_, rfl, by split <;> decide, by split <;> decide⟩
theorem ft_cmp {g : Int → Int → Bool} (C : Cf own p W) (hf : flatR ρ = true) (ha : FX own p W ta ρ k1 (isI l1 h1)) (hb : FX own p W tb ρ k2 (isI l2 h2)) : FT own p W (tTest (tOp (rI0 fun i j => .bl (g i j)) ta tb)) ρ (k1 + k2) := fun bs σ H N hbs E T w hN Q q =>
  ha bs σ H N hbs E T w (by omega) _ fun v H1 s1 T1 ⟨i, e1, a1, b1⟩ => hb bs σ H1 (N + k1) hbs (C.en hf hbs E s1 T1 w) T1 (C.st _ _ s1 w) (by omega) _ fun v2 H2 s2 T2 ⟨j, e2, a2, b2⟩ =>
    ⟨i, j, e1, e2, _, rfl, q _ H2 (s1.trans s2) (by rw [← Nat.add_assoc]; exact T2)⟩
theorem ft_eq0 (C : Cf own p W) (ha : FX own p W ta ρ k (isI l1 h1)) : FT own p W (tTest (tOp rEq ta (tC (.int 0)))) ρ k := fun bs σ H N hbs E T w hN Q q =>
  ha bs σ H N hbs E T w hN _ fun v H1 s1 T1 ⟨i, e1, a1, b1⟩ => by
    subst e1
    exact ⟨rfl, _, rfl, q _ H1 s1 T1⟩
/-! walks -/
theorem fw_range1 (ha : FX own p W ta ρ k (isI lo hi)) (h0 : 0 ≤ hi) (h1 : hi < 1000) (h2 : -1000 < lo) {m : Nat} (hm : hi.toNat ≤ m) : FW own p W (iRng1 (tCons ta tNil)) ρ k 0 (hi - 1) m := fun bs σ H N hbs E T w hN R r =>
  ha bs σ H N hbs E T w hN _ fun v H1 s1 T1 ⟨j, e, a, b⟩ => ⟨j, by rw [e], by omega, by omega, r _ H1 _ s1 T1 (by rw [List.length_map, List.length_range]; omega) (fun d hd => by
    obtain ⟨x, hx, rfl⟩ := List.mem_map.mp hd
    rw [List.mem_range] at hx
    exact ⟨_, rfl, by omega, by omega⟩) (wd_range (lo := 0) (n := j.toNat))⟩
theorem fw_range2 (C : Cf own p W) (hf : flatR ρ = true) (ha : FX own p W ta ρ k1 (isI l1 h1)) (hb : FX own p W tb ρ k2 (isI l2 h2)) (c1 : -1000 < l1) (c2 : h1 < 1000) (c3 : -1000 < l2) (c4 : h2 < 1000) {m : Nat} (hm : (h2 - l1).toNat ≤ m) : FW own p W (iRng2 (tCons ta (tCons tb tNil))) ρ (k1 + k2) l1 (h2 - 1) m := fun bs σ H N hbs E T w hN R r =>
  ha bs σ H N hbs E T w (by omega) _ fun v H1 s1 T1 ⟨i, e1, a1, b1⟩ => hb bs σ H1 (N + k1) hbs (C.en hf hbs E s1 T1 w) T1 (C.st _ _ s1 w) (by omega) _ fun v2 H2 s2 T2 ⟨j, e2, a2, b2⟩ =>
    ⟨i, j, by rw [e1, e2], ⟨by omega, by omega, by omega, by omega⟩, r _ H2 _ (s1.trans s2) (by rw [← Nat.add_assoc]; exact T2) (by rw [List.length_map, List.length_range]; omega) (fun d hd => by
      obtain ⟨x, hx, rfl⟩ := List.mem_map.mp hd
      rw [List.mem_range] at hx
      exact ⟨_, rfl, by omega, by omega⟩) (wd_range (lo := i) (n := (j - i).toNat))⟩
/-! statements -/
theorem fok_set {j : Nat} (C : Cf own p W) (hf : flatR ρ = true) (hb : BsF own bs) (h : FX own p W te ρ k (isI lo hi)) (hN : N + k ≤ 1000000) (q : ∀ i, lo ≤ i → i ≤ hi → FOk own bs p W u (ρ.set j (.im (.int i))) (N + k) D) : FOk own bs p W (tSeq (tAsg te (gName j)) u) ρ N D := fun σ H E T w =>
  h bs σ H N hb E T w hN _ fun v H1 s1 T1 ⟨i, e, a, b⟩ => by
    subst e
    exact q i a b _ H1 ((C.en hf hb E s1 T1 w).setIm (.int i)) T1 (C.st _ _ s1 w)
theorem fok_par2 {j l : Nat} (C : Cf own p W) (hf : flatR ρ = true) (hb : BsF own bs) (h : FX own p W ta ρ k1 (isI l1 h1)) (h' : FX own p W tb ρ k2 (isI l2 h2)) (hN : N + (k1 + k2) ≤ 1000000) (q : ∀ i i', l1 ≤ i → i ≤ h1 → l2 ≤ i' → i' ≤ h2 → FOk own bs p W u ((ρ.set j (.im (.int i))).set l (.im (.int i'))) (N + (k1 + k2)) D) :
    FOk own bs p W (tSeq (tPar j l (tCons ta (tCons tb tNil))) u) ρ N D := fun σ H E T w =>
  h bs σ H N hb E T w (by omega) _ fun v H1 s1 T1 ⟨i, e, a, b⟩ => h' bs σ H1 (N + k1) hb (C.en hf hb E s1 T1 w) T1 (C.st _ _ s1 w) (by omega) _ fun v2 H2 s2 T2 ⟨i', e', a', b'⟩ => by
    subst e e'
    have s := s1.trans s2
    exact ⟨_, _, rfl, q i i' a b a' b' _ H2 (((C.en hf hb E s T2 w).setIm (.int i)).setIm (.int i')) (by rw [← Nat.add_assoc]; exact T2) (C.st _ _ s w)⟩
theorem fok_par3 {j l m : Nat} {tc : TE} {k3 : Nat} {l3 h3 : Int} (C : Cf own p W) (hf : flatR ρ = true) (hb : BsF own bs) (h : FX own p W ta ρ k1 (isI l1 h1)) (h' : FX own p W tb ρ k2 (isI l2 h2)) (h'' : FX own p W tc ρ k3 (isI l3 h3)) (hN : N + (k1 + k2 + k3) ≤ 1000000)
    (q : ∀ i i' i'', l1 ≤ i → i ≤ h1 → l2 ≤ i' → i' ≤ h2 → l3 ≤ i'' → i'' ≤ h3 → FOk own bs p W u (((ρ.set j (.im (.int i))).set l (.im (.int i'))).set m (.im (.int i''))) (N + (k1 + k2 + k3)) D) :
    FOk own bs p W (tSeq (tPar3 j l m (tCons ta (tCons tb (tCons tc tNil)))) u) ρ N D := fun σ H E T w =>
  h bs σ H N hb E T w (by omega) _ fun v H1 s1 T1 ⟨i, e, a, b⟩ => h' bs σ H1 (N + k1) hb (C.en hf hb E s1 T1 w) T1 (C.st _ _ s1 w) (by omega) _ fun v2 H2 s2 T2 ⟨i', e', a', b'⟩ =>
    h'' bs σ H2 (N + k1 + k2) hb (C.en hf hb E (s1.trans s2) T2 w) T2 (C.st _ _ (s1.trans s2) w) (by omega) _ fun v3 H3 s3 T3 ⟨i'', e'', a'', b''⟩ => by
    subst e e' e''
    have s := (s1.trans s2).trans s3
    exact ⟨_, _, _, rfl, q i i' i'' a b a' b' a'' b'' _ H3 ((((C.en hf hb E s T3 w).setIm (.int i)).setIm (.int i')).setIm (.int i'')) (by rw [← Nat.add_assoc, ← Nat.add_assoc]; exact T3) (C.st _ _ s w)⟩
theorem fok_if (C : Cf own p W) (hf : flatR ρ = true) (hb : BsF own bs) (h : FT own p W tt ρ k) (hN : N + k ≤ 1000000) (ha : FOk own bs p W t ρ (N + k) D) (hc : FOk own bs p W u ρ (N + k) D) : FOk own bs p W (tIfS tt t u) ρ N D := fun σ H E T w =>
  h bs σ H N hb E T w hN _ fun b H1 s1 T1 => by
    have E1 := C.en hf hb E s1 T1 w
    cases b with
    | true => exact iteT (ha σ H1 E1 T1 (C.st _ _ s1 w))
    | false => exact iteF (hc σ H1 E1 T1 (C.st _ _ s1 w))
theorem fok_seq (h : FOk own bs p W t ρ N { D with nx := fun σ H => u D σ H }) : FOk own bs p W (tSeq t u) ρ N D := h
theorem fok_next (h : FOk own bs p W u ρ N D) : FOk own bs p W tNext ρ N { D with nx := fun σ H => u D σ H } := h
def NxF (own : List Addr) (bs : List (List Addr × Hp)) (p : Addr) (W : Hp → Prop) (I : List Sl → Prop) (N : Nat) : L2.St → Hp → Prop := fun σ H => ∃ ρ, I ρ ∧ En own bs σ H ρ ∧ TinAt H p N ∧ W H
theorem fok_for {wi : TI} {kb m : Nat} (j : Nat) (I : List Sl → Prop) (C : Cf own p W) (hf : flatR ρ = true) (hb : BsF own bs) (hw : FW own p W wi ρ k lo hi m) (h0 : I ρ) (hN : N + k + m * kb ≤ 1000000)
    (hs : ∀ H1 ρ' i N', I ρ' → lo ≤ i → i ≤ hi → N' + kb ≤ 1000000 → FOk own ((own, H1) :: bs) p W t (ρ'.set j (.im (.int i))) N' { D with nx := NxF own ((own, H1) :: bs) p W I (N' + kb), ct := NxF own ((own, H1) :: bs) p W I (N' + kb), bk := D.nx })
    (hd : ∀ ρ', I ρ' → ∀ σ H, En own bs σ H ρ' → TinAt H p (N + k + m * kb) → W H → D.nx σ H) : FOk own bs p W (tFor wi (gName j) t) ρ N D := fun σ H E T w =>
  hw bs σ H N hb E T w (by omega) _ fun J H1 its s1 T1 hm hit wd => by
    have wk := wd own (fun q hq => .inl hq)
    have w1 := C.st _ _ s1 w
    have E1 := (C.en hf hb E s1 T1 w).base (H1 := H1) (Same.refl _)
    have hmk : its.length * kb ≤ m * kb := Nat.mul_le_mul_right _ hm
    refine for_it wk (fun i σ2 H2 => NxF own ((own, H1) :: bs) p W I (N + k + i * kb) σ2 H2) ⟨ρ, h0, E1, T1.le (by omega), w1⟩ ?_ ?_ ?_
    · rintro i σ2 H2 _ ⟨ρ', hI, E2, _, _⟩
      refine ⟨fun a o h => ?_, E2.al⟩
      obtain ⟨q1, q2⟩ := out_some h
      exact out_of (E2.ex _ List.mem_cons_self a o q2 q1) q2
    · rintro i x σ2 H2 H3 hil ⟨ρ', hI, E2, T2, w2⟩ ⟨s3, d, hd', hx⟩
      obtain ⟨v, rfl, a, b⟩ := hit d (List.mem_of_getElem? hd')
      have hik : (i + 1) * kb ≤ its.length * kb := Nat.mul_le_mul_right _ hil
      rw [Nat.succ_mul] at hik
      have := hs H1 ρ' v (N + k + i * kb) hI a b (by omega)
      have e : N + k + i * kb + kb = N + k + (i + 1) * kb := by rw [Nat.succ_mul]; omega
      rw [e] at this
      rw [is_int hx]
      exact this _ H3 ((E2.mono s3).setIm (.int v)) (T2.mono s3) (C.st _ _ (.of s3) w2)
    · rintro σ2 H2 ⟨ρ', hI, E2, T2, w2⟩
      exact hd ρ' hI σ2 H2 E2.unbase (T2.le (by omega)) w2
theorem fok_forS {wi : TI} {kb m : Nat} (j : Nat) (I : List Sl → Prop) (C : Cf own p W) (hf : flatR ρ = true) (hb : BsF own bs) (hw : FW own p W wi ρ k lo hi m) (h0 : I ρ) (hN : N + k + m * kb ≤ 1000000)
    (hs : ∀ H1 ρ' i N', I ρ' → lo ≤ i → i ≤ hi → N' + kb ≤ 1000000 → FOk own ((own, H1) :: bs) p W t (ρ'.set j (.im (.int i))) N' { D with nx := NxF own ((own, H1) :: bs) p W I (N' + kb), ct := NxF own ((own, H1) :: bs) p W I (N' + kb), bk := fun σ H => u D σ H })
    (hd : ∀ ρ', I ρ' → FOk own bs p W u ρ' (N + k + m * kb) D) : FOk own bs p W (tSeq (tFor wi (gName j) t) u) ρ N D :=
  fok_seq (fok_for j I C hf hb hw h0 hN hs fun ρ' h σ H E T w => hd ρ' h σ H E T w)
theorem FOk.le {M : Nat} (h : FOk own bs p W t ρ M D) (hm : N ≤ M) : FOk own bs p W t ρ N D := fun σ H E T w => h σ H E (T.le hm) w
theorem raw_op {r : R2} {σ : L2.St} {H : Hp} {Q : VK} (h : ta σ H fun x H1 => tb σ H1 fun y H2 => r x y H2 Q) : tOp r ta tb σ H Q := h
theorem raw_ilist {tl : TE} {σ : L2.St} {H : Hp} {R : It → Hp → Prop} (h : tl σ H fun v H1 => ∃ a, v = V.ref a ∧ (∃ xs, SqL K H1 a xs) ∧ R (Itl K a) H1) : iList K tl σ H R := h
end
section
variable {P : Program} {w : World} {K : PySem.W.Frag} {mg : Str → Option Value} {base : Heap}
/-- a def by a promise of one's own -/
theorem ca_ofR {x : Str} {st : Stmt} {N ps : List Str} {k : Nat} {sp : Sp} (F : Fn K mg x st)
    (hb : ∀ (kV doc pm : Value) (an : Option Addr) (cdv ct : Value) (us : List Value), us.length = ps.length → bindArgs (PySem.W.fnOf x x (defArgs st) (defBody st) (defScope st) .none kV doc pm an cdv ct) ⟨us, []⟩ = pure (ps.zip us))
    (S : FnScope N ps (defScope st)) (len : ∀ vs H Q E, sp vs H Q E → vs.length = ps.length)
    (hbody : ∀ (f : Addr) (cdv : Value) (A : Around) (outer : List Env) (s : Shared) (H : Hp) (E : XK), Room k (A.deeper (envOfC x (defScope st) s.heap.objs.size f cdv)) →
      ∃ t, PSs (cxOf CX0 P w K mg base N x (defScope st) f cdv A outer s H E).nox (defBody st) t ∧ ∀ vs Q, sp vs H Q E → t { nx := fun _ H' => Q .non H', rt := Q } (L2.start N vs) H) : Ca P w K mg base (k + 1) x sp := by
  obtain ⟨f, fd, F, hm⟩ := F
  refine ⟨f, fd, ps, F.ok S (fun vs H Q E h => len vs H Q E h) (fun cdv A outer s H vs Q E hr h => ?_), hm, F.kp, F.binds hb⟩
  obtain ⟨t, T, ok⟩ := hbody f cdv A outer s H E hr
  exact ⟨t, T, ok vs Q h⟩
/-- an environment of ints and raw things, at a def's start -/
def matchF : List (Option V) → List Sl → Prop
  | [], [] => True
  | o :: σ, .un :: ρ => matchF σ ρ
  | o :: σ, .raw v :: ρ => o = some v ∧ matchF σ ρ
  | o :: σ, .im (.int i) :: ρ => o = some (.int i) ∧ matchF σ ρ
  | _, _ => False
theorem matchF_len : ∀ {σ : List (Option V)} {ρ : List Sl}, matchF σ ρ → σ.length = ρ.length ∧ flatR ρ = true
  | [], [], _ => ⟨rfl, rfl⟩
  | o :: σ, .un :: ρ, h => by have := matchF_len (σ := σ) (ρ := ρ) h; exact ⟨by simp [this.1], by simpa [flatR, flatS] using this.2⟩
  | o :: σ, .raw v :: ρ, h => by have := matchF_len (σ := σ) (ρ := ρ) h.2; exact ⟨by simp [this.1], by simpa [flatR, flatS] using this.2⟩
  | o :: σ, .im (.int i) :: ρ, h => by have := matchF_len (σ := σ) (ρ := ρ) h.2; exact ⟨by simp [this.1], by simpa [flatR, flatS] using this.2⟩
theorem matchF_sl {H : Hp} {ps : List Addr} : ∀ {σ : List (Option V)} {ρ : List Sl}, matchF σ ρ → ∀ (i : Nat) (s : Sl), ρ[i]? = some s → ∃ o, σ[i]? = some o ∧ SlOk H ps o s
  | [], [], _, i, s, h => by simp at h
  | o :: σ, .un :: ρ, _, 0, s, h => ⟨o, rfl, by simp at h; subst h; trivial⟩
  | o :: σ, .un :: ρ, m, i + 1, s, h => matchF_sl (σ := σ) (ρ := ρ) m i s (by simpa using h)
  | o :: σ, .raw v :: ρ, m, 0, s, h => ⟨o, rfl, by simp at h; subst h; exact m.1⟩
  | o :: σ, .raw v :: ρ, m, i + 1, s, h => matchF_sl (σ := σ) (ρ := ρ) m.2 i s (by simpa using h)
  | o :: σ, .im (.int k) :: ρ, m, 0, s, h => ⟨o, rfl, by simp at h; subst h; exact ⟨_, m.1, .int k⟩⟩
  | o :: σ, .im (.int k) :: ρ, m, i + 1, s, h => matchF_sl (σ := σ) (ρ := ρ) m.2 i s (by simpa using h)
theorem enF {own : List Addr} {H : Hp} {σ : List (Option V)} {ρ : List Sl} (m : matchF σ ρ) (al : ∀ q ∈ own, Mu (H q)) : En own [(own, H)] σ H ρ where
  al := al
  ex := fun e he a o _ h0 => by
    have z : e = (own, H) := by simpa using he
    subst z
    exact h0
  len := (matchF_len m).1
  sl := matchF_sl m
  ne := fun i j p d q e h1 _ _ => by cases flatR_get (matchF_len m).2 h1
  mine := fun i p d h1 => by cases flatR_get (matchF_len m).2 h1
end
end DL
set_option maxHeartbeats 1000000
namespace DL
open PySem PySem.Spec PyProof.Rows L2
section
variable {ps : List Addr} {bs : List (List Addr × Hp)} {σ : L2.St} {H : Hp} {ρ : List Sl} {D : Ends} {te ti : TE} {d : Dt}
/-- a raw thing is owned -/
theorem En.toOw (E : En ps bs σ H ρ) {i : Nat} {p : Addr} (hi : ρ[i]? = some (.raw (.ref p))) (hp : p ∈ ps) (ho : Ow H ps p d) (hne : ∀ (j : Nat) e, ρ[j]? ≠ some (.ow p e)) (hb : ∀ e ∈ bs, p ∈ e.1 ∨ e.2 p = none) : En ps bs σ H (ρ.set i (.ow p d)) where
  al := E.al
  ex := E.ex
  len := by rw [List.length_set]; exact E.len
  sl := fun j s hs => by
    rcases get_set_cases hs with ⟨rfl, rfl⟩ | ⟨_, hs⟩
    · exact ⟨_, E.raw hi, rfl, hp, ho⟩
    · exact E.sl j s hs
  ne := fun a b q e r f h1 h2 hab => by
    rcases get_set_cases h1 with ⟨e1, z1⟩ | ⟨e1, k1⟩
    · rcases get_set_cases h2 with ⟨e2, z2⟩ | ⟨e2, k2⟩
      · exact absurd (e1.trans e2.symm) hab
      · intro z
        have z1' := (Sl.ow.inj z1).1
        exact hne b f (by rw [k2, ← z, z1'])
    · rcases get_set_cases h2 with ⟨e2, z2⟩ | ⟨e2, k2⟩
      · intro z
        have z2' := (Sl.ow.inj z2).1
        exact hne a e (by rw [k1, z, z2'])
      · exact E.ne a b q e r f k1 k2 hab
  mine := fun a q e h1 => by
    rcases get_set_cases h1 with ⟨e1, z1⟩ | ⟨e1, h1⟩
    · cases z1; exact hb
    · exact E.mine a q e h1
theorem isAll_set {H : Hp} {v : V} {d : Dt} : ∀ {vs : List V} {ds : List Dt} (n : Nat), IsAll H vs ds → Is H v d → IsAll H (vs.set n v) (ds.set n d)
  | _, _, _, .nil, _ => .nil
  | _, _, 0, .cons _ t, h => .cons h t
  | _, _, n + 1, .cons a t, h => .cons a (isAll_set n t h)
theorem ok_lset {i : Nat} {p : Addr} {ds : List Dt} {j : Int} {n : Nat} (hi : ρ[i]? = some (.ow p (.seq true ds))) (hv : GD te ρ d) (hj : GD ti ρ (.int j)) (hn : ixN ds.length j = some n) (q : ∀ σ H, En ps bs σ H (ρ.set i (.ow p (.seq true (ds.set n d)))) → D.nx σ H) :
    Ok ps bs (tAsg te (gSub (tVar i) ti rSetL)) ρ D := fun σ H E =>
  hv ps bs σ H E _ fun v H1 s1 h1 => by
    obtain ⟨e1, _, _⟩ := (E.mono s1).ow hi
    refine ⟨.ref p, e1, hj ps bs σ H1 (E.mono s1) _ fun y H2 s2 h2 => ?_⟩
    obtain ⟨e1, e2, xs, e3, e4⟩ := (E.mono (s1.trans s2)).ow hi
    refine ⟨p, xs, j, n, rfl, is_int h2, e3, by rw [e4.length]; exact hn, q _ _ ((E.mono (s1.trans s2)).put hi ?_)⟩
    exact ⟨_, upd_same, (isAll_set n e4 (h1.mono (out_mono s2))).mono (out_upd e2)⟩
theorem ok_retEn (h : GD te ρ d) (q : ∀ v σ H, En ps bs σ H ρ → Is (out H ps) v d → D.rt v H) : Ok ps bs (tRet te) ρ D := fun σ H E => h ps bs σ H E _ fun v H1 s1 h1 => q v σ H1 (E.mono s1) h1
end
def tinD (a b c : Int) : Dt := .seq true [.int a, .int b, .int c]
theorem ow_tin {H : Hp} {ps : List Addr} {p : Addr} {a b c : Int} : Ow H ps p (tinD a b c) ↔ H p = some (.lst [.int a, .int b, .int c]) := by
  constructor
  · rintro ⟨xs, h1, h2⟩
    cases h2 with
    | cons x1 t1 => cases t1 with
      | cons x2 t2 =>
        obtain ⟨v, e, x3⟩ := t2.inv1
        rw [h1, is_int x1, is_int x2, e, is_int x3]
  · intro h
    exact ⟨_, h, .cons (.int a) (.cons (.int b) (.cons (.int c) .nil))⟩
def spOf : Sp := fun vs H Q E => ∃ (p q : Addr) (ys : List V) (N : Nat), vs = [.ref p, .ref q] ∧ TinAt H p N ∧ N + 1 ≤ 1000000 ∧ q ≠ p ∧ H q = some (.lst ys) ∧ 1 ≤ ys.length ∧ ys.length ≤ 1000 ∧ ∀ v H', v ∈ ys → Sm p H H' → TinAt H' p (N + 1) → Q v H'
section
variable {P : Program} {w : World} {K : PySem.W.Frag} {mg : Str → Option Value} {base : Heap}
theorem ca__law_take (T : Top K mg) : Ca P w K mg base 1 "_law_take" spTake := by
  have sc := sc__law_take
  refine ca_ofR T.f__law_take (fun _ _ _ _ _ _ us hl => match us, hl with | [_, _], _ => rfl) sc (fun vs H Q E h => by obtain ⟨p, n, N, e, _⟩ := h; rw [e]; rfl) fun f cdv A outer s H E hr => ⟨_, (pss_cons (ps_if (pt_cmpR op_gt (pe_ix (ix_seqK (K := K) rfl) (pv 0) pe_int (fun _ _ => rfl)) pe_int (nomark _))
      (pss_cons (ps_set (i := 2) sc.nd rfl (Or.inl rfl) (pe_op op_mod (pe_callTy call_int1Q (by rfl) T.b_int (by decide +kernel) (pa_cons (pe_ix (ix_seqK (K := K) rfl) (pv 0) pe_int (fun _ _ => rfl)) pa_nil)) (pv 1)))
      (pss_cons (ps_asg (pe_op op_fdiv (pe_ix (ix_seqK (K := K) rfl) (pv 0) pe_int (fun _ _ => rfl)) (pv 1)) (pg_sub (pv 0) pe_int set_list))
      (pss_one (ps_ret (pv 2)))))
      pss_nil)
    (pss_cons (ps_asg (pe_op op_add (pe_ix (ix_seqK (K := K) rfl) (pv 0) pe_int (fun _ _ => rfl)) pe_int) (pg_sub (pv 0) pe_int set_list))
    (pss_cons (ps_set (i := 3) sc.nd rfl (Or.inl rfl) (pe_op op_mod (pe_callTy call_int1Q (by rfl) T.b_int (by decide +kernel) (pa_cons (pe_op op_mul (pe_op op_add (pe_ix (ix_seqK (K := K) rfl) (pv 0) pe_int (fun _ _ => rfl)) (pe_op op_mul pe_int (pe_ix (ix_seqK (K := K) rfl) (pv 0) pe_int (fun _ _ => rfl)))) (pe_op op_add pe_int (pe_ix (ix_seqK (K := K) rfl) (pv 0) pe_int (fun _ _ => rfl)))) pa_nil)) pe_int))
    (pss_cons (ps_set (i := 4) sc.nd rfl (Or.inl rfl) (pe_op op_add (pe_op op_mod (pe_callTy call_int1Q (by rfl) T.b_int (by decide +kernel) (pa_cons (pv 3) pa_nil)) pe_int) pe_int))
    (pss_cons (ps_set (i := 5) sc.nd rfl (Or.inl rfl) (pe_op op_mod (pe_callTy call_int1Q (by rfl) T.b_int (by decide +kernel) (pa_cons (pe_op op_mul (pe_op op_add (pe_op op_add (pv 3) (pe_ix (ix_seqK (K := K) rfl) (pv 0) pe_int (fun _ _ => rfl))) (pe_op op_fdiv (pe_ix (ix_seqK (K := K) rfl) (pv 0) pe_int (fun _ _ => rfl)) pe_int)) (pv 4)) pa_nil)) pe_int))
    (pss_one (ps_ret (pe_op op_mod (pe_callTy call_int1Q (by rfl) T.b_int (by decide +kernel) (pa_cons (pe_op op_fdiv (pe_op op_mod (pe_callTy call_int1Q (by rfl) T.b_int (by decide +kernel) (pa_cons (pe_op op_add (pe_op op_mul (pv 5) pe_int) (pv 3)) pa_nil)) pe_int) pe_int) pa_nil)) (pv 1))))))))), ?_⟩
  rintro vs Q ⟨p, n, N, rfl, ⟨a, b, c, hp, ha, ⟨hb0, hb⟩, hc0, hc⟩, hN, hn1, hn2, q⟩
  have E0 : En [p] [([p], H)] (L2.start N__law_take [.ref p, .int n]) H [.raw (.ref p), .im (.int n), .un, .un, .un, .un] := enF (show matchF [some (V.ref p), some (V.int n), none, none, none, none] _ from ⟨rfl, rfl, trivial⟩) fun a h => by rw [show a = p by simpa using h, hp]; trivial
  have E1 := E0.toOw (i := 0) (d := tinD a b c) rfl (List.mem_singleton.mpr rfl) (ow_tin.mpr hp) (fun j e hj => by match j, hj with
    | 0, hj => cases hj
    | 1, hj => cases hj
    | 2, hj => cases hj
    | 3, hj => cases hj
    | 4, hj => cases hj
    | 5, hj => cases hj) (fun e he => by
      have : e = ([p], H) := by simpa using he
      rw [this]; exact .inl (List.mem_singleton.mpr rfl))
  have fin : ∀ {σ' H' ρ'} {a' b' c' : Int} (i : Int), En [p] [([p], H)] σ' H' ρ' → ρ'[0]? = some (.ow p (tinD a' b' c')) → 0 ≤ a' → 0 ≤ b' → b' < 2 ^ 62 → 0 ≤ c' → c' ≤ (N + 1 : Nat) → 0 ≤ i → i < n → Q (.int i) H' := fun {σ' H' ρ'} {a' b' c'} i E' h0 k1 k2 k3 k4 k5 k6 k7 =>
    q i H' k6 k7 (fun x o hx ho => E'.ex ([p], H) List.mem_cons_self x o (by simpa using hx) ho) ⟨a', b', c', ow_tin.mp (E'.ow h0).2.2, k1, ⟨k2, k3⟩, k4, k5⟩
  refine (?_ : Ok [p] [([p], H)] _ [.ow p (tinD a b c), .im (.int n), .un, .un, .un, .un] { nx := fun _ H' => Q .non H', rt := Q }) _ H E1
  have g0 : ∀ {ρ} {a b c : Int}, ρ[0]? = some (.ow p (tinD a b c)) → GD (tOp (rIx K) (tVar 0) (tC (.int 0))) ρ (.int a) := fun h => gd_ixL (gl_own h) gd_int rfl
  have g1 : ∀ {ρ} {a b c : Int}, ρ[0]? = some (.ow p (tinD a b c)) → GD (tOp (rIx K) (tVar 0) (tC (.int 1))) ρ (.int b) := fun h => gd_ixL (gl_own h) gd_int rfl
  have g2 : ∀ {ρ} {a b c : Int}, ρ[0]? = some (.ow p (tinD a b c)) → GD (tOp (rIx K) (tVar 0) (tC (.int 2))) ρ (.int c) := fun h => gd_ixL (gl_own h) gd_int rfl
  refine ok_seq (ok_if (gt_test (gd_gt (g0 rfl) gd_int)) (fun hz => ?_) (fun hz => ok_nextS ?_))
  · rw [decide_eq_true_eq] at hz
    refine ok_setD (gd_mod (gd_intI (g0 rfl)) (gd_var rfl) (by omega)) ?_
    refine ok_seq (ok_lset (ds := [.int a, .int b, .int c]) rfl (gd_fdiv (g0 rfl) (gd_var rfl) ⟨by omega, by omega⟩) gd_int (n := 0) rfl ?_)
    exact ok_retEn (gd_var (i := 2) rfl) fun v σ' H' E' hv => by
      rw [is_int hv]
      exact fin (a' := a / n) (b' := b) (c' := c) _ E' rfl (Int.ediv_nonneg ha (by omega)) hb0 hb hc0 (by omega) (Int.emod_nonneg _ (by omega)) (Int.emod_lt_of_pos _ (by omega))
  · refine ok_seq (ok_lset (ds := [.int a, .int b, .int c]) rfl (gd_add (g2 rfl) gd_int) gd_int (n := 2) rfl ?_)
    refine ok_setD (gd_mod (gd_intI (gd_mul (gd_add (g1 (c := c + 1) rfl) (gd_mul gd_int (g2 (c := c + 1) rfl) (.inl (by decide)))) (gd_add gd_int (g2 (c := c + 1) rfl)) (.inr (by omega)))) gd_int (by decide)) ?_
    refine ok_setD (gd_add (gd_mod (gd_intI (gd_var rfl)) gd_int (by decide)) gd_int) ?_
    refine ok_setD (gd_mod (gd_intI (gd_mul (gd_add (gd_add (gd_var rfl) (g2 (c := c + 1) rfl)) (gd_fdiv (g1 (c := c + 1) rfl) gd_int ⟨by decide, by decide⟩)) (gd_var rfl) (.inr ?_))) gd_int (by decide)) ?_
    · have h1 := Int.emod_nonneg ((b + 48271 * (c + 1)) * (39373 + (c + 1)) % 2147483647) (show (40009 : Int) ≠ 0 by decide)
      have h2 := Int.emod_lt_of_pos ((b + 48271 * (c + 1)) * (39373 + (c + 1)) % 2147483647) (show (0 : Int) < 40009 by decide)
      omega
    · exact ok_retEn (gd_mod (gd_intI (gd_fdiv (gd_mod (gd_intI (gd_add (gd_mul (gd_var rfl) gd_int (.inr (by decide))) (gd_var rfl))) gd_int (by decide)) gd_int ⟨by decide, by decide⟩)) (gd_var rfl) (by omega)) fun v σ' H' E' hv => by
        rw [is_int hv]
        exact fin (a' := a) (b' := b) (c' := c + 1) _ E' rfl ha hb0 hb (by omega) (by omega) (Int.emod_nonneg _ (by omega)) (Int.emod_lt_of_pos _ (by omega))
end
end DL
set_option maxHeartbeats 1000000
namespace DL
open PySem PySem.Spec PyProof.Rows L2
/-- columns of this height, of stuffs up to 2 -/
def ColOk (t : Nat) (g : List (List Int)) : Prop := ∀ col ∈ g, col.length = t ∧ ∀ x ∈ col, 0 ≤ x ∧ x ≤ 2
def WN (pr : Addr) (as : List Addr) (n t : Nat) : Hp → Prop := fun H => ∃ g, NestAt H pr as g ∧ g.length = n ∧ ColOk t g
theorem nest_mu {H : Hp} {pr : Addr} {as : List Addr} {g : List (List Int)} (h : NestAt H pr as g) : ∀ a ∈ pr :: as, Mu (H a) := fun a ha => by
  rcases List.mem_cons.mp ha with z | z
  · rw [z, h.at_]; trivial
  · obtain ⟨j, hj, e⟩ := List.getElem_of_mem z
    have : j < g.length := by rw [← h.len]; exact hj
    rw [h.inn j a _ (by rw [← e]; exact List.getElem?_eq_getElem hj) (List.getElem?_eq_getElem this)]
    trivial
theorem cfN {p pr : Addr} {as : List Addr} {n t : Nat} (hp : p ∉ pr :: as) : Cf (p :: pr :: as) p (WN pr as n t) where
  st := fun H H' s ⟨g, h1, h2⟩ => ⟨g, h1.off fun a o ha h => s a o (fun z => hp (z ▸ ha)) h, h2⟩
  mu := fun H N T ⟨g, h1, _⟩ q hq => by
    rcases List.mem_cons.mp hq with z | z
    · rw [z]; exact T.mu
    · exact nest_mu h1 q z
  pin := List.mem_cons_self
section
variable {p pr : Addr} {as : List Addr} {n t : Nat} {bs : List (List Addr × Hp)} {ρ : List Sl} {D : Ends} {te tc th : TE} {k N r : Nat} {c h lo hi l1 h1 : Int} {K : PySem.W.Frag} {σ : L2.St} {H : Hp}
theorem fx_lenR (hr : ρ[r]? = some (.raw (.ref pr))) : FX (p :: pr :: as) p (WN pr as n t) (tCB (rLenQ K) (tCons (tVar r) tNil)) ρ 0 (isI n n) := fun bs σ H N hb E T ⟨g, w1, w2, w3⟩ hN Q q =>
  ⟨_, E.raw hr, pr, as.map V.ref, rfl, .inl (SqL.of w1.at_), q _ H (.of (Same.refl H)) T ⟨_, rfl, by rw [List.length_map, w1.len, w2]; exact Int.le_refl _, by rw [List.length_map, w1.len, w2]; exact Int.le_refl _⟩⟩
theorem fx_lenC (hr : ρ[r]? = some (.raw (.ref pr))) (hn : 0 < n) : FX (p :: pr :: as) p (WN pr as n t) (tCB (rLenQ K) (tCons (tOp (rIx K) (tVar r) (tC (.int 0))) tNil)) ρ 0 (isI t t) := fun bs σ H N hb E T ⟨g, w1, w2, w3⟩ hN Q q => by
  obtain ⟨col, hc⟩ : ∃ col, g[0]? = some col := ⟨_, List.getElem?_eq_getElem (by omega)⟩
  obtain ⟨a, ha, hH⟩ := w1.ex hc
  have hl := (w3 col (List.mem_of_getElem? hc)).1
  refine ⟨_, E.raw hr, .inl ⟨pr, as.map V.ref, 0, .ref a, rfl, rfl, SqL.of w1.at_, atI_nat (j := 0) (by rw [List.getElem?_map, ha]; rfl), a, col.map V.int, rfl, .inl (SqL.of hH), ?_⟩⟩
  exact q _ H (.of (Same.refl H)) T ⟨_, rfl, by rw [List.length_map, hl]; exact Int.le_refl _, by rw [List.length_map, hl]; exact Int.le_refl _⟩
theorem fx_read (hr : ρ[r]? = some (.raw (.ref pr))) (hc : GD tc ρ (.int c)) (hh : GD th ρ (.int h)) (c0 : 0 ≤ c) (c1 : c < n) (h0 : 0 ≤ h) (h1 : h < t) : FX (p :: pr :: as) p (WN pr as n t) (tOp (rIx K) (tOp (rIx K) (tVar r) tc) th) ρ 0 (isI 0 2) := fun bs σ H N hb E T ⟨g, w1, w2, w3⟩ hN Q q => by
  obtain ⟨col, hcol⟩ : ∃ col, g[c.toNat]? = some col := ⟨_, List.getElem?_eq_getElem (by omega)⟩
  obtain ⟨hl, hx⟩ := w3 col (List.mem_of_getElem? hcol)
  have z1 : ((c.toNat : Nat) : Int) = c := by omega
  have z2 : ((h.toNat : Nat) : Int) = h := by omega
  refine ⟨_, E.raw hr, hc _ bs σ H E _ fun v H1 s1 e1 => ?_⟩
  obtain ⟨a, ha, hH⟩ := (w1.mono s1).ex hcol
  refine .inl ⟨pr, as.map V.ref, c, .ref a, rfl, is_int e1, SqL.of (w1.mono s1).at_, by rw [← z1]; exact atI_nat (by rw [List.getElem?_map, ha]; rfl), hh _ bs σ H1 (E.mono s1) _ fun v2 H2 s2 e2 => ?_⟩
  obtain ⟨x, hxx⟩ : ∃ x, col[h.toNat]? = some x := ⟨_, List.getElem?_eq_getElem (by omega)⟩
  refine .inl ⟨a, col.map V.int, h, .int x, rfl, is_int e2, SqL.of (s2 _ _ hH), by rw [← z2]; exact atI_nat (by rw [List.getElem?_map, hxx]; rfl), ?_⟩
  exact q _ H2 (.of (s1.trans s2)) (T.mono (s1.trans s2)) ⟨x, rfl, (hx x (List.mem_of_getElem? hxx)).1, (hx x (List.mem_of_getElem? hxx)).2⟩
/-- rows[c][h] = v -/
theorem fok_wr (hp : p ∉ pr :: as) (hf : flatR ρ = true) (hb : BsF (p :: pr :: as) bs) (hr : ρ[r]? = some (.raw (.ref pr))) (hv : FX (p :: pr :: as) p (WN pr as n t) te ρ k (isI lo hi)) (hlo : 0 ≤ lo) (hhi : hi ≤ 2) (hN : N + k ≤ 1000000) (hc : GD tc ρ (.int c)) (hh : GD th ρ (.int h)) (c0 : 0 ≤ c) (c1 : c < n) (h0 : 0 ≤ h) (h1 : h < t)
    (q : ∀ σ H, En (p :: pr :: as) bs σ H ρ → TinAt H p (N + k) → WN pr as n t H → D.nx σ H) : FOk (p :: pr :: as) bs p (WN pr as n t) (tAsg te (gSub (tOp (rIx K) (tVar r) tc) th rSetL)) ρ N D := fun σ H E T w =>
  hv bs σ H N hb E T w hN _ fun v H1 s1 T1 ⟨x, ex, x0, x1⟩ => by
    subst ex
    have C := cfN (n := n) (t := t) hp
    have E1 := C.en hf hb E s1 T1 w
    obtain ⟨g, w1, w2, w3⟩ := C.st _ _ s1 w
    obtain ⟨col, hcol⟩ : ∃ col, g[c.toNat]? = some col := ⟨_, List.getElem?_eq_getElem (by omega)⟩
    obtain ⟨hl, hx⟩ := w3 col (List.mem_of_getElem? hcol)
    have z1 : ((c.toNat : Nat) : Int) = c := by omega
    have z2 : ((h.toNat : Nat) : Int) = h := by omega
    refine ⟨_, E1.raw hr, hc _ bs σ H1 E1 _ fun v2 H2 s2 e2 => ?_⟩
    obtain ⟨a, ha, hH⟩ := (w1.mono s2).ex hcol
    refine .inl ⟨pr, as.map V.ref, c, .ref a, rfl, is_int e2, SqL.of (w1.mono s2).at_, by rw [← z1]; exact atI_nat (by rw [List.getElem?_map, ha]; rfl), hh _ bs σ H2 (E1.mono s2) _ fun v3 H3 s3 e3 => ?_⟩
    have n3 := w1.mono (s2.trans s3)
    have ham : a ∈ pr :: as := List.mem_cons_of_mem _ (List.mem_of_getElem? ha)
    have hne : a ≠ p := fun z => hp (z ▸ ham)
    refine ⟨a, col.map V.int, h, h.toNat, rfl, is_int e3, s3 _ _ hH, ?_, ?_⟩
    · rw [← z2, List.length_map]
      exact ixD_nat (by omega)
    · have E3 := E1.mono (s2.trans s3)
      refine q σ _ (E3.ghost (List.mem_cons_of_mem _ ham) (fun i d hd => by cases flatR_get hf hd) (fun e he => hb e he a (List.mem_cons_of_mem _ ham)) trivial) ?_ ?_
      · obtain ⟨y1, y2, y3, y4, y5⟩ := T1.mono (s2.trans s3)
        exact ⟨y1, y2, y3, by rw [upd_ne hne.symm]; exact y4, y5⟩
      · refine ⟨g.set c.toNat (col.set h.toNat x), ?_, by rw [List.length_set]; exact w2, fun col' hc' => ?_⟩
        · rw [← List.map_set]
          exact n3.set ha
        · rcases List.mem_or_eq_of_mem_set hc' with z | z
          · exact w3 col' z
          · rw [z]
            refine ⟨by rw [List.length_set]; exact hl, fun y hy => ?_⟩
            rcases List.mem_or_eq_of_mem_set hy with z | z
            · exact hx y z
            · rw [z]; omega
/-- x or y, ints -/
theorem fx_or {ta tb : TE} {k1 k2 : Nat} {l2 h2 : Int} {own : List Addr} {W : Hp → Prop} (C : Cf own p W) (hf : flatR ρ = true) (ha : FX own p W ta ρ k1 (isI l1 h1)) (hb : FX own p W tb ρ k2 (isI l2 h2)) (a : lo ≤ l1) (b : h1 ≤ hi) (c : lo ≤ l2) (d : h2 ≤ hi) : FX own p W (tOrT K ta tb) ρ (k1 + k2) (isI lo hi) := fun bs σ H N hbs E T w hN Q q =>
  ha bs σ H N hbs E T w (by omega) _ fun v H1 s1 T1 ⟨i, e1, a1, b1⟩ => by
    subst e1
    refine ⟨i != 0, rfl, ?_⟩
    by_cases z : (i != 0) = true
    · rw [if_pos z]
      exact q _ H1 s1 (T1.le (by omega)) ⟨i, rfl, by omega, by omega⟩
    · rw [if_neg z]
      exact hb bs σ H1 (N + k1) hbs (C.en hf hbs E s1 T1 w) T1 (C.st _ _ s1 w) (by omega) _ fun v2 H2 s2 T2 ⟨j, e2, a2, b2⟩ => q _ H2 (s1.trans s2) (by rw [← Nat.add_assoc]; exact T2) ⟨j, e2, by omega, by omega⟩
end
def spCarve : Sp := fun vs H Q E => ∃ (p : Addr) (N : Nat) (pr : Addr) (as : List Addr) (n t : Nat) (a b ww tt : Int), vs = [.ref pr, .int a, .int b, .int ww, .int tt] ∧ TinAt H p N ∧ N ≤ 1000000 ∧ p ∉ pr :: as ∧ WN pr as n t H ∧ (1 ≤ n ∧ n ≤ 12) ∧ t ≤ 9 ∧
  (0 ≤ a ∧ a ≤ 100) ∧ (0 ≤ b ∧ b ≤ 100) ∧ (0 ≤ ww ∧ ww ≤ 100) ∧ (0 ≤ tt ∧ tt ≤ 100) ∧ ∀ H', Off (p :: pr :: as) H H' → TinAt H' p N → WN pr as n t H' → Q .non H'
def spRoofs : Sp := fun vs H Q E => ∃ (p : Addr) (N : Nat) (pr : Addr) (as : List Addr) (n t : Nat), vs = [.ref p, .ref pr, .int 2] ∧ TinAt H p N ∧ N + 60 ≤ 1000000 ∧ p ∉ pr :: as ∧ WN pr as n t H ∧ (1 ≤ n ∧ n ≤ 12) ∧ (3 ≤ t ∧ t ≤ 9) ∧
  ∀ H', Off (p :: pr :: as) H H' → TinAt H' p (N + 60) → WN pr as n t H' → Q .non H'
section
variable {P : Program} {w : World} {K : PySem.W.Frag} {mg : Str → Option Value} {base : Heap}
theorem ca__law_of (T : Top K mg) : Ca P w K mg base 2 "_law_of" spOf := by
  have sc := sc__law_of
  refine ca_ofR T.f__law_of (fun _ _ _ _ _ _ us hl => match us, hl with | [_, _], _ => rfl) sc (fun vs H Q E h => by obtain ⟨p, n, ys, N, e, _⟩ := h; rw [e]; rfl) fun f cdv A outer s H E hr => ⟨_, (pss_one (ps_ret (pe_ix (ix_seqK (K := K) rfl) (pv 1) (pe_ca (ca__law_take T) hr (by decide) (by rfl) (pa_cons (pv 0) (pa_cons (pe_callB (call_lenK (K := K) rfl) (by rfl) T.b_len (by decide +kernel) (pa_cons (pv 1) pa_nil)) pa_nil))) (fun _ _ => rfl)))), ?_⟩
  rintro vs Q ⟨p, g, ys, N, rfl, T0, hN, hne, hg, hl1, hl2, q⟩
  have E0 : En [p] [([p], H)] (L2.start N__law_of [.ref p, .ref g]) H [.raw (.ref p), .raw (.ref g)] := enF (show matchF [some (V.ref p), some (V.ref g)] _ from ⟨rfl, rfl, trivial⟩) fun a h => by rw [show a = p by simpa using h]; exact T0.mu
  have C : Cf [p] p (fun H => H g = some (.lst ys)) := ⟨fun H H' s h => s _ _ hne h, fun H N T _ a h => by rw [show a = p by simpa using h]; exact T.mu, List.mem_singleton.mpr rfl⟩
  have hb : BsF [p] [([p], H)] := fun e he a ha => by
    have : e = ([p], H) := by simpa using he
    rw [this]; exact .inl ha
  have hlen : FX [p] p (fun H => H g = some (.lst ys)) (tCB (rLenQ K) (tCons (tVar 1) tNil)) [.raw (.ref p), .raw (.ref g)] 0 (isI ys.length ys.length) := fun bs σ H N hb E T w hN Q q =>
    ⟨_, E.raw (i := 1) rfl, g, ys, rfl, .inl (SqL.of w), q _ H (.of (Same.refl H)) T ⟨_, rfl, Int.le_refl _, Int.le_refl _⟩⟩
  refine ⟨_, E0.raw (i := 1) rfl, fx_take (j := 0) C rfl rfl hlen (by omega) (by omega) _ _ H N hb E0 T0 hg (by omega) _ fun v H' s T' ⟨i, e, a, b⟩ => ?_⟩
  have z : ((i.toNat : Nat) : Int) = i := by omega
  have hil : i.toNat < ys.length := by omega
  have hat : atI ys ((i.toNat : Nat) : Int) = some ys[i.toNat] := atI_nat (List.getElem?_eq_getElem hil)
  have hat2 : atI ys i = some ys[i.toNat] := (congrArg (atI ys) z.symm).trans hat
  exact .inl ⟨g, ys, i, ys[i.toNat], rfl, e, SqL.of (s _ _ hne hg), hat2, q _ H' (List.getElem_mem hil) s T'⟩
theorem ca__law_carve (T : Top K mg) : Ca P w K mg base 1 "_law_carve" spCarve := by
  have sc := sc__law_carve
  refine ca_ofR T.f__law_carve (fun _ _ _ _ _ _ us hl => match us, hl with | [_, _, _, _, _], _ => rfl) sc (fun vs H Q E h => by obtain ⟨_, _, _, _, _, _, _, _, _, _, e, _⟩ := h; rw [e]; rfl) fun f cdv A outer s H E hr => ⟨_, (pss_one (ps_for PassesOwn.never rfl (pi_range2 (by rfl) T.b_range (pa_cons (pv 1) (pa_cons (pe_callB (call_min2Q rfl) (by rfl) T.b_min (by decide +kernel) (pa_cons (pe_callB (call_lenK (K := K) rfl) (by rfl) T.b_len (by decide +kernel) (pa_cons (pv 0) pa_nil)) (pa_cons (pe_op op_add (pv 1) (pv 3)) pa_nil))) pa_nil))) (pg_name (i := 5) sc.nd rfl (Or.inl rfl))
      (pss_one (ps_for PassesOwn.never rfl (pi_range2 (by rfl) T.b_range (pa_cons (pv 2) (pa_cons (pe_callB (call_min2Q rfl) (by rfl) T.b_min (by decide +kernel) (pa_cons (pe_callB (call_lenK (K := K) rfl) (by rfl) T.b_len (by decide +kernel) (pa_cons (pe_ix (ix_seqK (K := K) rfl) (pv 0) pe_int (fun _ _ => rfl)) pa_nil)) (pa_cons (pe_op op_add (pv 2) (pv 4)) pa_nil))) pa_nil))) (pg_name (i := 6) sc.nd rfl (Or.inl rfl))
        (pss_one (ps_asg pe_int (pg_sub (pe_ix (ix_seqK (K := K) rfl) (pv 0) (pv 5) (fun _ _ => rfl)) (pv 6) set_list))))))), ?_⟩
  rintro vs Q ⟨p, N, pr, as, n, t, a, b, ww, tt, rfl, T0, hN, hp, W0, ⟨n1, n2⟩, ht, ⟨a0, a1⟩, ⟨b0, b1⟩, ⟨w0, w1⟩, ⟨t0, t1⟩, q⟩
  have C := cfN (n := n) (t := t) hp
  have E0 : En (p :: pr :: as) [(p :: pr :: as, H)] (L2.start N__law_carve [.ref pr, .int a, .int b, .int ww, .int tt]) H [.raw (.ref pr), .im (.int a), .im (.int b), .im (.int ww), .im (.int tt), .un, .un] :=
    enF (show matchF [some (V.ref pr), some (V.int a), some (V.int b), some (V.int ww), some (V.int tt), none, none] _ from ⟨rfl, rfl, rfl, rfl, rfl, trivial⟩) (C.mu H N T0 W0)
  have hb : BsF (p :: pr :: as) [(p :: pr :: as, H)] := fun e he x hx => by
    have : e = (p :: pr :: as, H) := by simpa using he
    rw [this]; exact .inl hx
  let I : List Sl → Prop := fun ρ => ∃ o5 o6, flatS o5 = true ∧ flatS o6 = true ∧ ρ = [.raw (.ref pr), .im (.int a), .im (.int b), .im (.int ww), .im (.int tt), o5, o6]
  have hI : ∀ o5 o6, flatS o5 = true → flatS o6 = true → flatR [.raw (.ref pr), .im (.int a), .im (.int b), .im (.int ww), .im (.int tt), o5, o6] = true := fun o5 o6 h5 h6 => by simp only [flatR, List.all_cons, List.all_nil, h5, h6]; rfl
  refine (?_ : FOk (p :: pr :: as) [(p :: pr :: as, H)] p (WN pr as n t) _ [.raw (.ref pr), .im (.int a), .im (.int b), .im (.int ww), .im (.int tt), .un, .un] N { nx := fun _ H' => Q .non H', rt := Q }) _ H E0 T0 W0
  refine fok_for (kb := 0) (m := 12) 5 I C rfl hb (fw_range2 (l1 := a) (h1 := a) (l2 := 0) (h2 := n) C rfl (fx_gd (gd_var rfl) (Int.le_refl _) (Int.le_refl _)) (fx_min2 C rfl (fx_lenR (t := t) rfl) (fx_add C rfl (fx_gd (i := a) (gd_var rfl) (Int.le_refl _) (Int.le_refl _)) (fx_gd (i := ww) (gd_var rfl) (Int.le_refl _) (Int.le_refl _))) (by omega) (by omega) (.inl (Int.le_refl _))) (by omega) (by omega) (by omega) (by omega) (by omega)) ⟨_, _, rfl, rfl, rfl⟩ (by omega) ?_ ?_
  · rintro H1 _ c N' ⟨o5, o6, h5, h6, rfl⟩ c0 c1 hN'
    have hf := hI (.im (.int c)) o6 rfl h6
    refine fok_for (kb := 0) (m := 9) 6 (fun ρ => ∃ o6, flatS o6 = true ∧ ρ = [.raw (.ref pr), .im (.int a), .im (.int b), .im (.int ww), .im (.int tt), .im (.int c), o6]) C hf hb.push (fw_range2 (l1 := b) (h1 := b) (l2 := 0) (h2 := t) C hf (fx_gd (gd_var rfl) (Int.le_refl _) (Int.le_refl _)) (fx_min2 C hf (fx_lenC (t := t) rfl (by omega)) (fx_add C hf (fx_gd (i := b) (gd_var rfl) (Int.le_refl _) (Int.le_refl _)) (fx_gd (i := tt) (gd_var rfl) (Int.le_refl _) (Int.le_refl _))) (by omega) (by omega) (.inl (Int.le_refl _))) (by omega) (by omega) (by omega) (by omega) (by omega)) ⟨o6, h6, rfl⟩ (by omega) ?_ ?_
    · rintro H2 _ h N'' ⟨o6, h6, rfl⟩ q0 q1 hN''
      exact fok_wr hp (hI (.im (.int c)) (.im (.int h)) rfl rfl) hb.push.push rfl (fx_gd gd_int (Int.le_refl _) (Int.le_refl _)) (by decide) (by decide) (by omega) (gd_var rfl) (gd_var rfl) (by omega) (by omega) (by omega) (by omega) fun σ H E T w => ⟨_, ⟨.im (.int h), rfl, rfl⟩, E, T, w⟩
    · rintro _ ⟨o6, h6, rfl⟩ σ H E T w
      exact ⟨_, ⟨_, o6, rfl, h6, rfl⟩, E, T, w⟩
  · rintro _ ⟨o5, o6, h5, h6, rfl⟩ σ H' E T w
    exact q H' (fun x o hx ho => E.ex _ List.mem_cons_self x o hx ho) T w
end
end DL
set_option maxHeartbeats 1000000
namespace DL
open PySem PySem.Spec PyProof.Rows L2
section
variable {own : List Addr} {bs : List (List Addr × Hp)} {p : Addr} {W : Hp → Prop} {ρ : List Sl} {te : TE} {k : Nat} {lo hi a b : Int} {K : PySem.W.Frag}
/-- [a] + [b] * m, m up to 1 -/
theorem fw_ab {x y : Nat} (C : Cf own p W) (hf : flatR ρ = true) (hx : ρ[x]? = some (.im (.int a))) (hy : ρ[y]? = some (.im (.int b))) (ht : FX own p W te ρ k (isI 0 1)) (a0 : lo ≤ a) (a1 : a ≤ hi) (b0 : lo ≤ b) (b1 : b ≤ hi) :
    FW own p W (iSeq K (tOp rCat (tLst (tCons (tVar x) tNil)) (tOp rRep (tLst (tCons (tVar y) tNil)) te))) ρ k lo hi 2 := fun bs σ H N hb E T w hN R r => by
  refine .inl (raw_ilist (raw_op (gn_lst (ga_cons (gd_var hx) ga_nil) fw own bs σ H E _ fun q1 H1 hq1 s1 o1 => raw_op (gn_lst (ga_cons (gd_var hy) ga_nil) fw own bs σ H1 (E.mono s1) _ fun q2 H2 hq2 s2 o2 => ?_))))
  have s12 := s1.trans s2
  refine ht bs σ H2 N hb (E.mono s12) (T.mono s12) (C.st _ _ (.of s12) w) hN _ fun v H3 s3 T3 ⟨m, em, m0, m1⟩ => ?_
  obtain ⟨xs1, e1, i1⟩ := o1
  obtain ⟨xs2, e2, i2⟩ := o2
  obtain ⟨v1, z1, j1⟩ := i1.inv1
  obtain ⟨v2, z2, j2⟩ := i2.inv1
  rw [z1, is_int j1] at e1
  rw [z2, is_int j2] at e2
  have hpn : H1 p ≠ none := fun z => by have := (T.mono s1).mu; rw [z] at this; exact this
  have hp1 : q1 ≠ p := fun z => by have := T.mu; rw [← z, hq1] at this; exact this
  have hp2 : q2 ≠ p := fun z => hpn (z ▸ hq2)
  refine ⟨q2, m, [.int b], rfl, em, s3 _ _ hp2 e2, by omega, by omega, by rw [sizeLine_eq]; show 1 * m.toNat ≤ _; omega, fun q3 hq3 => ?_⟩
  have n3 : Same H3 (upd H3 q3 (.lst (List.replicate m.toNat [V.int b]).flatten)) := same_new hq3
  refine ⟨q1, q3, [.int a], _, rfl, rfl, n3 _ _ (s3 _ _ hp1 (s2 _ _ e1)), upd_same, ?_, fun q4 hq4 => ?_⟩
  · rw [sizeLine_eq]
    have : (List.replicate m.toNat [V.int b]).flatten.length = m.toNat := by simp
    rw [this]
    show 1 + m.toNat ≤ _
    omega
  have n4 := same_new (o := .lst ([V.int a] ++ (List.replicate m.toNat [V.int b]).flatten)) hq4
  have s0 : Sm p H H3 := (Sm.of s12).trans s3
  have T5 : TinAt (upd (upd H3 q3 (.lst (List.replicate m.toNat [V.int b]).flatten)) q4 (.lst ([V.int a] ++ (List.replicate m.toNat [V.int b]).flatten))) p (N + k) := (T3.mono n3).mono n4
  have E3 := C.en hf hb E (s0.trans (.of (n3.trans n4))) T5 w
  have hq4o : q4 ∉ own := fun z => by
    have E4 := C.en hf hb E (s0.trans (.of n3)) (T3.mono n3) w
    exact E4.fresh hq4 z
  refine ⟨q4, rfl, ⟨_, SqL.of upd_same⟩, r _ _ ([.int a] ++ (List.replicate m.toNat [Dt.int b]).flatten) (s0.trans (.of (n3.trans n4))) T5 ?_ ?_ (wd_list (xs := [V.int a] ++ (List.replicate m.toNat [V.int b]).flatten) upd_same hq4o ?_)⟩
  · have : (List.replicate m.toNat [Dt.int b]).flatten.length = m.toNat := by simp
    rw [List.length_append, this]
    show 1 + m.toNat ≤ 2
    omega
  · intro d hd
    rcases List.mem_append.mp hd with z | z
    · exact ⟨a, by simpa using z, a0, a1⟩
    · obtain ⟨l, hl, hd2⟩ := List.mem_flatten.mp z
      rw [(List.mem_replicate.mp hl).2] at hd2
      exact ⟨b, by simpa using hd2, b0, b1⟩
  · exact IsAll.append (.one (.int a)) (isAll_rep (.one (.int b)) _)
end
section
variable {P : Program} {w : World} {K : PySem.W.Frag} {mg : Str → Option Value} {base : Heap}
theorem ca__law_roofs (T : Top K mg) : Ca P w K mg base 2 "_law_roofs" spRoofs := by
  have sc := sc__law_roofs
  refine ca_ofR T.f__law_roofs (fun _ _ _ _ _ _ us hl => match us, hl with | [_, _, _], _ => rfl) sc (fun vs H Q E h => by obtain ⟨_, _, _, _, _, _, e, _⟩ := h; rw [e]; rfl) fun f cdv A outer s H E hr => ⟨_, (pss_cons (ps_par (i := 3) (j := 4) rfl sc.nd rfl rfl (by decide) rfl rfl (pa_cons (pe_callB (call_lenK (K := K) rfl) (by rfl) T.b_len (by decide +kernel) (pa_cons (pv 1) pa_nil)) (pa_cons (pe_callB (call_lenK (K := K) rfl) (by rfl) T.b_len (by decide +kernel) (pa_cons (pe_ix (ix_seqK (K := K) rfl) (pv 1) pe_int (fun _ _ => rfl)) pa_nil)) pa_nil)) (by rfl))
    (pss_one (ps_for PassesOwn.never rfl (pi_range1 (by rfl) T.b_range (pa_cons (pe_op op_add pe_int (pe_ca (ca__law_take T) hr (by decide) (by rfl) (pa_cons (pv 0) (pa_cons pe_int pa_nil)))) pa_nil)) (pg_name (i := 5) sc.nd rfl (Or.inl rfl))
      (pss_cons (ps_set (i := 6) sc.nd rfl (Or.inl rfl) (pe_ca (ca__law_take T) hr (by decide) (by rfl) (pa_cons (pv 0) (pa_cons (pv 3) pa_nil))))
      (pss_cons (ps_set (i := 7) sc.nd rfl (Or.inl rfl) (pe_callB (call_min2Q rfl) (by rfl) T.b_min (by decide +kernel) (pa_cons (pe_op op_sub (pv 3) pe_int) (pa_cons (pe_op op_add (pe_op op_add (pv 6) pe_int) (pe_ca (ca__law_take T) hr (by decide) (by rfl) (pa_cons (pv 0) (pa_cons pe_int pa_nil)))) pa_nil))))
      (pss_cons (ps_par (i := 8) (j := 9) rfl sc.nd rfl rfl (by decide) rfl rfl (pa_cons (pe_op op_add pe_int (pe_ca (ca__law_take T) hr (by decide) (by rfl) (pa_cons (pv 0) (pa_cons (pe_callB (call_max2Q rfl) (by rfl) T.b_max (by decide +kernel) (pa_cons pe_int (pa_cons (pe_op op_sub (pv 4) pe_int) pa_nil))) pa_nil)))) (pa_cons (pe_op op_add pe_int (pe_ca (ca__law_take T) hr (by decide) (by rfl) (pa_cons (pv 0) (pa_cons (pv 2) pa_nil)))) pa_nil)) (by rfl))
      (pss_cons (ps_for PassesOwn.never rfl (pi_range2 (by rfl) T.b_range (pa_cons (pv 6) (pa_cons (pe_op op_add (pv 7) pe_int) pa_nil))) (pg_name (i := 10) sc.nd rfl (Or.inl rfl))
        (pss_one (ps_asg (pv 9) (pg_sub (pe_ix (ix_seqK (K := K) rfl) (pv 1) (pv 10) (fun _ _ => rfl)) (pv 8) set_list))))
      (pss_one (ps_for PassesOwn.never rfl (pi_seqK (K := K) rfl (pe_op op_cat (pe_lst (pa_cons (pv 6) pa_nil)) (pe_op op_rep (pe_lst (pa_cons (pv 7) pa_nil)) (pe_ca (ca__law_take T) hr (by decide) (by rfl) (pa_cons (pv 0) (pa_cons pe_int pa_nil)))))) (pg_name (i := 10) sc.nd rfl (Or.inl rfl))
        (pss_one (ps_for PassesOwn.never rfl (pi_range1 (by rfl) T.b_range (pa_cons (pv 8) pa_nil)) (pg_name (i := 11) sc.nd rfl (Or.inl rfl))
          (pss_one (ps_asg (pe_orT (pe_ix (ix_seqK (K := K) rfl) (pe_ix (ix_seqK (K := K) rfl) (pv 1) (pv 10) (fun _ _ => rfl)) (pv 11) (fun _ _ => rfl)) (pe_one (pe_op op_add pe_int (pe_ca (ca__law_take T) hr (by decide) (by rfl) (pa_cons (pv 0) (pa_cons (pv 2) pa_nil)))))) (pg_sub (pe_ix (ix_seqK (K := K) rfl) (pv 1) (pv 10) (fun _ _ => rfl)) (pv 11) set_list)))))))))))))), ?_⟩
  rintro vs Q ⟨p, N, pr, as, n, t, rfl, T0, hN, hp, W0, ⟨n1, n2⟩, ⟨t1, t2⟩, q⟩
  have C := cfN (n := n) (t := t) hp
  have hb : BsF (p :: pr :: as) [(p :: pr :: as, H)] := fun e he x hx => by
    have : e = (p :: pr :: as, H) := by simpa using he
    rw [this]; exact .inl hx
  have E0 : En (p :: pr :: as) [(p :: pr :: as, H)] (L2.start N__law_roofs [.ref p, .ref pr, .int 2]) H [.raw (.ref p), .raw (.ref pr), .im (.int 2), .un, .un, .un, .un, .un, .un, .un, .un, .un] :=
    enF (show matchF [some (V.ref p), some (V.ref pr), some (V.int 2), none, none, none, none, none, none, none, none, none] _ from ⟨rfl, rfl, rfl, trivial⟩) (C.mu H N T0 W0)
  refine (?_ : FOk (p :: pr :: as) [(p :: pr :: as, H)] p (WN pr as n t) _ [.raw (.ref p), .raw (.ref pr), .im (.int 2), .un, .un, .un, .un, .un, .un, .un, .un, .un] N { nx := fun _ H' => Q .non H', rt := Q }) _ H E0 T0 W0
  refine fok_par2 C rfl hb (fx_lenR (t := t) rfl) (fx_lenC (t := t) rfl (by omega)) (by omega) fun w' t' w0 w1 t0 t1' => ?_
  obtain rfl : w' = n := by omega
  obtain rfl : t' = t := by omega
  let I : List Sl → Prop := fun ρ => ∃ o5 o6 o7 o8 o9 o10 o11, ρ = [.raw (.ref p), .raw (.ref pr), .im (.int 2), .im (.int n), .im (.int t), o5, o6, o7, o8, o9, o10, o11] ∧ flatR ρ = true
  refine fok_for (k := 1) (kb := 23) (m := 2) 5 I C rfl hb (fw_range1 (hi := 2) (fx_le (k1 := 1) (l1 := 1) (h1 := 2) (fx_add C rfl (fx_gd gd_int (Int.le_refl _) (Int.le_refl _)) (fx_take (j := 0) C rfl rfl (fx_gd gd_int (Int.le_refl _) (Int.le_refl _)) (by decide) (by decide))) (by decide) (by decide) (by decide)) (by decide) (by decide) (by decide) (by decide)) ⟨_, _, _, _, _, _, _, rfl, rfl⟩ (by omega) ?_ ?_
  · rintro H1 _ lap N' ⟨o5, o6, o7, o8, o9, o10, o11, rfl, hf⟩ _ _ hN'
    have f5 := flatR_set (i := 5) (k := lap) hf
    refine fok_set (k := 1) (lo := 0) (hi := (n : Int) - 1) C f5 hb.push (fx_take (j := 0) C f5 rfl (fx_gd (gd_var rfl) (Int.le_refl _) (Int.le_refl _)) (by omega) (by omega)) (by omega) fun a a0 a1 => ?_
    have f6 := flatR_set (i := 6) (k := a) f5
    refine fok_set (k := 1) (lo := a) (hi := (n : Int) - 1) C f6 hb.push (fx_min2 (k1 := 0) (k2 := 1) C f6 (fx_sub (k1 := 0) (k2 := 0) C f6 (fx_gd (i := (n : Int)) (gd_var rfl) (Int.le_refl _) (Int.le_refl _)) (fx_gd (i := 1) gd_int (Int.le_refl _) (Int.le_refl _)))
      (fx_add (k1 := 0) (k2 := 1) C f6 (fx_add (k1 := 0) (k2 := 0) C f6 (fx_gd (i := a) (gd_var rfl) (Int.le_refl _) (Int.le_refl _)) (fx_gd (i := 1) gd_int (Int.le_refl _) (Int.le_refl _))) (fx_take (j := 0) (k := 0) C f6 rfl (fx_gd (i := 3) gd_int (Int.le_refl _) (Int.le_refl _)) (by decide) (by decide))) (by omega) (by omega) (.inl (Int.le_refl _))) (by omega) fun b b0 b1 => ?_
    have f7 := flatR_set (i := 7) (k := b) f6
    refine fok_par2 (k1 := 1) (k2 := 1) (l1 := 1) (h1 := (t : Int) - 2) (l2 := 1) (h2 := 2) C f7 hb.push (fx_le (k := 1) (fx_add (k1 := 0) (k2 := 1) C f7 (fx_gd (i := 1) gd_int (Int.le_refl _) (Int.le_refl _)) (fx_take (j := 0) (k := 0) (lo := 1) (hi := (t : Int) - 2) C f7 rfl (fx_gd (gd_max2 gd_int (gd_sub (gd_var (d := .int (t : Int)) rfl) gd_int)) (by split <;> omega) (by split <;> omega)) (by decide) (by omega))) (by omega) (by omega) (by omega))
      (fx_le (k := 1) (fx_add (k1 := 0) (k2 := 1) C f7 (fx_gd (i := 1) gd_int (Int.le_refl _) (Int.le_refl _)) (fx_take (j := 0) (k := 0) C f7 rfl (fx_gd (i := 2) (gd_var rfl) (Int.le_refl _) (Int.le_refl _)) (by decide) (by decide))) (by omega) (by omega) (by omega)) (by omega) fun h st h0 h1 st0 st1 => ?_
    have f9 := flatR_set (i := 9) (k := st) (flatR_set (i := 8) (k := h) f7)
    let I2 : List Sl → Prop := fun ρ => ∃ o10 o11, ρ = [.raw (.ref p), .raw (.ref pr), .im (.int 2), .im (.int n), .im (.int t), .im (.int lap), .im (.int a), .im (.int b), .im (.int h), .im (.int st), o10, o11] ∧ flatR ρ = true
    refine fok_forS (k := 0) (kb := 0) (m := 12) 10 I2 C f9 hb.push (fw_range2 (k1 := 0) (k2 := 0) (l1 := a) (h1 := a) (l2 := b + 1) (h2 := b + 1) C f9 (fx_gd (gd_var rfl) (Int.le_refl _) (Int.le_refl _)) (fx_gd (gd_add (gd_var (d := .int b) rfl) gd_int) (Int.le_refl _) (Int.le_refl _)) (by omega) (by omega) (by omega) (by omega) (by omega)) ⟨_, _, rfl, f9⟩ (by omega) ?_ ?_
    · rintro H2 _ c N2 ⟨o10, o11, rfl, hf2⟩ c0 c1 hN2
      exact fok_wr (k := 0) (lo := 1) (hi := 2) hp (flatR_set hf2) hb.push.push rfl (fx_gd (i := st) (gd_var rfl) (by omega) (by omega)) (by decide) (by decide) (by omega) (gd_var (i := 10) rfl) (gd_var (i := 8) rfl) (by omega) (by omega) (by omega) (by omega) fun σ H E T w => ⟨_, ⟨.im (.int c), o11, rfl, flatR_set (i := 10) hf2⟩, E, T, w⟩
    · rintro _ ⟨o10, o11, rfl, hf2⟩
      refine fok_for (k := 1) (kb := 9) (m := 2) 10 I2 C hf2 hb.push (fw_ab (k := 1) (lo := 0) (hi := (n : Int) - 1) C hf2 rfl rfl (fx_le (k := 1) (fx_take (j := 0) (k := 0) C hf2 rfl (fx_gd (i := 2) gd_int (Int.le_refl _) (Int.le_refl _)) (by decide) (by decide)) (by omega) (by omega) (by omega)) a0 a1 (by omega) b1) ⟨_, _, rfl, hf2⟩ (by omega) ?_ ?_
      · rintro H2 _ c N2 ⟨o10, o11, rfl, hf3⟩ c0 c1 hN2
        have f10 := flatR_set (i := 10) (k := c) hf3
        refine fok_for (k := 0) (kb := 1) (m := 9) 11 (fun ρ => ∃ o11, ρ = [.raw (.ref p), .raw (.ref pr), .im (.int 2), .im (.int n), .im (.int t), .im (.int lap), .im (.int a), .im (.int b), .im (.int h), .im (.int st), .im (.int c), o11] ∧ flatR ρ = true) C f10 hb.push.push (fw_range1 (hi := h) (lo := h) (fx_gd (gd_var rfl) (Int.le_refl _) (Int.le_refl _)) (by omega) (by omega) (by omega) (by omega)) ⟨_, rfl, f10⟩ (by omega) ?_ ?_
        · rintro H3 _ k N3 ⟨o11, rfl, hf4⟩ k0 k1 hN3
          have f11 := flatR_set (i := 11) (k := k) hf4
          exact fok_wr (k := 1) (lo := 0) (hi := 2) hp f11 hb.push.push.push rfl (fx_or (k1 := 0) (k2 := 1) C f11 (fx_read (c := c) (h := k) rfl (gd_var (i := 10) rfl) (gd_var (i := 11) rfl) (by omega) (by omega) (by omega) (by omega)) (fx_add (k1 := 0) (k2 := 1) C f11 (fx_gd (i := 1) gd_int (Int.le_refl _) (Int.le_refl _)) (fx_take (j := 0) (k := 0) C f11 rfl (fx_gd (i := 2) (gd_var rfl) (Int.le_refl _) (Int.le_refl _)) (by decide) (by decide))) (by decide) (by decide) (by decide) (by decide)) (by decide) (by decide) (by omega) (gd_var (i := 10) rfl) (gd_var (i := 11) rfl) (by omega) (by omega) (by omega) (by omega) fun σ H E T w => ⟨_, ⟨.im (.int k), rfl, f11⟩, E, T, w⟩
        · rintro _ ⟨o11, rfl, hf4⟩ σ H E T w
          exact ⟨_, ⟨.im (.int c), o11, rfl, hf4⟩, E, T, w⟩
      · rintro _ ⟨o10, o11, rfl, hf3⟩ σ H E T w
        exact ⟨_, ⟨_, _, _, _, _, o10, o11, rfl, hf3⟩, E, T.le (by omega), w⟩
  · rintro _ ⟨o5, o6, o7, o8, o9, o10, o11, rfl, hf⟩ σ H' E T w
    exact q H' (fun x o hx ho => E.ex _ List.mem_cons_self x o hx ho) (T.le (by omega)) w
end
end DL
set_option maxHeartbeats 1000000
/-! Plain: what is washed is held. -/
namespace DL
structure DrawnOk (g : Grid) : Prop where
  shp : Shp g
  two : ∀ c, inG g c = true → atG g c ≤ 2
  held : ∀ c ∈ kindC g false, HeldC g c
theorem heldC_kind {g : Grid} {c : Cell} (h : HeldC g c) : c ∈ kindC g false := h.inA fun x hx => (List.mem_filter.mp hx).1
open Classical in
theorem wash_at {g : Grid} {c : Cell} (h : inG g c = true) : atG (washG g) c = if HeldC g c then atG g c else 0 := by
  unfold washG
  rw [putG_at h]
  by_cases z : HeldC g c
  · rw [if_pos z, if_neg]
    intro hm
    have := (List.mem_filter.mp hm).2
    rw [Bool.not_eq_true', decide_eq_false_iff_not] at this
    exact this (mem_setC.mpr ⟨h, z⟩)
  · rw [if_neg z, if_pos]
    refine List.mem_filter.mpr ⟨mem_allC.mpr h, ?_⟩
    rw [Bool.not_eq_true', decide_eq_false_iff_not]
    exact fun hm => z (mem_setC.mp hm).2
theorem kind_false {g : Grid} {c : Cell} : c ∈ kindC g false ↔ inG g c = true ∧ atG g c ≠ 0 := by
  rw [mem_kindC]
  simp
theorem wash_drawn {g : Grid} (S : Shp g) (h2 : ∀ c, inG g c = true → atG g c ≤ 2) : DrawnOk (washG g) where
  shp := putG_shp S (by decide)
  two := fun c hc => by
    rw [show inG (washG g) c = inG g c from putG_in S c] at hc
    rw [wash_at hc]
    split
    · exact h2 c hc
    · decide
  held := fun c hc => by
    have key : ∀ c, HeldC g c → c ∈ kindC (washG g) false := fun c h => by
      have hk := kind_false.mp (heldC_kind h)
      rw [kind_false, show inG (washG g) c = inG g c from putG_in S c, wash_at hk.1, if_pos h]
      exact hk
    have go : ∀ c, HeldC g c → HeldC (washG g) c := by
      intro c h
      have h' : Rch (kindC g false) ((kindC g false).filter fun c => decide (c.2 = 0)) c := h
      induction h' with
      | @base c hc => exact .base (List.mem_filter.mpr ⟨key c (.base hc), (List.mem_filter.mp hc).2⟩)
      | @step c d h1 h2 h3 ih => exact .step (ih h1) h2 (key d (.step h1 h2 h3))
    rw [kind_false, show inG (washG g) c = inG g c from putG_in S c] at hc
    refine go c ?_
    by_cases z : HeldC g c
    · exact z
    · rw [wash_at hc.1, if_neg z] at hc
      exact absurd rfl hc.2
end DL
set_option maxHeartbeats 1000000
/-! Rows that are built up. -/
namespace DL
open PySem PySem.Spec PyProof.Rows L2
theorem En.reown {own own' : List Addr} {bs : List (List Addr × Hp)} {σ : L2.St} {H : Hp} {ρ : List Sl} (E : En own bs σ H ρ) (hf : flatR ρ = true) (al : ∀ q ∈ own', Mu (H q)) : En own' bs σ H ρ where
  al := al
  ex := E.ex
  len := E.len
  sl := fun i s hs => by
    obtain ⟨v, k1, k2⟩ := E.sl i s hs
    refine ⟨v, k1, ?_⟩
    have := flatR_get hf hs
    cases s with
    | un => trivial
    | raw v => exact k2
    | ow p d => cases this
    | im d =>
      obtain ⟨x, x1, x2⟩ := k2
      cases d with
      | int i => exact ⟨x, x1, by rw [is_int x2]; exact .int i⟩
      | non => cases this
      | bl _ => cases this
      | str _ => cases this
      | seq _ _ => cases this
      | dic _ => cases this
  ne := fun i j p d q e h1 _ _ => by cases flatR_get hf h1
  mine := fun i p d h1 => by cases flatR_get hf h1
theorem En.rebs {own : List Addr} {bs bs' : List (List Addr × Hp)} {σ : L2.St} {H : Hp} {ρ : List Sl} (E : En own bs σ H ρ) (hf : flatR ρ = true) (hb : Bs bs' H) : En own bs' σ H ρ :=
  ⟨E.al, hb, E.len, E.sl, E.ne, fun i p d h1 => by cases flatR_get hf h1⟩
/-- rows of i columns, new since H0 -/
def WB (H0 : Hp) (p pr : Addr) (t i : Nat) : Hp → Prop := fun H => ∃ as g, NestAt H pr as g ∧ g.length = i ∧ ColOk t g ∧ p ∉ pr :: as ∧ ∀ a ∈ pr :: as, H0 a = none
theorem cfB {H0 : Hp} {p pr : Addr} {t i : Nat} : Cf [p, pr] p (WB H0 p pr t i) where
  st := fun H H' s ⟨as, g, h1, h2, h3, h4, h5⟩ => ⟨as, g, h1.off fun a o ha h => s a o (fun z => h4 (z ▸ ha)) h, h2, h3, h4, h5⟩
  mu := fun H N T ⟨as, g, h1, _⟩ q hq => by
    rcases List.mem_cons.mp hq with z | z
    · rw [z]; exact T.mu
    · have : q = pr := by simpa using z
      rw [this]; exact nest_mu h1 pr List.mem_cons_self
  pin := List.mem_cons_self
theorem cf1 {p : Addr} : Cf [p] p (fun _ => True) := ⟨fun _ _ _ _ => trivial, fun H N T _ q hq => by rw [show q = p by simpa using hq]; exact T.mu, List.mem_singleton.mpr rfl⟩
theorem bsf1 {p : Addr} {H0 : Hp} : BsF [p] [([p], H0)] := fun e he x hx => by
  have : e = ([p], H0) := by simpa using he
  rw [this]; exact .inl hx
theorem bsf2 {p : Addr} {H0 : Hp} {as : List Addr} (h : ∀ a ∈ as, H0 a = none) : BsF (p :: as) [([p], H0)] := fun e he x hx => by
  have : e = ([p], H0) := by simpa using he
  rw [this]
  rcases List.mem_cons.mp hx with z | z
  · rw [z]; exact .inl (List.mem_singleton.mpr rfl)
  · exact .inr (h x z)
/-- what is new now was new at the start -/
theorem En.old {own : List Addr} {p : Addr} {H0 : Hp} {bs : List (List Addr × Hp)} {σ : L2.St} {H : Hp} {ρ : List Sl} {N : Nat} (E : En own bs σ H ρ) (hm : ([p], H0) ∈ bs) (T : TinAt H p N) {q : Addr} (hq : H q = none) : H0 q = none := by
  cases z : H0 q with
  | none => rfl
  | some o =>
    have hne : q ∉ [p] := fun k => by
      rw [show q = p by simpa using k] at hq
      have := T.mu
      rw [hq] at this
      exact this
    rw [E.ex _ hm q o hne z] at hq
    cases hq
def FNL (own : List Addr) (p : Addr) (W : Hp → Prop) (te : TE) (ρ : List Sl) (k t : Nat) : Prop := ∀ bs σ H N, BsF own bs → En own bs σ H ρ → TinAt H p N → W H → N + k ≤ 1000000 → ∀ Q : VK,
  (∀ q (col : List Int) H', H q = none → Sm p H H' → TinAt H' p (N + k) → H' q = some (.lst (col.map V.int)) → col.length = t → (∀ x ∈ col, 0 ≤ x ∧ x ≤ 2) → Q (.ref q) H') → te σ H Q
section
variable {own : List Addr} {bs : List (List Addr × Hp)} {p pr : Addr} {W : Hp → Prop} {ρ : List Sl} {t u : TS} {ta tb te tl tr : TE} {k N m r n Th : Nat} {D : Ends} {K : PySem.W.Frag} {H0 : Hp}
theorem fresh_sm {H H' : Hp} {N : Nat} {q : Addr} (s : Sm p H H') (T : TinAt H' p N) (hq : H' q = none) : H q = none := by
  cases z : H q with
  | none => rfl
  | some o =>
    have hne : q ≠ p := fun k => by
      have := T.mu
      rw [← k, hq] at this
      exact this
    rw [s q o hne z] at hq
    cases hq
theorem fnl_lc {v : Nat} (C : Cf own p W) (hf : flatR ρ = true) (ha : GD ta ρ (.int (m : Nat))) (hm : m ≤ 1000) (he : ∀ i : Int, FX own p W te ((wipeR ρ [v]).set v (.im (.int i))) k (isI 0 2)) : FNL own p W (tLc (iRng1 (tCons ta tNil)) (gName v) tYes te [v]) ρ (m * k) m := fun bs σ H N hb E T w hN Q q =>
  gw_range1 (j := (m : Nat)) ha (by omega) (by omega) own bs σ H E _ fun J H1 s1 wd D hD => by
    have wk := wd own (fun q hq => .inl hq)
    have hln : ((List.range ((m : Nat) : Int).toNat).map fun i => Dt.int (0 + (i : Nat))).length = m := by rw [List.length_map, List.length_range, Int.toNat_natCast]
    rw [hln] at wk
    have hDp : D ≠ p := fun z => by have := (T.mono s1).mu; rw [← z, hD] at this; exact this
    have hE : ∀ {H2 M}, Sm p H1 H2 → TinAt H2 p M → En own bs σ H2 ρ := fun {H2 M} s T2 => C.en hf hb E ((Sm.of s1).trans s) T2 w
    refine lc_it wk (fun i H2 => ∃ ns : List Int, H2 D = some (.lst (ns.map V.int)) ∧ ns.length = i ∧ (∀ x ∈ ns, 0 ≤ x ∧ x ≤ 2) ∧ Sm p H1 H2 ∧ TinAt H2 p (N + i * k)) ?_ ?_ ?_ ?_
    · exact ⟨[], upd_same, rfl, fun x hx => by simp at hx, .of (same_new hD), by rw [Nat.zero_mul]; exact (T.mono s1).mono (same_new hD)⟩
    · rintro i H2 _ ⟨ns, h1, h2, h3, h4, h5⟩
      refine ⟨fun a o h => ?_, (hE h4 h5).al⟩
      obtain ⟨k1, k2⟩ := out_some h
      exact out_of (h4 a o (fun z => k2 (z ▸ C.pin)) k1) k2
    · rintro i x H2 H3 hi ⟨ns, h1, h2, h3, h4, h5⟩ ⟨s3, d, hd, hx⟩
      obtain ⟨y, hy, rfl⟩ := get_map hd
      have s13 : Sm p H1 H3 := h4.trans (.of s3)
      have T3 := h5.mono s3
      refine gg_name (i := v) (vs := [v]) (List.mem_singleton.mpr rfl) own bs _ H3 x ((hE s13 T3).wipe [v]) hx _ fun σ4 H4 s4 E4 l4 k4 => ⟨?_, ?_⟩
      · refine (wipe_ext l4 k4).trans (wipe_ext (wipe_length _ _) fun j hj => ?_)
        rw [wipe_get, if_neg hj]
      · unfold tYes
        have hik : (i + 1) * k ≤ m * k := Nat.mul_le_mul_right _ hi
        rw [Nat.succ_mul] at hik
        refine iteT (he _ bs σ4 H4 (N + i * k) hb E4 (T3.mono s4) (C.st _ _ ((((Sm.of s1).trans s13)).trans (.of s4)) w) (by omega) _ fun y H6 s6 T6 ⟨z, ez, z0, z1⟩ => ?_)
        subst ez
        have s46 : Sm p H1 H6 := (s13.trans (.of s4)).trans s6
        refine ⟨ns.map V.int, s6 _ _ hDp (s4 _ _ (s3 _ _ h1)), by rw [List.length_map, h2]; exact szlt (by omega), ns ++ [z], ?_, by rw [List.length_append, h2]; rfl, fun x hx => ?_, fun a o hne ha => ?_, ?_⟩
        · rw [List.map_append]; exact upd_same
        · rcases List.mem_append.mp hx with c | c
          · exact h3 x c
          · rw [show x = z by simpa using c]; exact ⟨z0, z1⟩
        · rw [upd_ne (ne_of_none ha hD)]
          exact s46 a o hne ha
        · obtain ⟨a, b, c, e1, e2⟩ := T6
          refine ⟨a, b, c, ?_, ?_⟩
          · rw [upd_ne hDp.symm]; exact e1
          · rw [Nat.succ_mul, ← Nat.add_assoc]; exact e2
    · rintro H2 ⟨ns, h1, h2, h3, h4, h5⟩
      exact q D ns H2 (Same.free s1 hD) ((Sm.of s1).trans h4) h5 h1 h2 h3
theorem fnl_cat (C : Cf own p W) (hf : flatR ρ = true) (h : FNL own p W tl ρ k m) (hm : m ≤ 1000) (hr' : r ≤ 1000) (hr : GN tr ρ (.seq true ((List.replicate r (0 : Int)).map .int))) : FNL own p W (tOp rCat tl tr) ρ k (m + r) := fun bs σ H N hb E T w hN Q q =>
  h bs σ H N hb E T w hN _ fun q1 col H1 f1 s1 T1 e1 l1 c1 => by
    have E1 := C.en hf hb E s1 T1 w
    refine hr own bs σ H1 E1 _ fun q2 H2 hq2 s2 o2 => ?_
    obtain ⟨ys, e2, i2⟩ := o2
    have ey : ys = (List.replicate r (0 : Int)).map V.int := by
      have : ∀ (ns : List Int) (ys : List V), IsAll (out H2 (q2 :: own)) ys (ns.map Dt.int) → ys = ns.map V.int := by
        intro ns
        induction ns with
        | nil => intro ys h; cases h; rfl
        | cons n r ih =>
          intro ys h
          cases h with
          | cons a t => rw [is_int a, ih _ t]; rfl
      exact this _ _ i2
    subst ey
    refine ⟨q1, q2, _, _, rfl, rfl, s2 _ _ e1, e2, ?_, fun q3 hq3 => ?_⟩
    · rw [List.length_map, List.length_map, List.length_replicate, l1]
      exact sz (by omega)
    · have n3 := same_new (o := .lst (col.map V.int ++ (List.replicate r (0 : Int)).map V.int)) hq3
      have s12 : Sm p H H2 := s1.trans (.of s2)
      refine q q3 (col ++ List.replicate r 0) _ (fresh_sm s12 (T1.mono s2) hq3) (s12.trans (.of n3)) ((T1.mono s2).mono n3) ?_ (by rw [List.length_append, List.length_replicate, l1]) fun x hx => ?_
      · rw [List.map_append]; exact upd_same
      · rcases List.mem_append.mp hx with z | z
        · exact c1 x z
        · rw [(List.mem_replicate.mp z).2]; decide
/-- rows = [] -/
theorem fok_rows {x : Nat} (hf : flatR ρ = true) (q : ∀ pr, FOk [p, pr] [([p], H0)] p (WB H0 p pr Th 0) u (ρ.set x (.raw (.ref pr))) N D) : FOk [p] [([p], H0)] p (fun _ => True) (tSeq (tAsg (tLst tNil) (gName x)) u) ρ N D := fun σ H E T _ =>
  ⟨Nat.zero_le _, fun pr hpr => by
    have hne : p ≠ pr := fun z => by have := T.mu; rw [z, hpr] at this; exact this
    have hH0 := E.old (p := p) (H0 := H0) List.mem_cons_self T hpr
    have s := same_new (o := .lst []) hpr
    have W0 : WB H0 p pr Th 0 (upd H pr (.lst [])) := ⟨[], [], ⟨upd_same, rfl, fun i a col h => by simp at h, by simp⟩, rfl, fun col h => by simp at h, by simpa using hne, fun a ha => by rw [show a = pr by simpa using ha]; exact hH0⟩
    exact q pr _ _ (((E.mono s).reown hf (cfB.mu _ _ (T.mono s) W0)).setRaw) (T.mono s) W0⟩
theorem fok_rowsP {y x : Nat} {lo hi : Int} (hf : flatR ρ = true) (h : FX [p] p (fun _ => True) ta ρ k (isI lo hi)) (hN : N + k ≤ 1000000) (q : ∀ i pr, lo ≤ i → i ≤ hi → FOk [p, pr] [([p], H0)] p (WB H0 p pr Th 0) u ((ρ.set y (.im (.int i))).set x (.raw (.ref pr))) (N + k) D) :
    FOk [p] [([p], H0)] p (fun _ => True) (tSeq (tPar y x (tCons ta (tCons (tLst tNil) tNil))) u) ρ N D := fun σ H E T w =>
  h _ σ H N bsf1 E T w hN _ fun v H1 s1 T1 ⟨i, e, a, b⟩ => ⟨Nat.zero_le _, fun pr hpr => by
    subst e
    have E1 := cf1.en hf bsf1 E s1 T1 w
    have hne : p ≠ pr := fun z => by have := T1.mu; rw [z, hpr] at this; exact this
    have hH0 := E1.old (p := p) (H0 := H0) List.mem_cons_self T1 hpr
    have s := same_new (o := .lst []) hpr
    have W0 : WB H0 p pr Th 0 (upd H1 pr (.lst [])) := ⟨[], [], ⟨upd_same, rfl, fun i a col h => by simp at h, by simp⟩, rfl, fun col h => by simp at h, by simpa using hne, fun a ha => by rw [show a = pr by simpa using ha]; exact hH0⟩
    exact ⟨_, _, rfl, q i pr a b _ _ ((((E1.mono s).reown hf (cfB.mu _ _ (T1.mono s) W0)).setIm (.int i)).setRaw) (T1.mono s) W0⟩⟩
/-- rows.append(a new column) -/
theorem fok_push {x i : Nat} (hf : flatR ρ = true) (hb : BsF [p, pr] bs) (hm : ([p], H0) ∈ bs) (hx : ρ[x]? = some (.raw (.ref pr))) (h : FNL [p, pr] p (WB H0 p pr Th i) te ρ k Th) (hN : N + k ≤ 1000000) (hi : i ≤ 1000) (q : ∀ σ H, En [p, pr] bs σ H ρ → TinAt H p (N + k) → WB H0 p pr Th (i + 1) H → D.nx σ H) :
    FOk [p, pr] bs p (WB H0 p pr Th i) (tDrop (tBM K "list" rAppend (tVar x) (tCons te tNil))) ρ N D := fun σ H E Ti w => by
  obtain ⟨as0, g0, w1, _⟩ := id w
  refine ⟨.ref pr, E.raw hx, .inl ⟨rfl, _, SqL.of w1.at_⟩, h bs σ H N hb E Ti w hN _ fun q1 col H1 f1 s1 T1 e1 l1 c1 => ?_⟩
  have C := cfB (H0 := H0) (p := p) (pr := pr) (t := Th) (i := i)
  have E1 := C.en hf hb E s1 T1 w
  obtain ⟨as, g, n1, n2, n3, n4, n5⟩ := C.st _ _ s1 w
  have hqn : q1 ∉ pr :: as0 := fun z => by
    have := nest_mu w1 q1 z
    rw [f1] at this
    exact this
  have hq0 := E.old hm Ti f1
  have hqp : q1 ≠ p := fun z => by have := Ti.mu; rw [← z, f1] at this; exact this
  have eas : as = as0 := by
    have h1 := s1 pr _ (fun z => n4 (z ▸ List.mem_cons_self)) w1.at_
    rw [n1.at_] at h1
    have h2 := HO.lst.inj (Option.some.inj h1)
    have inj : ∀ a b : List Addr, a.map V.ref = b.map V.ref → a = b := by
      intro a
      induction a with
      | nil => intro b h; cases b with
        | nil => rfl
        | cons _ _ => cases h
      | cons x r ih => intro b h; cases b with
        | nil => cases h
        | cons y s =>
          rw [List.map_cons, List.map_cons] at h
          rw [V.ref.inj (List.cons.inj h).1, ih s (List.cons.inj h).2]
    exact inj _ _ h2
  subst eas
  refine ⟨pr, as.map V.ref, .ref q1, rfl, rfl, n1.at_, by rw [List.length_map, n1.len, n2]; exact szlt (by omega), ?_⟩
  have np := n1.push (q := q1) (col := col) e1 hqn
  rw [List.map_append] at np
  refine q σ _ (E1.ghost (by simp) (fun j d hd => by cases flatR_get hf hd) (fun e he => hb e he pr (by simp)) trivial) ?_ ⟨as ++ [q1], g ++ [col], np, by rw [List.length_append, n2]; rfl, fun col' hc => ?_, fun z => ?_, fun a ha => ?_⟩
  · obtain ⟨a, b, c, e2, e3⟩ := T1
    refine ⟨a, b, c, ?_, e3⟩
    rw [upd_ne (fun z => n4 (by rw [z]; exact List.mem_cons_self))]
    exact e2
  · rcases List.mem_append.mp hc with z | z
    · exact n3 col' z
    · rw [show col' = col by simpa using z]; exact ⟨l1, c1⟩
  · rcases List.mem_cons.mp z with z | z
    · exact n4 (z ▸ List.mem_cons_self)
    · rcases List.mem_append.mp z with z | z
      · exact n4 (List.mem_cons_of_mem _ z)
      · exact hqp (List.mem_singleton.mp z).symm
  · rcases List.mem_cons.mp ha with z | z
    · rw [z]; exact n5 pr List.mem_cons_self
    · rcases List.mem_append.mp z with z | z
      · exact n5 a (List.mem_cons_of_mem _ z)
      · rw [show a = q1 by simpa using z]; exact hq0
/-- for j in range(n), what is true goes with the turn -/
theorem fok_forI {kb : Nat} (W : Nat → Hp → Prop) (j : Nat) (I : List Sl → Prop) (C : ∀ i, Cf own p (W i)) (hf : flatR ρ = true) (hb : BsF own bs) (ha : GD ta ρ (.int (n : Nat))) (hn : n ≤ 1000) (h0 : I ρ) (hN : N + n * kb ≤ 1000000)
    (hs : ∀ H1 ρ' i N', I ρ' → i < n → N' + kb ≤ 1000000 → FOk own ((own, H1) :: bs) p (W i) t (ρ'.set j (.im (.int (0 + (i : Nat))))) N' { D with nx := NxF own ((own, H1) :: bs) p (W (i + 1)) I (N' + kb), ct := NxF own ((own, H1) :: bs) p (W (i + 1)) I (N' + kb), bk := fun σ H => u D σ H })
    (hd : ∀ ρ', I ρ' → FOk own bs p (W n) u ρ' (N + n * kb) D) : FOk own bs p (W 0) (tSeq (tFor (iRng1 (tCons ta tNil)) (gName j) t) u) ρ N D := fun σ H E Tn w =>
  raw_seq (raw_for (its := (List.range ((n : Nat) : Int).toNat).map fun i => Dt.int (0 + (i : Nat))) (gw_range1 (j := (n : Nat)) ha (by omega) (by omega)) E (fun H1 i σ' H' => NxF own ((own, H1) :: bs) p (W i) I (N + i * kb) σ' H')
    (fun H1 s1 => ⟨ρ, h0, (E.mono s1).base (H1 := H1) (Same.refl _), (Tn.mono s1).le (by omega), (C 0).st _ _ (.of s1) w⟩)
    (fun H1 i σ' H' ⟨ρ', hI, E2, _, _⟩ => ⟨fun a o h => by
      obtain ⟨q1, q2⟩ := out_some h
      exact out_of (E2.ex _ List.mem_cons_self a o q2 q1) q2, E2.al⟩)
    (fun H1 i σ2 H2 H3 x d hd' ⟨ρ', hI, E2, T2, w2⟩ s3 hx => by
      have hil : i < n := by
        have := (List.getElem?_eq_some_iff.mp hd').1
        rw [List.length_map, List.length_range, Int.toNat_natCast] at this
        exact this
      have hik : (i + 1) * kb ≤ n * kb := Nat.mul_le_mul_right _ hil
      rw [Nat.succ_mul] at hik
      obtain ⟨y, hy, rfl⟩ := get_map hd'
      rw [Int.toNat_natCast, List.getElem?_range hil] at hy
      cases hy
      have := hs H1 ρ' i (N + i * kb) hI hil (by omega)
      have e : N + i * kb + kb = N + (i + 1) * kb := by rw [Nat.succ_mul]; omega
      rw [e] at this
      rw [is_int hx]
      exact this _ H3 ((E2.mono s3).setIm (.int _)) (T2.mono s3) ((C i).st _ _ (.of s3) w2))
    (fun H1 σ2 H2 ⟨ρ', hI, E2, T2, w2⟩ => by
      rw [List.length_map, List.length_range, Int.toNat_natCast] at T2 w2
      exact hd ρ' hI σ2 H2 E2.unbase T2 w2))
/-- the rows are there: they may be written -/
theorem fok_widen (hf : flatR ρ = true) (h : ∀ as, p ∉ pr :: as → (∀ a ∈ pr :: as, H0 a = none) → FOk (p :: pr :: as) bs p (WN pr as n Th) t ρ N D) : FOk [p, pr] bs p (WB H0 p pr Th n) t ρ N D := fun σ H E Ti ⟨as, g, h1, h2, h3, h4, h5⟩ =>
  h as h4 h5 σ H (E.reown hf ((cfN (n := n) (t := Th) h4).mu H N Ti ⟨g, h1, h2, h3⟩)) Ti ⟨g, h1, h2, h3⟩
end
end DL
set_option maxHeartbeats 1000000
namespace DL
open PySem PySem.Spec PyProof.Rows L2
theorem gn_rep {ρ : List Sl} {ta tb : TE} {ds : List Dt} {k : Int} (ha : GD ta ρ (.seq true ds)) (hb : GD tb ρ (.int k)) (h0 : 0 ≤ k) (h1 : k ≤ 1000) (hl : ds.length ≤ 100) : GN (tOp rRep ta tb) ρ (.seq true (List.replicate k.toNat ds).flatten) :=
  gn_op ha hb fun ps bs σ H x y E hx hy Q q => by
    obtain ⟨a, xs, rfl, e1, e2⟩ := is_lst hx
    refine ⟨a, k, xs, rfl, is_int hy, (out_some e1).1, by omega, by omega, ?_, fun p hp => q p _ hp (same_new hp) ⟨_, upd_same, (isAll_rep e2 _).mono (same_wide (same_new hp) hp)⟩⟩
    rw [e2.length]
    have := Nat.mul_le_mul hl (show k.toNat ≤ 1000 by omega)
    exact sz (by omega)
theorem rep_flat (k : Nat) : (List.replicate k [Dt.int 0]).flatten = (List.replicate k (0 : Int)).map .int := by
  induction k with
  | zero => rfl
  | succ n ih => rw [List.replicate_succ, List.flatten_cons, ih, List.replicate_succ, List.map_cons]; rfl
section
variable {own : List Addr} {bs : List (List Addr × Hp)} {p pr : Addr} {as : List Addr} {W : Hp → Prop} {ρ : List Sl} {ta tb tc td tl te : TE} {k k1 k2 k3 k4 N n t m r : Nat} {lo hi a0 a1 b0 b1 c0 c1 d0 d1 : Int} {D : Ends} {K : PySem.W.Frag} {X : XK} {H0 : Hp}
theorem fnl_le (h : FNL own p W te ρ k t) (hk : k ≤ k1) : FNL own p W te ρ k1 t := fun bs σ H N hb E T w hN Q q => h bs σ H N hb E T w (by omega) Q fun q1 col H' f s T' e l c => q q1 col H' f s (T'.le (by omega)) e l c
theorem fnl_eq {t' : Nat} (e : t' = t) (h : FNL own p W te ρ k t') : FNL own p W te ρ k t := e ▸ h
theorem fx_of {j : Nat} {ns : List Int} (C : Cf own p W) (hj : ρ[j]? = some (.raw (.ref p))) (hl : GD tl ρ (.seq true (ns.map .int))) (h1 : 1 ≤ ns.length) (h2 : ns.length ≤ 1000) (hn : ∀ n ∈ ns, lo ≤ n ∧ n ≤ hi) : FX own p W (tCall spOf [] X (tCons (tVar j) (tCons tl tNil))) ρ 1 (isI lo hi) := fun bs σ H N hb E T w hN Q q =>
  ⟨_, E.raw hj, hl own bs σ H E _ fun v H1 s1 hv => by
    obtain ⟨g, xs, rfl, e1, e2⟩ := is_lst hv
    have ex : xs = ns.map V.int := vals_int e2
    subst ex
    refine ⟨p, g, ns.map V.int, N, rfl, T.mono s1, hN, fun z => (out_some e1).2 (z ▸ C.pin), (out_some e1).1, by rw [List.length_map]; exact h1, by rw [List.length_map]; exact h2, fun v H' hv' s2 T2 => ?_⟩
    obtain ⟨n, hn', rfl⟩ := List.mem_map.mp hv'
    exact q _ H' ((Sm.of s1).trans s2) T2 ⟨n, rfl, (hn n hn').1, (hn n hn').2⟩⟩
theorem fok_carve (hp : p ∉ pr :: as) (hf : flatR ρ = true) (hb : BsF (p :: pr :: as) bs) (hr : ρ[r]? = some (.raw (.ref pr))) (hn : 1 ≤ n ∧ n ≤ 12) (ht : t ≤ 9)
    (ha : FX (p :: pr :: as) p (WN pr as n t) ta ρ k1 (isI a0 a1)) (hb' : FX (p :: pr :: as) p (WN pr as n t) tb ρ k2 (isI b0 b1)) (hc : FX (p :: pr :: as) p (WN pr as n t) tc ρ k3 (isI c0 c1)) (hd : FX (p :: pr :: as) p (WN pr as n t) td ρ k4 (isI d0 d1))
    (ba : 0 ≤ a0 ∧ a1 ≤ 100) (bb : 0 ≤ b0 ∧ b1 ≤ 100) (bc : 0 ≤ c0 ∧ c1 ≤ 100) (bd : 0 ≤ d0 ∧ d1 ≤ 100) (hN : N + (k1 + k2 + k3 + k4) ≤ 1000000) (q : ∀ σ H, En (p :: pr :: as) bs σ H ρ → TinAt H p (N + (k1 + k2 + k3 + k4)) → WN pr as n t H → D.nx σ H) :
    FOk (p :: pr :: as) bs p (WN pr as n t) (tDrop (tCall spCarve [] X (tCons (tVar r) (tCons ta (tCons tb (tCons tc (tCons td tNil))))))) ρ N D := fun σ H E T w => by
  have C := cfN (n := n) (t := t) hp
  refine ⟨_, E.raw hr, ha bs σ H N hb E T w (by omega) _ fun v1 H1 s1 T1 ⟨i1, e1, x1, y1⟩ => ?_⟩
  refine hb' bs σ H1 (N + k1) hb (C.en hf hb E s1 T1 w) T1 (C.st _ _ s1 w) (by omega) _ fun v2 H2 s2 T2 ⟨i2, e2, x2, y2⟩ => ?_
  have s12 := s1.trans s2
  refine hc bs σ H2 (N + k1 + k2) hb (C.en hf hb E s12 T2 w) T2 (C.st _ _ s12 w) (by omega) _ fun v3 H3 s3 T3 ⟨i3, e3, x3, y3⟩ => ?_
  have s13 := s12.trans s3
  refine hd bs σ H3 (N + k1 + k2 + k3) hb (C.en hf hb E s13 T3 w) T3 (C.st _ _ s13 w) (by omega) _ fun v4 H4 s4 T4 ⟨i4, e4, x4, y4⟩ => ?_
  have s14 := s13.trans s4
  have w4 := C.st _ _ s14 w
  refine ⟨p, _, pr, as, n, t, i1, i2, i3, i4, by rw [e1, e2, e3, e4]; rfl, T4, by omega, hp, w4, hn, ht, ⟨by omega, by omega⟩, ⟨by omega, by omega⟩, ⟨by omega, by omega⟩, ⟨by omega, by omega⟩, fun H' o T' w' => ?_⟩
  have e : N + k1 + k2 + k3 + k4 = N + (k1 + k2 + k3 + k4) := by omega
  rw [e] at T'
  exact q σ H' ((C.en hf hb E s14 T4 w).flat hf hb o (C.mu H' _ T' w')) T' w'
theorem fok_roofs (hp : p ∉ pr :: as) (hf : flatR ρ = true) (hb : BsF (p :: pr :: as) bs) {x y : Nat} (hx : ρ[x]? = some (.raw (.ref p))) (hr : ρ[r]? = some (.raw (.ref pr))) (hy : ρ[y]? = some (.im (.int 2))) (hn : 1 ≤ n ∧ n ≤ 12) (ht : 3 ≤ t ∧ t ≤ 9) (hN : N + 60 ≤ 1000000)
    (q : ∀ σ H, En (p :: pr :: as) bs σ H ρ → TinAt H p (N + 60) → WN pr as n t H → D.nx σ H) : FOk (p :: pr :: as) bs p (WN pr as n t) (tDrop (tCall spRoofs [] X (tCons (tVar x) (tCons (tVar r) (tCons (tVar y) tNil))))) ρ N D := fun σ H E T w => by
  have C := cfN (n := n) (t := t) hp
  obtain ⟨v, e1, e2⟩ := E.im hy
  rw [is_int e2] at e1
  exact ⟨_, E.raw hx, _, E.raw hr, _, e1, p, N, pr, as, n, t, rfl, T, hN, hp, w, hn, ht, fun H' o T' w' => q σ H' (E.flat hf hb o (C.mu H' _ T' w')) T' w'⟩
theorem WN.shp {H : Hp} {g : Grid} (hl : g.length = n) (hc : ColOk t g) (hn : 1 ≤ n ∧ n ≤ 12) (hq : 1 ≤ t ∧ t ≤ 9) (hm : n * t < 64) : Shp g ∧ ∀ c, inG g c = true → atG g c ≤ 2 := by
  have hht : ht g = t := by
    cases g with
    | nil => simp at hl; omega
    | cons c r => exact (hc c List.mem_cons_self).1
  have S : Shp g := ⟨fun z => by rw [z] at hl; simp at hl; omega, by omega, fun c h => by rw [hht]; exact (hc c h).1, by omega, by omega, by rw [hl, hht]; exact hm, fun c h x hx => ((hc c h).2 x hx).1⟩
  refine ⟨S, fun c h => ?_⟩
  obtain ⟨col, e1, e2⟩ := atG_col h
  exact ((hc col e2).2 _ (List.mem_of_getElem? (atG_get S h e1))).2
/-- return washed(tuple([tuple(own) for own in rows])) -/
theorem wash_ret {σ : L2.St} {H : Hp} {tlc : TE} (E : En own bs σ H ρ) (hf : flatR ρ = true) (hr : ρ[r]? = some (.raw (.ref pr))) (w : WN pr as n t H) (hn : 1 ≤ n ∧ n ≤ 12) (ht : 1 ≤ t ∧ t ≤ 9) (hm : n * t < 64)
    (hlc : ∀ g : Grid, g.length ≤ 12 → GD tlc (ρ.set r (.im (dHeap true g))) (dHeap false g)) (q : ∀ v H' g, Same H H' → Is H' v (dHeap false g) → DrawnOk g → D.rt v H') :
    tRet (tCall (spGrid fun i d => d = dHeap false (washG i.2)) [] X (tCons tlc tNil)) D σ H := by
  obtain ⟨g, w1, w2, w3⟩ := w
  have o0 : ∀ H : Hp, out H [] = H := fun H => by funext a; simp [out]
  have E0 := ((E.reown (own' := []) hf (fun q hq => by simp at hq)).rebs (bs' := [([], H)]) hf (fun e he a o _ h0 => by
    have : e = ([], H) := by simpa using he
    rw [this] at h0; exact h0)).see (i := r) (d := dHeap true g) (E.raw hr) (by rw [o0]; exact w1.is)
  obtain ⟨S, h2⟩ := WN.shp (H := H) w2 w3 hn ht hm
  refine ok_retD (gd_call (i := (false, g)) (ga_cons (hlc g (by omega)) ga_nil) S) (fun v H' b i => q v H' (washG g) (fun a o h => b ([], H) (by simp) a o (by simp) h) (by rw [o0] at i; exact i) (wash_drawn S h2)) σ H E0
end
def spDraw : Sp := fun vs H Q E => ∃ (p : Addr) (N : Nat), vs = [.ref p] ∧ TinAt H p N ∧ N + 300 ≤ 1000000 ∧ ∀ v H' g, Sm p H H' → TinAt H' p (N + 300) → Is H' v (dHeap false g) → DrawnOk g → Q v H'
def spPile : Sp := fun vs H Q E => ∃ (p : Addr) (N : Nat) (n : Nat), vs = [.ref p, .int n, .int 5, .int 2] ∧ (5 ≤ n ∧ n ≤ 6) ∧ TinAt H p N ∧ N + 200 ≤ 1000000 ∧ ∀ v H' g, Sm p H H' → TinAt H' p (N + 200) → Is H' v (dHeap false g) → DrawnOk g → Q v H'
section
variable {P : Program} {w : World} {K : PySem.W.Frag} {mg : Str → Option Value} {base : Heap}
theorem ca__law_pile (T : Top K mg) : Ca P w K mg base 5 "_law_pile" spPile := by
  have sc := sc__law_pile
  refine ca_ofR T.f__law_pile (fun _ _ _ _ _ _ us hl => match us, hl with | [_, _, _, _], _ => rfl) sc (fun vs H Q E h => by obtain ⟨_, _, _, e, _⟩ := h; rw [e]; rfl) fun f cdv A outer s H E hr => ⟨_, (pss_cons (ps_set (i := 4) sc.nd rfl (Or.inl rfl) (pe_lst pa_nil))
    (pss_cons (ps_for PassesOwn.never rfl (pi_range1 (by rfl) T.b_range (pa_cons (pv 1) pa_nil)) (pg_name (i := 5) sc.nd rfl (Or.inl rfl))
      (pss_cons (ps_set (i := 6) sc.nd rfl (Or.inl rfl) (pe_ca (ca__law_of T) hr (by decide) (by rfl) (pa_cons (pv 0) (pa_cons (pe_lst (pa_cons pe_int (pa_cons pe_int (pa_cons pe_int (pa_cons (pe_callB (call_min2Q rfl) (by rfl) T.b_min (by decide +kernel) (pa_cons pe_int (pa_cons (pe_op op_sub (pv 2) pe_int) pa_nil))) pa_nil))))) pa_nil))))
      (pss_one (ps_expr (pe_bm PySem.F.plainAttrs_list PySem.F.slot_list_append PySem.F.type_list_append mt_append (pv 4) (pa_cons (pe_op op_cat (pe_lc (own := [("_law_k", 7)]) rfl sc.nd (pi_range1 (by rfl) T.b_range (pa_cons (pv 6) pa_nil)) (blkOk_by (own := [("_law_k", 7)]) (N := N__law_pile) (sc := (defScope s__law_pile)) (by decide +kernel)) (fun _ _ _ _ _ => (pg_name (i := 7) sc.nd rfl (Or.inl rfl))) (fun _ _ _ _ _ => pts_nil) (fun _ _ _ _ _ => (pe_op op_add pe_int (pe_ca (ca__law_take T) hr (by decide) (by rfl) (pa_cons (pv 0) (pa_cons (pv 3) pa_nil)))))) (pe_op op_rep (pe_lst (pa_cons pe_int pa_nil)) (pe_op op_sub (pv 2) (pv 6)))) pa_nil))))))
    (pss_cons (ps_expr (pe_ca (ca__law_roofs T) hr (by decide) (by rfl) (pa_cons (pv 0) (pa_cons (pv 4) (pa_cons (pv 3) pa_nil)))))
    (pss_one (ps_ret (pe_ca (ca__law_washed T) hr (by decide) (by rfl) (pa_cons (pe_callTy (call_tupK (K := K) rfl) (by rfl) T.b_tuple (by decide +kernel) (pa_cons (pe_lc (own := [("_law_own", 8)]) rfl sc.nd (pi_seqK (K := K) rfl (pv 4)) (blkOk_by (own := [("_law_own", 8)]) (N := N__law_pile) (sc := (defScope s__law_pile)) (by decide +kernel)) (fun _ _ _ _ _ => (pg_name (i := 8) sc.nd rfl (Or.inl rfl))) (fun _ _ _ _ _ => pts_nil) (fun _ _ _ _ _ => (pe_callTy (call_tupK (K := K) rfl) (by rfl) T.b_tuple (by decide +kernel) (pa_cons (pv 8) pa_nil)))) pa_nil)) pa_nil))))))), ?_⟩
  rintro vs Q ⟨p, N, n, rfl, ⟨n1, n2⟩, T0, hN, q⟩
  have E0 : En [p] [([p], H)] (L2.start N__law_pile [.ref p, .int n, .int 5, .int 2]) H [.raw (.ref p), .im (.int n), .im (.int 5), .im (.int 2), .un, .un, .un, .un, .un] :=
    enF (show matchF [some (V.ref p), some (V.int n), some (V.int 5), some (V.int 2), none, none, none, none, none] _ from ⟨rfl, rfl, rfl, rfl, trivial⟩) (cf1.mu H N T0 trivial)
  refine (?_ : FOk [p] [([p], H)] p (fun _ => True) _ [.raw (.ref p), .im (.int n), .im (.int 5), .im (.int 2), .un, .un, .un, .un, .un] N { nx := fun _ H' => Q .non H', rt := Q }) _ H E0 T0 trivial
  refine fok_rows (Th := 5) rfl fun pr => fun σ H1 E1 T1 w1 => ?_
  have hprn : H pr = none := by
    obtain ⟨as, g, _, _, _, _, h5⟩ := w1
    exact h5 pr List.mem_cons_self
  have hb2 : BsF [p, pr] [([p], H)] := bsf2 fun a ha => by rw [show a = pr by simpa using ha]; exact hprn
  let I : List Sl → Prop := fun ρ => ∃ o5 o6, ρ = [.raw (.ref p), .im (.int n), .im (.int 5), .im (.int 2), .raw (.ref pr), o5, o6, .un, .un] ∧ flatR ρ = true
  refine fok_forI (n := n) (kb := 3) (fun i => WB H p pr 5 i) 5 I (fun i => cfB) rfl hb2 (gd_var rfl) (by omega) ⟨_, _, rfl, rfl⟩ (by omega) ?_ ?_ σ H1 E1 T1 w1
  · rintro H2 _ i N' ⟨o5, o6, rfl, hf⟩ hi hN'
    have f5 := flatR_set (i := 5) (k := 0 + (i : Nat)) hf
    refine fok_set (k := 1) (lo := 0) (hi := 2) cfB f5 hb2.push (fx_of (j := 0) (ns := [0, 0, 1, 2]) cfB rfl (GD.cast (GN.gd (gn_lst (ga_cons gd_int (ga_cons gd_int (ga_cons gd_int (ga_cons (gd_min2 gd_int (gd_sub (gd_var (d := .int 5) rfl) gd_int)) ga_nil)))) fw)) rfl) (by decide) (by decide) (by decide)) (by omega) fun low l0 l1 => ?_
    have f6 := flatR_set (i := 6) (k := low) f5
    have hrep : GN (tOp rRep (tLst (tCons (tC (.int 0)) tNil)) (tOp (rI0 fun i j => .int (i - j)) (tVar 2) (tVar 6))) [.raw (.ref p), .im (.int n), .im (.int 5), .im (.int 2), .raw (.ref pr), .im (.int (0 + (i : Nat))), .im (.int low), .un, .un] (.seq true ((List.replicate (5 - low.toNat) (0 : Int)).map .int)) :=
      GN.cast (gn_rep (GN.gd (gn_lst (ga_cons gd_int ga_nil) fw)) (gd_sub (gd_var rfl) (gd_var (d := .int low) rfl)) (by omega) (by omega) (by decide)) (by rw [rep_flat]; congr 3; omega)
    refine fok_push (x := 4) (k := 2) f6 hb2.push (by simp) rfl ?_ (by omega) (by omega) fun σ H E T w => ⟨_, ⟨_, _, rfl, f6⟩, E, by rw [show N' + 3 = N' + 1 + 2 by omega]; exact T, w⟩
    refine fnl_le (k := low.toNat * 1) (fnl_eq (t' := low.toNat + (5 - low.toNat)) (by omega) (fnl_cat cfB f6 (fnl_lc cfB f6 ?_ (by omega) fun z => ?_) (by omega) (by omega) hrep)) (by omega)
    · exact GD.cast (gd_var (i := 6) rfl) (by congr 1; omega)
    · exact fx_le (k := 1) (fx_add (k1 := 0) (k2 := 1) cfB rfl (fx_gd (i := 1) gd_int (Int.le_refl _) (Int.le_refl _)) (fx_take (j := 0) (k := 0) cfB rfl rfl (fx_gd (i := 2) (gd_var rfl) (Int.le_refl _) (Int.le_refl _)) (by decide) (by decide))) (by decide) (by decide) (by decide)
  · rintro _ ⟨o5, o6, rfl, hf⟩
    refine fok_widen hf fun as hp has => ?_
    have hb3 : BsF (p :: pr :: as) [([p], H)] := bsf2 has
    refine fok_seq (fok_roofs hp hf hb3 rfl rfl rfl ⟨by omega, by omega⟩ ⟨by decide, by decide⟩ (by omega) fun σ H' E T w => ?_)
    refine wash_ret (r := 4) E hf rfl w ⟨by omega, by omega⟩ ⟨by decide, by decide⟩ (by omega) (fun g hg => gd_tuple (l := true) (GN.gd (gn_lcY (xs := g) (f := tupI true) (e := tupI false) (gw_seq (gd_var rfl)) (sl12 (by omega)) (fun x _ => gg_name (by decide)) (fun x hx => gd_tuple (l := true) (gd_var rfl))))) fun v H2 g s hi hd => ?_
    exact q v H2 g (fun a o hne ho => s _ _ (E.ex ([p], H) (by simp) a o (by simpa using hne) ho)) ((T.mono s).le (by omega)) hi hd
end
end DL
set_option maxHeartbeats 1000000
namespace DL
open PySem PySem.Spec PyProof.Rows L2
section
variable {own : List Addr} {bs : List (List Addr × Hp)} {p : Addr} {W : Hp → Prop} {ρ : List Sl} {t u u1 : TS} {tt : TT} {k N M : Nat} {D : Ends}
theorem fok_ifS (C : Cf own p W) (hf : flatR ρ = true) (hb : BsF own bs) (h : FT own p W tt ρ k) (hN : N + k ≤ 1000000) (ha : ∀ D', (∀ σ H, En own bs σ H ρ → TinAt H p M → W H → D'.nx σ H) → FOk own bs p W t ρ (N + k) D')
    (hc : ∀ D', (∀ σ H, En own bs σ H ρ → TinAt H p M → W H → D'.nx σ H) → FOk own bs p W u1 ρ (N + k) D') (hu : FOk own bs p W u ρ M D) : FOk own bs p W (tSeq (tIfS tt t u1) u) ρ N D :=
  fok_seq (fok_if C hf hb h hN (ha _ fun σ H E T w => hu σ H E T w) (hc _ fun σ H E T w => hu σ H E T w))
theorem fok_nx {D' : Ends} (hm : N ≤ M) (q : ∀ σ H, En own bs σ H ρ → TinAt H p M → W H → D'.nx σ H) : FOk own bs p W tNext ρ N D' := fun σ H E T w => q σ H E (T.le hm) w
end
section
variable {P : Program} {w : World} {K : PySem.W.Frag} {mg : Str → Option Value} {base : Heap}
theorem ca__law_caves (T : Top K mg) : Ca P w K mg base 5 "_law_caves" spDraw := by
  have sc := sc__law_caves
  refine ca_ofR T.f__law_caves (fun _ _ _ _ _ _ us hl => match us, hl with | [_], _ => rfl) sc (fun vs H Q E h => by obtain ⟨_, _, e, _⟩ := h; rw [e]; rfl) fun f cdv A outer s H E hr => ⟨_, (pss_cons (ps_par (i := 1) (j := 2) rfl sc.nd rfl rfl (by decide) rfl rfl (pa_cons (pe_op op_add pe_int (pe_ca (ca__law_take T) hr (by decide) (by rfl) (pa_cons (pv 0) (pa_cons pe_int pa_nil)))) (pa_cons pe_int pa_nil)) (by rfl))
    (pss_cons (ps_set (i := 3) sc.nd rfl (Or.inl rfl) (pe_lst pa_nil))
    (pss_cons (ps_for PassesOwn.never rfl (pi_range1 (by rfl) T.b_range (pa_cons (pv 1) pa_nil)) (pg_name (i := 4) sc.nd rfl (Or.inl rfl))
      (pss_one (ps_expr (pe_bm PySem.F.plainAttrs_list PySem.F.slot_list_append PySem.F.type_list_append mt_append (pv 3) (pa_cons (pe_op op_cat (pe_lc (own := [("_law_h", 9)]) rfl sc.nd (pi_range1 (by rfl) T.b_range (pa_cons (pe_op op_sub (pv 2) pe_int) pa_nil)) (blkOk_by (own := [("_law_h", 9)]) (N := N__law_caves) (sc := (defScope s__law_caves)) (by decide +kernel)) (fun _ _ _ _ _ => (pg_name (i := 9) sc.nd rfl (Or.inl rfl))) (fun _ _ _ _ _ => pts_nil) (fun _ _ _ _ _ => (pe_op op_add pe_int (pe_ca (ca__law_take T) hr (by decide) (by rfl) (pa_cons (pv 0) (pa_cons pe_int pa_nil)))))) (pe_lst (pa_cons pe_int pa_nil))) pa_nil)))))
    (pss_cons (ps_for PassesOwn.never rfl (pi_range1 (by rfl) T.b_range (pa_cons (pe_op op_add pe_int (pe_callTy call_int1Q (by rfl) T.b_int (by decide +kernel) (pa_cons (pe_cmpR op_eq (pe_ca (ca__law_take T) hr (by decide) (by rfl) (pa_cons (pv 0) (pa_cons pe_int pa_nil))) pe_int (nomark _)) pa_nil))) pa_nil)) (pg_name (i := 5) sc.nd rfl (Or.inl rfl))
      (pss_cons (ps_par3 (i := 6) (j := 7) (l := 8) rfl sc.nd rfl rfl rfl (by decide) (by decide) (by decide) rfl rfl rfl (pa_cons (pe_op op_add pe_int (pe_ca (ca__law_take T) hr (by decide) (by rfl) (pa_cons (pv 0) (pa_cons pe_int pa_nil)))) (pa_cons (pe_op op_add pe_int (pe_ca (ca__law_take T) hr (by decide) (by rfl) (pa_cons (pv 0) (pa_cons pe_int pa_nil)))) (pa_cons (pe_ca (ca__law_take T) hr (by decide) (by rfl) (pa_cons (pv 0) (pa_cons pe_int pa_nil))) pa_nil))) (by rfl))
      (pss_cons (ps_expr (pe_ca (ca__law_carve T) hr (by decide) (by rfl) (pa_cons (pv 3) (pa_cons (pv 7) (pa_cons (pv 8) (pa_cons (pv 6) (pa_cons (pe_op op_add pe_int (pe_callTy call_int1Q (by rfl) T.b_int (by decide +kernel) (pa_cons (pe_cmpR op_eq (pe_ca (ca__law_take T) hr (by decide) (by rfl) (pa_cons (pv 0) (pa_cons pe_int pa_nil))) pe_int (nomark _)) pa_nil))) pa_nil)))))))
      (pss_cons (ps_if (pt_cmpR op_gt (pe_ca (ca__law_take T) hr (by decide) (by rfl) (pa_cons (pv 0) (pa_cons pe_int pa_nil))) pe_int (nomark _))
        (pss_one (ps_expr (pe_ca (ca__law_carve T) hr (by decide) (by rfl) (pa_cons (pv 3) (pa_cons (pe_op op_add (pv 7) (pe_ca (ca__law_take T) hr (by decide) (by rfl) (pa_cons (pv 0) (pa_cons (pv 6) pa_nil)))) (pa_cons (pe_op op_add (pv 8) pe_int) (pa_cons (pe_ca (ca__law_of T) hr (by decide) (by rfl) (pa_cons (pv 0) (pa_cons (pe_lst (pa_cons pe_int (pa_cons pe_int (pa_cons pe_int (pa_cons pe_int (pa_cons pe_int pa_nil)))))) pa_nil))) (pa_cons (pv 2) pa_nil))))))))
        pss_nil)
      (pss_one (ps_if (pt_cmpR op_eq (pe_ca (ca__law_take T) hr (by decide) (by rfl) (pa_cons (pv 0) (pa_cons pe_int pa_nil))) pe_int (nomark _))
        (pss_one (ps_expr (pe_ca (ca__law_carve T) hr (by decide) (by rfl) (pa_cons (pv 3) (pa_cons (pv 7) (pa_cons (pe_op op_add (pv 8) pe_int) (pa_cons (pv 1) (pa_cons pe_int pa_nil))))))))
        pss_nil))))))
    (pss_one (ps_ret (pe_ca (ca__law_washed T) hr (by decide) (by rfl) (pa_cons (pe_callTy (call_tupK (K := K) rfl) (by rfl) T.b_tuple (by decide +kernel) (pa_cons (pe_lc (own := [("_law_own", 10)]) rfl sc.nd (pi_seqK (K := K) rfl (pv 3)) (blkOk_by (own := [("_law_own", 10)]) (N := N__law_caves) (sc := (defScope s__law_caves)) (by decide +kernel)) (fun _ _ _ _ _ => (pg_name (i := 10) sc.nd rfl (Or.inl rfl))) (fun _ _ _ _ _ => pts_nil) (fun _ _ _ _ _ => (pe_callTy (call_tupK (K := K) rfl) (by rfl) T.b_tuple (by decide +kernel) (pa_cons (pv 10) pa_nil)))) pa_nil)) pa_nil)))))))), ?_⟩
  rintro vs Q ⟨p, N, rfl, T0, hN, q⟩
  have E0 : En [p] [([p], H)] (L2.start N__law_caves [.ref p]) H [.raw (.ref p), .un, .un, .un, .un, .un, .un, .un, .un, .un, .un] :=
    enF (show matchF [some (V.ref p), none, none, none, none, none, none, none, none, none, none] _ from ⟨rfl, trivial⟩) (cf1.mu H N T0 trivial)
  refine (?_ : FOk [p] [([p], H)] p (fun _ => True) _ [.raw (.ref p), .un, .un, .un, .un, .un, .un, .un, .un, .un, .un] N { nx := fun _ H' => Q .non H', rt := Q }) _ H E0 T0 trivial
  refine fok_par2 (k1 := 1) (k2 := 0) (l1 := 8) (h1 := 9) (l2 := 7) (h2 := 7) cf1 rfl bsf1 (fx_le (k := 1) (fx_add (k1 := 0) (k2 := 1) cf1 rfl (fx_gd (i := 8) gd_int (Int.le_refl _) (Int.le_refl _)) (fx_take (j := 0) (k := 0) cf1 rfl rfl (fx_gd (i := 2) gd_int (Int.le_refl _) (Int.le_refl _)) (by decide) (by decide))) (by decide) (by decide) (by decide)) (fx_gd gd_int (Int.le_refl _) (Int.le_refl _)) (by omega) fun wd t' w0 w1 t0 t1 => ?_
  obtain rfl : t' = 7 := by omega
  obtain ⟨n, rfl⟩ : ∃ n : Nat, wd = n := ⟨wd.toNat, by omega⟩
  refine fok_rows (Th := 7) rfl fun pr => fun σ H1 E1 T1 w1' => ?_
  have hprn : H pr = none := by
    obtain ⟨as, g, _, _, _, _, h5⟩ := w1'
    exact h5 pr List.mem_cons_self
  have hb2 : BsF [p, pr] [([p], H)] := bsf2 fun a ha => by rw [show a = pr by simpa using ha]; exact hprn
  refine fok_forI (n := n) (kb := 6) (fun i => WB H p pr 7 i) 4 (fun ρ => ∃ o4, ρ = [.raw (.ref p), .im (.int n), .im (.int 7), .raw (.ref pr), o4, .un, .un, .un, .un, .un, .un] ∧ flatR ρ = true) (fun i => cfB) rfl hb2 (gd_var rfl) (by omega) ⟨_, rfl, rfl⟩ (by omega) ?_ ?_ σ H1 E1 T1 w1'
  · rintro H2 _ i N' ⟨o4, rfl, hf⟩ hi hN'
    have f4 := flatR_set (i := 4) (k := 0 + (i : Nat)) hf
    refine fok_push (x := 3) (k := 6) f4 hb2.push (by simp) rfl ?_ (by omega) (by omega) fun σ H E T w => ⟨_, ⟨_, rfl, f4⟩, E, T, w⟩
    refine fnl_cat (m := 6) (r := 1) (k := 6) cfB f4 (fnl_lc (m := 6) (k := 1) cfB f4 (GD.cast (gd_sub (gd_var (i := 2) (d := .int 7) rfl) gd_int) rfl) (by omega) fun z => ?_) (by omega) (by omega) (gn_lst (ga_cons gd_int ga_nil) fw)
    exact fx_le (k := 1) (fx_add (k1 := 0) (k2 := 1) cfB rfl (fx_gd (i := 1) gd_int (Int.le_refl _) (Int.le_refl _)) (fx_take (j := 0) (k := 0) cfB rfl rfl (fx_gd (i := 2) gd_int (Int.le_refl _) (Int.le_refl _)) (by decide) (by decide))) (by decide) (by decide) (by decide)
  · rintro _ ⟨o4, rfl, hf⟩
    refine fok_widen hf fun as hp has => ?_
    have hb3 : BsF (p :: pr :: as) [([p], H)] := bsf2 has
    have C := cfN (n := n) (t := 7) hp
    refine fok_forS (k := 1) (kb := 8) (m := 2) 5 (fun ρ => ∃ o5 o6 o7 o8, ρ = [.raw (.ref p), .im (.int n), .im (.int 7), .raw (.ref pr), o4, o5, o6, o7, o8, .un, .un] ∧ flatR ρ = true) C hf hb3 (fw_range1 (hi := 2) (lo := 1) (fx_le (k := 1) (fx_add (k1 := 0) (k2 := 1) C hf (fx_gd (i := 1) gd_int (Int.le_refl _) (Int.le_refl _)) (fx_intEq C (fx_take (j := 0) (k := 0) C hf rfl (fx_gd (i := 3) gd_int (Int.le_refl _) (Int.le_refl _)) (by decide) (by decide)))) (by decide) (by decide) (by decide)) (by decide) (by decide) (by decide) (by decide)) ⟨_, _, _, _, rfl, hf⟩ (by omega) ?_ ?_
    · rintro H2 _ lap N' ⟨o5, o6, o7, o8, rfl, hf⟩ _ _ hN'
      have f5 := flatR_set (i := 5) (k := lap) hf
      refine fok_par3 (k1 := 1) (k2 := 1) (k3 := 1) (l1 := 3) (h1 := 4) (l2 := 1) (h2 := 3) (l3 := 0) (h3 := 1) C f5 hb3.push
        (fx_le (k := 1) (fx_add (k1 := 0) (k2 := 1) C f5 (fx_gd (i := 3) gd_int (Int.le_refl _) (Int.le_refl _)) (fx_take (j := 0) (k := 0) C f5 rfl (fx_gd (i := 2) gd_int (Int.le_refl _) (Int.le_refl _)) (by decide) (by decide))) (by decide) (by decide) (by decide))
        (fx_le (k := 1) (fx_add (k1 := 0) (k2 := 1) C f5 (fx_gd (i := 1) gd_int (Int.le_refl _) (Int.le_refl _)) (fx_take (j := 0) (k := 0) C f5 rfl (fx_gd (i := 3) gd_int (Int.le_refl _) (Int.le_refl _)) (by decide) (by decide))) (by decide) (by decide) (by decide))
        (fx_le (k := 1) (fx_take (j := 0) (k := 0) C f5 rfl (fx_gd (i := 2) gd_int (Int.le_refl _) (Int.le_refl _)) (by decide) (by decide)) (by decide) (by decide) (by decide)) (by omega) fun sz a b s0 s1 a0 a1 b0 b1 => ?_
      have f8 := flatR_set (i := 8) (k := b) (flatR_set (i := 7) (k := a) (flatR_set (i := 6) (k := sz) f5))
      refine fok_seq (fok_carve (k1 := 0) (k2 := 0) (k3 := 0) (k4 := 1) (a0 := a) (a1 := a) (b0 := b) (b1 := b) (c0 := sz) (c1 := sz) (d0 := 3) (d1 := 4) hp f8 hb3.push rfl ⟨by omega, by omega⟩ (by decide) (fx_gd (gd_var rfl) (Int.le_refl _) (Int.le_refl _)) (fx_gd (gd_var rfl) (Int.le_refl _) (Int.le_refl _)) (fx_gd (gd_var rfl) (Int.le_refl _) (Int.le_refl _))
        (fx_le (k := 1) (fx_add (k1 := 0) (k2 := 1) C f8 (fx_gd (i := 3) gd_int (Int.le_refl _) (Int.le_refl _)) (fx_intEq C (fx_take (j := 0) (k := 0) C f8 rfl (fx_gd (i := 3) gd_int (Int.le_refl _) (Int.le_refl _)) (by decide) (by decide)))) (by decide) (by decide) (by decide)) ⟨by omega, by omega⟩ ⟨by omega, by omega⟩ ⟨by omega, by omega⟩ ⟨by omega, by omega⟩ (by omega) ?_)
      refine fok_ifS (k := 1) (M := N' + 7) C f8 hb3.push (ft_cmp (k1 := 1) (k2 := 0) (g := fun i j => decide (j < i)) C f8 (fx_take (j := 0) (k := 0) C f8 rfl (fx_gd (i := 4) gd_int (Int.le_refl _) (Int.le_refl _)) (by decide) (by decide)) (fx_gd (i := 0) gd_int (Int.le_refl _) (Int.le_refl _))) (by omega) (fun D' q' => ?_) (fun D' q' => fok_nx (by omega) q') ?_
      · exact fok_carve (k1 := 1) (k2 := 0) (k3 := 1) (k4 := 0) (a0 := a) (a1 := a + 3) (b0 := b + 2) (b1 := b + 2) (c0 := 1) (c1 := 3) (d0 := 7) (d1 := 7) hp f8 hb3.push rfl ⟨by omega, by omega⟩ (by decide)
          (fx_le (k := 1) (fx_add (k1 := 0) (k2 := 1) C f8 (fx_gd (i := a) (gd_var rfl) (Int.le_refl _) (Int.le_refl _)) (fx_take (j := 0) (k := 0) (lo := sz) (hi := sz) C f8 rfl (fx_gd (i := sz) (gd_var rfl) (Int.le_refl _) (Int.le_refl _)) (by omega) (by omega))) (by omega) (by omega) (by omega)) (fx_gd (gd_add (gd_var (d := .int b) rfl) gd_int) (Int.le_refl _) (Int.le_refl _))
          (fx_of (j := 0) (ns := [1, 1, 2, 1, 3]) C rfl (GN.gd (gn_lst (ga_cons gd_int (ga_cons gd_int (ga_cons gd_int (ga_cons gd_int (ga_cons gd_int ga_nil))))) fw)) (by decide) (by decide) (by decide)) (fx_gd (gd_var rfl) (Int.le_refl _) (Int.le_refl _)) ⟨by omega, by omega⟩ ⟨by omega, by omega⟩ ⟨by omega, by omega⟩ ⟨by omega, by omega⟩ (by omega) fun σ H E T w => q' σ H E (T.le (by omega)) w
      · refine fok_if (k := 1) C f8 hb3.push (ft_eq0 C (fx_take (j := 0) (k := 0) C f8 rfl (fx_gd (i := 4) gd_int (Int.le_refl _) (Int.le_refl _)) (by decide) (by decide))) (by omega) ?_ (fok_nx (M := N' + 8) (by omega) fun σ H E T w => ⟨_, ⟨_, _, _, _, rfl, f8⟩, E, T, w⟩)
        exact fok_carve (k1 := 0) (k2 := 0) (k3 := 0) (k4 := 0) (a0 := a) (a1 := a) (b0 := b + 1) (b1 := b + 1) (c0 := n) (c1 := n) (d0 := 1) (d1 := 1) hp f8 hb3.push rfl ⟨by omega, by omega⟩ (by decide) (fx_gd (gd_var rfl) (Int.le_refl _) (Int.le_refl _)) (fx_gd (gd_add (gd_var (d := .int b) rfl) gd_int) (Int.le_refl _) (Int.le_refl _)) (fx_gd (gd_var rfl) (Int.le_refl _) (Int.le_refl _)) (fx_gd gd_int (Int.le_refl _) (Int.le_refl _)) ⟨by omega, by omega⟩ ⟨by omega, by omega⟩ ⟨by omega, by omega⟩ ⟨by omega, by omega⟩ (by omega) fun σ H E T w => ⟨_, ⟨_, _, _, _, rfl, f8⟩, E, T.le (by omega), w⟩
    · rintro _ ⟨o5, o6, o7, o8, rfl, hf⟩ σ H' E T w
      refine wash_ret (r := 3) E hf rfl w ⟨by omega, by omega⟩ ⟨by decide, by decide⟩ (by omega) (fun g hg => gd_tuple (l := true) (GN.gd (gn_lcY (xs := g) (f := tupI true) (e := tupI false) (gw_seq (gd_var rfl)) (sl12 (by omega)) (fun x _ => gg_name (by decide)) (fun x hx => gd_tuple (l := true) (gd_var rfl))))) fun v H2 g s hi hd => ?_
      exact q v H2 g (fun a o hne ho => s _ _ (E.ex ([p], H) (by simp) a o (by simpa using hne) ho)) ((T.mono s).le (by omega)) hi hd
theorem ca__law_rooms (T : Top K mg) : Ca P w K mg base 5 "_law_rooms" spDraw := by
  have sc := sc__law_rooms
  refine ca_ofR T.f__law_rooms (fun _ _ _ _ _ _ us hl => match us, hl with | [_], _ => rfl) sc (fun vs H Q E h => by obtain ⟨_, _, e, _⟩ := h; rw [e]; rfl) fun f cdv A outer s H E hr => ⟨_, (pss_cons (ps_par (i := 1) (j := 2) rfl sc.nd rfl rfl (by decide) rfl rfl (pa_cons (pe_op op_add pe_int (pe_ca (ca__law_take T) hr (by decide) (by rfl) (pa_cons (pv 0) (pa_cons pe_int pa_nil)))) (pa_cons (pe_lst pa_nil) pa_nil)) (by rfl))
    (pss_cons (ps_for PassesOwn.never rfl (pi_range1 (by rfl) T.b_range (pa_cons (pv 1) pa_nil)) (pg_name (i := 3) sc.nd rfl (Or.inl rfl))
      (pss_one (ps_expr (pe_bm PySem.F.plainAttrs_list PySem.F.slot_list_append PySem.F.type_list_append mt_append (pv 2) (pa_cons (pe_op op_cat (pe_lc (own := [("_law_h", 7)]) rfl sc.nd (pi_range1 (by rfl) T.b_range (pa_cons pe_int pa_nil)) (blkOk_by (own := [("_law_h", 7)]) (N := N__law_rooms) (sc := (defScope s__law_rooms)) (by decide +kernel)) (fun _ _ _ _ _ => (pg_name (i := 7) sc.nd rfl (Or.inl rfl))) (fun _ _ _ _ _ => pts_nil) (fun _ _ _ _ _ => (pe_op op_add pe_int (pe_ca (ca__law_take T) hr (by decide) (by rfl) (pa_cons (pv 0) (pa_cons pe_int pa_nil)))))) (pe_lst (pa_cons pe_int pa_nil))) pa_nil)))))
    (pss_cons (ps_par (i := 4) (j := 5) rfl sc.nd rfl rfl (by decide) rfl rfl (pa_cons (pe_op op_add pe_int (pe_ca (ca__law_take T) hr (by decide) (by rfl) (pa_cons (pv 0) (pa_cons (pe_op op_sub (pv 1) pe_int) pa_nil)))) (pa_cons (pe_ca (ca__law_take T) hr (by decide) (by rfl) (pa_cons (pv 0) (pa_cons pe_int pa_nil))) pa_nil)) (by rfl))
    (pss_cons (ps_expr (pe_ca (ca__law_carve T) hr (by decide) (by rfl) (pa_cons (pv 2) (pa_cons (pv 4) (pa_cons (pv 5) (pa_cons pe_int (pa_cons pe_int pa_nil)))))))
    (pss_cons (ps_for PassesOwn.never rfl (pi_range1 (by rfl) T.b_range (pa_cons (pe_ca (ca__law_of T) hr (by decide) (by rfl) (pa_cons (pv 0) (pa_cons (pe_lst (pa_cons pe_int (pa_cons pe_int (pa_cons pe_int (pa_cons pe_int (pa_cons pe_int pa_nil)))))) pa_nil))) pa_nil)) (pg_name (i := 6) sc.nd rfl (Or.inl rfl))
      (pss_one (ps_expr (pe_ca (ca__law_carve T) hr (by decide) (by rfl) (pa_cons (pv 2) (pa_cons (pe_op op_add (pv 4) (pe_ca (ca__law_take T) hr (by decide) (by rfl) (pa_cons (pv 0) (pa_cons pe_int pa_nil)))) (pa_cons (pe_op op_add (pv 5) pe_int) (pa_cons pe_int (pa_cons pe_int pa_nil)))))))))
    (pss_cons (ps_if (pt_cmpR op_eq (pe_ca (ca__law_take T) hr (by decide) (by rfl) (pa_cons (pv 0) (pa_cons pe_int pa_nil))) pe_int (nomark _))
      (pss_one (ps_expr (pe_ca (ca__law_carve T) hr (by decide) (by rfl) (pa_cons (pv 2) (pa_cons (pv 4) (pa_cons (pe_op op_add (pv 5) (pe_ca (ca__law_take T) hr (by decide) (by rfl) (pa_cons (pv 0) (pa_cons pe_int pa_nil)))) (pa_cons (pv 1) (pa_cons pe_int pa_nil))))))))
      pss_nil)
    (pss_cons (ps_if (pt_cmpR op_eq (pe_ca (ca__law_take T) hr (by decide) (by rfl) (pa_cons (pv 0) (pa_cons pe_int pa_nil))) pe_int (nomark _))
      (pss_one (ps_expr (pe_ca (ca__law_carve T) hr (by decide) (by rfl) (pa_cons (pv 2) (pa_cons (pe_ca (ca__law_take T) hr (by decide) (by rfl) (pa_cons (pv 0) (pa_cons (pv 1) pa_nil))) (pa_cons (pe_ca (ca__law_take T) hr (by decide) (by rfl) (pa_cons (pv 0) (pa_cons pe_int pa_nil))) (pa_cons pe_int (pa_cons pe_int pa_nil))))))))
      pss_nil)
    (pss_one (ps_ret (pe_ca (ca__law_washed T) hr (by decide) (by rfl) (pa_cons (pe_callTy (call_tupK (K := K) rfl) (by rfl) T.b_tuple (by decide +kernel) (pa_cons (pe_lc (own := [("_law_own", 8)]) rfl sc.nd (pi_seqK (K := K) rfl (pv 2)) (blkOk_by (own := [("_law_own", 8)]) (N := N__law_rooms) (sc := (defScope s__law_rooms)) (by decide +kernel)) (fun _ _ _ _ _ => (pg_name (i := 8) sc.nd rfl (Or.inl rfl))) (fun _ _ _ _ _ => pts_nil) (fun _ _ _ _ _ => (pe_callTy (call_tupK (K := K) rfl) (by rfl) T.b_tuple (by decide +kernel) (pa_cons (pv 8) pa_nil)))) pa_nil)) pa_nil))))))))))), ?_⟩
  rintro vs Q ⟨p, N, rfl, T0, hN, q⟩
  have E0 : En [p] [([p], H)] (L2.start N__law_rooms [.ref p]) H [.raw (.ref p), .un, .un, .un, .un, .un, .un, .un, .un] :=
    enF (show matchF [some (V.ref p), none, none, none, none, none, none, none, none] _ from ⟨rfl, trivial⟩) (cf1.mu H N T0 trivial)
  refine (?_ : FOk [p] [([p], H)] p (fun _ => True) _ [.raw (.ref p), .un, .un, .un, .un, .un, .un, .un, .un] N { nx := fun _ H' => Q .non H', rt := Q }) _ H E0 T0 trivial
  refine fok_rowsP (Th := 6) (k := 1) (lo := 6) (hi := 7) rfl (fx_le (k := 1) (fx_add (k1 := 0) (k2 := 1) cf1 rfl (fx_gd (i := 6) gd_int (Int.le_refl _) (Int.le_refl _)) (fx_take (j := 0) (k := 0) cf1 rfl rfl (fx_gd (i := 2) gd_int (Int.le_refl _) (Int.le_refl _)) (by decide) (by decide))) (by decide) (by decide) (by decide)) (by omega) fun wd pr w0 w1 => fun σ H1 E1 T1 w1' => ?_
  obtain ⟨n, rfl⟩ : ∃ n : Nat, wd = n := ⟨wd.toNat, by omega⟩
  have hprn : H pr = none := by
    obtain ⟨as, g, _, _, _, _, h5⟩ := w1'
    exact h5 pr List.mem_cons_self
  have hb2 : BsF [p, pr] [([p], H)] := bsf2 fun a ha => by rw [show a = pr by simpa using ha]; exact hprn
  refine fok_forI (n := n) (kb := 5) (fun i => WB H p pr 6 i) 3 (fun ρ => ∃ o3, ρ = [.raw (.ref p), .im (.int n), .raw (.ref pr), o3, .un, .un, .un, .un, .un] ∧ flatR ρ = true) (fun i => cfB) rfl hb2 (gd_var rfl) (by omega) ⟨_, rfl, rfl⟩ (by omega) ?_ ?_ σ H1 E1 T1 w1'
  · rintro H2 _ i N' ⟨o3, rfl, hf⟩ hi hN'
    have f3 := flatR_set (i := 3) (k := 0 + (i : Nat)) hf
    refine fok_push (x := 2) (k := 5) f3 hb2.push (by simp) rfl ?_ (by omega) (by omega) fun σ H E T w => ⟨_, ⟨_, rfl, f3⟩, E, T, w⟩
    refine fnl_cat (m := 5) (r := 1) (k := 5) cfB f3 (fnl_lc (m := 5) (k := 1) cfB f3 gd_int (by omega) fun z => ?_) (by omega) (by omega) (gn_lst (ga_cons gd_int ga_nil) fw)
    exact fx_le (k := 1) (fx_add (k1 := 0) (k2 := 1) cfB rfl (fx_gd (i := 1) gd_int (Int.le_refl _) (Int.le_refl _)) (fx_take (j := 0) (k := 0) cfB rfl rfl (fx_gd (i := 2) gd_int (Int.le_refl _) (Int.le_refl _)) (by decide) (by decide))) (by decide) (by decide) (by decide)
  · rintro _ ⟨o3, rfl, hf⟩
    refine fok_widen hf fun as hp has => ?_
    have hb3 : BsF (p :: pr :: as) [([p], H)] := bsf2 has
    have C := cfN (n := n) (t := 6) hp
    refine fok_par2 (k1 := 1) (k2 := 1) (l1 := 1) (h1 := (n : Int) - 4) (l2 := 0) (h2 := 1) C hf hb3 (fx_le (k := 1) (fx_add (k1 := 0) (k2 := 1) C hf (fx_gd (i := 1) gd_int (Int.le_refl _) (Int.le_refl _)) (fx_take (j := 0) (k := 0) (lo := (n : Int) - 4) (hi := (n : Int) - 4) C hf rfl (fx_gd (gd_sub (gd_var (d := .int n) rfl) gd_int) (Int.le_refl _) (Int.le_refl _)) (by omega) (by omega))) (by omega) (by omega) (by omega))
      (fx_le (k := 1) (fx_take (j := 0) (k := 0) C hf rfl (fx_gd (i := 2) gd_int (Int.le_refl _) (Int.le_refl _)) (by decide) (by decide)) (by decide) (by decide) (by decide)) (by omega) fun a b a0 a1 b0 b1 => ?_
    have f5 := flatR_set (i := 5) (k := b) (flatR_set (i := 4) (k := a) hf)
    refine fok_seq (fok_carve (k1 := 0) (k2 := 0) (k3 := 0) (k4 := 0) (a0 := a) (a1 := a) (b0 := b) (b1 := b) (c0 := 3) (c1 := 3) (d0 := 3) (d1 := 3) hp f5 hb3 rfl ⟨by omega, by omega⟩ (by decide) (fx_gd (gd_var rfl) (Int.le_refl _) (Int.le_refl _)) (fx_gd (gd_var rfl) (Int.le_refl _) (Int.le_refl _)) (fx_gd gd_int (Int.le_refl _) (Int.le_refl _)) (fx_gd gd_int (Int.le_refl _) (Int.le_refl _)) ⟨by omega, by omega⟩ ⟨by omega, by omega⟩ ⟨by omega, by omega⟩ ⟨by omega, by omega⟩ (by omega) ?_)
    refine fok_forS (k := 1) (kb := 1) (m := 2) 6 (fun ρ => ∃ o6, ρ = [.raw (.ref p), .im (.int n), .raw (.ref pr), o3, .im (.int a), .im (.int b), o6, .un, .un] ∧ flatR ρ = true) C f5 hb3 (fw_range1 (hi := 2) (lo := 0) (fx_of (j := 0) (ns := [1, 1, 1, 0, 2]) C rfl (GN.gd (gn_lst (ga_cons gd_int (ga_cons gd_int (ga_cons gd_int (ga_cons gd_int (ga_cons gd_int ga_nil))))) fw)) (by decide) (by decide) (by decide)) (by decide) (by decide) (by decide) (by decide)) ⟨_, rfl, f5⟩ (by omega) ?_ ?_
    · rintro H2 _ lap N' ⟨o6, rfl, hf⟩ _ _ hN'
      have f6 := flatR_set (i := 6) (k := lap) hf
      exact fok_carve (k1 := 1) (k2 := 0) (k3 := 0) (k4 := 0) (a0 := a) (a1 := a + 2) (b0 := b + 2) (b1 := b + 2) (c0 := 1) (c1 := 1) (d0 := 6) (d1 := 6) hp f6 hb3.push rfl ⟨by omega, by omega⟩ (by decide)
        (fx_le (k := 1) (fx_add (k1 := 0) (k2 := 1) C f6 (fx_gd (i := a) (gd_var rfl) (Int.le_refl _) (Int.le_refl _)) (fx_take (j := 0) (k := 0) C f6 rfl (fx_gd (i := 3) gd_int (Int.le_refl _) (Int.le_refl _)) (by decide) (by decide))) (by omega) (by omega) (by omega)) (fx_gd (gd_add (gd_var (d := .int b) rfl) gd_int) (Int.le_refl _) (Int.le_refl _)) (fx_gd gd_int (Int.le_refl _) (Int.le_refl _)) (fx_gd gd_int (Int.le_refl _) (Int.le_refl _)) ⟨by omega, by omega⟩ ⟨by omega, by omega⟩ ⟨by omega, by omega⟩ ⟨by omega, by omega⟩ (by omega) fun σ H E T w => ⟨_, ⟨_, rfl, f6⟩, E, T, w⟩
    · rintro _ ⟨o6, rfl, f6⟩
      refine fok_ifS (k := 1) (M := N + 1 + n * 5 + (1 + 1) + 10) C f6 hb3 (ft_eq0 C (fx_take (j := 0) (k := 0) C f6 rfl (fx_gd (i := 4) gd_int (Int.le_refl _) (Int.le_refl _)) (by decide) (by decide))) (by omega) (fun D' q' => ?_) (fun D' q' => fok_nx (by omega) q') ?_
      · exact fok_carve (k1 := 0) (k2 := 1) (k3 := 0) (k4 := 0) (a0 := a) (a1 := a) (b0 := b) (b1 := b + 2) (c0 := n) (c1 := n) (d0 := 1) (d1 := 1) hp f6 hb3 rfl ⟨by omega, by omega⟩ (by decide) (fx_gd (gd_var rfl) (Int.le_refl _) (Int.le_refl _)) (fx_le (k := 1) (fx_add (k1 := 0) (k2 := 1) C f6 (fx_gd (i := b) (gd_var rfl) (Int.le_refl _) (Int.le_refl _)) (fx_take (j := 0) (k := 0) C f6 rfl (fx_gd (i := 3) gd_int (Int.le_refl _) (Int.le_refl _)) (by decide) (by decide))) (by omega) (by omega) (by omega)) (fx_gd (gd_var rfl) (Int.le_refl _) (Int.le_refl _)) (fx_gd gd_int (Int.le_refl _) (Int.le_refl _)) ⟨by omega, by omega⟩ ⟨by omega, by omega⟩ ⟨by omega, by omega⟩ ⟨by omega, by omega⟩ (by omega) fun σ H E T w => q' σ H E (T.le (by omega)) w
      · refine fok_ifS (k := 1) (M := N + 1 + n * 5 + (1 + 1) + 20) C f6 hb3 (ft_eq0 C (fx_take (j := 0) (k := 0) C f6 rfl (fx_gd (i := 3) gd_int (Int.le_refl _) (Int.le_refl _)) (by decide) (by decide))) (by omega) (fun D' q' => ?_) (fun D' q' => fok_nx (by omega) q') ?_
        · exact fok_carve (k1 := 1) (k2 := 1) (k3 := 0) (k4 := 0) (a0 := 0) (a1 := n - 1) (b0 := 0) (b1 := 2) (c0 := 1) (c1 := 1) (d0 := 1) (d1 := 1) hp f6 hb3 rfl ⟨by omega, by omega⟩ (by decide) (fx_take (j := 0) (k := 0) C f6 rfl (fx_gd (i := n) (gd_var rfl) (Int.le_refl _) (Int.le_refl _)) (by omega) (by omega)) (fx_le (k := 1) (fx_take (j := 0) (k := 0) C f6 rfl (fx_gd (i := 3) gd_int (Int.le_refl _) (Int.le_refl _)) (by decide) (by decide)) (by decide) (by decide) (by decide)) (fx_gd gd_int (Int.le_refl _) (Int.le_refl _)) (fx_gd gd_int (Int.le_refl _) (Int.le_refl _)) ⟨by omega, by omega⟩ ⟨by omega, by omega⟩ ⟨by omega, by omega⟩ ⟨by omega, by omega⟩ (by omega) fun σ H E T w => q' σ H E (T.le (by omega)) w
        · intro σ H' E T w
          refine wash_ret (r := 2) E f6 rfl w ⟨by omega, by omega⟩ ⟨by decide, by decide⟩ (by omega) (fun g hg => gd_tuple (l := true) (GN.gd (gn_lcY (xs := g) (f := tupI true) (e := tupI false) (gw_seq (gd_var rfl)) (sl12 (by omega)) (fun x _ => gg_name (by decide)) (fun x hx => gd_tuple (l := true) (gd_var rfl))))) fun v H2 g s hi hd => ?_
          exact q v H2 g (fun a o hne ho => s _ _ (E.ex ([p], H) (by simp) a o (by simpa using hne) ho)) ((T.mono s).le (by omega)) hi hd
theorem ca__law_ground (T : Top K mg) : Ca P w K mg base 6 "_law_ground" (fun vs H Q E => ∃ (p : Addr) (N : Nat), vs = [.ref p] ∧ TinAt H p N ∧ N + 400 ≤ 1000000 ∧ ∀ v H' g, Sm p H H' → TinAt H' p (N + 400) → Is H' v (dHeap false g) → DrawnOk g → Q v H') := by
  have sc := sc__law_ground
  refine ca_ofR T.f__law_ground (fun _ _ _ _ _ _ us hl => match us, hl with | [_], _ => rfl) sc (fun vs H Q E h => by obtain ⟨_, _, e, _⟩ := h; rw [e]; rfl) fun f cdv A outer s H E hr => ⟨_, (pss_cons (ps_set (i := 1) sc.nd rfl (Or.inl rfl) (pe_ca (ca__law_take T) hr (by decide) (by rfl) (pa_cons (pv 0) (pa_cons pe_int pa_nil))))
    (pss_cons (ps_if (pt_cmpR op_eq (pv 1) pe_int (nomark _))
      (pss_one (ps_ret (pe_ca (ca__law_caves T) hr (by decide) (by rfl) (pa_cons (pv 0) pa_nil))))
      pss_nil)
    (pss_one (ps_ret (pe_ifExp (pt_cmpR op_lt (pv 1) pe_int (nomark _)) (pe_ca (ca__law_rooms T) hr (by decide) (by rfl) (pa_cons (pv 0) pa_nil)) (pe_ca (ca__law_pile T) hr (by decide) (by rfl) (pa_cons (pv 0) (pa_cons (pe_op op_add pe_int (pe_ca (ca__law_take T) hr (by decide) (by rfl) (pa_cons (pv 0) (pa_cons pe_int pa_nil)))) (pa_cons pe_int (pa_cons pe_int pa_nil)))))))))), ?_⟩
  rintro vs Q ⟨p, N, rfl, T0, hN, q⟩
  have E0 : En [p] [([p], H)] (L2.start N__law_ground [.ref p]) H [.raw (.ref p), .un] := enF (show matchF [some (V.ref p), none] _ from ⟨rfl, trivial⟩) (cf1.mu H N T0 trivial)
  have sm : ∀ {σ' H' ρ'}, En [p] [([p], H)] σ' H' ρ' → Sm p H H' := fun E' a o hne ho => E'.ex ([p], H) List.mem_cons_self a o (by simpa using hne) ho
  refine (?_ : FOk [p] [([p], H)] p (fun _ => True) _ [.raw (.ref p), .un] N { nx := fun _ H' => Q .non H', rt := Q }) _ H E0 T0 trivial
  refine fok_set (k := 1) (lo := 0) (hi := 7) cf1 rfl bsf1 (fx_le (k := 1) (fx_take (j := 0) (k := 0) cf1 rfl rfl (fx_gd (i := 8) gd_int (Int.le_refl _) (Int.le_refl _)) (by decide) (by decide)) (by decide) (by decide) (by decide)) (by omega) fun kd k0 k1 => ?_
  refine fok_seq (fok_if (k := 0) cf1 rfl bsf1 (ft_eq0 cf1 (fx_gd (i := kd) (gd_var rfl) (Int.le_refl _) (Int.le_refl _))) (by omega) ?_ (fok_next ?_))
  · exact fun σ H1 E1 T1 _ => ⟨_, E1.raw rfl, p, _, rfl, T1, by omega, fun v H' g s T' hi hd => q v H' g ((sm E1).trans s) (T'.le (by omega)) hi hd⟩
  · intro σ H1 E1 T1 _
    refine ft_cmp (k1 := 0) (k2 := 0) (g := fun i j => decide (i < j)) cf1 rfl (fx_gd (i := kd) (gd_var rfl) (Int.le_refl _) (Int.le_refl _)) (fx_gd (i := 7) gd_int (Int.le_refl _) (Int.le_refl _)) [([p], H)] σ H1 _ bsf1 E1 T1 trivial (by omega) _ fun b H2 s2 T2 => ?_
    have E2 := cf1.en rfl bsf1 E1 s2 T2 trivial
    cases b with
    | true => exact iteT ⟨_, E2.raw rfl, p, _, rfl, T2, by omega, fun v H' g s T' hi hd => q v H' g ((sm E2).trans s) (T'.le (by omega)) hi hd⟩
    | false =>
      refine iteF ⟨_, E2.raw rfl, fx_le (k := 1) (l1 := 5) (h1 := 6) (fx_add (k1 := 0) (k2 := 1) cf1 rfl (fx_gd (i := 5) gd_int (Int.le_refl _) (Int.le_refl _)) (fx_take (j := 0) (k := 0) cf1 rfl rfl (fx_gd (i := 2) gd_int (Int.le_refl _) (Int.le_refl _)) (by decide) (by decide))) (Nat.le_refl _) (by decide) (by decide) _ σ H2 _ bsf1 E2 T2 trivial (by omega) _ fun v H3 s3 T3 ⟨i, ei, i0, i1⟩ => ?_⟩
      have E3 := cf1.en rfl bsf1 E2 s3 T3 trivial
      exact ⟨p, _, i.toNat, by rw [ei, show ((i.toNat : Nat) : Int) = i by omega]; rfl, ⟨by omega, by omega⟩, T3, by omega, fun v H' g s T' hi hd => q v H' g ((sm E3).trans s) (T'.le (by omega)) hi hd⟩
end
end DL
set_option maxHeartbeats 1000000
/-! Plain: what is near a drawn heap is drawn well. -/
namespace DL
theorem held_more {g h : Grid} (hk : ∀ c, c ∈ kindC g false → c ∈ kindC h false) {c : Cell} (hc : HeldC g c) : HeldC h c :=
  Rch.mono hk (fun x hx => List.mem_filter.mpr ⟨hk x (List.mem_filter.mp hx).1, (List.mem_filter.mp hx).2⟩) hc
theorem near0_drawn {g : Grid} {hs : List (List Cell)} (D : DrawnOk g) (O : HlOk g hs) : (∀ c ∈ hs.flatten, inG g c = true) ∧ DrawnOk (putG g hs.flatten 2) := by
  have hF : ∀ c, c ∈ hs.flatten ↔ c ∈ airC g ∧ ¬ Opn g c := fun c => by
    rw [List.mem_flatten]
    constructor
    · rintro ⟨Q, hQ, hm⟩
      obtain ⟨s, hs1, hn, rfl⟩ := (O.mm Q).mp hQ
      have r := (mem_setC.mp hm).2
      exact ⟨r.inA fun x hx => single hx ▸ hs1, fun o => hn (o.rchR hs1 r)⟩
    · rintro ⟨h1, h2⟩
      exact ⟨_, (O.mm _).mpr ⟨c, h1, h2, rfl⟩, mem_setC.mpr ⟨air_in h1, .base (by simp)⟩⟩
  have hin : ∀ c ∈ hs.flatten, inG g c = true := fun c hc => air_in ((hF c).mp hc).1
  refine ⟨hin, putG_shp D.shp (by decide), fun c hc => ?_, ?_⟩
  · rw [putG_in D.shp] at hc
    rw [putG_at hc]
    split
    · exact Int.le_refl _
    · exact D.two c hc
  · have hkind : ∀ c, c ∈ kindC (putG g hs.flatten 2) false ↔ inG g c = true ∧ (c ∈ hs.flatten ∨ atG g c ≠ 0) := fun c => by
      rw [kind_false, putG_in D.shp]
      refine and_congr_right fun h => ?_
      rw [putG_at h]
      split
      · rename_i hm
        exact ⟨fun _ => .inl hm, fun _ => by decide⟩
      · rename_i hm
        exact ⟨fun h => .inr h, fun h => h.resolve_left hm⟩
    have old : ∀ c, c ∈ kindC g false → HeldC (putG g hs.flatten 2) c := fun c hc => held_more (fun x hx => (hkind x).mpr ⟨(kind_false.mp hx).1, .inr (kind_false.mp hx).2⟩) (D.held c hc)
    have hol : ∀ (n : Nat) (c : Cell), c.2 = n → c ∈ hs.flatten → HeldC (putG g hs.flatten 2) c := by
      intro n
      induction n with
      | zero =>
        intro c hn hc
        exact .base (List.mem_filter.mpr ⟨(hkind c).mpr ⟨hin c hc, .inl hc⟩, decide_eq_true hn⟩)
      | succ n ih =>
        intro c hn hc
        have hi := inG_iff.mp (hin c hc)
        have hd : inG g (c.1, c.2 - 1) = true := inG_iff.mpr (by show (0 ≤ c.1 ∧ c.1 < _) ∧ 0 ≤ c.2 - 1 ∧ c.2 - 1 < _; omega)
        have ha : c ∈ around (c.1, c.2 - 1) := by simp [around]
        have hk : c ∈ kindC (putG g hs.flatten 2) false := (hkind c).mpr ⟨hin c hc, .inl hc⟩
        by_cases z : atG g (c.1, c.2 - 1) = 0
        · have hda : (c.1, c.2 - 1) ∈ airC g := mem_airC.mpr ⟨hd, z⟩
          refine .step (ih (c.1, c.2 - 1) (by show c.2 - 1 = _; omega) ((hF _).mpr ⟨hda, fun o => ((hF c).mp hc).2 ?_⟩)) ha hk
          exact .step o ha ((hF c).mp hc).1
        · exact .step (old _ (kind_false.mpr ⟨hd, z⟩)) ha hk
    intro c hc
    obtain ⟨h1, h2⟩ := (hkind c).mp hc
    rcases h2 with h | h
    · have hi := inG_iff.mp h1
      exact hol c.2.toNat c (by omega) h
    · exact old c (kind_false.mpr ⟨h1, h⟩)
def mapG (g : Grid) : Grid := g.map (List.map fun x => if x = 1 then 2 else x)
theorem mapG_alike (g : Grid) : AlikeS (mapG g) g := by
  refine ⟨by unfold mapG; rw [List.length_map], ?_⟩
  unfold mapG
  cases g with
  | nil => rfl
  | cons c r => show (List.map _ c).length = c.length; rw [List.length_map]
theorem mapG_at {g : Grid} (S : Shp g) {c : Cell} (h : inG g c = true) : atG (mapG g) c = if atG g c = 1 then 2 else atG g c := by
  obtain ⟨col, e1, e2⟩ := atG_col h
  have e3 := atG_get S h e1
  have h1 : (mapG g)[c.1.toNat]? = some (col.map fun x => if x = 1 then 2 else x) := by unfold mapG; rw [List.getElem?_map, e1]; rfl
  conv => lhs; unfold atG
  rw [List.getD_eq_getElem?_getD, List.getD_eq_getElem?_getD, h1, Option.getD_some, List.getElem?_map, e3]
  rfl
theorem near1_drawn {g : Grid} (D : DrawnOk g) : DrawnOk (mapG g) := by
  have A := mapG_alike g
  have S := D.shp
  have hin : ∀ c, inG (mapG g) c = inG g c := alike_in A
  have hk : ∀ c, c ∈ kindC (mapG g) false ↔ c ∈ kindC g false := fun c => by
    rw [kind_false, kind_false, hin]
    refine and_congr_right fun h => ?_
    rw [mapG_at S h]
    split
    · rename_i e; rw [e]; decide
    · exact Iff.rfl
  refine ⟨⟨fun z => S.ne (by have := A.1; rw [z] at this; exact List.length_eq_zero_iff.mp this.symm), by rw [A.2]; exact S.hp, fun c hc => ?_, by rw [A.1]; exact S.wid, by rw [A.2]; exact S.hgt, by rw [A.1, A.2]; exact S.few, fun c hc x hx => ?_⟩, fun c hc => ?_, fun c hc => held_more (fun x hx => (hk x).mpr hx) (D.held c ((hk c).mp hc))⟩
  · obtain ⟨col, h1, rfl⟩ := List.mem_map.mp hc
    rw [A.2, List.length_map]
    exact S.col col h1
  · obtain ⟨col, h1, rfl⟩ := List.mem_map.mp hc
    obtain ⟨y, h2, rfl⟩ := List.mem_map.mp hx
    split
    · decide
    · exact S.nn col h1 y h2
  · rw [hin] at hc
    rw [mapG_at S hc]
    split
    · exact Int.le_refl _
    · exact D.two c hc
theorem near2_drawn {g : Grid} (D : DrawnOk g) (cs : List Cell) {v : Int} (h0 : 0 ≤ v) (h2 : v ≤ 2) : DrawnOk (washG (putG g cs v)) := by
  refine wash_drawn (putG_shp D.shp h0) fun c hc => ?_
  rw [putG_in D.shp] at hc
  rw [putG_at hc]
  split
  · exact h2
  · exact D.two c hc
theorem wash_alike {g : Grid} (S : Shp g) : AlikeS (washG g) g := putG_alike S
end DL
set_option maxHeartbeats 1000000
namespace DL
open PySem PySem.Spec PyProof.Rows L2
section
variable {ps : List Addr} {bs : List (List Addr × Hp)} {ρ : List Sl} {D : Ends} {te ta tb tc tl : TE} {φ ψ : Dt → Prop} {t u : TS} {tt : TT} {p : Addr} {N : Nat} {σ : L2.St} {H H' : Hp} {d : Dt} {n : Int} {X : XK}
/-- arguments, one of them known by a word alone -/
def GAE (t : TA) (ρ : List Sl) (Φ : List Dt → Prop) : Prop := ∀ ps bs σ H, En ps bs σ H ρ → ∀ Q : List V → Hp → Prop, (∀ vs H' ds, Same H H' → IsAll (out H' ps) vs ds → Φ ds → Q vs H') → t σ H Q
theorem gae_cons {t : TA} {Φ : List Dt → Prop} (ha : GE ta ρ φ) (hr : GAE t ρ Φ) : GAE (tCons ta t) ρ (fun ds => ∃ d r, ds = d :: r ∧ φ d ∧ Φ r) := fun ps bs σ H E Q q =>
  ha ps bs σ H E _ fun x H1 d s1 h1 k1 => hr ps bs σ H1 (E.mono s1) _ fun xs H2 r s2 h2 k2 => q (x :: xs) H2 (d :: r) (s1.trans s2) (.cons (h1.mono (out_mono s2)) h2) ⟨d, r, rfl, k1, k2⟩
theorem GA.gae {t : TA} {ds : List Dt} (h : GA t ρ ds) : GAE t ρ (fun r => r = ds) := fun ps bs σ H E Q q => h ps bs σ H E Q fun vs H' s i => q vs H' ds s i rfl
theorem ge_callE {ι : Type} {arg : ι → List Dt} {pre : ι → Prop} {post : ι → Dt → Prop} {X : XK} {t : TA} {Φ : List Dt → Prop} (h : GAE t ρ Φ) (hd : ∀ ds, Φ ds → ∃ i, arg i = ds ∧ pre i ∧ ∀ e, post i e → ψ e) : GE (tCall (spI arg pre post) [] X t) ρ ψ := fun ps bs σ H E Q q =>
  h ps bs σ H E _ fun vs H1 ds s1 h1 hΦ => by
    obtain ⟨i, e1, e2, e3⟩ := hd ds hΦ
    exact ⟨i, ps, (E.mono s1).al, by rw [List.append_nil, e1]; exact h1, e2, fun v' H2 d' s2 h2 p => q v' H2 d' (s1.trans s2) h2 (e3 d' p)⟩
theorem En.sm (E : En [p] bs σ H ρ) (hno : noOw ρ = true) (hb : BsF [p] bs) (s : Sm p H H') (hm : Mu (H' p)) : En [p] bs σ H' ρ :=
  E.but (fun e he => hb e he p (List.mem_singleton.mpr rfl)) hno (fun a o hne ha => s a o hne ha) hm
def NOk (bs : List (List Addr × Hp)) (p : Addr) (t : TS) (ρ : List Sl) (N : Nat) (D : Ends) : Prop := ∀ σ H, En [p] bs σ H ρ → TinAt H p N → t D σ H
theorem nok_take {j : Nat} (hno : noOw ρ = true) (hb : BsF [p] bs) (h0 : ρ[0]? = some (.raw (.ref p))) (hn : GD tb ρ (.int n)) (n1 : 1 ≤ n) (n2 : n ≤ 1000) (hN : N + 1 ≤ 1000000) (q : ∀ i, 0 ≤ i → i < n → NOk bs p u (ρ.set j (.im (.int i))) (N + 1) D) :
    NOk bs p (tSeq (tAsg (tCall spTake [] X (tCons (tVar 0) (tCons tb tNil))) (gName j)) u) ρ N D := fun σ H E T =>
  ⟨_, E.raw h0, hn [p] bs σ H E _ fun v H1 s1 h1 => ⟨p, n, N, by rw [is_int h1]; rfl, T.mono s1, hN, n1, n2, fun i H' i0 i1 s T' => q i i0 i1 _ H' (((E.mono s1).sm hno hb s T'.mu).setIm (.int i)) T'⟩⟩
theorem nok_of {j : Nat} {ds : List Dt} (hno : noOw ρ = true) (hb : BsF [p] bs) (h0 : ρ[0]? = some (.raw (.ref p))) (hl : GD tl ρ (.seq true ds)) (n1 : 1 ≤ ds.length) (n2 : ds.length ≤ 1000) (hN : N + 1 ≤ 1000000) (q : ∀ d ∈ ds, NOk bs p u (ρ.set j (.im d)) (N + 1) D) :
    NOk bs p (tSeq (tAsg (tCall spOf [] X (tCons (tVar 0) (tCons tl tNil))) (gName j)) u) ρ N D := fun σ H E T =>
  ⟨_, E.raw h0, hl [p] bs σ H E _ fun v H1 s1 h1 => by
    obtain ⟨g, ys, rfl, e1, e2⟩ := is_lst h1
    refine ⟨p, g, ys, N, rfl, T.mono s1, hN, fun z => (out_some e1).2 (z ▸ List.mem_singleton.mpr rfl), (out_some e1).1, by rw [e2.length]; exact n1, by rw [e2.length]; exact n2, fun v H' hv s T' => ?_⟩
    obtain ⟨k, hk, ek⟩ := List.getElem_of_mem hv
    obtain ⟨d, hd, hi⟩ := e2.getV (show ys[k]? = some v by rw [← ek]; exact List.getElem?_eq_getElem hk)
    refine q d (List.mem_of_getElem? hd) _ H' (((E.mono s1).sm hno hb s T'.mu).setIm (hi.mono fun a o h => ?_)) T'
    obtain ⟨k1, k2⟩ := out_some h
    exact out_of (s a o (fun z => k2 (z ▸ List.mem_singleton.mpr rfl)) k1) k2⟩
theorem nok_if {b : Bool} (h : GT tt ρ b) (ha : b = true → NOk bs p t ρ N D) (hc : b = false → NOk bs p u ρ N D) : NOk bs p (tIfS tt t u) ρ N D := fun σ H E T =>
  h [p] bs σ H E _ fun H1 s1 => by
    cases b with
    | true => exact iteT (ha rfl σ H1 (E.mono s1) (T.mono s1))
    | false => exact iteF (hc rfl σ H1 (E.mono s1) (T.mono s1))
theorem nok_seq (h : NOk bs p t ρ N { D with nx := fun σ H => u D σ H }) : NOk bs p (tSeq t u) ρ N D := h
theorem nok_next (h : NOk bs p u ρ N D) : NOk bs p tNext ρ N { D with nx := fun σ H => u D σ H } := h
/-- a return that draws no more -/
theorem nok_ret (h : GE te ρ φ) (q : ∀ v σ H d, En [p] bs σ H ρ → TinAt H p N → Is (out H [p]) v d → φ d → D.rt v H) : NOk bs p (tRet te) ρ N D := fun σ H E T =>
  h [p] bs σ H E _ fun v H1 d s1 h1 hd => q v σ H1 d (E.mono s1) (T.mono s1) h1 hd
end
/-- an environment at a def's start: raw things and data -/
def matchG (H : Hp) (ps : List Addr) : List (Option V) → List Sl → Prop
  | [], [] => True
  | o :: σ, .un :: ρ => matchG H ps σ ρ
  | o :: σ, .raw v :: ρ => o = some v ∧ matchG H ps σ ρ
  | o :: σ, .im d :: ρ => (∃ v, o = some v ∧ Is (out H ps) v d) ∧ matchG H ps σ ρ
  | _, _ => False
theorem matchG_sl {H : Hp} {ps : List Addr} : ∀ {σ : List (Option V)} {ρ : List Sl}, matchG H ps σ ρ → σ.length = ρ.length ∧ noOw ρ = true ∧ ∀ (i : Nat) (s : Sl), ρ[i]? = some s → ∃ o, σ[i]? = some o ∧ SlOk H ps o s
  | [], [], _ => ⟨rfl, rfl, fun i s h => by simp at h⟩
  | o :: σ, .un :: ρ, m => by
    obtain ⟨h1, h2, h3⟩ := matchG_sl (σ := σ) (ρ := ρ) m
    refine ⟨by simp [h1], h2, fun i s h => ?_⟩
    cases i with
    | zero => simp at h; subst h; exact ⟨o, rfl, trivial⟩
    | succ i => exact h3 i s (by simpa using h)
  | o :: σ, .raw v :: ρ, m => by
    obtain ⟨h1, h2, h3⟩ := matchG_sl (σ := σ) (ρ := ρ) m.2
    refine ⟨by simp [h1], h2, fun i s h => ?_⟩
    cases i with
    | zero => simp at h; subst h; exact ⟨o, rfl, m.1⟩
    | succ i => exact h3 i s (by simpa using h)
  | o :: σ, .im d :: ρ, m => by
    obtain ⟨h1, h2, h3⟩ := matchG_sl (σ := σ) (ρ := ρ) m.2
    refine ⟨by simp [h1], h2, fun i s h => ?_⟩
    cases i with
    | zero => simp at h; subst h; exact ⟨o, rfl, m.1⟩
    | succ i => exact h3 i s (by simpa using h)
theorem enG {own : List Addr} {H : Hp} {σ : List (Option V)} {ρ : List Sl} (m : matchG H own σ ρ) (al : ∀ q ∈ own, Mu (H q)) : En own [(own, H)] σ H ρ where
  al := al
  ex := fun e he a o _ h0 => by
    have z : e = (own, H) := by simpa using he
    subst z
    exact h0
  len := (matchG_sl m).1
  sl := (matchG_sl m).2.2
  ne := fun i j p d q e h1 _ _ => (noOw_get (matchG_sl m).2.1 h1).elim
  mine := fun i p d h1 => (noOw_get (matchG_sl m).2.1 h1).elim
def spNearL : Sp := fun vs H Q E => ∃ (p : Addr) (N : Nat) (v : V) (g : Grid), vs = [.ref p, v] ∧ TinAt H p N ∧ N + 10 ≤ 1000000 ∧ Is (out H [p]) v (dHeap false g) ∧ DrawnOk g ∧ ∀ v' H' g', Sm p H H' → TinAt H' p (N + 10) → Is (out H' [p]) v' (dHeap false g') → DrawnOk g' → AlikeS g' g → Q v' H'
section
variable {P : Program} {w : World} {K : PySem.W.Frag} {mg : Str → Option Value} {base : Heap}
theorem ca__law_near (T : Top K mg) : Ca P w K mg base 6 "_law_near" spNearL := by
  have sc := sc__law_near
  refine ca_ofR T.f__law_near (fun _ _ _ _ _ _ us hl => match us, hl with | [_, _], _ => rfl) sc (fun vs H Q E h => by obtain ⟨_, _, _, _, e, _⟩ := h; rw [e]; rfl) fun f cdv A outer s H E hr => ⟨_, (pss_cons (ps_set (i := 2) sc.nd rfl (Or.inl rfl) (pe_ca (ca__law_take T) hr (by decide) (by rfl) (pa_cons (pv 0) (pa_cons pe_int pa_nil))))
    (pss_cons (ps_if (pt_cmpR op_eq (pv 2) pe_int (nomark _))
      (pss_one (ps_ret (pe_ca (ca__law_put T) hr (by decide) (by rfl) (pa_cons (pv 1) (pa_cons (pe_ca (ca__law_all_of T) hr (by decide) (by rfl) (pa_cons (pe_ca (ca__law_hollows T) hr (by decide) (by rfl) (pa_cons (pv 1) pa_nil)) pa_nil)) (pa_cons pe_int pa_nil))))))
      pss_nil)
    (pss_cons (ps_if (pt_cmpR op_eq (pv 2) pe_int (nomark _))
      (pss_one (ps_ret (pe_callTy (call_tupK (K := K) rfl) (by rfl) T.b_tuple (by decide +kernel) (pa_cons (pe_lc (own := [("_law_own", 4)]) rfl sc.nd (pi_seqK (K := K) rfl (pv 1)) (blkOk_by (own := [("_law_own", 4)]) (N := N__law_near) (sc := (defScope s__law_near)) (by decide +kernel)) (fun _ _ _ _ _ => (pg_name (i := 4) sc.nd rfl (Or.inl rfl))) (fun _ _ _ _ _ => pts_nil) (fun _ _ _ _ _ => (pe_callTy (call_tupK (K := K) rfl) (by rfl) T.b_tuple (by decide +kernel) (pa_cons (pe_lc (own := [("_law_bit", 5)]) rfl sc.nd (pi_seqK (K := K) rfl (pv 4)) (blkOk_by (own := [("_law_bit", 5)]) (N := N__law_near) (sc := { kind := .function, names := [(".0", .local), ("_law_own", .local), ("tuple", .globalImplicit)], isGenerator := false, isCoroutine := false }) (by decide +kernel)) (fun _ _ _ _ _ => (pg_name (i := 5) sc.nd rfl (Or.inl rfl))) (fun _ _ _ _ _ => pts_nil) (fun _ _ _ _ _ => (pe_ifExp (pt_cmpR (op_eqDK (K := K) rfl hr.units) (pv 5) pe_int (nomark _)) pe_int (pv 5)))) pa_nil)))) pa_nil))))
      pss_nil)
    (pss_cons (ps_set (i := 3) sc.nd rfl (Or.inr rfl) (pe_ca (ca__law_of T) hr (by decide) (by rfl) (pa_cons (pv 0) (pa_cons (pe_ca (ca__law_all_spots T) hr (by decide) (by rfl) (pa_cons (pv 1) pa_nil)) pa_nil))))
    (pss_cons (ps_if (pt_cmpR op_lt (pv 2) pe_int (nomark _))
      (pss_one (ps_ret (pe_ca (ca__law_washed T) hr (by decide) (by rfl) (pa_cons (pe_ca (ca__law_put T) hr (by decide) (by rfl) (pa_cons (pv 1) (pa_cons (pe_lst (pa_cons (pv 3) pa_nil)) (pa_cons (pe_ifExp (pt_cmpR op_eq (pv 2) pe_int (nomark _)) pe_int pe_int) pa_nil)))) pa_nil))))
      pss_nil)
    (pss_one (ps_ret (pe_ca (ca__law_washed T) hr (by decide) (by rfl) (pa_cons (pe_ca (ca__law_put T) hr (by decide) (by rfl) (pa_cons (pv 1) (pa_cons (pe_lc (own := [("_law_own", 4)]) rfl sc.nd (pi_seqK (K := K) rfl (pe_ca (ca__law_all_spots T) hr (by decide) (by rfl) (pa_cons (pv 1) pa_nil))) (blkOk_by (own := [("_law_own", 4)]) (N := N__law_near) (sc := (defScope s__law_near)) (by decide +kernel)) (fun _ _ _ _ _ => (pg_name (i := 4) sc.nd rfl (Or.inl rfl))) (fun _ _ _ _ _ => pts_one (pt_cmpR (op_eqDK (K := K) rfl hr.units) (pe_ix (ix_seqK (K := K) rfl) (pv 4) pe_int (fun _ _ => rfl)) (pe_ix (ix_seqK (K := K) rfl) (pv 3) pe_int (fun _ _ => rfl)) (nomark _))) (fun _ _ _ _ _ => (pv 4))) (pa_cons pe_int pa_nil)))) pa_nil))))))))), ?_⟩
  rintro vs Q ⟨p, N, v, g, rfl, T0, hN, hv, hd, q⟩
  have S := hd.shp
  have hal := shp_len S
  have E0 : En [p] [([p], H)] (L2.start N__law_near [.ref p, v]) H [.raw (.ref p), .im (dHeap false g), .un, .un, .un, .un] := enG (show matchG H [p] [some (V.ref p), some v, none, none, none, none] _ from ⟨rfl, ⟨v, rfl, hv⟩, trivial⟩) (cf1.mu H N T0 trivial)
  have fin : ∀ {σ' H' ρ' v' g' M}, En [p] [([p], H)] σ' H' ρ' → TinAt H' p M → M ≤ N + 10 → Is (out H' [p]) v' (dHeap false g') → DrawnOk g' → AlikeS g' g → Q v' H' := fun E' T' hM i d a => q _ _ _ (fun x o hne ho => E'.ex ([p], H) List.mem_cons_self x o (by simpa using hne) ho) (T'.le hM) i d a
  refine (?_ : NOk [([p], H)] p _ [.raw (.ref p), .im (dHeap false g), .un, .un, .un, .un] N { nx := fun _ H' => Q .non H', rt := Q }) _ H E0 T0
  refine nok_take rfl bsf1 rfl gd_int (by decide) (by decide) (by omega) fun kd k0 k1 => ?_
  refine nok_seq (nok_if (gt_test (gd_eqI (gd_var rfl) gd_int)) (fun _ => ?_) (fun _ => nok_next ?_))
  · refine nok_ret (φ := fun d => ∃ g', d = dHeap false g' ∧ DrawnOk g' ∧ AlikeS g' g) (ge_callE (gae_cons ((gd_var rfl).ge (φ := fun d => d = dHeap false g) rfl) (gae_cons (φ := fun d => ∃ hs, HlOk g hs ∧ d = dCells true hs.flatten) (ge_call1 (ge_call (i := (false, g)) (ga_cons (gd_var rfl) ga_nil) S) ?_) (GA.gae (ga_cons gd_int ga_nil)))) ?_) ?_
    · rintro _ ⟨hs, rfl, O⟩
      refine ⟨hs, rfl, ⟨O.l, fun h hh => ?_⟩, fun e he => ⟨hs, O, he⟩⟩
      obtain ⟨s, _, _, rfl⟩ := (O.mm h).mp hh
      exact Nat.le_of_lt (setC_len S)
    · rintro _ ⟨_, _, rfl, rfl, _, _, rfl, ⟨hs, O, rfl⟩, rfl⟩
      obtain ⟨h1, h2⟩ := near0_drawn hd O
      exact ⟨(false, g, hs.flatten, 2), rfl, ⟨S, h1⟩, fun e he => ⟨_, he, h2, putG_alike S⟩⟩
    · rintro v' σ' H' _ E' T' i ⟨g', rfl, h1, h2⟩
      exact fin E' T' (by omega) i h1 h2
  refine nok_seq (nok_if (gt_test (gd_eqI (gd_var rfl) gd_int)) (fun _ => ?_) (fun _ => nok_next ?_))
  · refine nok_ret (φ := fun d => d = dHeap false (mapG g)) (GD.ge (GD.cast (gd_tuple (l := true) (GN.gd (gn_lcY (xs := g) (f := tupI false) (e := fun c => tupI false (c.map fun x => if x = 1 then 2 else x)) (gw_seq (gd_var rfl)) (sl12 (Nat.le_trans S.wid (by decide))) (fun x _ => gg_name (by decide))
      (fun x hx => GD.cast (gd_tuple (l := true) (GN.gd (gn_lcY (xs := x) (f := Dt.int) (e := fun y => Dt.int (if y = 1 then 2 else y)) (gw_seq (l := false) (gd_var rfl)) (sl12 (by rw [S.col x hx]; exact Nat.le_trans S.hgt (by decide))) (fun y _ => gg_name (by decide))
        (fun y _ => GD.cast (gd_ifE (gt_test (GD.cast (gd_eqD (d := .int y) (gd_var rfl) gd_int (plain_int _) (plain_int _)) (congrArg Dt.bl (eqv_int _ _)))) (fun _ => gd_int) (fun _ => gd_var rfl)) (by simp only [decide_eq_true_eq]; split <;> rfl))))) (by unfold tupI; rw [List.map_map]; rfl))))) (by unfold dHeap mapG; rw [List.map_map]; rfl)) rfl) ?_
    rintro v' σ' H' _ E' T' i rfl
    exact fin E' T' (by omega) i (near1_drawn hd) (mapG_alike g)
  refine nok_of (ds := (allC g).map dCell) rfl bsf1 rfl (gd_call (i := (false, g)) (ga_cons (gd_var rfl) ga_nil) S) ?_ (by rw [List.length_map]; omega) (by omega) ?_
  · rw [List.length_map, allC_len]
    have := List.length_pos_iff.mpr S.ne
    exact Nat.mul_pos this S.hp
  · intro d hd'
    obtain ⟨c, hc, rfl⟩ := List.mem_map.mp hd'
    have hcg := mem_allC.mp hc
    refine nok_seq (nok_if (gt_test (gd_lt (gd_var rfl) gd_int)) (fun _ => ?_) (fun _ => nok_next ?_))
    · refine nok_ret (φ := fun d => ∃ g', d = dHeap false g' ∧ DrawnOk g' ∧ AlikeS g' g) (GD.ge (d := dHeap false (washG (putG g [c] (if decide (kd = 2) = true then 0 else 1)))) (gd_call (i := (false, putG g [c] (if decide (kd = 2) = true then 0 else 1))) (ga_cons (gd_call (i := (false, g, [c], if decide (kd = 2) = true then 0 else 1)) (ga_cons (gd_var rfl) (ga_cons (GN.gd (gn_lst (ga_cons (gd_var rfl) ga_nil) fw)) (ga_cons (GD.cast (gd_ifE (gt_test (gd_eqI (gd_var rfl) gd_int)) (fun _ => gd_int) (fun _ => gd_int)) (by split <;> rfl)) ga_nil))) ⟨S, fun x hx => by rw [single hx]; exact hcg⟩) ga_nil) (putG_shp S (by split <;> decide)))
        ⟨_, rfl, near2_drawn hd [c] (by split <;> decide) (by split <;> decide), ?_⟩) ?_
      · have a1 := wash_alike (putG_shp S (cs := [c]) (v := if decide (kd = 2) = true then 0 else 1) (by split <;> decide))
        have a2 := putG_alike S (cs := [c]) (v := if decide (kd = 2) = true then 0 else 1)
        exact ⟨a1.1.trans a2.1, a1.2.trans a2.2⟩
      · rintro v' σ' H' _ E' T' i ⟨g', rfl, h1, h2⟩
        exact fin E' T' (by omega) i h1 h2
    · refine nok_ret (φ := fun d => ∃ g', d = dHeap false g' ∧ DrawnOk g' ∧ AlikeS g' g) (GD.ge (d := dHeap false (washG (putG g ((allC g).filter fun x => decide (x.1 = c.1)) 0))) (gd_call (i := (false, putG g ((allC g).filter fun x => decide (x.1 = c.1)) 0)) (ga_cons (gd_call (i := (false, g, (allC g).filter fun x => decide (x.1 = c.1), 0)) (ga_cons (gd_var rfl) (ga_cons (GN.gd (gn_lc (xs := allC g) (f := dCell) (b := fun x => decide (x.1 = c.1)) (e := dCell) (gw_seq (l := true) (gd_call (i := (false, g)) (ga_cons (gd_var rfl) ga_nil) S)) (sl12 (by omega)) (fun x _ => gg_name (by decide))
        (fun x _ => gt_test (GD.cast (gd_eqD (d := .int x.1) (e := .int c.1) (gd_ix (l := false) (ds := [.int x.1, .int x.2]) (gd_var rfl) gd_int rfl) (gd_ix (l := false) (ds := [.int c.1, .int c.2]) (gd_var rfl) gd_int rfl) (plain_int _) (plain_int _)) (congrArg Dt.bl (eqv_int _ _)))) (fun x _ _ => gd_var rfl))) (ga_cons gd_int ga_nil))) ⟨S, fun x hx => mem_allC.mp (List.mem_filter.mp hx).1⟩) ga_nil) (putG_shp S (by decide)))
        ⟨_, rfl, near2_drawn hd _ (by decide) (by decide), ?_⟩) ?_
      · have a1 := wash_alike (putG_shp S (cs := (allC g).filter fun x => decide (x.1 = c.1)) (v := 0) (by decide))
        have a2 := putG_alike S (cs := (allC g).filter fun x => decide (x.1 = c.1)) (v := 0)
        exact ⟨a1.1.trans a2.1, a1.2.trans a2.2⟩
      · rintro v' σ' H' _ E' T' i ⟨g', rfl, h1, h2⟩
        exact fin E' T' (by omega) i h1 h2
end
end DL
set_option maxHeartbeats 1000000
namespace DL
open PySem PySem.Spec PyProof.Rows L2
def g_vault : Grid := [[1, 1, 1, 0, 0, 0], [0, 0, 1, 0, 0, 0], [0, 0, 0, 0, 0, 0], [0, 0, 1, 0, 0, 0], [1, 1, 1, 0, 0, 0]]
def g_shed : Grid := [[1, 1, 2, 0], [0, 0, 2, 0], [0, 0, 2, 0], [0, 0, 0, 0]]
def g_lean : Grid := [[1, 1], [0, 1], [0, 0]]
def g_shut : Grid := [[1, 1], [0, 1], [1, 1]]
section
variable {P : Program} {w : World} {K : PySem.W.Frag} {mg : Str → Option Value} {base : Heap}
theorem ca__law_vault (T : Top K mg) : Ca P w K mg base 1 "_law_vault" (spI (ι := Unit) (fun _ => []) (fun _ => True) (fun _ d => d = dHeap false g_vault)) := by
  have sc := sc__law_vault
  refine ca_of T.f__law_vault (fun _ _ _ _ _ _ us hl => match us, hl with | [], _ => rfl) sc (fun _ => rfl) fun f cdv A outer s H E hr => ⟨_, (pss_one (ps_ret (pe_tup (pa_cons (pe_tup (pa_cons pe_int (pa_cons pe_int (pa_cons pe_int (pa_cons pe_int (pa_cons pe_int (pa_cons pe_int pa_nil))))))) (pa_cons (pe_tup (pa_cons pe_int (pa_cons pe_int (pa_cons pe_int (pa_cons pe_int (pa_cons pe_int (pa_cons pe_int pa_nil))))))) (pa_cons (pe_tup (pa_cons pe_int (pa_cons pe_int (pa_cons pe_int (pa_cons pe_int (pa_cons pe_int (pa_cons pe_int pa_nil))))))) (pa_cons (pe_tup (pa_cons pe_int (pa_cons pe_int (pa_cons pe_int (pa_cons pe_int (pa_cons pe_int (pa_cons pe_int pa_nil))))))) (pa_cons (pe_tup (pa_cons pe_int (pa_cons pe_int (pa_cons pe_int (pa_cons pe_int (pa_cons pe_int (pa_cons pe_int pa_nil))))))) pa_nil)))))))), ?_⟩
  rintro qs _ D - hR
  exact ok_rtD (gd_tup (ga_cons (gd_tup (ga_cons gd_int (ga_cons gd_int (ga_cons gd_int (ga_cons gd_int (ga_cons gd_int (ga_cons gd_int ga_nil)))))) fw) (ga_cons (gd_tup (ga_cons gd_int (ga_cons gd_int (ga_cons gd_int (ga_cons gd_int (ga_cons gd_int (ga_cons gd_int ga_nil)))))) fw) (ga_cons (gd_tup (ga_cons gd_int (ga_cons gd_int (ga_cons gd_int (ga_cons gd_int (ga_cons gd_int (ga_cons gd_int ga_nil)))))) fw) (ga_cons (gd_tup (ga_cons gd_int (ga_cons gd_int (ga_cons gd_int (ga_cons gd_int (ga_cons gd_int (ga_cons gd_int ga_nil)))))) fw) (ga_cons (gd_tup (ga_cons gd_int (ga_cons gd_int (ga_cons gd_int (ga_cons gd_int (ga_cons gd_int (ga_cons gd_int ga_nil)))))) fw) ga_nil))))) fw) hR rfl
theorem ca__law_shed (T : Top K mg) : Ca P w K mg base 1 "_law_shed" (spI (ι := Unit) (fun _ => []) (fun _ => True) (fun _ d => d = dHeap false g_shed)) := by
  have sc := sc__law_shed
  refine ca_of T.f__law_shed (fun _ _ _ _ _ _ us hl => match us, hl with | [], _ => rfl) sc (fun _ => rfl) fun f cdv A outer s H E hr => ⟨_, (pss_one (ps_ret (pe_tup (pa_cons (pe_tup (pa_cons pe_int (pa_cons pe_int (pa_cons pe_int (pa_cons pe_int pa_nil))))) (pa_cons (pe_tup (pa_cons pe_int (pa_cons pe_int (pa_cons pe_int (pa_cons pe_int pa_nil))))) (pa_cons (pe_tup (pa_cons pe_int (pa_cons pe_int (pa_cons pe_int (pa_cons pe_int pa_nil))))) (pa_cons (pe_tup (pa_cons pe_int (pa_cons pe_int (pa_cons pe_int (pa_cons pe_int pa_nil))))) pa_nil))))))), ?_⟩
  rintro qs _ D - hR
  exact ok_rtD (gd_tup (ga_cons (gd_tup (ga_cons gd_int (ga_cons gd_int (ga_cons gd_int (ga_cons gd_int ga_nil)))) fw) (ga_cons (gd_tup (ga_cons gd_int (ga_cons gd_int (ga_cons gd_int (ga_cons gd_int ga_nil)))) fw) (ga_cons (gd_tup (ga_cons gd_int (ga_cons gd_int (ga_cons gd_int (ga_cons gd_int ga_nil)))) fw) (ga_cons (gd_tup (ga_cons gd_int (ga_cons gd_int (ga_cons gd_int (ga_cons gd_int ga_nil)))) fw) ga_nil)))) fw) hR rfl
theorem ca__law_lean (T : Top K mg) : Ca P w K mg base 1 "_law_lean" (spI (ι := Unit) (fun _ => []) (fun _ => True) (fun _ d => d = dHeap false g_lean)) := by
  have sc := sc__law_lean
  refine ca_of T.f__law_lean (fun _ _ _ _ _ _ us hl => match us, hl with | [], _ => rfl) sc (fun _ => rfl) fun f cdv A outer s H E hr => ⟨_, (pss_one (ps_ret (pe_tup (pa_cons (pe_tup (pa_cons pe_int (pa_cons pe_int pa_nil))) (pa_cons (pe_tup (pa_cons pe_int (pa_cons pe_int pa_nil))) (pa_cons (pe_tup (pa_cons pe_int (pa_cons pe_int pa_nil))) pa_nil)))))), ?_⟩
  rintro qs _ D - hR
  exact ok_rtD (gd_tup (ga_cons (gd_tup (ga_cons gd_int (ga_cons gd_int ga_nil)) fw) (ga_cons (gd_tup (ga_cons gd_int (ga_cons gd_int ga_nil)) fw) (ga_cons (gd_tup (ga_cons gd_int (ga_cons gd_int ga_nil)) fw) ga_nil))) fw) hR rfl
theorem ca__law_shut (T : Top K mg) : Ca P w K mg base 1 "_law_shut" (spI (ι := Unit) (fun _ => []) (fun _ => True) (fun _ d => d = dHeap false g_shut)) := by
  have sc := sc__law_shut
  refine ca_of T.f__law_shut (fun _ _ _ _ _ _ us hl => match us, hl with | [], _ => rfl) sc (fun _ => rfl) fun f cdv A outer s H E hr => ⟨_, (pss_one (ps_ret (pe_tup (pa_cons (pe_tup (pa_cons pe_int (pa_cons pe_int pa_nil))) (pa_cons (pe_tup (pa_cons pe_int (pa_cons pe_int pa_nil))) (pa_cons (pe_tup (pa_cons pe_int (pa_cons pe_int pa_nil))) pa_nil)))))), ?_⟩
  rintro qs _ D - hR
  exact ok_rtD (gd_tup (ga_cons (gd_tup (ga_cons gd_int (ga_cons gd_int ga_nil)) fw) (ga_cons (gd_tup (ga_cons gd_int (ga_cons gd_int ga_nil)) fw) (ga_cons (gd_tup (ga_cons gd_int (ga_cons gd_int ga_nil)) fw) ga_nil))) fw) hR rfl

theorem ca_ls0 (T : Top K mg) : Ca P w K mg base 1 "_law_lists" (spI (ι := Int) (fun i => [.int i]) (fun _ => True) (fun i d => d = .int i)) := by
  have sc := sc__law_lists
  refine ca_of T.f__law_lists (fun _ _ _ _ _ _ us hl => match us, hl with | [_], _ => rfl) sc (fun _ => rfl) fun f cdv A outer s H E hr => ⟨_, (pss_one (ps_ret (pe_ifExp (pt_val (pe_callB (call_isiTK (K := K) rfl) (by rfl) T.b_isinstance (by decide +kernel) (pa_cons (pv 0) (pa_cons (pe_tup (pa_cons (pe_bltn (v := .ty "list") (u := .type "list") (by rfl) T.b_list (by decide +kernel) rfl) (pa_cons (pe_bltn (v := .ty "tuple") (u := .type "tuple") (by rfl) T.b_tuple (by decide +kernel) rfl) pa_nil))) pa_nil)))) pe_nev (pv 0)))), ?_⟩
  rintro qs i D - hR
  refine ok_rt ?_ hR
  exact ge_ifE (gt_B (gd_isi2 (gd_var rfl) rfl (kany_no kb_int_list kb_int_tuple))) (fun z => by cases z) fun _ => (gd_var rfl).ge rfl
theorem ca_ls1 (T : Top K mg) : Ca P w K mg base 2 "_law_lists" (spI (ι := Bool × List Int) (fun i => [tupI i.1 i.2]) (fun i => i.2.length ≤ 1000) (fun i d => d = tupI true i.2)) := by
  have sc := sc__law_lists
  refine ca_of T.f__law_lists (fun _ _ _ _ _ _ us hl => match us, hl with | [_], _ => rfl) sc (fun _ => rfl) fun f cdv A outer s H E hr => ⟨_, (pss_one (ps_ret (pe_ifExp (pt_val (pe_callB (call_isiTK (K := K) rfl) (by rfl) T.b_isinstance (by decide +kernel) (pa_cons (pv 0) (pa_cons (pe_tup (pa_cons (pe_bltn (v := .ty "list") (u := .type "list") (by rfl) T.b_list (by decide +kernel) rfl) (pa_cons (pe_bltn (v := .ty "tuple") (u := .type "tuple") (by rfl) T.b_tuple (by decide +kernel) rfl) pa_nil))) pa_nil)))) (pe_lc (own := [("_law_bit", 1)]) rfl sc.nd (pi_seqK (K := K) rfl (pv 0)) (blkOk_by (own := [("_law_bit", 1)]) (N := N__law_lists) (sc := (defScope s__law_lists)) (by decide +kernel)) (fun _ _ _ _ _ => (pg_name (i := 1) sc.nd rfl (Or.inl rfl))) (fun _ _ _ _ _ => pts_nil) (fun _ _ _ _ _ => (pe_ca (ca_ls0 T) hr (by decide) (by rfl) (pa_cons (pv 1) pa_nil)))) (pv 0)))), ?_⟩
  rintro qs ⟨l, ns⟩ D hp hR
  refine ok_rt ?_ hR
  exact ge_ifE (gt_B (gd_isi2 (gd_var rfl) (tupI_noD l ns) (kany_seq l _)))
    (fun _ => (GN.gd (gn_lcY (xs := ns) (f := Dt.int) (e := Dt.int) (gw_seq (gd_var rfl)) (sl12 hp) (fun x _ => gg_name (by decide)) (fun x _ => gd_call (i := x) (ga_cons (gd_var rfl) ga_nil) trivial))).ge rfl) fun z => by cases z
theorem ca_ls2 (T : Top K mg) : Ca P w K mg base 3 "_law_lists" (spI (ι := Bool × Grid) (fun i => [dHeap i.1 i.2]) (fun i => Shp i.2) (fun i d => d = dHeap true i.2)) := by
  have sc := sc__law_lists
  refine ca_of T.f__law_lists (fun _ _ _ _ _ _ us hl => match us, hl with | [_], _ => rfl) sc (fun _ => rfl) fun f cdv A outer s H E hr => ⟨_, (pss_one (ps_ret (pe_ifExp (pt_val (pe_callB (call_isiTK (K := K) rfl) (by rfl) T.b_isinstance (by decide +kernel) (pa_cons (pv 0) (pa_cons (pe_tup (pa_cons (pe_bltn (v := .ty "list") (u := .type "list") (by rfl) T.b_list (by decide +kernel) rfl) (pa_cons (pe_bltn (v := .ty "tuple") (u := .type "tuple") (by rfl) T.b_tuple (by decide +kernel) rfl) pa_nil))) pa_nil)))) (pe_lc (own := [("_law_bit", 1)]) rfl sc.nd (pi_seqK (K := K) rfl (pv 0)) (blkOk_by (own := [("_law_bit", 1)]) (N := N__law_lists) (sc := (defScope s__law_lists)) (by decide +kernel)) (fun _ _ _ _ _ => (pg_name (i := 1) sc.nd rfl (Or.inl rfl))) (fun _ _ _ _ _ => pts_nil) (fun _ _ _ _ _ => (pe_ca (ca_ls1 T) hr (by decide) (by rfl) (pa_cons (pv 1) pa_nil)))) (pv 0)))), ?_⟩
  rintro qs ⟨l, g⟩ D hp hR
  refine ok_rt ?_ hR
  exact ge_ifE (gt_B (gd_isi2 (gd_var rfl) (by show noD (dHeap l g) = true; unfold dHeap; rw [noD]; exact heap_noD g l) (kany_seq l _)))
    (fun _ => (GN.gd (gn_lcY (xs := g) (f := tupI l) (e := tupI true) (gw_seq (gd_var rfl)) (sl12 (Nat.le_trans hp.wid (by decide))) (fun x _ => gg_name (by decide))
      (fun x hx => gd_call (i := (l, x)) (ga_cons (gd_var rfl) ga_nil) (by show x.length ≤ 1000; rw [hp.col x hx]; exact Nat.le_trans hp.hgt (by decide))))).ge rfl) fun z => by cases z
theorem ca_ls3 (T : Top K mg) : Ca P w K mg base 4 "_law_lists" (spI (ι := Grid × Grid) (fun i => [.seq true [dHeap false i.1, dHeap false i.2]]) (fun i => Shp i.1 ∧ Shp i.2) (fun i d => d = .seq true [dHeap true i.1, dHeap true i.2])) := by
  have sc := sc__law_lists
  refine ca_of T.f__law_lists (fun _ _ _ _ _ _ us hl => match us, hl with | [_], _ => rfl) sc (fun _ => rfl) fun f cdv A outer s H E hr => ⟨_, (pss_one (ps_ret (pe_ifExp (pt_val (pe_callB (call_isiTK (K := K) rfl) (by rfl) T.b_isinstance (by decide +kernel) (pa_cons (pv 0) (pa_cons (pe_tup (pa_cons (pe_bltn (v := .ty "list") (u := .type "list") (by rfl) T.b_list (by decide +kernel) rfl) (pa_cons (pe_bltn (v := .ty "tuple") (u := .type "tuple") (by rfl) T.b_tuple (by decide +kernel) rfl) pa_nil))) pa_nil)))) (pe_lc (own := [("_law_bit", 1)]) rfl sc.nd (pi_seqK (K := K) rfl (pv 0)) (blkOk_by (own := [("_law_bit", 1)]) (N := N__law_lists) (sc := (defScope s__law_lists)) (by decide +kernel)) (fun _ _ _ _ _ => (pg_name (i := 1) sc.nd rfl (Or.inl rfl))) (fun _ _ _ _ _ => pts_nil) (fun _ _ _ _ _ => (pe_ca (ca_ls2 T) hr (by decide) (by rfl) (pa_cons (pv 1) pa_nil)))) (pv 0)))), ?_⟩
  rintro qs ⟨g, g'⟩ D ⟨h1, h2⟩ hR
  refine ok_rt ?_ hR
  exact ge_ifE (gt_B (gd_isi2 (gd_var rfl) (by simp only [noD, noDAll, dHeap]; rw [heap_noD g false, heap_noD g' false]; rfl) (kany_seq true _)))
    (fun _ => (GN.gd (gn_lcY (xs := [g, g']) (f := dHeap false) (e := dHeap true) (gw_seq (gd_var rfl)) fw (fun x _ => gg_name (by decide))
      (fun x hx => gd_call (i := (false, x)) (ga_cons (gd_var rfl) ga_nil) (by
        have : x = g ∨ x = g' := by simpa using hx
        rcases this with z | z
        · rw [z]; exact h1
        · rw [z]; exact h2)))).ge rfl) fun z => by cases z
end
end DL
set_option maxHeartbeats 1000000
namespace DL
open PySem PySem.Spec PyProof.Rows L2
theorem pi_zipAK {X : Cx} {K : PySem.W.Frag} {e e2 : Expr} {ta : TA} {p pos tpos : Pos} {elts : List Expr} {kk : Nat} (hK : X.K = K) (hg : Gl X "zip") (hm : X.mg "zip" = none) (ha : PA X [e, e2] ta)
    (hs : starEach [e, e2] X.env = (false, eval e X.env) :: starEach [e2] X.env := by rfl) (hpl : (backTo pos (starEach [e2] X.env)).any (·.1) = false := by rfl) :
    PI X (.Tuple elts kk tpos) (.Call (.Name "zip" p) [e, e2] [] pos) (RZ.iZipA K ta) := hK ▸ RZ.pi_zipA hg hm ha hs hpl
theorem walk_zipT {K : PySem.W.Frag} {a b : Addr} {xs ys : List V} {n : Nat} (hn : n = min xs.length ys.length) : Walk (RZ.ItzT K a b) n (fun H => SqT K H a xs ∧ SqT K H b ys) (YPair (fun i => xs[i]?) (fun i => ys[i]?)) := by
  subst hn
  refine ⟨fun i _ hi q => ?_, fun _ q => ⟨xs, ys, q.1, q.2, by omega⟩, fun i H v H' _ q y => ?_⟩
  · have h1 : i < xs.length := by omega
    have h2 : i < ys.length := by omega
    exact ⟨xs, ys, xs[i], ys[i], q.1, q.2, List.getElem?_eq_getElem h1, List.getElem?_eq_getElem h2⟩
  · obtain ⟨T, x, z, h1, h2, h3, h4, h5⟩ := y
    exact ⟨T, x, z, h1, h2, h3, h4 xs q.1, h5 ys q.2⟩
section
variable {ρ : List Sl} {ta tb : TE} {K : PySem.W.Frag}
theorem wd_zip {J : It} {ds : List Dt} {xs ys : List V} {G : Hp → Prop} {ps : List Addr} {H : Hp} (w : Walk J xs.length G (YPair (fun i => xs[i]?) (fun i => ys[i]?)))
    (hg : ∀ qs : List Addr, (∀ q ∈ qs, q ∈ ps ∨ H q = none) → ∀ H1, Same (out H qs) (out H1 qs) → G H1) (hx : IsAll (out H ps) xs ds) (hy : IsAll (out H ps) ys ds) : WD J (ds.map fun d => .seq false [d, d]) H ps := fun qs hq => by
  have e : xs.length = (ds.map fun d => Dt.seq false [d, d]).length := by rw [hx.length, List.length_map]
  rw [← e]
  refine w.mono (fun H1 g => hg qs hq H1 g.1) fun i H1 x H2 hi' g y => ?_
  obtain ⟨T, a, b, rfl, hT, rfl, ea, eb⟩ := y
  obtain ⟨d, h1, h2⟩ := hx.getV ea
  obtain ⟨d', h1', h2'⟩ := hy.getV eb
  rw [h1] at h1'
  cases h1'
  have nT : T ∉ qs := fun z => by
    have := g.2 T z
    rw [hT] at this
    exact this
  have s1 := same_new (o := .tup [a, b]) hT
  have up : ∀ {v d}, Is (out H ps) v d → Is (out (upd H1 T (.tup [a, b])) qs) v d := fun h => ((h.mono (out_fresh hq)).mono g.1).mono (out_mono s1)
  exact ⟨s1, .seq false [d, d], by rw [List.getElem?_map, h1]; rfl, .tup (out_of upd_same nT) (.cons (up h2) (.cons (up h2') .nil))⟩
theorem gw_zip {l : Bool} {ds : List Dt} (h1 : GD ta ρ (.seq l ds)) (h2 : GD tb ρ (.seq l ds)) : GW (RZ.iZipA K (tCons ta (tCons tb tNil))) ρ (ds.map fun d => .seq false [d, d]) := fun ps bs σ H E R r =>
  h1 ps bs σ H E _ fun v H1 s1 e1 => h2 ps bs σ H1 (E.mono s1) _ fun v2 H2 s2 e2 => by
    have e1' := e1.mono (out_mono s2)
    cases l with
    | true =>
      obtain ⟨a, xs, rfl, a1, a2⟩ := is_lst e1'
      obtain ⟨b, ys, rfl, b1, b2⟩ := is_lst e2
      exact ⟨a, b, xs, ys, rfl, .inl ⟨SqL.of (out_some a1).1, SqL.of (out_some b1).1, r _ H2 (s1.trans s2) (wd_zip (walk_zip (by rw [a2.length, b2.length, Nat.min_self])) (fun qs hq H3 sm => ⟨SqL.of (out_some (sm a _ (out_fresh hq a _ a1))).1, SqL.of (out_some (sm b _ (out_fresh hq b _ b1))).1⟩) a2 b2)⟩⟩
    | false =>
      obtain ⟨a, xs, rfl, a1, a2⟩ := is_tup e1'
      obtain ⟨b, ys, rfl, b1, b2⟩ := is_tup e2
      exact ⟨a, b, xs, ys, rfl, .inr ⟨SqT.of (out_some a1).1, SqT.of (out_some b1).1, r _ H2 (s1.trans s2) (wd_zip (walk_zipT (by rw [a2.length, b2.length, Nat.min_self])) (fun qs hq H3 sm => ⟨SqT.of (out_some (sm a _ (out_fresh hq a _ a1))).1, SqT.of (out_some (sm b _ (out_fresh hq b _ b1))).1⟩) a2 b2)⟩⟩
end
def atomD : Dt → Bool
  | .non => true
  | .bl _ => true
  | .int _ => true
  | .str x => (PyData.str x).canLay0
  | _ => false
/-- nested at most so deep -/
def okD : Nat → Dt → Prop
  | 0, d => atomD d = true
  | k + 1, d => atomD d = true ∨ ∃ l ds, d = .seq l ds ∧ ds.length ≤ 1000 ∧ noDAll ds = true ∧ ∀ e ∈ ds, okD k e
abbrev spSame (k : Nat) : Sp := spI (ι := Dt) (fun d => [d, d]) (okD k) (fun _ r => r = .bl true)
theorem plain_atom : ∀ d, atomD d = true → plainD d
  | .non, _ => plain_non
  | .bl b, _ => ⟨rfl, shaped_of rfl (by show PyData.depth (.bool b) ≤ 64; simp [PyData.depth])⟩
  | .int i, _ => plain_int i
  | .str x, h => ⟨rfl, shaped_of h (by show PyData.depth (.str x) ≤ 64; simp [PyData.depth])⟩
  | .seq _ _, h => by cases h
  | .dic _, h => by cases h
theorem eqv_atom : ∀ d, atomD d = true → PyData.eqv (py d) (py d) = true
  | .non, _ => rfl
  | .bl b, _ => by rw [py, PyData.eqv]; simp
  | .int i, _ => by rw [eqv_int]; simp
  | .str x, _ => by rw [py, PyData.eqv]; simp
  | .seq _ _, h => by cases h
  | .dic _, h => by cases h
theorem kany2 {K : PySem.W.Frag} {n a b : String} {x y : Bool} (h1 : kitB n a = some x) (h2 : kitB n b = some y) : PySem.W.kitAny K (.type n) [.type a, .type b] = some (x || y) := by
  cases x with
  | true => exact kitAny_cons (kit_ty h1) (fun z => by cases z) fun _ => rfl
  | false => cases y with
    | true => exact kitAny_cons (kit_ty h1) (fun _ => kitAny_cons (kit_ty h2) (fun z => by cases z) fun _ => rfl) fun z => by cases z
    | false => exact kitAny_cons (kit_ty h1) (fun _ => kitAny_cons (kit_ty h2) (fun _ => rfl) fun z => by cases z) fun z => by cases z
def tSame2 (K : PySem.W.Frag) : TS := tSeq
        (tIfS
          (tOr (tTest (tOp rIsNQ (tVar 1) (tC V.non)))
            (tB (tCB (rIsiT K) (tCons (tVar 1) (tCons (tTup (tCons (tC (V.ty "bool")) (tCons (tC (V.ty "str")) tNil))) tNil)))))
          (tRet
            (tAndV (tOp (rEqD K) (tVar 0) (tVar 1))
              (tAndV
                (tOp rEq (tCB (rIsi K) (tCons (tVar 0) (tCons (tC (V.ty "bool")) tNil)))
                  (tCB (rIsi K) (tCons (tVar 1) (tCons (tC (V.ty "bool")) tNil))))
                (tOp rEq (tOp rIsNQ (tVar 0) (tC V.non)) (tOp rIsNQ (tVar 1) (tC V.non))))))
          tNext)
        (tRet
          (tAndV (tCB (rIsi K) (tCons (tVar 0) (tCons (tC (V.ty "int")) tNil)))
            (tAndV (tNotV (tCB (rIsi K) (tCons (tVar 0) (tCons (tC (V.ty "bool")) tNil))))
              (tOp (rEqD K) (tVar 0) (tVar 1)))))
section
variable {K : PySem.W.Frag}
/-- what is no list and no tuple -/
theorem same_no {d : Dt} {ρ : List Sl} (h : atomD d = true) (h1 : ρ[1]? = some (.im d)) :
    GT (tB (tCB (rIsiT K) (tCons (tVar 1) (tCons (tTup (tCons (tC (.ty "list")) (tCons (tC (.ty "tuple")) tNil))) tNil)))) ρ false := by
  cases d with
  | non => exact gt_B (gd_isi2 (gd_var h1) rfl (kany_no kb_NoneType_list kb_NoneType_tuple))
  | bl b => exact gt_B (gd_isi2 (gd_var h1) rfl (kany_no kb_bool_list kb_bool_tuple))
  | int i => exact gt_B (gd_isi2 (gd_var h1) rfl (kany_no kb_int_list kb_int_tuple))
  | str x => exact gt_B (gd_isi2 (gd_var h1) rfl (kany_no kb_str_list kb_str_tuple))
  | seq _ _ => cases h
  | dic _ => cases h
theorem same_tail {ps : List Addr} {bs : List (List Addr × Hp)} {D : Ends} {d : Dt} {ρ : List Sl} (h : atomD d = true) (hR : Rt ps bs (fun r => r = .bl true) D) (h0 : ρ[0]? = some (.im d)) (h1 : ρ[1]? = some (.im d)) : Ok ps bs (tSame2 K) ρ D := by
  have pl := plain_atom d h
  have eq : GD (tOp (rEqD K) (tVar 0) (tVar 1)) ρ (.bl true) := GD.cast (gd_eqD (gd_var h0) (gd_var h1) pl pl) (congrArg Dt.bl (eqv_atom d h))
  have nn : GD (tOp rEq (tOp rIsNQ (tVar 0) (tC V.non)) (tOp rIsNQ (tVar 1) (tC V.non))) ρ (.bl true) := GD.cast (gd_eqB (gd_isN (gd_var h0)) (gd_isN (gd_var h1))) (by cases isN d <;> rfl)
  have one : ∀ b, noD d = true → kitB (tyN d) "bool" = some b → Ok ps bs (tRet
            (tAndV (tOp (rEqD K) (tVar 0) (tVar 1))
              (tAndV
                (tOp rEq (tCB (rIsi K) (tCons (tVar 0) (tCons (tC (V.ty "bool")) tNil)))
                  (tCB (rIsi K) (tCons (tVar 1) (tCons (tC (V.ty "bool")) tNil))))
                (tOp rEq (tOp rIsNQ (tVar 0) (tC V.non)) (tOp rIsNQ (tVar 1) (tC V.non)))))) ρ D := fun b hn hb =>
    ok_rtD (gd_andV eq fun _ => gd_andV (GD.cast (gd_eqB (gd_isi (gd_var h0) hn hb) (gd_isi (gd_var h1) hn hb)) (by cases b <;> rfl : Dt.bl (b == b) = .bl true)) fun _ => nn) hR rfl
  unfold tSame2
  cases d with
  | non => exact ok_seq (ok_if (gt_or (b := true) (c := true) (gt_test (GD.cast (gd_isN (gd_var h1)) rfl)) fun z => by cases z) (fun _ => one false rfl kb_NoneType_bool) fun z => by cases z)
  | bl b => exact ok_seq (ok_if (gt_or (b := false) (c := true) (gt_test (GD.cast (gd_isN (gd_var h1)) rfl)) fun _ => gt_B (gd_isi2 (gd_var h1) rfl (kany2 kb_bool_bool kb_bool_str))) (fun _ => one true rfl kb_bool_bool) fun z => by cases z)
  | str x => exact ok_seq (ok_if (gt_or (b := false) (c := true) (gt_test (GD.cast (gd_isN (gd_var h1)) rfl)) fun _ => gt_B (gd_isi2 (gd_var h1) rfl (kany2 kb_str_bool kb_str_str))) (fun _ => one false rfl kb_str_bool) fun z => by cases z)
  | int i => exact ok_seq (ok_if (gt_or (b := false) (c := false) (gt_test (GD.cast (gd_isN (gd_var h1)) rfl)) fun _ => gt_B (gd_isi2 (gd_var h1) rfl (kany2 kb_int_bool kb_int_str))) (fun z => by cases z) fun _ => ok_nextS (ok_rtD (gd_andV (gd_isi (gd_var h0) rfl kb_int_int) fun _ => gd_andV (gd_notV (gd_isi (gd_var h0) rfl kb_int_bool)) fun _ => eq) hR rfl))
  | seq _ _ => cases h
  | dic _ => cases h
end
section
variable {P : Program} {w : World} {K : PySem.W.Frag} {mg : Str → Option Value} {base : Heap}
theorem ca_same0 (T : Top K mg) : Ca P w K mg base 1 "_law_same" (spSame 0) := by
  have sc := sc__law_same
  refine ca_of T.f__law_same (fun _ _ _ _ _ _ us hl => match us, hl with | [_, _], _ => rfl) sc (fun _ => rfl) fun f cdv A outer s H E hr => ⟨_, (pss_cons (ps_if (pt_val (pe_callB (call_isiTK (K := K) rfl) (by rfl) T.b_isinstance (by decide +kernel) (pa_cons (pv 1) (pa_cons (pe_tup (pa_cons (pe_bltn (v := .ty "list") (u := .type "list") (by rfl) T.b_list (by decide +kernel) rfl) (pa_cons (pe_bltn (v := .ty "tuple") (u := .type "tuple") (by rfl) T.b_tuple (by decide +kernel) rfl) pa_nil))) pa_nil))))
      (pss_cons ps_never (pss_one ps_never))
      pss_nil)
    (pss_cons (ps_if (PW.pt (pw_or (pt_cmpR op_isNQ (pv 1) pe_non (nomark _)) (pw_or1 (pt_val (pe_callB (call_isiTK (K := K) rfl) (by rfl) T.b_isinstance (by decide +kernel) (pa_cons (pv 1) (pa_cons (pe_tup (pa_cons (pe_bltn (v := .ty "bool") (u := .type "bool") (by rfl) T.b_bool (by decide +kernel) rfl) (pa_cons (pe_bltn (v := .ty "str") (u := .type "str") (by rfl) T.b_str (by decide +kernel) rfl) pa_nil))) pa_nil)))))))
      (pss_one (ps_ret (pe_and (pe_cmpR (op_eqDK (K := K) rfl hr.units) (pv 0) (pv 1) (nomark _)) (pe_and (pe_cmpR op_eq (pe_callB (call_isiK' (K := K) rfl) (by rfl) T.b_isinstance (by decide +kernel) (pa_cons (pv 0) (pa_cons (pe_bltn (v := .ty "bool") (u := .type "bool") (by rfl) T.b_bool (by decide +kernel) rfl) pa_nil))) (pe_callB (call_isiK' (K := K) rfl) (by rfl) T.b_isinstance (by decide +kernel) (pa_cons (pv 1) (pa_cons (pe_bltn (v := .ty "bool") (u := .type "bool") (by rfl) T.b_bool (by decide +kernel) rfl) pa_nil))) (nomark _)) (pe_one (pe_cmpR op_eq (pe_cmpR op_isNQ (pv 0) pe_non (nomark _)) (pe_cmpR op_isNQ (pv 1) pe_non (nomark _)) (nomark _)))))))
      pss_nil)
    (pss_one (ps_ret (pe_and (pe_callB (call_isiK' (K := K) rfl) (by rfl) T.b_isinstance (by decide +kernel) (pa_cons (pv 0) (pa_cons (pe_bltn (v := .ty "int") (u := .type "int") (by rfl) T.b_int (by decide +kernel) rfl) pa_nil))) (pe_and (pe_not (pe_callB (call_isiK' (K := K) rfl) (by rfl) T.b_isinstance (by decide +kernel) (pa_cons (pv 0) (pa_cons (pe_bltn (v := .ty "bool") (u := .type "bool") (by rfl) T.b_bool (by decide +kernel) rfl) pa_nil)))) (pe_one (pe_cmpR (op_eqDK (K := K) rfl hr.units) (pv 0) (pv 1) (nomark _))))))))), ?_⟩
  rintro qs d D hp hR
  replace hp : atomD d = true := hp
  exact ok_seq (ok_if (same_no hp rfl) (fun z => by cases z) fun _ => ok_nextS (same_tail hp hR rfl rfl))
theorem ca_sameS (T : Top K mg) {k : Nat} (c : Ca P w K mg base (k + 1) "_law_same" (spSame k)) : Ca P w K mg base (k + 2) "_law_same" (spSame (k + 1)) := by
  have sc := sc__law_same
  refine ca_of T.f__law_same (fun _ _ _ _ _ _ us hl => match us, hl with | [_, _], _ => rfl) sc (fun _ => rfl) fun f cdv A outer s H E hr => ⟨_, (pss_cons (ps_if (pt_val (pe_callB (call_isiTK (K := K) rfl) (by rfl) T.b_isinstance (by decide +kernel) (pa_cons (pv 1) (pa_cons (pe_tup (pa_cons (pe_bltn (v := .ty "list") (u := .type "list") (by rfl) T.b_list (by decide +kernel) rfl) (pa_cons (pe_bltn (v := .ty "tuple") (u := .type "tuple") (by rfl) T.b_tuple (by decide +kernel) rfl) pa_nil))) pa_nil))))
      (pss_cons (ps_if (PW.pt (pw_or (pt_cmpR op_ne (pe_callB (call_isiK' (K := K) rfl) (by rfl) T.b_isinstance (by decide +kernel) (pa_cons (pv 0) (pa_cons (pe_bltn (v := .ty "list") (u := .type "list") (by rfl) T.b_list (by decide +kernel) rfl) pa_nil))) (pe_callB (call_isiK' (K := K) rfl) (by rfl) T.b_isinstance (by decide +kernel) (pa_cons (pv 1) (pa_cons (pe_bltn (v := .ty "list") (u := .type "list") (by rfl) T.b_list (by decide +kernel) rfl) pa_nil))) (nomark _)) (pw_or1 (pt_cmpR op_ne (pe_callB (call_isiK' (K := K) rfl) (by rfl) T.b_isinstance (by decide +kernel) (pa_cons (pv 0) (pa_cons (pe_bltn (v := .ty "tuple") (u := .type "tuple") (by rfl) T.b_tuple (by decide +kernel) rfl) pa_nil))) (pe_callB (call_isiK' (K := K) rfl) (by rfl) T.b_isinstance (by decide +kernel) (pa_cons (pv 1) (pa_cons (pe_bltn (v := .ty "tuple") (u := .type "tuple") (by rfl) T.b_tuple (by decide +kernel) rfl) pa_nil))) (nomark _)))))
        (pss_one (ps_ret pe_bl))
        pss_nil)
      (pss_one (ps_ret (pe_and (pe_cmpR op_eq (pe_callB (call_lenK (K := K) rfl) (by rfl) T.b_len (by decide +kernel) (pa_cons (pv 0) pa_nil)) (pe_callB (call_lenK (K := K) rfl) (by rfl) T.b_len (by decide +kernel) (pa_cons (pv 1) pa_nil)) (nomark _)) (pe_one (pe_callB (cr_allK (K := K) rfl rfl) (by rfl) T.b_all (by decide +kernel) (pa_cons (pe_lc (own := [("_law_mine", 2), ("_law_its", 3)]) rfl sc.nd (pi_zipAK (K := K) rfl (by rfl) T.b_zip (pa_cons (pv 0) (pa_cons (pv 1) pa_nil))) (blkOk_by (own := [("_law_mine", 2), ("_law_its", 3)]) (N := N__law_same) (sc := (defScope s__law_same)) (by decide +kernel)) (fun _ _ _ _ _ => (pg_tupK (K := K) (n := 2) rfl rfl (pgs_cons (pg_name (i := 2) sc.nd rfl (Or.inl rfl)) (pgs_cons (pg_name (i := 3) sc.nd rfl (Or.inl rfl)) pgs_nil)))) (fun _ _ _ _ _ => pts_nil) (fun _ _ _ _ _ => (pe_ca c hr (Nat.le_refl _) (by rfl) (pa_cons (pv 2) (pa_cons (pv 3) pa_nil))))) pa_nil)))))))
      pss_nil)
    (pss_cons (ps_if (PW.pt (pw_or (pt_cmpR op_isNQ (pv 1) pe_non (nomark _)) (pw_or1 (pt_val (pe_callB (call_isiTK (K := K) rfl) (by rfl) T.b_isinstance (by decide +kernel) (pa_cons (pv 1) (pa_cons (pe_tup (pa_cons (pe_bltn (v := .ty "bool") (u := .type "bool") (by rfl) T.b_bool (by decide +kernel) rfl) (pa_cons (pe_bltn (v := .ty "str") (u := .type "str") (by rfl) T.b_str (by decide +kernel) rfl) pa_nil))) pa_nil)))))))
      (pss_one (ps_ret (pe_and (pe_cmpR (op_eqDK (K := K) rfl hr.units) (pv 0) (pv 1) (nomark _)) (pe_and (pe_cmpR op_eq (pe_callB (call_isiK' (K := K) rfl) (by rfl) T.b_isinstance (by decide +kernel) (pa_cons (pv 0) (pa_cons (pe_bltn (v := .ty "bool") (u := .type "bool") (by rfl) T.b_bool (by decide +kernel) rfl) pa_nil))) (pe_callB (call_isiK' (K := K) rfl) (by rfl) T.b_isinstance (by decide +kernel) (pa_cons (pv 1) (pa_cons (pe_bltn (v := .ty "bool") (u := .type "bool") (by rfl) T.b_bool (by decide +kernel) rfl) pa_nil))) (nomark _)) (pe_one (pe_cmpR op_eq (pe_cmpR op_isNQ (pv 0) pe_non (nomark _)) (pe_cmpR op_isNQ (pv 1) pe_non (nomark _)) (nomark _)))))))
      pss_nil)
    (pss_one (ps_ret (pe_and (pe_callB (call_isiK' (K := K) rfl) (by rfl) T.b_isinstance (by decide +kernel) (pa_cons (pv 0) (pa_cons (pe_bltn (v := .ty "int") (u := .type "int") (by rfl) T.b_int (by decide +kernel) rfl) pa_nil))) (pe_and (pe_not (pe_callB (call_isiK' (K := K) rfl) (by rfl) T.b_isinstance (by decide +kernel) (pa_cons (pv 0) (pa_cons (pe_bltn (v := .ty "bool") (u := .type "bool") (by rfl) T.b_bool (by decide +kernel) rfl) pa_nil)))) (pe_one (pe_cmpR (op_eqDK (K := K) rfl hr.units) (pv 0) (pv 1) (nomark _))))))))), ?_⟩
  rintro qs d D hp hR
  rcases hp with hp | ⟨l, ds, rfl, h1, h2, h3⟩
  · exact ok_seq (ok_if (same_no hp rfl) (fun z => by cases z) fun _ => ok_nextS (same_tail hp hR rfl rfl))
  · have hn : noD (.seq l ds) = true := by rw [noD]; exact h2
    have hl : ∃ b1 b2, kitB (tyN (.seq l ds)) "list" = some b1 ∧ kitB (tyN (.seq l ds)) "tuple" = some b2 := by
      cases l with
      | true => exact ⟨true, false, kb_list_list, kb_list_tuple⟩
      | false => exact ⟨false, true, kb_tuple_list, kb_tuple_tuple⟩
    obtain ⟨b1, b2, e1, e2⟩ := hl
    refine ok_seq (ok_if (gt_B (gd_isi2 (gd_var rfl) hn (kany_seq l ds))) (fun _ => ?_) fun z => by cases z)
    refine ok_seq (ok_if (GT.cast (c := false) (gt_or (gt_test (gd_neB (gd_isi (gd_var rfl) hn e1) (gd_isi (gd_var rfl) hn e1))) fun _ => gt_test (gd_neB (gd_isi (gd_var rfl) hn e2) (gd_isi (gd_var rfl) hn e2))) (by cases b1 <;> cases b2 <;> rfl)) (fun z => by cases z) fun _ => ok_nextS ?_)
    refine ok_rtD (d := .bl true) (GD.cast (gd_andV (gd_eqI (gd_len (gd_var rfl)) (gd_len (gd_var rfl))) fun _ => gd_allM (p := fun _ => true) (GN.gd (gn_lcY (xs := ds) (f := fun d => .seq false [d, d]) (e := fun _ => .bl true) (gw_zip (l := l) (gd_var rfl) (gd_var rfl)) (sl12 h1) (fun x _ => gg_tup (ggs_cons (gg_name (by decide)) (ggs_cons (gg_name (by decide)) ggs_nil)) rfl) (fun x hx => gd_call (f := fun _ => .bl true) (i := x) (ga_cons (gd_var rfl) (ga_cons (gd_var rfl) ga_nil)) (h3 x hx))))) ?_) hR rfl
    rw [decide_eq_true rfl, List.all_eq_true.mpr fun _ _ => rfl]
    rfl
end
end DL
set_option maxHeartbeats 1000000
/-! Plain: rounds against steps. -/
namespace DL
def OE (A : Grid) (n : Nat) (c : Cell) : Prop := Rch (er A n) ((er A n).filter (isTop A)) c
def Lst (A : Grid) (n : Nat) (c : Cell) : Prop := OE A n c ∧ Ball A (n + 1) c
section
variable {A : Grid} {n m : Nat} {c d : Cell}
theorem OE.er (h : OE A n c) : c ∈ er A n := h.inA fun x hx => (List.mem_filter.mp hx).1
theorem OE.le (h : OE A n c) (hm : m ≤ n) : OE A m c := Rch.mono (fun x hx => er_le hm hx) (fun x hx => List.mem_filter.mpr ⟨er_le hm (List.mem_filter.mp hx).1, (List.mem_filter.mp hx).2⟩) h
theorem OE.stp (h : OE A n c) (ha : d ∈ around c) (hd : d ∈ DL.er A n) : OE A n d := .step h ha hd
theorem er_zero : c ∈ er A 0 ↔ c ∈ airC A := by rw [mem_er]; exact ⟨fun h => h.1, fun h => ⟨h, fun z => z.elim⟩⟩
theorem oe_zero : OE A 0 c ↔ Opn A c := by
  unfold OE Opn
  refine ⟨fun h => Rch.mono (fun x hx => er_zero.mp hx) (fun x hx => List.mem_filter.mpr ⟨er_zero.mp (List.mem_filter.mp hx).1, (List.mem_filter.mp hx).2⟩) h, fun h => Rch.mono (fun x hx => er_zero.mpr hx) (fun x hx => List.mem_filter.mpr ⟨er_zero.mpr (List.mem_filter.mp hx).1, (List.mem_filter.mp hx).2⟩) h⟩
theorem isTop_alike {A B : Grid} (h : AlikeS A B) : isTop A = isTop B := by funext c; unfold isTop; rw [h.2]
theorem near_alike {A B : Grid} (h : AlikeS A B) (c : Cell) : near A c = near B c := by
  unfold near
  congr 1
  funext d
  exact alike_in h d
/-- what is no air is near -/
theorem nearSt_iff {c : Cell} : nearSt A c = true ↔ c.2 = 0 ∨ ∃ d ∈ near A c, d ∉ airC A := by
  unfold nearSt
  rw [Bool.or_eq_true, decide_eq_true_eq, List.any_eq_true]
  refine or_congr_right ⟨fun ⟨d, h1, h2⟩ => ⟨d, h1, fun z => ?_⟩, fun ⟨d, h1, h2⟩ => ⟨d, h1, ?_⟩⟩
  · rw [decide_eq_true (mem_airC.mp z).2] at h2
    cases h2
  · rw [decide_eq_false fun z => h2 (mem_airC.mpr ⟨near_in h1, z⟩)]
    rfl
end
structure LayOk (A : Grid) (t : Nat) : Prop where
  air : ∀ c, c ∈ airC (layN A t) ↔ c ∈ airC A ∧ ∀ n < t, ¬ Lst A n c
  opn : ∀ c, Opn (layN A t) c ↔ OE A t c
theorem LayOk.lay {A : Grid} (S : Shp A) {t : Nat} (L : LayOk A t) (c : Cell) : c ∈ layC (layN A t) ↔ Lst A t c := by
  have hal := layN_alike S t
  rw [mem_layC]
  unfold Lay1 Lst
  rw [L.opn]
  refine and_congr_right fun ho => ?_
  have hce := ho.er
  have hca := (mem_er.mp hce).1
  rw [nearSt_iff, near_alike hal]
  constructor
  · rintro (h | ⟨d, h1, h2⟩)
    · exact (Ball.one.mpr ⟨hca, nearSt_iff.mpr (.inl h)⟩).le (by omega)
    · rw [L.air] at h2
      by_cases z : d ∈ airC A
      · have : ∃ n, n < t ∧ Lst A n d := by
          by_cases y : ∃ n, n < t ∧ Lst A n d
          · exact y
          · exact absurd ⟨z, fun n hn hl => y ⟨n, hn, hl⟩⟩ h2
        obtain ⟨n, hn, hl⟩ := this
        exact Ball.le (n := n + 2) ⟨hca, .inr ⟨d, h1, hl.2⟩⟩ (by omega)
      · exact (Ball.one.mpr ⟨hca, nearSt_iff.mpr (.inr ⟨d, h1, z⟩)⟩).le (by omega)
  · intro h
    rcases h.2 with h | ⟨d, h1, h2⟩
    · rcases nearSt_iff.mp h with h | ⟨d, h1, h2⟩
      · exact .inl h
      · exact .inr ⟨d, h1, fun z => h2 ((L.air d).mp z).1⟩
    · cases t with
      | zero => exact h2.elim
      | succ t =>
        have hd : d ∈ er A t := mem_er.mpr ⟨h2.air, fun z => (mem_er.mp hce).2 ⟨hca, .inr ⟨d, h1, z⟩⟩⟩
        have hod : OE A t d := (ho.le (Nat.le_succ t)).stp (near_around h1) hd
        exact .inr ⟨d, h1, fun z => ((L.air d).mp z).2 t (Nat.lt_succ_self t) ⟨hod, h2⟩⟩
theorem layOk {A : Grid} (S : Shp A) : ∀ t, LayOk A t
  | 0 => ⟨fun c => ⟨fun h => ⟨h, fun n hn => absurd hn (Nat.not_lt_zero n)⟩, fun h => h.1⟩, fun c => oe_zero.symm⟩
  | t + 1 => by
    have L := layOk S t
    have hl := L.lay S
    have hS := layN_shp S t
    have hal := layN_alike S t
    have hal' := layN_alike S (t + 1)
    have hair : ∀ c, c ∈ airC (layN A (t + 1)) ↔ c ∈ airC (layN A t) ∧ ¬ Lst A t c := fun c => by
      rw [mem_airC, mem_airC, alike_in hal', ← alike_in hal]
      show _ ∧ atG (putG (layN A t) (layC (layN A t)) 9) c = 0 ↔ _
      constructor
      · rintro ⟨h1, h2⟩
        rw [putG_at h1] at h2
        split at h2
        · cases h2
        · rename_i hm
          exact ⟨⟨h1, h2⟩, fun z => hm ((hl c).mpr z)⟩
      · rintro ⟨⟨h1, h2⟩, h3⟩
        exact ⟨h1, by rw [putG_at h1, if_neg fun z => h3 ((hl c).mp z)]; exact h2⟩
    have hair2 : ∀ c, c ∈ airC (layN A (t + 1)) ↔ c ∈ airC A ∧ ∀ n < t + 1, ¬ Lst A n c := fun c => by
      rw [hair, L.air]
      constructor
      · rintro ⟨⟨h1, h2⟩, h3⟩
        refine ⟨h1, fun n hn => ?_⟩
        by_cases z : n = t
        · rw [z]; exact h3
        · exact h2 n (by omega)
      · rintro ⟨h1, h2⟩
        exact ⟨⟨h1, fun n hn => h2 n (by omega)⟩, h2 t (Nat.lt_succ_self t)⟩
    refine ⟨hair2, fun c => ⟨fun h => ?_, fun h => ?_⟩⟩
    · have h' : Rch (airC (layN A (t + 1))) ((airC (layN A (t + 1))).filter (isTop (layN A (t + 1)))) c := h
      have up : ∀ x, x ∈ airC (layN A (t + 1)) → Opn (layN A t) x → x ∈ er A (t + 1) := fun x hx ho => by
        have hx2 := (hair x).mp hx
        have hoe := (L.opn x).mp ho
        exact mem_er.mpr ⟨((L.air x).mp hx2.1).1, fun z => hx2.2 ⟨hoe, z⟩⟩
      induction h' with
      | @base c hc =>
        obtain ⟨h1, h2⟩ := List.mem_filter.mp hc
        rw [isTop_alike hal', ← isTop_alike hal] at h2
        have ho : Opn (layN A t) c := .base (List.mem_filter.mpr ⟨((hair c).mp h1).1, h2⟩)
        rw [isTop_alike hal] at h2
        exact .base (List.mem_filter.mpr ⟨up c h1 ho, h2⟩)
      | @step c d h1 h2 h3 ih =>
        have hc := ih h1
        have ho : Opn (layN A t) d := .step ((L.opn c).mpr (hc.le (Nat.le_succ t))) h2 ((hair d).mp h3).1
        exact hc.stp h2 (up d h3 ho)
    · refine Rch.mono (fun x hx => ?_) (fun x hx => ?_) h
      · have hx' := mem_er.mp hx
        exact (hair2 x).mpr ⟨hx'.1, fun n hn z => hx'.2 (z.2.le (by omega))⟩
      · obtain ⟨h1, h2⟩ := List.mem_filter.mp hx
        have hx' := mem_er.mp h1
        rw [← isTop_alike hal'] at h2
        exact List.mem_filter.mpr ⟨(hair2 x).mpr ⟨hx'.1, fun n hn z => hx'.2 (z.2.le (by omega))⟩, h2⟩
end DL
set_option maxHeartbeats 1000000
/-! Plain: rounds against steps. What the walk of the law's last part wants. -/
namespace DL
open Classical in
/-- how many hollows there are -/
noncomputable def holN (g : Grid) : Nat := if h : ∃ hs, HlOk g hs then h.choose.length else 0
open Classical in
theorem nodup_sub_len {α : Type} {l : List α} : ∀ {A : List α}, l.Nodup → (∀ x ∈ l, x ∈ A) → l.length ≤ A.length := by
  induction l with
  | nil => intro _ _ _; exact Nat.zero_le _
  | cons a r ih =>
    intro A h s
    obtain ⟨h1, h2⟩ := List.nodup_cons.mp h
    have ha : a ∈ A := s a List.mem_cons_self
    have e := ih (A := A.erase a) h2 fun x hx => (List.mem_erase_of_ne (by rintro rfl; exact h1 hx)).mpr (s x (List.mem_cons_of_mem _ hx))
    rw [List.length_erase_of_mem ha] at e
    have : 0 < A.length := List.length_pos_of_mem ha
    rw [List.length_cons]
    omega
theorem nodup_ext_len {α : Type} {l m : List α} (hl : l.Nodup) (hm : m.Nodup) (h : ∀ x, x ∈ l ↔ x ∈ m) : l.length = m.length :=
  Nat.le_antisymm (nodup_sub_len hl fun x hx => (h x).mp hx) (nodup_sub_len hm fun x hx => (h x).mpr hx)
theorem holN_eq {g : Grid} {hs : List (List Cell)} (O : HlOk g hs) : hs.length = holN g := by
  have h : ∃ hs, HlOk g hs := ⟨hs, O⟩
  unfold holN
  rw [dif_pos h]
  exact nodup_ext_len O.nd h.choose_spec.nd fun Q => (O.mm Q).trans (h.choose_spec.mm Q).symm
noncomputable def LaidL (A : Grid) (n : Nat) : List Cell := (allC A).filter fun c => decide (atG (layN A n) c = 9)
theorem layN_stab {A : Grid} (D : DrawnOk A) {n : Nat} (hn : 9 ≤ n) : layN A (n + 1) = layN A n := by
  have h : layC (layN A n) = [] := by
    cases q : layC (layN A n) with
    | nil => rfl
    | cons c r =>
      have hl := ((layOk D.shp n).lay D.shp c).mp (by rw [q]; exact List.mem_cons_self)
      have := er_lt hl.1.er
      have := D.shp.hgt
      omega
  show putG (layN A n) (layC (layN A n)) 9 = _
  rw [h, putG_nil (layN_shp D.shp n)]
theorem layN_at {A : Grid} (S : Shp A) (t : Nat) {c : Cell} (hc : inG A c = true) : (atG (layN A t) c = 9 ∧ ∃ n, n < t ∧ Lst A n c) ∨ (atG (layN A t) c = atG A c ∧ ∀ n < t, ¬ Lst A n c) := by
  induction t with
  | zero => exact .inr ⟨rfl, fun n hn => absurd hn (Nat.not_lt_zero n)⟩
  | succ t ih =>
    have hl := (layOk S t).lay S c
    have hin : inG (layN A t) c = true := by rw [alike_in (layN_alike S t)]; exact hc
    have e : atG (layN A (t + 1)) c = if c ∈ layC (layN A t) then 9 else atG (layN A t) c := putG_at hin
    by_cases z : c ∈ layC (layN A t)
    · rw [if_pos z] at e
      exact .inl ⟨e, t, Nat.lt_succ_self t, hl.mp z⟩
    · rw [if_neg z] at e
      rcases ih with ⟨h1, n, h2, h3⟩ | ⟨h1, h2⟩
      · exact .inl ⟨e.trans h1, n, by omega, h3⟩
      · refine .inr ⟨e.trans h1, fun n hn => ?_⟩
        by_cases y : n = t
        · rw [y]; exact fun k => z (hl.mpr k)
        · exact h2 n (by omega)
theorem mem_laidL {A : Grid} (D : DrawnOk A) {t : Nat} {c : Cell} : c ∈ LaidL A t ↔ inG A c = true ∧ ∃ n, n < t ∧ Lst A n c := by
  unfold LaidL
  rw [List.mem_filter, mem_allC, decide_eq_true_eq]
  refine and_congr_right fun hc => ?_
  rcases layN_at D.shp t hc with ⟨h1, h2⟩ | ⟨h1, h2⟩
  · exact ⟨fun _ => h2, fun _ => h1⟩
  · have := D.two c hc
    exact ⟨fun h => by omega, fun ⟨n, hn, hl⟩ => absurd hl (h2 n hn)⟩
theorem opn_eq {A B : Grid} (e : setC A (Opn A) = setC B (Opn B)) (c : Cell) : Opn A c ↔ Opn B c := by
  have h := mem_setC (g := A) (p := Opn A) (c := c)
  rw [e, mem_setC] at h
  exact ⟨fun o => (h.mpr ⟨air_in (opn_air o), o⟩).2, fun o => (h.mp ⟨air_in (opn_air o), o⟩).2⟩
theorem ball_same {A B : Grid} (hAB : AlikeS B A) (o : ∀ c, Opn A c ↔ Opn B c) : ∀ n c, Opn A c → (Ball A n c ↔ Ball B n c) := by
  intro n
  induction n with
  | zero => intro c _; exact Iff.rfl
  | succ n ih =>
    intro c hc
    have hcA := opn_air hc
    have hcB := opn_air ((o c).mp hc)
    have nb : ∀ d, d ∈ near A c → (d ∈ airC A ↔ d ∈ airC B) := fun d hd => by
      constructor
      · intro h
        exact opn_air ((o d).mp (.step hc (near_around hd) h))
      · intro h
        exact opn_air ((o d).mpr (.step ((o c).mp hc) (near_around hd) h))
    show (c ∈ airC A ∧ (nearSt A c = true ∨ ∃ d ∈ near A c, Ball A n d)) ↔ (c ∈ airC B ∧ (nearSt B c = true ∨ ∃ d ∈ near B c, Ball B n d))
    rw [nearSt_iff, nearSt_iff, near_alike hAB]
    refine ⟨fun h => ⟨hcB, ?_⟩, fun h => ⟨hcA, ?_⟩⟩
    · rcases h.2 with (h | ⟨d, h1, h2⟩) | ⟨d, h1, h2⟩
      · exact .inl (.inl h)
      · exact .inl (.inr ⟨d, h1, fun z => h2 ((nb d h1).mpr z)⟩)
      · exact .inr ⟨d, h1, (ih d (.step hc (near_around h1) h2.air)).mp h2⟩
    · rcases h.2 with (h | ⟨d, h1, h2⟩) | ⟨d, h1, h2⟩
      · exact .inl (.inl h)
      · exact .inl (.inr ⟨d, h1, fun z => h2 ((nb d h1).mp z)⟩)
      · exact .inr ⟨d, h1, (ih d (.step hc (near_around h1) ((nb d h1).mpr h2.air))).mpr h2⟩
theorem oe_same {A B : Grid} (hAB : AlikeS B A) (o : ∀ c, Opn A c ↔ Opn B c) (n : Nat) {c : Cell} (h : OE A n c) : OE B n c := by
  have mv : ∀ x, OE A n x → x ∈ er B n := fun x hx => by
    have hox := oe_zero.mp (hx.le (Nat.zero_le n))
    have hx' := mem_er.mp hx.er
    exact mem_er.mpr ⟨opn_air ((o x).mp hox), fun z => hx'.2 ((ball_same hAB o n x hox).mpr z)⟩
  have h' : Rch (er A n) ((er A n).filter (isTop A)) c := h
  induction h' with
  | @base c hc =>
    obtain ⟨h1, h2⟩ := List.mem_filter.mp hc
    rw [← isTop_alike hAB] at h2
    exact .base (List.mem_filter.mpr ⟨mv c (.base hc), h2⟩)
  | @step c d h1 h2 h3 ih => exact (ih h1).stp h2 (mv d (.step h1 h2 h3))
theorem mem_laid1 {A : Grid} (D : DrawnOk A) {c : Cell} : c ∈ LaidL A 1 ↔ Lay1 A c := by
  unfold LaidL
  rw [List.mem_filter, mem_allC, decide_eq_true_eq]
  show inG A c = true ∧ atG (putG A (layC A) 9) c = 9 ↔ _
  constructor
  · rintro ⟨h1, h2⟩
    rw [putG_at h1] at h2
    split at h2
    · rename_i hm; exact mem_layC.mp hm
    · have := D.two c h1
      omega
  · intro h
    have h1 := air_in (opn_air h.1)
    exact ⟨h1, by rw [putG_at h1, if_pos (mem_layC.mpr h)]⟩
theorem open_sub {A B : Grid} (DA : DrawnOk A) (DB : DrawnOk B) (h : AlikeS B A) (e : ∀ c, Lay1 A c → Lay1 B c) {c : Cell} (hc : Opn A c) : Opn B c := by
  have nb : ∀ c, Opn A c → ¬ Opn B c → c.2 ≠ 0 ∧ ∀ d ∈ near A c, Opn A d := fun c h1 h2 => by
    have hn : nearSt A c ≠ true := fun z => h2 (e c ⟨h1, z⟩).1
    rw [Ne, nearSt_iff] at hn
    refine ⟨fun z => hn (.inl z), fun d hd => ?_⟩
    by_cases y : d ∈ airC A
    · exact .step h1 (near_around hd) y
    · exact absurd (.inr ⟨d, hd, y⟩) hn
  -- no held stuff of B lies in what is open in A alone
  have no : ∀ s, HeldC B s → ¬ (Opn A s ∧ ¬ Opn B s) := by
    intro s hs
    have hs' : Rch (kindC B false) ((kindC B false).filter fun c => decide (c.2 = 0)) s := hs
    induction hs' with
    | @base c hc =>
      rintro ⟨h1, h2⟩
      exact (nb c h1 h2).1 (of_decide_eq_true (List.mem_filter.mp hc).2)
    | @step c d h1 h2 h3 ih =>
      rintro ⟨k1, k2⟩
      have hck := kind_false.mp (heldC_kind (show HeldC B c from h1))
      have hc : c ∈ near A d := List.mem_filter.mpr ⟨around_symm h2, by rw [← alike_in h]; exact hck.1⟩
      exact ih h1 ⟨(nb d k1 k2).2 c hc, fun z => hck.2 (mem_airC.mp (opn_air z)).2⟩
  have down : ∀ (n : Nat) (c : Cell), c.2 = n → Opn A c → ¬ Opn B c → False := by
    intro n
    induction n with
    | zero => intro c hn h1 h2; exact (nb c h1 h2).1 hn
    | succ n ih =>
      intro c hn h1 h2
      have hi := inG_iff.mp (air_in (opn_air h1))
      have hd : (c.1, c.2 - 1) ∈ near A c := List.mem_filter.mpr ⟨by simp [around], inG_iff.mpr (by show (0 ≤ c.1 ∧ c.1 < _) ∧ 0 ≤ c.2 - 1 ∧ c.2 - 1 < _; omega)⟩
      have od := (nb c h1 h2).2 _ hd
      by_cases z : Opn B (c.1, c.2 - 1)
      · have hcB : c ∉ airC B := fun y => h2 (.step z (around_symm (near_around hd)) y)
        have hin : inG B c = true := by rw [alike_in h]; exact air_in (opn_air h1)
        exact no c (DB.held c (kind_false.mpr ⟨hin, fun y => hcB (mem_airC.mpr ⟨hin, y⟩)⟩)) ⟨h1, h2⟩
      · exact ih (c.1, c.2 - 1) (by show c.2 - 1 = _; omega) od z
  have hi := inG_iff.mp (air_in (opn_air hc))
  by_cases z : Opn B c
  · exact z
  · exact (down c.2.toNat c (by omega) hc z).elim
theorem open_of_laid {A B : Grid} (DA : DrawnOk A) (DB : DrawnOk B) (h : AlikeS B A) (e : LaidL A 1 = LaidL B 1) : setC A (Opn A) = setC B (Opn B) := by
  have k : ∀ c, Lay1 A c ↔ Lay1 B c := fun c => by rw [← mem_laid1 DA, ← mem_laid1 DB, e]
  have h' : AlikeS A B := ⟨h.1.symm, h.2.symm⟩
  have ea : allC A = allC B := by unfold allC; rw [h.1, h.2]
  have o : Opn A = Opn B := by
    funext c
    exact propext ⟨open_sub DA DB h fun c => (k c).mp, open_sub DB DA h' fun c => (k c).mpr⟩
  unfold setC
  rw [ea, o]
theorem laid_of_open {A B : Grid} (DA : DrawnOk A) (DB : DrawnOk B) (h : AlikeS B A) (e : setC A (Opn A) = setC B (Opn B)) (n : Nat) : LaidL A n = LaidL B n := by
  have o := opn_eq e
  have h' : AlikeS A B := ⟨h.1.symm, h.2.symm⟩
  have one : ∀ {A B : Grid}, AlikeS B A → (∀ c, Opn A c ↔ Opn B c) → ∀ m c, Lst A m c → Lst B m c := fun {A B} h o m c hl => ⟨oe_same h o m hl.1, (ball_same h o (m + 1) c (oe_zero.mp (hl.1.le (Nat.zero_le m)))).mp hl.2⟩
  have key : ∀ c, c ∈ LaidL A n ↔ c ∈ LaidL B n := fun c => by
    rw [mem_laidL DA, mem_laidL DB, alike_in h]
    exact and_congr_right fun _ => ⟨fun ⟨m, h1, h2⟩ => ⟨m, h1, one h o m c h2⟩, fun ⟨m, h1, h2⟩ => ⟨m, h1, one h' (fun c => (o c).symm) m c h2⟩⟩
  unfold LaidL at key ⊢
  have ea : allC A = allC B := by unfold allC; rw [h.1, h.2]
  rw [ea] at key ⊢
  refine List.filter_congr fun c hc => ?_
  have k := key c
  rw [List.mem_filter, List.mem_filter, decide_eq_true_eq, decide_eq_true_eq] at k
  by_cases z : atG (layN A n) c = 9
  · rw [decide_eq_true z, decide_eq_true (k.mp ⟨hc, z⟩).2]
  · rw [decide_eq_false z, decide_eq_false fun y => z (k.mpr ⟨hc, y⟩).2]
theorem hol_ex (g : Grid) (S : Shp g) : ∃ hs, HlOk g hs := by
  have key : ∀ i, i ≤ (allC g).length → ∃ ks hs, HlI g ks hs i := by
    intro i
    induction i with
    | zero => intro _; exact ⟨_, _, .start g⟩
    | succ i ih =>
      intro hi
      obtain ⟨ks, hs, h⟩ := ih (by omega)
      have hc : (allC g)[i]? = some (allC g)[i] := List.getElem?_eq_getElem hi
      by_cases z : (allC g)[i] ∈ airC g ∧ (allC g)[i] ∉ ks
      · exact ⟨_, _, h.add hc z.1 z.2⟩
      · refine ⟨_, _, h.skip hc fun ha => ?_⟩
        by_cases y : (allC g)[i] ∈ ks
        · exact y
        · exact absurd ⟨ha, y⟩ z
  obtain ⟨ks, hs, h⟩ := key _ (Nat.le_refl _)
  exact ⟨hs, h.ok S⟩
theorem rch_seed {A F : List Cell} {c : Cell} (h : Rch A F c) : ∃ f ∈ F, Rch A [f] c := by
  induction h with
  | @base c h => exact ⟨c, h, .base (by simp)⟩
  | step _ h1 h2 ih =>
    obtain ⟨f, hf, r⟩ := ih
    exact ⟨f, hf, .step r h1 h2⟩
theorem OE.rch {A : Grid} {n : Nat} {c d : Cell} (h : OE A n c) (r : Rch (DL.er A n) [c] d) : OE A n d := r.trans fun x hx => by rw [single hx]; exact h
theorem OE.back {A : Grid} {n : Nat} {c d : Cell} (hc : c ∈ DL.er A n) (h : OE A n d) (r : Rch (DL.er A n) [c] d) : OE A n c := h.rch (r.symm1 hc)
/-- a cell whose way out is first shut at n -/
structure At (A : Grid) (n : Nat) (s : Cell) : Prop where
  er : s ∈ DL.er A n
  no : ¬ OE A n s
  pr : n = 0 ∨ OE A (n - 1) s
theorem at_air {A : Grid} (S : Shp A) {n t : Nat} (hn : n ≤ t) {s : Cell} (h : s ∈ er A n) (no : ¬ OE A n s) : s ∈ airC (layN A t) := by
  refine ((layOk S t).air s).mpr ⟨(mem_er.mp h).1, fun m hm hl => ?_⟩
  by_cases z : n ≤ m
  · exact no (hl.1.le z)
  · exact (mem_er.mp h).2 (hl.2.le (by omega))
theorem at_comp {A : Grid} (S : Shp A) {n t : Nat} (hn : n ≤ t) {s : Cell} (h : At A n s) (d : Cell) : Rch (airC (layN A t)) [s] d ↔ Rch (er A n) [s] d := by
  constructor
  · intro r
    induction r with
    | base h => exact .base h
    | @step c d h1 h2 h3 ih =>
      have hc : c ∈ er A n := ih.inA fun x hx => single hx ▸ h.er
      have hd := ((layOk S t).air d).mp h3
      refine .step ih h2 (mem_er.mpr ⟨hd.1, fun hb => ?_⟩)
      cases n with
      | zero => exact hb.elim
      | succ n =>
        have hoc : OE A n c := by
          have hp : OE A n s := h.pr.resolve_left (by omega)
          exact hp.rch (ih.mono (fun x hx => er_succ hx) fun _ h => h)
        by_cases z : Ball A n d
        · exact (mem_er.mp hc).2 ⟨(mem_er.mp hc).1, .inr ⟨d, List.mem_filter.mpr ⟨h2, air_in hd.1⟩, z⟩⟩
        · exact hd.2 n (by omega) ⟨hoc.stp h2 (mem_er.mpr ⟨hd.1, z⟩), hb⟩
  · intro r
    induction r with
    | base h => exact .base h
    | @step c d h1 h2 h3 ih => exact .step ih h2 (at_air S hn h3 fun o => h.no (o.back h.er (.step h1 h2 h3)))
theorem at_ex {A : Grid} {t : Nat} {s : Cell} (hs : ∀ n < t, ¬ Lst A n s) (ha : s ∈ airC A) (no : ¬ OE A t s) : ∃ n, n ≤ t ∧ At A n s := by
  induction t with
  | zero => exact ⟨0, Nat.le_refl _, ⟨er_zero.mpr ha, no, .inl rfl⟩⟩
  | succ t ih =>
    by_cases z : OE A t s
    · exact ⟨t + 1, Nat.le_refl _, ⟨mem_er.mpr ⟨ha, fun hb => hs t (Nat.lt_succ_self t) ⟨z, hb⟩⟩, no, .inr z⟩⟩
    · obtain ⟨n, h1, h2⟩ := ih (fun n hn => hs n (by omega)) z
      exact ⟨n, by omega, h2⟩
theorem setC_alike {A B : Grid} (h : AlikeS A B) (p : Cell → Prop) : setC A p = setC B p := by
  unfold setC
  have : allC A = allC B := by unfold allC; rw [h.1, h.2]
  rw [this]
theorem ch_at {A : Grid} {n : Nat} {Q : List Cell} : IsCh A n Q ↔ ∃ s, At A n s ∧ Q = setC A (Rch (er A n) [s]) := by
  constructor
  · rintro ⟨⟨s, hs, rfl⟩, h2, h3⟩
    refine ⟨s, ⟨hs, fun o => ?_, ?_⟩, rfl⟩
    · obtain ⟨f, hf, r⟩ := rch_seed o
      obtain ⟨f1, f2⟩ := List.mem_filter.mp hf
      have := h2 f (mem_setC.mpr ⟨er_in f1, r.symm1 f1⟩)
      rw [this] at f2
      cases f2
    · rcases h3 with h | ⟨c, hc, t, t1, t2, r⟩
      · exact .inl h
      · refine .inr ?_
        have rc := (mem_setC.mp hc).2
        have hc' : c ∈ er A (n - 1) := er_le (Nat.sub_le _ _) (rc.inA fun x hx => single hx ▸ hs)
        have ht : t ∈ er A (n - 1) := r.inA fun x hx => single hx ▸ hc'
        have ot : OE A (n - 1) t := .base (List.mem_filter.mpr ⟨ht, t1⟩)
        exact (ot.back hc' r).back (er_le (Nat.sub_le _ _) hs) (rc.mono (fun x hx => er_le (Nat.sub_le _ _) hx) fun _ h => h)
  · rintro ⟨s, h, rfl⟩
    refine ⟨⟨s, h.er, rfl⟩, fun c hc => ?_, ?_⟩
    · have rc := (mem_setC.mp hc).2
      have hc' := rc.inA fun x hx => single hx ▸ h.er
      cases z : isTop A c with
      | false => rfl
      | true => exact absurd ((show OE A n c from .base (List.mem_filter.mpr ⟨hc', z⟩)).back h.er rc) h.no
    · rcases h.pr with z | z
      · exact .inl z
      · obtain ⟨f, hf, r⟩ := rch_seed z
        obtain ⟨f1, f2⟩ := List.mem_filter.mp hf
        exact .inr ⟨s, mem_setC.mpr ⟨er_in h.er, .base (by simp)⟩, f, f2, er_in f1, r.symm1 f1⟩
theorem hol_iff {A : Grid} (S : Shp A) (t : Nat) (Q : List Cell) : IsHol (layN A t) Q ↔ ∃ n, n ≤ t ∧ IsCh A n Q := by
  have L := layOk S t
  constructor
  · rintro ⟨s, h1, h2, rfl⟩
    have ha := (L.air s).mp h1
    obtain ⟨n, hn, h⟩ := at_ex ha.2 ha.1 fun o => h2 ((L.opn s).mpr o)
    refine ⟨n, hn, ch_at.mpr ⟨s, h, ?_⟩⟩
    rw [setC_alike (layN_alike S t)]
    exact setC_ext fun c _ => at_comp S hn h c
  · rintro ⟨n, hn, h⟩
    obtain ⟨s, hs, rfl⟩ := ch_at.mp h
    refine ⟨s, at_air S hn hs.er hs.no, fun o => hs.no (((L.opn s).mp o).le hn), ?_⟩
    rw [setC_alike (layN_alike S t)]
    exact setC_ext fun c _ => (at_comp S hn hs c).symm
theorem ch_inj {A : Grid} {n m : Nat} {Q : List Cell} (h1 : IsCh A n Q) (h2 : IsCh A m Q) : n = m := by
  have one : ∀ {n m : Nat}, IsCh A n Q → IsCh A m Q → ¬ n < m := fun {n m} h1 h2 hlt => by
    obtain ⟨s, hs, e1⟩ := ch_at.mp h1
    obtain ⟨u, hu, e2⟩ := ch_at.mp h2
    have hu' : u ∈ Q := by rw [e2]; exact mem_setC.mpr ⟨er_in hu.er, .base (by simp)⟩
    rw [e1] at hu'
    have r := (mem_setC.mp hu').2
    have ou : OE A (m - 1) u := hu.pr.resolve_left (by omega)
    exact hs.no ((ou.le (by omega)).back hs.er r)
  rcases Nat.lt_trichotomy n m with z | z | z
  · exact absurd z (one h1 h2)
  · exact z
  · exact absurd z (one h2 h1)
theorem hol_ch {A : Grid} (D : DrawnOk A) {chs : List (Nat × List Cell)} (O : ChOk A chs) (t : Nat) : holN (layN A t) = cntLe (chs.map (·.1)) t := by
  obtain ⟨hs, Oh⟩ := hol_ex (layN A t) (layN_shp D.shp t)
  rw [← holN_eq Oh]
  have e : cntLe (chs.map (·.1)) t = ((chs.filter fun p => decide (p.1 ≤ t)).map (·.2)).length := by
    unfold cntLe
    rw [List.filter_map, List.length_map, List.length_map]
    rfl
  rw [e]
  refine nodup_ext_len Oh.nd ?_ fun Q => ?_
  · rw [List.Nodup, List.pairwise_map]
    refine List.Pairwise.imp_of_mem (fun {p q} hp hq hne e => hne ?_) (O.nd.filter _)
    have h1 := (O.mm p.1 p.2).mp (List.mem_filter.mp hp).1
    have h2 := (O.mm q.1 q.2).mp (List.mem_filter.mp hq).1
    rw [e] at h1
    exact Prod.ext (ch_inj h1 h2) e
  · rw [Oh.mm, hol_iff D.shp, List.mem_map]
    constructor
    · rintro ⟨n, hn, h⟩
      exact ⟨(n, Q), List.mem_filter.mpr ⟨(O.mm n Q).mpr h, decide_eq_true hn⟩, rfl⟩
    · rintro ⟨⟨n, Q'⟩, hp, rfl⟩
      obtain ⟨h1, h2⟩ := List.mem_filter.mp hp
      exact ⟨n, of_decide_eq_true h2, (O.mm n Q').mp h1⟩
end DL
set_option maxHeartbeats 1000000
namespace DL
open PySem PySem.Spec PyProof.Rows L2
theorem is_heap_out {H : Hp} {p : Addr} {v : V} {g : Grid} (h : Is H v (dHeap false g)) (hp : Mu (H p)) : Is (out H [p]) v (dHeap false g) := by
  have tup : ∀ {a : Addr} {xs : List V}, H a = some (.tup xs) → a ∉ [p] := fun {a xs} ha z => by
    rw [show a = p by simpa using z] at ha
    rw [ha] at hp
    exact hp
  have hints : ∀ (ns : List Int) (xs : List V), IsAll H xs (ns.map Dt.int) → IsAll (out H [p]) xs (ns.map Dt.int) := by
    intro ns
    induction ns with
    | nil => intro xs h; cases h; exact .nil
    | cons n r ih => intro xs h; cases h with
      | cons a t => rw [is_int a]; exact .cons (.int n) (ih _ t)
  obtain ⟨a, xs, rfl, h1, h2⟩ := is_tup h
  refine .tup (out_of h1 (tup h1)) ?_
  have cols : ∀ (g : Grid) (xs : List V), IsAll H xs (g.map fun c => Dt.seq false (c.map .int)) → IsAll (out H [p]) xs (g.map fun c => Dt.seq false (c.map .int)) := by
    intro g
    induction g with
    | nil => intro xs h; cases h; exact .nil
    | cons c r ih => intro xs h; cases h with
      | cons a t =>
        obtain ⟨b, ys, rfl, b1, b2⟩ := is_tup a
        exact .cons (.tup (out_of b1 (tup b1)) (hints c ys b2)) (ih _ t)
  exact cols g xs h2
theorem allC_alike {g h : Grid} (A : AlikeS g h) : allC g = allC h := by unfold allC; rw [A.1, A.2]
theorem symL_comm {A B : Grid} (h : AlikeS B A) : symL B A = symL A B := by
  unfold symL setC
  rw [allC_alike h]
  congr 1
  refine List.filter_congr fun c _ => ?_
  congr 1
  exact propext or_comm
def LA (A : Grid) (L : Nat → Grid) (k : Nat) : List Grid := (List.range (k + 1)).map L
theorem L_get {A : Grid} (D : DrawnOk A) {k : Nat} (hk : k = 9 ∨ layN A (k + 1) = layN A k) (n : Nat) : ((List.range (k + 1)).map (layN A)).getD (min n (((List.range (k + 1)).map (layN A)).length - 1)) [] = layN A n := by
  rw [List.length_map, List.length_range, List.getD_eq_getElem?_getD, List.getElem?_map, List.getElem?_range (by omega)]
  show layN A (min n (k + 1 - 1)) = _
  by_cases z : n ≤ k
  · rw [Nat.min_eq_left (by omega)]
  · rw [Nat.min_eq_right (by omega)]
    have key : ∀ m, layN A (k + m) = layN A k := by
      intro m
      induction m with
      | zero => rfl
      | succ m ih =>
        rcases hk with e | e
        · rw [show k + (m + 1) = k + m + 1 by omega, layN_stab D (by omega), ih]
        · show layG (layN A (k + m)) = _
          rw [ih]
          exact e
    have := key (n - k)
    rw [show k + (n - k) = n by omega] at this
    exact this.symm
theorem laid_eq {A : Grid} (D : DrawnOk A) {k : Nat} (hk : k = 9 ∨ layN A (k + 1) = layN A k) (n : Nat) :
    ((allC (((List.range (k + 1)).map (layN A)).getD (min n (((List.range (k + 1)).map (layN A)).length - 1)) [])).filter fun c => decide (atG (((List.range (k + 1)).map (layN A)).getD (min n (((List.range (k + 1)).map (layN A)).length - 1)) []) c = 9)) = LaidL A n := by
  rw [L_get D hk, allC_alike (layN_alike D.shp n)]
  rfl
noncomputable def firstL (A B : Grid) (m : Nat) : List Nat := (List.range m).filter fun n => !decide (holN (layN A n) = holN (layN B n))
theorem find_range {p : Nat → Bool} {N M : Nat} (hN : ∀ r, N ≤ r → p r = true → ∃ r', r' < N ∧ p r' = true) (hM : ∀ r, M ≤ r → p r = true → ∃ r', r' < M ∧ p r' = true) : (List.range N).find? p = (List.range M).find? p := by
  cases e : (List.range N).find? p with
  | none =>
    rw [List.find?_range_eq_none] at e
    symm
    rw [List.find?_range_eq_none]
    intro j hj
    by_cases z : j < N
    · exact e j z
    · cases y : p j with
      | false => rfl
      | true =>
        obtain ⟨r', h1, h2⟩ := hN j (by omega) y
        have := e r' h1
        rw [h2] at this
        cases this
  | some r =>
    rw [List.find?_range_eq_some] at e
    obtain ⟨h1, h2, h3⟩ := e
    symm
    rw [List.find?_range_eq_some]
    refine ⟨h1, ?_, h3⟩
    rw [List.mem_range]
    by_cases z : r < M
    · exact z
    · obtain ⟨r', k1, k2⟩ := hM r (by omega) h1
      have := h3 r' (by omega)
      rw [k2] at this
      cases this
theorem cnt_far {l : List Nat} {r s : Nat} (h1 : mxN l ≤ r) (h2 : mxN l ≤ s) : cntLe l r = cntLe l s := by
  unfold cntLe
  congr 1
  refine List.filter_congr fun n hn => ?_
  have := mxN_le hn
  rw [decide_eq_true (show n ≤ r by omega), decide_eq_true (show n ≤ s by omega)]
theorem row_get (l : List Nat) (r : Nat) : (rowOf l).getD (min r ((rowOf l).length - 1)) 0 = cntLe l r := by
  have hl : (rowOf l).length = mxN l + 1 := by unfold rowOf; rw [List.length_map, List.length_range]
  rw [hl]
  unfold rowOf
  rw [List.getD_eq_getElem?_getD, List.getElem?_map, List.getElem?_range (by omega)]
  show cntLe l (min r (mxN l + 1 - 1)) = _
  by_cases z : r ≤ mxN l
  · rw [Nat.min_eq_left (by omega)]
  · rw [Nat.min_eq_right (by omega)]
    exact cnt_far (by omega) (by omega)
theorem stab_k {A : Grid} (D : DrawnOk A) {k : Nat} (hk : k = 9 ∨ layN A (k + 1) = layN A k) {n : Nat} (hn : k ≤ n) : layN A n = layN A k := by
  have key : ∀ m, layN A (k + m) = layN A k := by
    intro m
    induction m with
    | zero => rfl
    | succ m ih =>
      rcases hk with e | e
      · rw [show k + (m + 1) = k + m + 1 by omega, layN_stab D (by omega), ih]
      · show layG (layN A (k + m)) = _
        rw [ih]
        exact e
  have := key (n - k)
  rw [show k + (n - k) = n by omega] at this
  exact this
theorem least_eq {A B : Grid} (DA : DrawnOk A) (DB : DrawnOk B) {a b : List (Nat × List Cell)} (Oa : ChOk A a) (Ob : ChOk B b) {kA kB : Nat} (hA : kA = 9 ∨ layN A (kA + 1) = layN A kA) (hB : kB = 9 ∨ layN B (kB + 1) = layN B kB) :
    leastU (rowOf (a.map (·.1))) (rowOf (b.map (·.1))) = (firstL A B (max kA kB + 2)).head? := by
  have e1 : leastU (rowOf (a.map (·.1))) (rowOf (b.map (·.1))) = (List.range (max (rowOf (a.map (·.1))).length (rowOf (b.map (·.1))).length)).find? fun n => !decide (holN (layN A n) = holN (layN B n)) := by
    unfold leastU
    congr 1
    funext r
    rw [row_get, row_get, hol_ch DA Oa, hol_ch DB Ob]
  unfold firstL
  rw [e1, List.head?_filter]
  have hla : (rowOf (a.map (·.1))).length = mxN (a.map (·.1)) + 1 := by unfold rowOf; rw [List.length_map, List.length_range]
  have hlb : (rowOf (b.map (·.1))).length = mxN (b.map (·.1)) + 1 := by unfold rowOf; rw [List.length_map, List.length_range]
  refine find_range (fun r hr hp => ⟨max (mxN (a.map (·.1))) (mxN (b.map (·.1))), by rw [hla, hlb]; omega, ?_⟩) (fun r hr hp => ⟨max kA kB, by omega, ?_⟩)
  · rw [hla, hlb] at hr
    rw [hol_ch DA Oa, hol_ch DB Ob] at hp ⊢
    rw [cnt_far (l := a.map (·.1)) (r := max (mxN (a.map (·.1))) (mxN (b.map (·.1)))) (s := r) (by omega) (by omega), cnt_far (l := b.map (·.1)) (r := max (mxN (a.map (·.1))) (mxN (b.map (·.1)))) (s := r) (by omega) (by omega)]
    exact hp
  · rw [stab_k DA hA (n := max kA kB) (by omega), stab_k DB hB (n := max kA kB) (by omega)]
    rw [stab_k DA hA (n := r) (by omega), stab_k DB hB (n := r) (by omega)] at hp
    exact hp
theorem gw_rangeN {ρ : List Sl} {ta : TE} {m : Nat} (h : GD ta ρ (.int (m : Nat))) (hm : m ≤ 1000) : GW (iRng1 (tCons ta tNil)) ρ ((List.range m).map fun n => Dt.int (n : Nat)) :=
  GW.cast (gw_range1 (j := (m : Nat)) h (by omega) (by omega)) (by
    rw [Int.toNat_natCast]
    exact List.map_congr_left fun n _ => by rw [Int.zero_add])
theorem gd_hd {ρ : List Sl} {K : PySem.W.Frag} {i : Nat} {cs : List Cell} (h : ρ[i]? = some (.im (dCells true cs))) : GD (tIf (tTest (tOp (rNeD K) (tVar i) (tLst tNil))) (tOp (rIx K) (tVar i) (tC (.int 0))) (tC .non)) ρ (dHd cs) := by
  refine GE.gd (φ := fun d => d = dHd cs) ?_ fun _ e => e
  cases cs with
  | nil => exact ge_ifE (b := false) (gt_test ((gd_neNil (GD.gl (gd_var h)) (plain_cells true [])).cast rfl)) (fun z => by cases z) fun _ => gd_non.ge rfl
  | cons c r => exact ge_ifE (b := true) (gt_test ((gd_neNil (GD.gl (gd_var h)) (plain_cells true (c :: r))).cast rfl)) (fun _ => (gd_ix (l := true) (ds := (c :: r).map dCell) (gd_var h) gd_int (atI_nat (j := 0) rfl)).ge rfl) fun z => by cases z
theorem plain_nats (ns : List Nat) : plainD (.seq true (ns.map fun n => Dt.int (n : Nat))) := plain_seq true (fun n : Nat => Dt.int (n : Nat)) ns 0 (fun _ => rfl) (fun _ => by simp [py, PyData.canLay0]) (fun _ => by simp [py, PyData.depth]) (by decide)
theorem gd_hdN {ρ : List Sl} {K : PySem.W.Frag} {i : Nat} {ns : List Nat} (h : ρ[i]? = some (.im (.seq true (ns.map fun n => Dt.int (n : Nat))))) : GD (tIf (tTest (tOp (rNeD K) (tVar i) (tLst tNil))) (tOp (rIx K) (tVar i) (tC (.int 0))) (tC .non)) ρ (dOptN ns.head?) := by
  refine GE.gd (φ := fun d => d = dOptN ns.head?) ?_ fun _ e => e
  cases ns with
  | nil => exact ge_ifE (b := false) (gt_test ((gd_neNil (GD.gl (gd_var h)) (plain_nats [])).cast rfl)) (fun z => by cases z) fun _ => gd_non.ge rfl
  | cons c r => exact ge_ifE (b := true) (gt_test ((gd_neNil (GD.gl (gd_var h)) (plain_nats (c :: r))).cast rfl)) (fun _ => (gd_ix (l := true) (ds := (c :: r).map fun n => Dt.int (n : Nat)) (gd_var h) gd_int (atI_nat (j := 0) rfl)).ge rfl) fun z => by cases z
theorem gd_lenH {ρ : List Sl} {K : PySem.W.Frag} {te : TE} {g : Grid} (h : GE te ρ (fun d => ∃ hs, d = .seq true (hs.map (dCells false)) ∧ HlOk g hs)) : GD (tCB (rLenQ K) (tCons te tNil)) ρ (.int (holN g : Nat)) := fun ps bs σ H E Q q =>
  h ps bs σ H E _ fun v H1 d s1 h1 ⟨hs, e, O⟩ => by
    subst e
    obtain ⟨a, xs, rfl, e1, e2⟩ := is_lst h1
    refine ⟨a, xs, rfl, .inl (SqL.of (out_some e1).1), ?_⟩
    rw [e2.length, List.length_map, holN_eq O]
    exact q _ H1 s1 (.int _)
theorem atI_lay {A : Grid} (D : DrawnOk A) {k : Nat} (hk : k = 9 ∨ layN A (k + 1) = layN A k) (n : Nat) :
    atI (((List.range (k + 1)).map (layN A)).map (dHeap false)) (if ((((List.range (k + 1)).map (layN A)).length : Nat) : Int) - 1 < (n : Nat) then ((((List.range (k + 1)).map (layN A)).length : Nat) : Int) - 1 else (n : Nat)) = some (dHeap false (layN A n)) := by
  have hl : ((List.range (k + 1)).map (layN A)).length = k + 1 := by rw [List.length_map, List.length_range]
  have e : (if ((((List.range (k + 1)).map (layN A)).length : Nat) : Int) - 1 < (n : Nat) then ((((List.range (k + 1)).map (layN A)).length : Nat) : Int) - 1 else (n : Nat)) = ((min n (((List.range (k + 1)).map (layN A)).length - 1) : Nat) : Int) := by rw [hl]; split <;> omega
  rw [e]
  have := L_get D hk n
  have hlt : min n (((List.range (k + 1)).map (layN A)).length - 1) < ((List.range (k + 1)).map (layN A)).length := by omega
  rw [List.getD_eq_getElem?_getD, List.getElem?_eq_getElem hlt] at this
  exact atI_nat (by rw [List.getElem?_map, List.getElem?_eq_getElem hlt]; exact congrArg some (congrArg (dHeap false) this))
theorem list_ne {α : Type} {k : Nat} {L : Nat → α} : (List.range (k + 1)).map L ≠ [] := fun z => by
  have := congrArg List.length z
  rw [List.length_map, List.length_range] at this
  cases this
def spRight : Sp := fun vs H Q E => ∃ (p : Addr) (N : Nat), vs = [.ref p] ∧ TinAt H p N ∧ N + 500 ≤ 1000000 ∧ ∀ H', Q (.bl true) H'
section
variable {P : Program} {w : World} {K : PySem.W.Frag} {mg : Str → Option Value} {base : Heap}
theorem ca__law_right (T : Top K mg) : Ca P w K mg base 12 "_law_right" spRight := by
  have sc := sc__law_right
  refine ca_ofR T.f__law_right (fun _ _ _ _ _ _ us hl => match us, hl with | [_], _ => rfl) sc (fun vs H Q E h => by obtain ⟨_, _, e, _⟩ := h; rw [e]; rfl) fun f cdv A outer s H E hr => ⟨_, (pss_cons (ps_set (i := 1) sc.nd rfl (Or.inl rfl) (pe_ca (ca__law_ground T) hr (by decide) (by rfl) (pa_cons (pv 0) pa_nil)))
    (pss_cons (ps_set (i := 2) sc.nd rfl (Or.inl rfl) (pe_ca (ca__law_near T) hr (by decide) (by rfl) (pa_cons (pv 0) (pa_cons (pv 1) pa_nil))))
    (pss_cons (ps_asg (pe_tup (pa_cons (pe_ca (ca__law_layers T) hr (by decide) (by rfl) (pa_cons (pv 1) (pa_cons pe_int pa_nil))) (pa_cons (pe_ca (ca__law_layers T) hr (by decide) (by rfl) (pa_cons (pv 2) (pa_cons pe_int pa_nil))) pa_nil))) (pg_tupK (K := K) (n := 2) rfl rfl (pgs_cons (pg_name (i := 3) sc.nd rfl (Or.inr rfl)) (pgs_cons (pg_name (i := 4) sc.nd rfl (Or.inr rfl)) pgs_nil))))
    (pss_cons (ps_set (i := 5) sc.nd rfl (Or.inl rfl) (pe_op op_add (pe_callB (call_max2Q rfl) (by rfl) T.b_max (by decide +kernel) (pa_cons (pe_callB (call_lenK (K := K) rfl) (by rfl) T.b_len (by decide +kernel) (pa_cons (pv 3) pa_nil)) (pa_cons (pe_callB (call_lenK (K := K) rfl) (by rfl) T.b_len (by decide +kernel) (pa_cons (pv 4) pa_nil)) pa_nil))) pe_int))
    (pss_cons (ps_setLc (i := 6) (own := [("_law_n", 11)]) rfl sc.nd rfl rfl (sw_true rfl rfl rfl (by decide +kernel)) (pi_range1 (by rfl) T.b_range (pa_cons (pv 5) pa_nil)) (blkOk_by (own := [("_law_n", 11)]) (N := N__law_right) (sc := (defScope s__law_right)) (by decide +kernel)) (fun _ _ _ _ _ => (pg_name (i := 11) sc.nd rfl (Or.inl rfl))) (fun _ _ _ _ _ => pts_one (pt_cmpR (op_neDK (K := K) rfl hr.units) (pe_ca (ca__law_laid T) hr (by decide) (by rfl) (pa_cons (pv 3) (pa_cons (pv 11) pa_nil))) (pe_ca (ca__law_laid T) hr (by decide) (by rfl) (pa_cons (pv 4) (pa_cons (pv 11) pa_nil))) (nomark _))) (fun _ _ _ _ _ => (pv 11)))
    (pss_cons (ps_asg (pe_tup (pa_cons (pe_ca (ca__law_laid T) hr (by decide) (by rfl) (pa_cons (pv 3) (pa_cons pe_int pa_nil))) (pa_cons (pe_ca (ca__law_laid T) hr (by decide) (by rfl) (pa_cons (pv 4) (pa_cons pe_int pa_nil))) pa_nil))) (pg_tupK (K := K) (n := 2) rfl rfl (pgs_cons (pg_name (i := 7) sc.nd rfl (Or.inr rfl)) (pgs_cons (pg_name (i := 8) sc.nd rfl (Or.inr rfl)) pgs_nil))))
    (pss_cons (ps_set (i := 9) sc.nd rfl (Or.inl rfl) (pe_callB (cr_sortCK (K := K) rfl) (by rfl) T.b_sorted (by decide +kernel) (pa_cons (pe_op op_cat (pe_lc (own := [("_law_own", 16)]) rfl sc.nd (pi_seqK (K := K) rfl (pv 7)) (blkOk_by (own := [("_law_own", 16)]) (N := N__law_right) (sc := (defScope s__law_right)) (by decide +kernel)) (fun _ _ _ _ _ => (pg_name (i := 16) sc.nd rfl (Or.inl rfl))) (fun _ _ _ _ _ => pts_one (pt_cmpR (op_notInQ (K := K) rfl (hu65 hr)) (pv 16) (pv 8) (by rfl))) (fun _ _ _ _ _ => (pv 16))) (pe_lc (own := [("_law_own", 16)]) rfl sc.nd (pi_seqK (K := K) rfl (pv 8)) (blkOk_by (own := [("_law_own", 16)]) (N := N__law_right) (sc := (defScope s__law_right)) (by decide +kernel)) (fun _ _ _ _ _ => (pg_name (i := 16) sc.nd rfl (Or.inl rfl))) (fun _ _ _ _ _ => pts_one (pt_cmpR (op_notInQ (K := K) rfl (hu65 hr)) (pv 16) (pv 7) (by rfl))) (fun _ _ _ _ _ => (pv 16)))) pa_nil)))
    (pss_cons (ps_if (pt_cmpR op_ne (pe_cmpR (op_eqDK (K := K) rfl hr.units) (pv 6) (pe_lst pa_nil) (nomark _)) (pe_cmpR (op_eqDK (K := K) rfl hr.units) (pv 9) (pe_lst pa_nil) (nomark _)) (nomark _))
      (pss_one (ps_ret pe_bl))
      pss_nil)
    (pss_cons (ps_set (i := 10) sc.nd rfl (Or.inl rfl) (pe_lst pa_nil))
    (pss_cons (ps_for PassesOwn.never rfl (pi_range1 (by rfl) T.b_range (pa_cons (pv 5) pa_nil)) (pg_name (i := 11) sc.nd rfl (Or.inl rfl))
      (pss_cons (ps_set (i := 12) sc.nd rfl (Or.inl rfl) (pe_callB (call_lenK (K := K) rfl) (by rfl) T.b_len (by decide +kernel) (pa_cons (pe_ca (ca__law_hollows T) hr (by decide) (by rfl) (pa_cons (pe_ix (ix_seqK (K := K) rfl) (pv 3) (pe_callB (call_min2Q rfl) (by rfl) T.b_min (by decide +kernel) (pa_cons (pv 11) (pa_cons (pe_op op_sub (pe_callB (call_lenK (K := K) rfl) (by rfl) T.b_len (by decide +kernel) (pa_cons (pv 3) pa_nil)) pe_int) pa_nil))) (fun _ _ => rfl)) pa_nil)) pa_nil)))
      (pss_one (ps_if (pt_cmpR op_ne (pv 12) (pe_callB (call_lenK (K := K) rfl) (by rfl) T.b_len (by decide +kernel) (pa_cons (pe_ca (ca__law_hollows T) hr (by decide) (by rfl) (pa_cons (pe_ix (ix_seqK (K := K) rfl) (pv 4) (pe_callB (call_min2Q rfl) (by rfl) T.b_min (by decide +kernel) (pa_cons (pv 11) (pa_cons (pe_op op_sub (pe_callB (call_lenK (K := K) rfl) (by rfl) T.b_len (by decide +kernel) (pa_cons (pv 4) pa_nil)) pe_int) pa_nil))) (fun _ _ => rfl)) pa_nil)) pa_nil)) (nomark _))
        (pss_one (ps_expr (pe_bm PySem.F.plainAttrs_list PySem.F.slot_list_append PySem.F.type_list_append mt_append (pv 10) (pa_cons (pv 11) pa_nil))))
        pss_nil))))
    (pss_cons (ps_set (i := 13) sc.nd rfl (Or.inl rfl) (pe_lst (pa_cons (pe_cmpR (op_eqDK (K := K) rfl hr.units) (pv 6) (pe_lst pa_nil) (nomark _)) (pa_cons (pe_ifExp (pt_cmpR (op_neDK (K := K) rfl hr.units) (pv 9) (pe_lst pa_nil) (nomark _)) (pe_ix (ix_seqK (K := K) rfl) (pv 9) pe_int (fun _ _ => rfl)) pe_non) (pa_cons (pe_ifExp (pt_cmpR (op_neDK (K := K) rfl hr.units) (pv 10) (pe_lst pa_nil) (nomark _)) (pe_ix (ix_seqK (K := K) rfl) (pv 10) pe_int (fun _ _ => rfl)) pe_non) pa_nil)))))
    (pss_cons (ps_set (i := 14) sc.nd rfl (Or.inl rfl) (pe_lst (pa_cons (pe_ca (ca_alike_laid T) hr (by decide) (by rfl) (pa_cons (pv 1) (pa_cons (pv 2) pa_nil))) (pa_cons (pe_ca (ca_parting_cell T) hr (by decide) (by rfl) (pa_cons (pv 1) (pa_cons (pv 2) pa_nil))) (pa_cons (pe_ca (ca_least_unlike T) hr (by decide) (by rfl) (pa_cons (pv 1) (pa_cons (pv 2) pa_nil))) pa_nil)))))
    (pss_cons (ps_set (i := 15) sc.nd rfl (Or.inl rfl) (pe_ca (ca_ls3 T) hr (by decide) (by rfl) (pa_cons (pe_lst (pa_cons (pv 1) (pa_cons (pv 2) pa_nil))) pa_nil)))
    (pss_cons (ps_set (i := 14) sc.nd rfl (Or.inl rfl) (pe_op op_cat (pv 14) (pe_lst (pa_cons (pe_ca (ca_alike_laid T) hr (by decide) (by rfl) (pa_cons (pe_ix (ix_seqK (K := K) rfl) (pv 15) pe_int (fun _ _ => rfl)) (pa_cons (pe_ix (ix_seqK (K := K) rfl) (pv 15) pe_int (fun _ _ => rfl)) pa_nil))) (pa_cons (pe_ca (ca_parting_cell T) hr (by decide) (by rfl) (pa_cons (pe_ix (ix_seqK (K := K) rfl) (pv 15) pe_int (fun _ _ => rfl)) (pa_cons (pe_ix (ix_seqK (K := K) rfl) (pv 15) pe_int (fun _ _ => rfl)) pa_nil))) pa_nil)))))
    (pss_one (ps_ret (pe_ca (ca_sameS T (ca_sameS T (ca_same0 T))) hr (by decide) (by rfl) (pa_cons (pv 14) (pa_cons (pe_op op_cat (pv 13) (pe_slice (sl_listK (K := K) rfl) (pv 13) po_none (po_some pe_int))) pa_nil))))))))))))))))))), ?_⟩
  rintro vs Q ⟨p, N, rfl, T0, hN, q⟩
  have E0 : En [p] [([p], H)] (L2.start N__law_right [.ref p]) H [.raw (.ref p), .un, .un, .un, .un, .un, .un, .un, .un, .un, .un, .un, .un, .un, .un, .un, .un] := enG (show matchG H [p] [some (V.ref p), none, none, none, none, none, none, none, none, none, none, none, none, none, none, none, none] _ from ⟨rfl, trivial⟩) (cf1.mu H N T0 trivial)
  refine (?_ : NOk [([p], H)] p _ [.raw (.ref p), .un, .un, .un, .un, .un, .un, .un, .un, .un, .un, .un, .un, .un, .un, .un, .un] N { nx := fun _ H' => Q .non H', rt := Q }) _ H E0 T0
  intro σ H1 E1 T1
  refine raw_set ⟨_, E1.raw rfl, p, N, rfl, T1, by omega, fun v H2 G s2 T2 i2 DA => ?_⟩
  have E2 := ((E1.sm rfl bsf1 s2 T2.mu).setIm (i := 1) (is_heap_out i2 T2.mu))
  refine raw_set ⟨_, E2.raw (i := 0) rfl, v, ?_, p, N + 400, v, G, rfl, T2, by omega, is_heap_out i2 T2.mu, DA, fun v' H3 B s3 T3 i3 DB hAl => ?_⟩
  · obtain ⟨x, x1, x2⟩ := E2.im (i := 1) rfl
    exact set_get (by rw [E1.len]; exact (show 1 < 17 by decide))
  have E3 := ((E2.sm rfl bsf1 s3 T3.mu).setIm (i := 2) i3)
  have hR : Rt [p] [([p], H)] (fun d => d = .bl true) { nx := fun _ H' => Q .non H', rt := Q } := fun v H d _ i e => by
    subst e
    rw [is_bl i]
    exact q H
  show tSeq _ _ _ ((σ.set 1 (some v)).set 2 (some v')) H3
  refine (?_ : Ok [p] [([p], H)] _ [.raw (.ref p), .im (dHeap false G), .im (dHeap false B), .un, .un, .un, .un, .un, .un, .un, .un, .un, .un, .un, .un, .un, .un] { nx := fun _ H' => Q .non H', rt := Q }) _ H3 E3
  have SA := DA.shp
  have SB := DB.shp
  refine ok_asgE (vs := [3, 4]) (ge_tup2 (φa := fun d => ∃ k, k ≤ 9 ∧ d = .seq true (((List.range (k + 1)).map (layN G)).map (dHeap false)) ∧ (k = 9 ∨ layN G (k + 1) = layN G k)) (φb := fun d => ∃ k, k ≤ 9 ∧ d = .seq true (((List.range (k + 1)).map (layN B)).map (dHeap false)) ∧ (k = 9 ∨ layN B (k + 1) = layN B k)) ?_ ?_) ?_
  · exact ge_call (i := G) (ga_cons (gd_var rfl) (ga_cons gd_int ga_nil)) SA
  · exact ge_call (i := B) (ga_cons (gd_var rfl) (ga_cons gd_int ga_nil)) SB
  rintro _ ⟨_, _, ⟨kA, hA9, rfl, hA⟩, ⟨kB, hB9, rfl, hB⟩, rfl⟩
  refine ⟨_, gg_tup (ggs_cons (gg_name (by decide)) (ggs_cons (gg_name (by decide)) ggs_nil)) rfl, ?_⟩
  have hAB : AlikeS G B := ⟨hAl.1.symm, hAl.2.symm⟩
  have hlA : ((List.range (kA + 1)).map (layN G)).length = kA + 1 := by rw [List.length_map, List.length_range]
  have hlB : ((List.range (kB + 1)).map (layN B)).length = kB + 1 := by rw [List.length_map, List.length_range]
  have hsA : ∀ g ∈ (List.range (kA + 1)).map (layN G), Shp g := fun g hg => by
    obtain ⟨n, _, rfl⟩ := List.mem_map.mp hg
    exact layN_shp SA n
  have hsB : ∀ g ∈ (List.range (kB + 1)).map (layN B), Shp g := fun g hg => by
    obtain ⟨n, _, rfl⟩ := List.mem_map.mp hg
    exact layN_shp SB n
  obtain ⟨m, hm⟩ : ∃ m, m = max kA kB + 2 := ⟨_, rfl⟩
  have hm2 : 2 ≤ m ∧ m ≤ 11 := by omega
  refine ok_setD (d := .int (m : Nat)) (GD.cast (gd_add (gd_max2 (gd_lenM (f := dHeap false) (gd_var rfl)) (gd_lenM (f := dHeap false) (gd_var rfl))) gd_int) (by rw [hlA, hlB]; congr 1; split <;> omega)) ?_
  let unl : List Nat := (List.range m).filter fun n => !decide (LaidL G n = LaidL B n)
  have hal := shp_len SA
  have callA : ∀ {ρ : List Sl} {te : TE} {X : XK} (n : Nat), ρ[3]? = some (.im (.seq true (((List.range (kA + 1)).map (layN G)).map (dHeap false)))) → GD te ρ (.int (n : Nat)) → GD (tCall (spI (ι := List Grid × Nat) (fun i => [.seq true (i.1.map (dHeap false)), .int (i.2 : Nat)]) (fun i => i.1 ≠ [] ∧ ∀ g ∈ i.1, Shp g) (fun i d => d = dCells true ((allC (i.1.getD (min i.2 (i.1.length - 1)) [])).filter fun c => decide (atG (i.1.getD (min i.2 (i.1.length - 1)) []) c = 9)))) [] X (tCons (tVar 3) (tCons te tNil))) ρ (dCells true (LaidL G n)) :=
    fun {ρ te X} n h3 hn => GD.cast (gd_call (i := ((List.range (kA + 1)).map (layN G), n)) (ga_cons (gd_var h3) (ga_cons hn ga_nil)) ⟨list_ne, hsA⟩) (congrArg (dCells true) (laid_eq DA hA n))
  have callB : ∀ {ρ : List Sl} {te : TE} {X : XK} (n : Nat), ρ[4]? = some (.im (.seq true (((List.range (kB + 1)).map (layN B)).map (dHeap false)))) → GD te ρ (.int (n : Nat)) → GD (tCall (spI (ι := List Grid × Nat) (fun i => [.seq true (i.1.map (dHeap false)), .int (i.2 : Nat)]) (fun i => i.1 ≠ [] ∧ ∀ g ∈ i.1, Shp g) (fun i d => d = dCells true ((allC (i.1.getD (min i.2 (i.1.length - 1)) [])).filter fun c => decide (atG (i.1.getD (min i.2 (i.1.length - 1)) []) c = 9)))) [] X (tCons (tVar 4) (tCons te tNil))) ρ (dCells true (LaidL B n)) :=
    fun {ρ te X} n h4 hn => GD.cast (gd_call (i := ((List.range (kB + 1)).map (layN B), n)) (ga_cons (gd_var h4) (ga_cons hn ga_nil)) ⟨list_ne, hsB⟩) (congrArg (dCells true) (laid_eq DB hB n))
  refine ok_setD (d := .seq true (unl.map fun n => .int (n : Nat))) (GN.gd (gn_lc (xs := List.range m) (f := fun n => Dt.int (n : Nat)) (b := fun n => !decide (LaidL G n = LaidL B n)) (e := fun n => Dt.int (n : Nat)) (gw_rangeN (gd_var rfl) (by omega)) (sl12 (by rw [List.length_range]; omega)) (fun x _ => gg_name (by decide))
    (fun x _ => GT.cast (gt_test (gd_neD (callA x rfl (gd_var rfl)) (callB x rfl (gd_var rfl)) (plain_cells true _) (plain_cells true _))) (by rw [show PyData.eqv (py (dCells true (LaidL G x))) (py (dCells true (LaidL B x))) = _ from eqv_cells true _ _])) (fun x _ _ => gd_var rfl))) ?_
  refine ok_asg (vs := [7, 8]) (d := .seq false [dCells true (LaidL G 1), dCells true (LaidL B 1)]) (gd_tup (ga_cons (callA 1 rfl (GD.cast gd_int rfl)) (ga_cons (callB 1 rfl (GD.cast gd_int rfl)) ga_nil)) fw) (gg_tup (ggs_cons (gg_name (by decide)) (ggs_cons (gg_name (by decide)) ggs_nil)) rfl) ?_
  have n1 : (LaidL G 1).Nodup := (allC_nodup G).filter _
  have n2 : (LaidL B 1).Nodup := (allC_nodup B).filter _
  have hl1 : (LaidL G 1).length ≤ 64 := Nat.le_trans (List.length_filter_le _ _) (by omega)
  have hl2 : (LaidL B 1).length ≤ 64 := Nat.le_trans (List.length_filter_le _ _) (by have := shp_len SB; omega)
  have hf1 : ((LaidL G 1).filter fun c => !decide (c ∈ LaidL B 1)).length ≤ 64 := Nat.le_trans (List.length_filter_le _ _) hl1
  have hf2 : ((LaidL B 1).filter fun c => !decide (c ∈ LaidL G 1)).length ≤ 64 := Nat.le_trans (List.length_filter_le _ _) hl2
  have hnd : (((LaidL G 1).filter fun c => !decide (c ∈ LaidL B 1)) ++ (LaidL B 1).filter fun c => !decide (c ∈ LaidL G 1)).Nodup := by
    rw [List.nodup_append]
    refine ⟨n1.filter _, n2.filter _, fun a ha b hb e => ?_⟩
    have ha2 := (List.mem_filter.mp ha).2
    rw [Bool.not_eq_true', decide_eq_false_iff_not] at ha2
    exact ha2 (e ▸ (List.mem_filter.mp hb).1)
  have hmem : ∀ c, c ∈ ((LaidL G 1).filter fun c => !decide (c ∈ LaidL B 1)) ++ ((LaidL B 1).filter fun c => !decide (c ∈ LaidL G 1)) ↔ (Lay1 G c ∧ ¬ Lay1 B c) ∨ (Lay1 B c ∧ ¬ Lay1 G c) := fun c => by
    rw [List.mem_append, List.mem_filter, List.mem_filter, Bool.not_eq_true', Bool.not_eq_true', decide_eq_false_iff_not, decide_eq_false_iff_not, mem_laid1 DA, mem_laid1 DB]
  have hin : ∀ c ∈ ((LaidL G 1).filter fun c => !decide (c ∈ LaidL B 1)) ++ ((LaidL B 1).filter fun c => !decide (c ∈ LaidL G 1)), inG G c = true := fun c hc => by
    rcases (hmem c).mp hc with z | z
    · exact air_in (opn_air z.1.1)
    · rw [alike_in hAB]; exact air_in (opn_air z.1.1)
  have hsym := symL_hd SA hAB hnd hmem
  refine ok_setD (d := dCells true (symL G B)) (GD.cast (GN.gd (gn_sortC (cs := ((LaidL G 1).filter fun c => !decide (c ∈ LaidL B 1)) ++ (LaidL B 1).filter fun c => !decide (c ∈ LaidL G 1)) (GD.cast (GN.gd (gn_cat (GN.gd (gn_lc (xs := LaidL G 1) (f := dCell) (b := fun c => !decide (c ∈ LaidL B 1)) (e := dCell) (gw_seq (gd_var rfl)) (sl12 (by omega)) (fun x _ => gg_name (by decide)) (fun x _ => gt_test (gd_notInC (gd_var rfl) (gd_var rfl))) (fun x _ _ => gd_var rfl)))
    (GN.gd (gn_lc (xs := LaidL B 1) (f := dCell) (b := fun c => !decide (c ∈ LaidL G 1)) (e := dCell) (gw_seq (gd_var rfl)) (sl12 (by omega)) (fun x _ => gg_name (by decide)) (fun x _ => gt_test (gd_notInC (gd_var rfl) (gd_var rfl))) (fun x _ _ => gd_var rfl))) (by rw [List.length_map, List.length_map]; exact sz (by omega)))) (by rw [List.map_append])) (fun c hc => SA.bc (hin c hc)) (Nat.lt_of_le_of_lt (nodup_len hnd fun c hc => mem_allC.mpr (hin c hc)) hal))) (by rw [hsym]; rfl)) ?_
  obtain ⟨b0, hb0⟩ : ∃ b0, b0 = decide (setC G (Opn G) = setC B (Opn B)) := ⟨_, rfl⟩
  have hu : unl.isEmpty = b0 := by
    rw [hb0, Bool.eq_iff_iff, List.isEmpty_iff, decide_eq_true_eq, List.filter_eq_nil_iff]
    constructor
    · intro h
      have := h 1 (List.mem_range.mpr (by omega))
      rw [Bool.not_eq_true, Bool.not_eq_false', decide_eq_true_eq] at this
      exact open_of_laid DA DB hAl this
    · intro h n _
      rw [decide_eq_true (laid_of_open DA DB hAl h n)]
      decide
  have hs : (symL G B).isEmpty = b0 := by
    rw [hb0, Bool.eq_iff_iff, List.isEmpty_iff, decide_eq_true_eq]
    constructor
    · intro h
      refine open_of_laid DA DB hAl ?_
      have key : ∀ c, Lay1 G c ↔ Lay1 B c := fun c => by
        have : c ∉ symL G B := by rw [h]; simp
        rw [← hsym, sortC_mem, hmem] at this
        by_cases x : Lay1 G c <;> by_cases y : Lay1 B c
        · exact ⟨fun _ => y, fun _ => x⟩
        · exact absurd (.inl ⟨x, y⟩) this
        · exact absurd (.inr ⟨y, x⟩) this
        · exact ⟨fun h => absurd h x, fun h => absurd h y⟩
      unfold LaidL
      rw [allC_alike hAl]
      refine List.filter_congr fun c hc => ?_
      have e1 := mem_laid1 DA (c := c)
      have e2 := mem_laid1 DB (c := c)
      unfold LaidL at e1 e2
      rw [List.mem_filter, decide_eq_true_eq] at e1 e2
      have hc2 : c ∈ allC B := by rw [allC_alike hAl]; exact hc
      have : atG (layN G 1) c = 9 ↔ atG (layN B 1) c = 9 := ⟨fun h => (e2.mpr ((key c).mp (e1.mp ⟨hc, h⟩))).2, fun h => (e1.mpr ((key c).mpr (e2.mp ⟨hc2, h⟩))).2⟩
      by_cases z : atG (layN G 1) c = 9
      · rw [decide_eq_true z, decide_eq_true (this.mp z)]
      · rw [decide_eq_false z, decide_eq_false fun y => z (this.mpr y)]
    · intro h
      have e := laid_of_open DA DB hAl h 1
      cases q : symL G B with
      | nil => rfl
      | cons c r =>
        have : c ∈ symL G B := by rw [q]; exact List.mem_cons_self
        rw [← hsym, sortC_mem, hmem] at this
        have k1 : Lay1 G c ↔ Lay1 B c := by rw [← mem_laid1 DA, ← mem_laid1 DB, e]
        rcases this with z | z
        · exact absurd (k1.mp z.1) z.2
        · exact absurd (k1.mpr z.1) z.2
  refine ok_seq (ok_if (GT.cast (c := false) (gt_test (gd_neB (gd_eqNil (GD.gl (gd_var rfl)) (plain_nats unl)) (gd_eqNil (GD.gl (gd_var rfl)) (plain_cells true (symL G B))))) (by rw [List.isEmpty_map, List.isEmpty_map, hu, hs]; cases b0 <;> rfl)) (fun z => by cases z) fun _ => ok_nextS ?_)
  refine ok_setN (d := .seq true []) (gn_lst ga_nil fw) fun r hr' => ?_
  refine ok_seq (ok_for [11] (fun i ρ' => ∃ (o11 o12 : Sl), ρ' = [.raw (.ref p), .im (dHeap false G), .im (dHeap false B), .im (.seq true (((List.range (kA + 1)).map (layN G)).map (dHeap false))), .im (.seq true (((List.range (kB + 1)).map (layN B)).map (dHeap false))), .im (.int (m : Nat)), .im (.seq true (unl.map fun n => .int (n : Nat))), .im (dCells true (LaidL G 1)), .im (dCells true (LaidL B 1)), .im (dCells true (symL G B)), .ow r (.seq true ((firstL G B i).map fun n => .int (n : Nat))), o11, o12, .un, .un, .un, .un])
    (gw_rangeN (gd_var rfl) (by omega)) ⟨_, _, rfl⟩ ?_ ?_)
  · rintro H4 i _ d hd ⟨o11, o12, rfl⟩
    obtain ⟨x, hx, rfl⟩ := get_map hd
    have hil : i < m := by
      have := (List.getElem?_eq_some_iff.mp hx).1
      rw [List.length_range] at this
      exact this
    rw [List.getElem?_range hil] at hx
    cases hx
    refine ⟨_, gg_name (by decide), ?_⟩
    have hfl : (firstL G B i).length ≤ 20 := Nat.le_trans (List.length_filter_le _ _) (by rw [List.length_range]; omega)
    refine ok_setD (d := .int (holN (layN G i) : Nat)) (gd_lenH (g := layN G i) (ge_call (i := (false, layN G i)) (ga_cons (gd_ix (l := true) (gd_var rfl) (gd_min2 (gd_var rfl) (gd_sub (gd_lenM (f := dHeap false) (gd_var rfl)) gd_int)) (atI_lay DA hA i)) ga_nil) (layN_shp SA i))) ?_
    refine ok_if (GT.cast (c := !decide (holN (layN G i) = holN (layN B i))) (gt_test (gd_neI (gd_var rfl) (gd_lenH (g := layN B i) (ge_call (i := (false, layN B i)) (ga_cons (gd_ix (l := true) (gd_var rfl) (gd_min2 (gd_var rfl) (gd_sub (gd_lenM (f := dHeap false) (gd_var rfl)) gd_int)) (atI_lay DB hB i)) ga_nil) (layN_shp SB i))))) (by congr 2; apply propext; omega)) (fun hb => ?_) (fun hb => ?_)
    · refine ok_append rfl (gd_var rfl) (by rw [List.length_map]; exact szlt (by omega)) (ok_nx ⟨.im (.int (i : Nat)), .im (.int (holN (layN G i) : Nat)), ?_⟩ rfl)
      have : firstL G B (i + 1) = firstL G B i ++ [i] := by
        unfold firstL
        rw [List.range_succ, List.filter_append, List.filter_cons, hb]
        rfl
      rw [this, List.map_append]
      rfl
    · refine ok_next (ok_nx ⟨.im (.int (i : Nat)), .im (.int (holN (layN G i) : Nat)), ?_⟩ rfl)
      have : firstL G B (i + 1) = firstL G B i := by
        unfold firstL
        rw [List.range_succ, List.filter_append, List.filter_cons, hb]
        simp
      rw [this]
      rfl
  · rintro _ ⟨o11, o12, rfl⟩
    rw [List.length_map, List.length_range]
    refine ok_frz (i := 10) (d := .seq true ((firstL G B m).map fun n => .int (n : Nat))) rfl hr' ?_
    have hfirst : ∀ chs chs', ChOk G chs → ChOk B chs' → leastU (rowOf (chs.map (·.1))) (rowOf (chs'.map (·.1))) = (firstL G B m).head? := fun chs chs' Oa Ob => by rw [hm]; exact least_eq DA DB Oa Ob hA hB
    refine ok_setD (d := .seq true [.bl b0, dHd (symL G B), dOptN (firstL G B m).head?]) (GN.gd (gn_lst (ga_cons (GD.cast (gd_eqNil (GD.gl (gd_var rfl)) (plain_nats unl)) (by rw [List.isEmpty_map, hu])) (ga_cons (gd_hd rfl) (ga_cons (gd_hdN rfl) ga_nil))) fw)) ?_
    have hb0' : decide (setC B (Opn B) = setC G (Opn G)) = b0 := by rw [hb0]; congr 1; exact propext eq_comm
    refine ok_setD (d := .seq true [.bl b0, dHd (symL G B), dOptN (firstL G B m).head?]) (GN.gd (gn_lst (ga_cons (GD.cast (gd_call (i := (false, G, false, B)) (ga_cons (gd_var rfl) (ga_cons (gd_var rfl) ga_nil)) ⟨SA, SB, hAB⟩) (by rw [hb0])) (ga_cons (gd_call (i := (false, G, false, B)) (ga_cons (gd_var rfl) (ga_cons (gd_var rfl) ga_nil)) ⟨SA, SB, hAB⟩)
      (ga_cons (GE.gd (ge_call (i := (false, G, false, B)) (ga_cons (gd_var rfl) (ga_cons (gd_var rfl) ga_nil)) ⟨SA, SB⟩) (by rintro e ⟨chs, chs', Oa, Ob, rfl⟩; rw [hfirst chs chs' Oa Ob])) ga_nil))) fw)) ?_
    refine ok_setD (gd_call (i := (G, B)) (ga_cons (GN.gd (gn_lst (ga_cons (gd_var rfl) (ga_cons (gd_var rfl) ga_nil)) fw)) ga_nil) ⟨SA, SB⟩) ?_
    refine ok_setD (d := .seq true [.bl b0, dHd (symL G B), dOptN (firstL G B m).head?, .bl b0, dHd (symL G B)]) (GN.gd (gn_cat (ds := [.bl b0, dHd (symL G B), dOptN (firstL G B m).head?]) (es := [.bl b0, dHd (symL G B)]) (gd_var rfl) (GN.gd (gn_lst (ga_cons (GD.cast (gd_call (i := (true, B, true, G)) (ga_cons (gd_ix (l := true) (ds := [dHeap true G, dHeap true B]) (gd_var rfl) gd_int rfl) (ga_cons (gd_ix (l := true) (ds := [dHeap true G, dHeap true B]) (gd_var rfl) gd_int rfl) ga_nil)) (show Shp B ∧ Shp G ∧ AlikeS B G from ⟨SB, SA, hAl⟩)) (congrArg Dt.bl hb0')) (ga_cons (GD.cast (gd_call (i := (true, B, true, G)) (ga_cons (gd_ix (l := true) (ds := [dHeap true G, dHeap true B]) (gd_var rfl) gd_int rfl) (ga_cons (gd_ix (l := true) (ds := [dHeap true G, dHeap true B]) (gd_var rfl) gd_int rfl) ga_nil)) (show Shp B ∧ Shp G ∧ AlikeS B G from ⟨SB, SA, hAl⟩)) (congrArg dHd (symL_comm hAl))) ga_nil)) fw)) (sz (show 3 + 2 ≤ 100000 by decide)))) ?_
    have okc : ∀ cs, okD 1 (dHd cs) := fun cs => by
      cases cs with
      | nil => exact .inl rfl
      | cons c r => exact .inr ⟨false, _, rfl, show 2 ≤ 1000 by decide, rfl, fun e he => by
          have : e = .int c.1 ∨ e = .int c.2 := by simpa using he
          rcases this with z | z <;> rw [z] <;> rfl⟩
    have oko : ∀ o, okD 1 (dOptN o) := fun o => by cases o <;> exact .inl rfl
    have noh : ∀ cs, noD (dHd cs) = true := fun cs => by
      cases cs with
      | nil => rfl
      | cons c r => exact cell_noD c
    have noo : ∀ o, noD (dOptN o) = true := fun o => by cases o <;> rfl
    refine ok_rtD (gd_call (f := fun _ => .bl true) (i := .seq true [.bl b0, dHd (symL G B), dOptN (firstL G B m).head?, .bl b0, dHd (symL G B)]) (ga_cons (gd_var rfl) (ga_cons (GN.gd (gn_cat (ds := [.bl b0, dHd (symL G B), dOptN (firstL G B m).head?]) (es := [.bl b0, dHd (symL G B)]) (gd_var rfl) (GD.cast (GN.gd (gn_slL (ds := [.bl b0, dHd (symL G B), dOptN (firstL G B m).head?]) (gd_var rfl) go_none (go_some gd_int))) rfl) (sz (show 3 + 2 ≤ 100000 by decide)))) ga_nil)) (.inr ⟨true, _, rfl, show 5 ≤ 1000 by decide, ?_, ?_⟩)) hR rfl
    · simp only [noDAll, noh, noo]
      rfl
    · intro e he
      have : e = .bl b0 ∨ e = dHd (symL G B) ∨ e = dOptN (firstL G B m).head? := by
        simp only [List.mem_cons, List.not_mem_nil, or_false] at he
        rcases he with z | z | z | z | z
        · exact .inl z
        · exact .inr (.inl z)
        · exact .inr (.inr z)
        · exact .inl z
        · exact .inr (.inl z)
      rcases this with z | z | z
      · rw [z]; exact .inl rfl
      · rw [z]; exact okc _
      · rw [z]; exact oko _
end
end DL
set_option maxHeartbeats 1000000
namespace DL
open PySem PySem.Spec PyProof.Rows L2
theorem ok_retN {ps : List Addr} {bs : List (List Addr × Hp)} {ρ : List Sl} {D : Ends} {te : TE} {d : Dt} (h : GN te ρ d) (q : ∀ p σ H H', En ps bs σ H ρ → Same H H' → Ow H' (p :: ps) p d → D.rt (.ref p) H') : Ok ps bs (tRet te) ρ D := fun σ H E => h ps bs σ H E _ fun p H' _ s o => q p σ H H' E s o
def spBox : Sp := fun vs H Q E => ∃ (g : Addr) (z : Int), vs = [.ref g, .int 0] ∧ H g = some (.lst [.int z]) ∧ ∀ p H', Same H H' → TinAt H' p 0 → Q (.ref p) H'
def spCells (K : PySem.W.Frag) : Sp := fun vs H Q E => ∃ (s : Addr) (ns : List Int), vs = [.ref s, .int 1] ∧ SqL K H s (ns.map V.int) ∧ ns.length ≤ 63 ∧ ∀ p z H', Same H H' → H' p = some (.lst [.int z]) → Q (.ref p) H'
section
variable {P : Program} {w : World} {K : PySem.W.Frag} {mg : Str → Option Value} {base : Heap}
theorem ca__law_box (T : Top K mg) : Ca P w K mg base 1 "_law_box" spBox := by
  have sc := sc__law_box
  refine ca_ofR T.f__law_box (fun _ _ _ _ _ _ us hl => match us, hl with | [_, _], _ => rfl) sc (fun vs H Q E h => by obtain ⟨_, _, e, _⟩ := h; rw [e]; rfl) fun f cdv A outer s H E hr => ⟨_, (pss_cons (ps_set (i := 2) sc.nd rfl (Or.inl rfl) (pe_ifExp (pt_cmpR op_lt (pv 1) (pe_callB (call_lenK (K := K) rfl) (by rfl) T.b_len (by decide +kernel) (pa_cons (pv 0) pa_nil)) (nomark _)) (pe_ix (ix_seqK (K := K) rfl) (pv 0) (pv 1) (fun _ _ => rfl)) pe_int))
    (pss_one (ps_ret (pe_lst (pa_cons (pe_op op_mul (pe_callB call_absQ (by rfl) T.b_abs (by decide +kernel) (pa_cons (pv 2) pa_nil)) (pe_callTy call_int1Q (by rfl) T.b_int (by decide +kernel) (pa_cons (pe_cmpR op_ge (pe_callB call_absQ (by rfl) T.b_abs (by decide +kernel) (pa_cons (pv 2) pa_nil)) (pe_op op_pow pe_int pe_int) (nomark _)) pa_nil))) (pa_cons (pe_op op_add (pe_op op_add (pe_op op_mod (pe_callTy call_int1Q (by rfl) T.b_int (by decide +kernel) (pa_cons (pv 2) pa_nil)) pe_int) (pe_op op_mul pe_int (pv 1))) pe_int) (pa_cons pe_int pa_nil))))))), ?_⟩
  rintro vs Q ⟨g, z, rfl, hg, q⟩
  have E0 : En [] [([], H)] (L2.start N__law_box [.ref g, .int 0]) H [.im (.seq true [.int z]), .im (.int 0), .un] := enG (show matchG H [] [some (V.ref g), some (V.int 0), none] _ from ⟨⟨_, rfl, .lst (out_of hg (by simp)) (.one (.int z))⟩, ⟨_, rfl, .int 0⟩, trivial⟩) (fun a h => by simp at h)
  refine (?_ : Ok [] [([], H)] _ [.im (.seq true [.int z]), .im (.int 0), .un] { nx := fun _ H' => Q .non H', rt := Q }) _ H E0
  refine ok_setD (d := .int z) (GD.cast (gd_ifE (b := true) (GT.cast (gt_test (gd_lt (gd_var rfl) (gd_len (l := true) (ds := [.int z]) (gd_var rfl)))) rfl) (fun _ => gd_ix (l := true) (ds := [.int z]) (gd_var rfl) (gd_var rfl) rfl) (fun _ => gd_int)) rfl) ?_
  have hge : ∀ b : Bool, 0 ≤ (if b = true then (1 : Int) else 0) ∧ (if b = true then (1 : Int) else 0) ≤ 1 := fun b => by cases b <;> decide
  refine ok_retN (d := tinD ((if z < 0 then -z else z) * (if decide ((10 : Int) ^ (18 : Int).toNat ≤ (if z < 0 then -z else z)) = true then 1 else 0)) (z % 2305843009213693951 + 39373 * 0 + 3165013) 0) (gn_lst (ga_cons (gd_mul (gd_abs (gd_var rfl)) (gd_intB (gd_ge (gd_abs (gd_var rfl)) (gd_pow gd_int gd_int ⟨by decide, by decide, by decide⟩))) (.inr (by have := hge (decide ((10 : Int) ^ (18 : Int).toNat ≤ (if z < 0 then -z else z))); omega)))
    (ga_cons (gd_add (gd_add (gd_mod (gd_intI (gd_var rfl)) gd_int (by decide)) (gd_mul gd_int (gd_var rfl) (.inl (by decide)))) gd_int) (ga_cons gd_int ga_nil))) fw) fun p σ H1 H' E1 s1 o => q p H' (fun a o h => s1 a o (E1.ex ([], H) (by simp) a o (by simp) h)) ⟨_, _, _, ow_tin.mp o, ?_, ⟨?_, ?_⟩, Int.le_refl _, Int.le_refl _⟩
  · exact Int.mul_nonneg (by split <;> omega) (hge _).1
  · have := Int.emod_nonneg z (show (2305843009213693951 : Int) ≠ 0 by decide)
    omega
  · have := Int.emod_lt_of_pos z (show (0 : Int) < 2305843009213693951 by decide)
    omega
end
end DL
set_option maxHeartbeats 1000000
namespace DL
open PySem PySem.Spec PyProof.Rows L2
theorem raw_forAt {ps : List Addr} {σ : L2.St} {H : Hp} {wi : TI} {g : TG} {tb : TS} {its : List Dt} {D : Ends} (hw : ∀ R : It → Hp → Prop, (∀ J H', Same H H' → WD J its H' ps → R J H') → wi σ H R) (Jv : Hp → Nat → L2.St → Hp → Prop)
    (h0 : ∀ H1, Same H H1 → Jv H1 0 σ H1) (hg : ∀ H1 i σ' H', Jv H1 i σ' H' → Same (out H1 ps) (out H' ps) ∧ ∀ q ∈ ps, Mu (H' q))
    (hs : ∀ H1 i σ' H' H3 x d, its[i]? = some d → Jv H1 i σ' H' → Same H' H3 → Is (out H3 ps) x d → g x σ' H3 fun σ4 H4 => tb { D with nx := Jv H1 (i + 1), ct := Jv H1 (i + 1), bk := D.nx } σ4 H4)
    (hd : ∀ H1 σ' H', Jv H1 its.length σ' H' → D.nx σ' H') : tFor wi g tb D σ H :=
  hw _ fun J H1 s1 w => by
    have wk := w ps (fun q hq => .inl hq)
    refine for_it wk (Jv H1) (h0 H1 s1) (fun i σ' H' _ j => hg H1 i σ' H' j) ?_ (fun σ' H' j => hd H1 σ' H' j)
    rintro i x σ2 H2 H3 hi j ⟨s3, d, hd', hx⟩
    exact hs H1 i σ2 H2 H3 x d hd' j s3 hx
theorem isAll_ints (H : Hp) : ∀ ns : List Int, IsAll H (ns.map V.int) (ns.map Dt.int)
  | [] => .nil
  | n :: r => .cons (.int n) (isAll_ints H r)
section
variable {P : Program} {w : World} {K : PySem.W.Frag} {mg : Str → Option Value} {base : Heap}
theorem ca__law_cells (T : Top K mg) : Ca P w K mg base 1 "_law_cells" (spCells K) := by
  have sc := sc__law_cells
  refine ca_ofR T.f__law_cells (fun _ _ _ _ _ _ us hl => match us, hl with | [_, _], _ => rfl) sc (fun vs H Q E h => by obtain ⟨_, _, e, _⟩ := h; rw [e]; rfl) fun f cdv A outer s H E hr => ⟨_, (pss_cons (ps_set (i := 2) sc.nd rfl (Or.inl rfl) (pe_orT (pe_callTy (call_listK (K := K) rfl) (by rfl) T.b_list (by decide +kernel) (pa_cons (pe_slice (sl_listK (K := K) rfl) (pv 0) po_none (po_some (pv 1))) pa_nil)) (pe_one (pe_lst (pa_cons pe_int pa_nil)))))
    (pss_cons (ps_for PassesOwn.never rfl (pi_enumQ (K := K) rfl (by rfl) T.b_enumerate (pa_cons (pe_slice (sl_listK (K := K) rfl) (pv 0) (po_some (pv 1)) (po_some pe_int)) pa_nil)) (pg_tupK (K := K) (n := 2) rfl rfl (pgs_cons (pg_name (i := 3) sc.nd rfl (Or.inl rfl)) (pgs_cons (pg_name (i := 4) sc.nd rfl (Or.inl rfl)) pgs_nil)))
      (pss_cons (ps_set (i := 5) sc.nd rfl (Or.inl rfl) (pe_op op_mod (pe_callTy call_int1Q (by rfl) T.b_int (by decide +kernel) (pa_cons (pv 3) pa_nil)) (pv 1)))
      (pss_one (ps_asg (pe_op op_add (pe_ix (ix_seqK (K := K) rfl) (pv 2) (pv 5) (fun _ _ => rfl)) (pe_op op_mul (pv 4) (pe_op op_add (pv 3) pe_int))) (pg_sub (pv 2) (pv 5) set_list)))))
    (pss_one (ps_ret (pv 2))))), ?_⟩
  rintro vs Q ⟨sa, ns, rfl, hs, hl, q⟩
  have E0 : En [] [([], H)] (L2.start N__law_cells [.ref sa, .int 1]) H [.raw (.ref sa), .im (.int 1), .un, .un, .un, .un] := enG (show matchG H [] [some (V.ref sa), some (V.int 1), none, none, none, none] _ from ⟨rfl, ⟨_, rfl, .int 1⟩, trivial⟩) (fun a h => by simp at h)
  have cutM : ∀ lo hi : Option Int, ∃ cs : List Int, cutV (ns.map V.int) lo hi = cs.map V.int ∧ cs.length ≤ ns.length ∧ (lo = none → hi = some 1 → cs = ns.take 1) := fun lo hi => by
    refine ⟨(ns.drop (HT.sIx ns.length 0 lo)).take (HT.sIx ns.length ns.length hi - HT.sIx ns.length 0 lo), ?_, ?_, ?_⟩
    · unfold cutV
      rw [List.length_map, List.map_take, List.map_drop]
    · rw [List.length_take, List.length_drop]
      omega
    · rintro rfl rfl
      cases ns with
      | nil => rfl
      | cons a r =>
        show (a :: r).take (min 1 (r.length + 1) - 0) = _
        rw [show min 1 (r.length + 1) - 0 = 1 by omega]
  obtain ⟨c1, hc1, _, hc1'⟩ := cutM none (some 1)
  have hc1 := hc1.trans (congrArg (List.map V.int) (hc1' rfl rfl))
  have main : ∀ p z H', H p = none → Same H H' → H' p = some (.lst [.int z]) → (tSeq
      (tFor (iEnumQ K (tCons (tSl (rSlL K) (tVar 0) (tPart (tVar 1)) (tPart (tC (V.int 63)))) tNil))
        (gTup K 2 (gCons (gName 3) (gCons (gName 4) gNil)))
        (tSeq
          (tAsg (tOp (rI (fun x j => 0 < j) fun i j => V.int (i % j)) (tCB rInt1Q (tCons (tVar 3) tNil)) (tVar 1))
            (gName 5))
          (tAsg
            (tOp (rI0 fun i j => V.int (i + j)) (tOp (rIx K) (tVar 2) (tVar 5))
              (tOp (rI CMul fun i j => V.int (i * j)) (tVar 4)
                (tOp (rI0 fun i j => V.int (i + j)) (tVar 3) (tC (V.int 2)))))
            (gSub (tVar 2) (tVar 5) rSetL))))
      (tRet (tVar 2))) { nx := fun x H' => Q V.non H', rt := Q } ((L2.start N__law_cells [V.ref sa, V.int 1]).set 2 (some (.ref p))) H' := by
    intro p z H' hp s1 h1
    have E1 := E0.setNew (i := 2) (d := .seq true [.int z]) s1 hp ⟨_, h1, .one (.int z)⟩
    have hs1 := s1.seq hs
    obtain ⟨cs, hcs, hcl, _⟩ := cutM (some 1) (some 63)
    refine raw_seq (raw_forAt (ps := [p]) (its := enumD Dt.int cs) (fun R r => .inl ⟨_, E1.raw (i := 0) rfl, _, ?_, 1, rfl, 63, rfl, sa, ns.map V.int, rfl, hs1, fun q3 hq3 => ⟨q3, cutV (ns.map V.int) (some 1) (some 63), rfl, SqL.of upd_same, r _ _ (same_new hq3) ?_⟩⟩)
      (fun H1 i σ' H' => ∃ (z : Int) (o3 o4 o5 : Sl), En [p] (([p], H1) :: [([], H)]) σ' H' [.raw (.ref sa), .im (.int 1), .ow p (.seq true [.int z]), o3, o4, o5]) ?_ ?_ ?_ ?_)
    · obtain ⟨x, x1, x2⟩ := E1.im (i := 1) rfl
      rw [x1, is_int x2]
    · have hq3p : q3 ∉ [p] := fun z => by rw [show q3 = p by simpa using z, h1] at hq3; cases hq3
      refine wd_pair walk_enum (fun qs hq H2 sm => SqL.of (out_some (sm q3 _ (out_fresh hq q3 _ (out_of upd_same hq3p)))).1) (ds := cs.map Dt.int) (by rw [hcs]; exact isAll_ints _ cs) (enumD_len Dt.int cs) (enumD_get Dt.int cs)
    · intro H1 s2
      exact ⟨z, .un, .un, .un, (E1.mono s2).base (H1 := H1) (Same.refl _)⟩
    · rintro H1 i σ' H2 ⟨z, o3, o4, o5, E2⟩
      refine ⟨fun a o h => ?_, E2.al⟩
      obtain ⟨k1, k2⟩ := out_some h
      exact out_of (E2.ex _ List.mem_cons_self a o k2 k1) k2
    · rintro H1 i σ' H2 H3 x d hd ⟨z, o3, o4, o5, E2⟩ s3 hx
      obtain ⟨⟨v, j⟩, hj, rfl⟩ := get_map hd
      have hji : j < cs.length := (List.getElem?_eq_some_iff.mp (List.mem_zipIdx_iff_getElem?.mp (List.mem_of_getElem? hj))).1
      refine gg_tup (vs := [3, 4]) (ggs_cons (gg_name (i := 3) (by decide)) (ggs_cons (gg_name (i := 4) (by decide)) ggs_nil)) rfl _ _ σ' H3 x (E2.mono s3) hx _ fun σ4 H4 s4 E4 _ _ => ?_
      refine (?_ : Ok [p] (([p], H1) :: [([], H)]) _ [.raw (.ref sa), .im (.int 1), .ow p (.seq true [.int z]), .im (.int (j : Nat)), .im (.int v), o5] _) σ4 H4 E4
      refine ok_setD (d := .int 0) (GD.cast (gd_mod (gd_intI (gd_var rfl)) (gd_var rfl) (by decide)) (by rw [Int.emod_one])) ?_
      exact ok_lset (ds := [.int z]) (n := 0) rfl (gd_add (gd_ixL (gl_own rfl) (gd_var rfl) (atI_nat (j := 0) rfl)) (gd_mul (gd_var rfl) (gd_add (gd_var rfl) gd_int) (.inr (by omega)))) (gd_var rfl) rfl fun σ H E => ⟨_, _, _, _, E⟩
    · rintro H1 σ' H2 ⟨z, o3, o4, o5, E2⟩
      obtain ⟨e1, _, xs, e2, e3⟩ := E2.ow (i := 2) rfl
      obtain ⟨y, rfl, e4⟩ := e3.inv1
      rw [is_int e4] at e2
      exact ⟨_, e1, q p z H2 (fun a o h => E2.ex ([], H) (by simp) a o (by simp) h) e2⟩
  obtain ⟨x1, y1, z1⟩ := E0.im (i := 1) rfl
  rw [is_int z1] at y1
  refine raw_set ⟨_, E0.raw (i := 0) rfl, _, y1, 1, rfl, sa, ns.map V.int, rfl, hs, fun q1 hq1 => ⟨q1, cutV (ns.map V.int) none (some 1), rfl, .inl (SqL.of upd_same), fun q2 hq2 => ⟨_, .inl ⟨_, SqL.of upd_same, rfl⟩, ?_⟩⟩⟩
  have n1 := same_new (o := .lst (cutV (ns.map V.int) none (some 1))) hq1
  have n2 := same_new (o := .lst (cutV (ns.map V.int) none (some 1))) hq2
  rw [hc1] at n1 n2 ⊢
  cases ns with
  | nil =>
    refine iteF ⟨by decide, fun q3 hq3 => main q3 0 _ ?_ ?_ upd_same⟩
    · exact Same.free (n1.trans n2) hq3
    · exact (n1.trans n2).trans (same_new hq3)
  | cons a r => exact iteT (main q2 a _ (Same.free n1 hq2) (n1.trans n2) upd_same)
end
end DL
set_option maxHeartbeats 1000000
/-! Plain: the piles that the law has by hand. -/
namespace DL
def chainB (A : List Cell) (f : Cell → Bool) : List Cell → Bool
  | [] => true
  | c :: r => (decide (c ∈ A) && (f c || (around c).any fun d => decide (d ∈ r))) && chainB A f r
def closeB (A : List Cell) (f : Cell → Bool) (S : List Cell) : Bool := A.all fun c => decide (c ∈ S) || (!f c && (around c).all fun d => !decide (d ∈ S))
theorem chain_rch {A : List Cell} {f : Cell → Bool} : ∀ {S : List Cell}, chainB A f S = true → ∀ c ∈ S, Rch A (A.filter f) c
  | [], _, _, h => absurd h List.not_mem_nil
  | c :: r, h, e, he => by
    rw [chainB, Bool.and_eq_true, Bool.and_eq_true, decide_eq_true_eq, Bool.or_eq_true, List.any_eq_true] at h
    obtain ⟨⟨h1, h2⟩, h3⟩ := h
    rcases List.mem_cons.mp he with z | z
    · rw [z]
      rcases h2 with h2 | ⟨d, h4, h5⟩
      · exact .base (List.mem_filter.mpr ⟨h1, h2⟩)
      · exact .step (chain_rch h3 d (of_decide_eq_true h5)) (around_symm h4) h1
    · exact chain_rch h3 e z
theorem close_rch {A : List Cell} {f : Cell → Bool} {S : List Cell} (h : closeB A f S = true) {c : Cell} (r : Rch A (A.filter f) c) : c ∈ S := by
  have k := List.all_eq_true.mp h
  induction r with
  | @base c hc =>
    obtain ⟨h1, h2⟩ := List.mem_filter.mp hc
    have := k c h1
    rw [h2, Bool.or_eq_true, decide_eq_true_eq] at this
    exact this.elim id fun z => by simp at z
  | @step c d h1 h2 h3 ih =>
    have := k d h3
    rw [Bool.or_eq_true, decide_eq_true_eq, Bool.and_eq_true, List.all_eq_true] at this
    refine this.elim id fun z => ?_
    have := z.2 c (around_symm h2)
    rw [Bool.not_eq_true', decide_eq_false_iff_not] at this
    exact absurd ih this
/-- the open cells of this grid are these -/
def OpB (g : Grid) (S : List Cell) : Bool := chainB (airC g) (isTop g) S && closeB (airC g) (isTop g) S
theorem op_iff {g : Grid} {S : List Cell} (h : OpB g S = true) (c : Cell) : Opn g c ↔ c ∈ S := by
  rw [OpB, Bool.and_eq_true] at h
  exact ⟨fun r => close_rch h.2 r, fun m => chain_rch h.1 c m⟩
def drwB (g : Grid) (S : List Cell) : Bool := (allC g).all (fun c => decide (atG g c ≤ 2)) && ((kindC g false).all (fun c => decide (c ∈ S)) && chainB (kindC g false) (fun c => decide (c.2 = 0)) S)
theorem drw_ok {g : Grid} {S : List Cell} (s : Shp g) (h : drwB g S = true) : DrawnOk g := by
  rw [drwB, Bool.and_eq_true, Bool.and_eq_true, List.all_eq_true, List.all_eq_true] at h
  exact ⟨s, fun c hc => of_decide_eq_true (h.1 c (mem_allC.mpr hc)), fun c hc => chain_rch h.2.2 c (of_decide_eq_true (h.2.1 c hc))⟩
theorem alike_T {g g' : Grid} {S S' : List Cell} (A : AlikeS g g') (h : OpB g S = true) (h' : OpB g' S' = true) (e : ∀ c, c ∈ S ↔ c ∈ S') : setC g (Opn g) = setC g' (Opn g') :=
  (setC_ext fun c _ => ((op_iff h c).trans (e c)).trans (op_iff h' c).symm).trans (setC_alike A _)
theorem alike_F {g g' : Grid} {S S' : List Cell} (h : OpB g S = true) (h' : OpB g' S' = true) (c : Cell) (e : c ∈ S) (e' : c ∉ S') : setC g (Opn g) ≠ setC g' (Opn g') := fun z =>
  e' ((op_iff h' c).mp ((opn_eq z c).mp ((op_iff h c).mpr e)))
def layB (g : Grid) (S : List Cell) : List Cell := S.filter (nearSt g)
theorem lay_iff {g : Grid} {S : List Cell} (h : OpB g S = true) (c : Cell) : Lay1 g c ↔ c ∈ layB g S := by
  unfold layB Lay1
  rw [List.mem_filter, op_iff h]
def symB (g g' : Grid) (S S' : List Cell) : List Cell := ((layB g S).filter fun c => !decide (c ∈ layB g' S')) ++ (layB g' S').filter fun c => !decide (c ∈ layB g S)
theorem sym_of {g g' : Grid} {S S' : List Cell} (s : Shp g) (A : AlikeS g g') (h : OpB g S = true) (h' : OpB g' S' = true) (n : (symB g g' S S').Nodup) : symL g g' = sortC (symB g g' S S') := by
  refine (symL_hd s A n fun c => ?_).symm
  unfold symB
  rw [List.mem_append, List.mem_filter, List.mem_filter, Bool.not_eq_true', Bool.not_eq_true', decide_eq_false_iff_not, decide_eq_false_iff_not, lay_iff h, lay_iff h']
theorem hol0 {g : Grid} {S : List Cell} (h : OpB g S = true) (e : ∀ c ∈ airC g, c ∈ S) : holN g = 0 :=
  (holN_eq (hs := []) ⟨List.nodup_nil, fun Q => ⟨fun h => absurd h List.not_mem_nil, fun ⟨s, h1, h2, _⟩ => absurd ((op_iff h s).mpr (e s h1)) h2⟩, Nat.zero_le _⟩).symm
theorem hol1 {g : Grid} {S : List Cell} (s : Cell) (h : OpB g S = true) (e : ∀ c ∈ airC g, c ∈ S ∨ c = s) (h1 : s ∈ airC g) (h2 : s ∉ S) : holN g = 1 :=
  (holN_eq (hs := [setC g (Rch (airC g) [s])]) ⟨by simp, fun Q => ⟨fun m => ⟨s, h1, fun o => h2 ((op_iff h s).mp o), by simpa using m⟩, fun ⟨t, k1, k2, k3⟩ => by
    rcases e t k1 with z | z
    · exact absurd ((op_iff h t).mpr z) k2
    · rw [k3, z]; exact List.mem_cons_self⟩, by show 1 ≤ 64; decide⟩).symm
theorem putG_congr {g : Grid} {a b : List Cell} {v : Int} (h : ∀ c, c ∈ a ↔ c ∈ b) : putG g a v = putG g b v := by
  unfold putG
  simp only [h]
theorem lay_of {g : Grid} {S : List Cell} (h : OpB g S = true) : layG g = putG g (layB g S) 9 := putG_congr fun c => mem_layC.trans (lay_iff h c)
theorem lay_end {g : Grid} {S : List Cell} (s : Shp g) (h : OpB g S = true) (e : layB g S = []) (n : Nat) : layN g n = g := by
  have h0 : layG g = g := by rw [lay_of h, e, putG_nil s]
  induction n with
  | zero => rfl
  | succ n ih => show layG (layN g n) = g; rw [ih, h0]
theorem layN_succ (g : Grid) (n : Nat) : layN g (n + 1) = layN (layG g) n := by
  induction n with
  | zero => rfl
  | succ n ih => show layG (layN g (n + 1)) = layG _; rw [ih]
def g_solid : Grid := [[1, 1], [1, 1], [1, 1]]
def g_lean2 : Grid := [[2, 1], [0, 2], [0, 0]]
def g_one : Grid := [[1]]
def g_capped : Grid := putG g_vault [(2, 2)] 1
def g_full : Grid := putG g_capped [(1, 0), (1, 1), (2, 0), (2, 1), (3, 0), (3, 1)] 3
end DL
set_option maxHeartbeats 1000000
/-! Plain: certificates of the piles by hand. Printed by hb.py. -/
namespace DL
def g_vault1 : Grid := [[1, 1, 1, 9, 0, 0], [9, 9, 1, 9, 0, 0], [9, 0, 9, 0, 0, 0], [9, 9, 1, 9, 0, 0], [1, 1, 1, 9, 0, 0]]
def g_lean1 : Grid := [[1, 1], [9, 1], [9, 9]]
theorem shp_vault : Shp g_vault := ⟨by decide +kernel, by decide +kernel, by decide +kernel, by decide +kernel, by decide +kernel, by decide +kernel, by decide +kernel⟩
theorem op_vault : OpB g_vault [(3, 0), (1, 0), (3, 1), (2, 0), (1, 1), (2, 1), (2, 2), (4, 3), (3, 3), (2, 3), (1, 3), (0, 3), (4, 4), (3, 4), (2, 4), (1, 4), (0, 4), (4, 5), (3, 5), (2, 5), (1, 5), (0, 5)] = true := by decide +kernel
theorem shp_shed : Shp g_shed := ⟨by decide +kernel, by decide +kernel, by decide +kernel, by decide +kernel, by decide +kernel, by decide +kernel, by decide +kernel⟩
theorem op_shed : OpB g_shed [(1, 0), (2, 0), (1, 1), (3, 0), (2, 1), (3, 1), (3, 2), (3, 3), (2, 3), (1, 3), (0, 3)] = true := by decide +kernel
theorem shp_lean : Shp g_lean := ⟨by decide +kernel, by decide +kernel, by decide +kernel, by decide +kernel, by decide +kernel, by decide +kernel, by decide +kernel⟩
theorem op_lean : OpB g_lean [(1, 0), (2, 0), (2, 1)] = true := by decide +kernel
theorem shp_shut : Shp g_shut := ⟨by decide +kernel, by decide +kernel, by decide +kernel, by decide +kernel, by decide +kernel, by decide +kernel, by decide +kernel⟩
theorem op_shut : OpB g_shut [] = true := by decide +kernel
theorem shp_solid : Shp g_solid := ⟨by decide +kernel, by decide +kernel, by decide +kernel, by decide +kernel, by decide +kernel, by decide +kernel, by decide +kernel⟩
theorem op_solid : OpB g_solid [] = true := by decide +kernel
theorem shp_lean2 : Shp g_lean2 := ⟨by decide +kernel, by decide +kernel, by decide +kernel, by decide +kernel, by decide +kernel, by decide +kernel, by decide +kernel⟩
theorem op_lean2 : OpB g_lean2 [(1, 0), (2, 0), (2, 1)] = true := by decide +kernel
theorem shp_one : Shp g_one := ⟨by decide +kernel, by decide +kernel, by decide +kernel, by decide +kernel, by decide +kernel, by decide +kernel, by decide +kernel⟩
theorem op_one : OpB g_one [] = true := by decide +kernel
theorem shp_capped : Shp g_capped := ⟨by decide +kernel, by decide +kernel, by decide +kernel, by decide +kernel, by decide +kernel, by decide +kernel, by decide +kernel⟩
theorem op_capped : OpB g_capped [(4, 3), (3, 3), (2, 3), (1, 3), (0, 3), (4, 4), (3, 4), (2, 4), (1, 4), (0, 4), (4, 5), (3, 5), (2, 5), (1, 5), (0, 5)] = true := by decide +kernel
theorem shp_full : Shp g_full := ⟨by decide +kernel, by decide +kernel, by decide +kernel, by decide +kernel, by decide +kernel, by decide +kernel, by decide +kernel⟩
theorem op_full : OpB g_full [(4, 3), (3, 3), (2, 3), (1, 3), (0, 3), (4, 4), (3, 4), (2, 4), (1, 4), (0, 4), (4, 5), (3, 5), (2, 5), (1, 5), (0, 5)] = true := by decide +kernel
theorem shp_vault1 : Shp g_vault1 := ⟨by decide +kernel, by decide +kernel, by decide +kernel, by decide +kernel, by decide +kernel, by decide +kernel, by decide +kernel⟩
theorem op_vault1 : OpB g_vault1 [(2, 3), (4, 4), (3, 4), (2, 4), (1, 4), (0, 4), (4, 5), (3, 5), (2, 5), (1, 5), (0, 5)] = true := by decide +kernel
theorem shp_lean1 : Shp g_lean1 := ⟨by decide +kernel, by decide +kernel, by decide +kernel, by decide +kernel, by decide +kernel, by decide +kernel, by decide +kernel⟩
theorem op_lean1 : OpB g_lean1 [] = true := by decide +kernel
theorem drw_vault : DrawnOk g_vault := drw_ok (S := [(3, 2), (1, 2), (4, 2), (0, 2), (4, 1), (0, 1), (4, 0), (0, 0)]) shp_vault (by decide +kernel)
theorem drw_shed : DrawnOk g_shed := drw_ok (S := [(2, 2), (1, 2), (0, 2), (0, 1), (0, 0)]) shp_shed (by decide +kernel)
theorem drw_lean : DrawnOk g_lean := drw_ok (S := [(1, 1), (0, 1), (0, 0)]) shp_lean (by decide +kernel)
theorem drw_shut : DrawnOk g_shut := drw_ok (S := [(1, 1), (2, 1), (0, 1), (2, 0), (0, 0)]) shp_shut (by decide +kernel)
theorem drw_solid : DrawnOk g_solid := drw_ok (S := [(2, 1), (1, 1), (0, 1), (2, 0), (1, 0), (0, 0)]) shp_solid (by decide +kernel)
theorem drw_one : DrawnOk g_one := drw_ok (S := [(0, 0)]) shp_one (by decide +kernel)
theorem al_ss : setC g_shut (Opn g_shut) = setC g_solid (Opn g_solid) := alike_T ⟨by decide +kernel, by decide +kernel⟩ op_shut op_solid fun c => by simp only [List.mem_cons, List.not_mem_nil, or_false]
theorem al_cf : setC g_capped (Opn g_capped) = setC g_full (Opn g_full) := alike_T ⟨by decide +kernel, by decide +kernel⟩ op_capped op_full fun c => by simp only [List.mem_cons, List.not_mem_nil, or_false]
theorem al_vc : setC g_vault (Opn g_vault) ≠ setC g_capped (Opn g_capped) := alike_F op_vault op_capped (3, 0) (by decide +kernel) (by decide +kernel)
theorem al_ls : setC g_lean (Opn g_lean) ≠ setC g_shut (Opn g_shut) := alike_F op_lean op_shut (1, 0) (by decide +kernel) (by decide +kernel)
theorem al_ll : setC g_lean (Opn g_lean) = setC g_lean2 (Opn g_lean2) := alike_T ⟨by decide +kernel, by decide +kernel⟩ op_lean op_lean2 fun c => by simp only [List.mem_cons, List.not_mem_nil, or_false]
theorem hd_of {l : List Cell} : ∀ {o : Option Cell}, l.head? = o → dHd l = match o with | none => .non | some c => dCell c
  | _, rfl => by cases l <;> rfl
theorem pa_ss : dHd (symL g_shut g_solid) = .non := by rw [sym_of shp_shut ⟨by decide +kernel, by decide +kernel⟩ op_shut op_solid (by decide +kernel)]; exact hd_of (o := none) (by decide +kernel)
theorem pa_cf : dHd (symL g_capped g_full) = .non := by rw [sym_of shp_capped ⟨by decide +kernel, by decide +kernel⟩ op_capped op_full (by decide +kernel)]; exact hd_of (o := none) (by decide +kernel)
theorem pa_vc : dHd (symL g_vault g_capped) = dCell (1, 0) := by rw [sym_of shp_vault ⟨by decide +kernel, by decide +kernel⟩ op_vault op_capped (by decide +kernel)]; exact hd_of (o := some (1, 0)) (by decide +kernel)
theorem pa_ls : dHd (symL g_lean g_shut) = dCell (1, 0) := by rw [sym_of shp_lean ⟨by decide +kernel, by decide +kernel⟩ op_lean op_shut (by decide +kernel)]; exact hd_of (o := some (1, 0)) (by decide +kernel)
theorem pa_sl : dHd (symL g_shut g_lean) = dCell (1, 0) := by rw [sym_of shp_shut ⟨by decide +kernel, by decide +kernel⟩ op_shut op_lean (by decide +kernel)]; exact hd_of (o := some (1, 0)) (by decide +kernel)
theorem lay_vault : layG g_vault = g_vault1 := by rw [lay_of op_vault]; decide +kernel
theorem lay_lean : layG g_lean = g_lean1 := by rw [lay_of op_lean]; decide +kernel
theorem h_vault : holN g_vault = 0 := hol0 op_vault (by decide +kernel)
theorem h_shed : holN g_shed = 0 := hol0 op_shed (by decide +kernel)
theorem h_lean : holN g_lean = 0 := hol0 op_lean (by decide +kernel)
theorem h_solid : holN g_solid = 0 := hol0 op_solid (by decide +kernel)
theorem h_one : holN g_one = 0 := hol0 op_one (by decide +kernel)
theorem h_lean1 : holN g_lean1 = 0 := hol0 op_lean1 (by decide +kernel)
theorem h_shut : holN g_shut = 1 := hol1 (1, 0) op_shut (by decide +kernel) (by decide +kernel) (by decide +kernel)
theorem h_vault1 : holN g_vault1 = 1 := hol1 (2, 1) op_vault1 (by decide +kernel) (by decide +kernel) (by decide +kernel)
theorem lean_lay : ∀ n, holN (layN g_lean n) = 0
  | 0 => h_lean
  | n + 1 => by rw [layN_succ, lay_lean, lay_end shp_lean1 op_lean1 (by decide +kernel)]; exact h_lean1
theorem one_lay (n : Nat) : holN (layN g_one n) = 0 := by rw [lay_end shp_one op_one (by decide +kernel)]; exact h_one
theorem first_zero {A B : Grid} (h : holN A ≠ holN B) (m : Nat) : (firstL A B (m + 1)).head? = some 0 := by
  unfold firstL
  rw [List.head?_filter, List.find?_range_eq_some]
  exact ⟨by rw [Bool.not_eq_true', decide_eq_false_iff_not]; exact h, List.mem_range.mpr (Nat.succ_pos m), fun j hj => absurd hj (Nat.not_lt_zero j)⟩
theorem first_one {A B : Grid} (h0 : holN A = holN B) (h : holN (layG A) ≠ holN (layG B)) (m : Nat) : (firstL A B (m + 2)).head? = some 1 := by
  unfold firstL
  rw [List.head?_filter, List.find?_range_eq_some]
  refine ⟨by rw [Bool.not_eq_true', decide_eq_false_iff_not]; exact h, List.mem_range.mpr (by omega), fun j hj => ?_⟩
  have : j = 0 := by omega
  rw [this]
  show (!!decide (holN A = holN B)) = true
  rw [decide_eq_true h0]
  rfl
theorem first_none {A B : Grid} (h : ∀ n, holN (layN A n) = holN (layN B n)) (m : Nat) : (firstL A B m).head? = none := by
  unfold firstL
  rw [List.head?_filter, List.find?_range_eq_none]
  intro j _
  rw [decide_eq_true (h j)]
  rfl
theorem lu_of {A B : Grid} (DA : DrawnOk A) (DB : DrawnOk B) {o : Option Nat} (h : (firstL A B (max 9 9 + 2)).head? = o) {a b : List (Nat × List Cell)} (Oa : ChOk A a) (Ob : ChOk B b) : dOptN (leastU (rowOf (a.map (·.1))) (rowOf (b.map (·.1)))) = dOptN o := by
  rw [least_eq DA DB Oa Ob (.inl rfl) (.inl rfl), h]
theorem lu_ss : (firstL g_shut g_solid (max 9 9 + 2)).head? = some 0 := first_zero (by rw [h_shut, h_solid]; decide) _
theorem lu_vl : (firstL g_vault g_lean (max 9 9 + 2)).head? = some 1 := first_one (by rw [h_vault, h_lean]) (by rw [lay_vault, lay_lean, h_vault1, h_lean1]; decide) _
theorem lu_lo : (firstL g_lean g_one (max 9 9 + 2)).head? = none := first_none (fun n => by rw [lean_lay, one_lay]) _
theorem lu_hs : (firstL g_shed g_shut (max 9 9 + 2)).head? = some 0 := first_zero (by rw [h_shed, h_shut]; decide) _
end DL
set_option maxHeartbeats 1000000
/-! The answers by hand. -/
namespace DL
open PySem PySem.Spec PyProof.Rows L2
theorem gn_repT {ρ : List Sl} {K : PySem.W.Frag} {ta tb : TE} {ds : List Dt} {k : Int} (ha : GD ta ρ (.seq false ds)) (hb : GD tb ρ (.int k)) (h0 : 2 ≤ k) (h1 : k ≤ 1000) (hl : ds.length ≤ 100) (hn : ds ≠ []) : GD (tOp (rRepT K) ta tb) ρ (.seq false (List.replicate k.toNat ds).flatten) := fun ps bs σ H E Q q =>
  ha ps bs σ H E _ fun x H1 s1 hx => hb ps bs σ H1 (E.mono s1) _ fun y H2 s2 hy => by
    obtain ⟨a, xs, rfl, e1, e2⟩ := is_tup hx
    have E2 := E.mono (s1.trans s2)
    refine ⟨a, k, xs, rfl, is_int hy, SqT.of (s2 _ _ (out_some e1).1), fun z => hn (by
      rw [z] at e2
      cases e2
      rfl), by omega, by omega, by rw [e2.length]; omega, fun p hp => q _ _ ((s1.trans s2).trans (same_new hp)) (.tup (out_of upd_same (E2.fresh hp)) ((isAll_rep e2 _).mono (out_mono (s2.trans (same_new hp)))))⟩
theorem ok_par3S {ps : List Addr} {bs : List (List Addr × Hp)} {ρ : List Sl} {D : Ends} {u : TS} {ta tb tc : TE} {da db dc : Dt} {a b c : Nat} (ha : GD ta ρ da) (hb : GD tb ρ db) (hc : GD tc ρ dc) (q : Ok ps bs u (((ρ.set a (.im da)).set b (.im db)).set c (.im dc)) D) : Ok ps bs (tSeq (tPar3 a b c (tCons ta (tCons tb (tCons tc tNil)))) u) ρ D := ok_seq (ok_par3 ha hb hc q)
def uf : Dt := .seq true [.str (Str.ofString "unfit"), .bl true]
def rhoH (o7 o8 o9 : Sl) : List Sl := [.im (dHeap false g_vault), .im (dHeap false g_capped), .im (dHeap false g_shed), .im (dHeap false g_lean), .im (dHeap false g_shut), .im (dHeap false g_solid), .im (dHeap false g_full), o7, o8, o9]
def dueA : List Dt := [.bl true, .bl true, .bl false, .bl false, .bl true]
def dueB : List Dt := [.non, .non, dCell (1, 0), dCell (1, 0), dCell (1, 0)]
def dueC : List Dt := [.int 0, .int 1, .non, .int 0]
def dueD : List Dt := [.bl true, dCell (1, 0), .int 1]
def dueN (i : Nat) : List Dt := ((dueA ++ dueB) ++ dueC) ++ List.replicate (3 * i) uf
theorem dueN_succ (i : Nat) : dueN i ++ [uf, uf, uf] = dueN (i + 1) := by
  unfold dueN
  rw [List.append_assoc, show 3 * (i + 1) = 3 * i + 3 by omega]
  show _ ++ (List.replicate (3 * i) uf ++ List.replicate 3 uf) = _
  rw [List.replicate_append_replicate]
theorem dueN_len (i : Nat) : (dueN i).length = 14 + 3 * i := by
  unfold dueN
  rw [List.length_append, List.length_replicate]
  rfl
def g_wide : Grid := [[1, 1, 0], [0, 1, 0], [0, 0, 0]]
def g_cut : Grid := [[1, 1], [0, 1]]
theorem un_sv : g_shed ≠ [] ∧ g_vault ≠ [] ∧ ¬ AlikeS g_shed g_vault := ⟨shp_shed.ne, shp_vault.ne, fun h => absurd h.1 (by decide)⟩
theorem un_lw : g_lean ≠ [] ∧ g_wide ≠ [] ∧ ¬ AlikeS g_lean g_wide := ⟨shp_lean.ne, by decide, fun h => absurd h.2 (by decide)⟩
theorem un_lc : g_lean ≠ [] ∧ g_cut ≠ [] ∧ ¬ AlikeS g_lean g_cut := ⟨shp_lean.ne, by decide, fun h => absurd h.1 (by decide)⟩
theorem cell_ok : okD 1 (dCell (1, 0)) := .inr ⟨false, _, rfl, by decide, rfl, List.forall_mem_cons.mpr ⟨rfl, List.forall_mem_cons.mpr ⟨rfl, fun _ h => absurd h List.not_mem_nil⟩⟩⟩
theorem uf_ok : okD 1 uf := .inr ⟨true, _, rfl, by decide, rfl, List.forall_mem_cons.mpr ⟨by show (PyData.str (Str.ofString "unfit")).canLay0 = true; decide +kernel, List.forall_mem_cons.mpr ⟨rfl, fun _ h => absurd h List.not_mem_nil⟩⟩⟩
theorem all_nil {p : Dt → Prop} : ∀ e ∈ ([] : List Dt), p e := fun _ h => absurd h List.not_mem_nil
theorem due_ok : okD 2 (.seq true (dueN 2 ++ dueD)) := by
  refine .inr ⟨true, _, rfl, by decide +kernel, by rfl, ?_⟩
  have c : ∀ {d : Dt} {ds : List Dt}, okD 1 d → (∀ e ∈ ds, okD 1 e) → ∀ e ∈ d :: ds, okD 1 e := fun h1 h2 => List.forall_mem_cons.mpr ⟨h1, h2⟩
  refine List.forall_mem_append.mpr ⟨List.forall_mem_append.mpr ⟨List.forall_mem_append.mpr ⟨List.forall_mem_append.mpr ⟨?_, ?_⟩, ?_⟩, fun e he => ?_⟩, ?_⟩
  · exact c (.inl rfl) (c (.inl rfl) (c (.inl rfl) (c (.inl rfl) (c (.inl rfl) all_nil))))
  · exact c (.inl rfl) (c (.inl rfl) (c cell_ok (c cell_ok (c cell_ok all_nil))))
  · exact c (.inl rfl) (c (.inl rfl) (c (.inl rfl) (c (.inl rfl) all_nil)))
  · rw [List.eq_of_mem_replicate he]; exact uf_ok
  · exact c (.inl rfl) (c cell_ok (c (.inl rfl) all_nil))
section
variable {P : Program} {w : World} {K : PySem.W.Frag} {mg : Str → Option Value} {base : Heap} {C : Addr}
theorem ca__law_capped (T : Top K mg) : Ca P w K mg base 2 "_law_capped" (spI (ι := Unit) (fun _ => []) (fun _ => True) (fun _ d => d = dHeap false g_capped)) := by
  have sc := sc__law_capped
  refine ca_of T.f__law_capped (fun _ _ _ _ _ _ us hl => match us, hl with | [], _ => rfl) sc (fun _ => rfl) fun f cdv A outer s H E hr => ⟨_, (pss_one (ps_ret (pe_ca (ca__law_put T) hr (by decide) (by rfl) (pa_cons (pe_ca0 (ca__law_vault T) hr (by decide) (by rfl)) (pa_cons (pe_lst (pa_cons (pe_tup (pa_cons pe_int (pa_cons pe_int pa_nil))) pa_nil)) (pa_cons pe_int pa_nil)))))), ?_⟩
  rintro qs _ D - hR
  exact ok_rtD (gd_call (i := (false, g_vault, [(2, 2)], 1)) (ga_cons (gd_call (i := ()) (f := fun _ => dHeap false g_vault) ga_nil trivial) (ga_cons (GN.gd (gn_lst (ga_cons (gd_tup (ga_cons gd_int (ga_cons gd_int ga_nil)) fw) ga_nil) fw)) (ga_cons gd_int ga_nil))) ⟨shp_vault, by decide +kernel⟩) hR rfl
theorem gd_al {ρ : List Sl} {X : XK} {ta tb : TE} {l l' : Bool} {g g' : Grid} {b : Bool} (ha : GD ta ρ (dHeap l g)) (hb : GD tb ρ (dHeap l' g')) (S : Shp g) (S' : Shp g') (A : AlikeS g g') (h : decide (setC g (Opn g) = setC g' (Opn g')) = b) :
    GD (tCall (spTwo fun i d => d = .bl (decide (setC i.2.1 (Opn i.2.1) = setC i.2.2.2 (Opn i.2.2.2)))) [] X (tCons ta (tCons tb tNil))) ρ (.bl b) :=
  GD.cast (gd_call (f := fun i : Bool × Grid × Bool × Grid => Dt.bl (decide (setC i.2.1 (Opn i.2.1) = setC i.2.2.2 (Opn i.2.2.2)))) (i := (l, g, l', g')) (ga_cons ha (ga_cons hb ga_nil)) ⟨S, S', A⟩) (congrArg Dt.bl h)
theorem gd_pa {ρ : List Sl} {X : XK} {ta tb : TE} {l l' : Bool} {g g' : Grid} {d : Dt} (ha : GD ta ρ (dHeap l g)) (hb : GD tb ρ (dHeap l' g')) (S : Shp g) (S' : Shp g') (A : AlikeS g g') (h : dHd (symL g g') = d) :
    GD (tCall (spTwo fun i d => d = dHd (symL i.2.1 i.2.2.2)) [] X (tCons ta (tCons tb tNil))) ρ d :=
  GD.cast (gd_call (f := fun i : Bool × Grid × Bool × Grid => dHd (symL i.2.1 i.2.2.2)) (i := (l, g, l', g')) (ga_cons ha (ga_cons hb ga_nil)) ⟨S, S', A⟩) h
abbrev postLu : Bool × Grid × Bool × Grid → Dt → Prop := fun i d => ∃ chs chs', ChOk i.2.1 chs ∧ ChOk i.2.2.2 chs' ∧ d = dOptN (leastU (rowOf (chs.map (·.1))) (rowOf (chs'.map (·.1))))
theorem gd_lu {ρ : List Sl} {X : XK} {ta tb : TE} {l l' : Bool} {g g' : Grid} {o : Option Nat} (ha : GD ta ρ (dHeap l g)) (hb : GD tb ρ (dHeap l' g')) (D : DrawnOk g) (D' : DrawnOk g') (h : (firstL g g' (max 9 9 + 2)).head? = o) :
    GD (tCall (spI (ι := Bool × Grid × Bool × Grid) (fun i => [dHeap i.1 i.2.1, dHeap i.2.2.1 i.2.2.2]) (fun i => Shp i.2.1 ∧ Shp i.2.2.2) postLu) [] X (tCons ta (tCons tb tNil))) ρ (dOptN o) :=
  (ge_call (post := postLu) (i := (l, g, l', g')) (ga_cons ha (ga_cons hb ga_nil)) ⟨D.shp, D'.shp⟩).gd fun d ⟨_, _, O, O', e⟩ => e.trans (lu_of D D' h O O')
theorem ca__law_by_hand_right (T : Top K mg) (U : Unf K mg C) : Ca P w K mg base 12 "_law_by_hand_right" (spI (ι := Unit) (fun _ => []) (fun _ => True) (fun _ d => d = .bl true)) := by
  have sc := sc__law_by_hand_right
  refine ca_of T.f__law_by_hand_right (fun _ _ _ _ _ _ us hl => match us, hl with | [], _ => rfl) sc (fun _ => rfl) fun f cdv A outer s H E hr => ⟨_, (pss_cons (ps_par3 (i := 0) (j := 1) (l := 2) rfl sc.nd rfl rfl rfl (by decide) (by decide) (by decide) rfl rfl rfl (pa_cons (pe_ca0 (ca__law_vault T) hr (by decide) (by rfl)) (pa_cons (pe_ca0 (ca__law_capped T) hr (by decide) (by rfl)) (pa_cons (pe_ca0 (ca__law_shed T) hr (by decide) (by rfl)) pa_nil))) (by rfl))
    (pss_cons (ps_par (i := 3) (j := 4) rfl sc.nd rfl rfl (by decide) rfl rfl (pa_cons (pe_ca0 (ca__law_lean T) hr (by decide) (by rfl)) (pa_cons (pe_ca0 (ca__law_shut T) hr (by decide) (by rfl)) pa_nil)) (by rfl))
    (pss_cons (ps_par (i := 5) (j := 6) rfl sc.nd rfl rfl (by decide) rfl rfl (pa_cons (pe_op op_repT (pe_tup (pa_cons (pe_tup (pa_cons pe_int (pa_cons pe_int pa_nil))) pa_nil)) pe_int) (pa_cons (pe_ca (ca__law_put T) hr (by decide) (by rfl) (pa_cons (pv 1) (pa_cons (pe_lst (pa_cons (pe_tup (pa_cons pe_int (pa_cons pe_int pa_nil))) (pa_cons (pe_tup (pa_cons pe_int (pa_cons pe_int pa_nil))) (pa_cons (pe_tup (pa_cons pe_int (pa_cons pe_int pa_nil))) (pa_cons (pe_tup (pa_cons pe_int (pa_cons pe_int pa_nil))) (pa_cons (pe_tup (pa_cons pe_int (pa_cons pe_int pa_nil))) (pa_cons (pe_tup (pa_cons pe_int (pa_cons pe_int pa_nil))) pa_nil))))))) (pa_cons pe_int pa_nil)))) pa_nil)) (by rfl))
    (pss_cons (ps_set (i := 7) sc.nd rfl (Or.inl rfl) (pe_lst (pa_cons (pe_ca (ca_alike_laid T) hr (by decide) (by rfl) (pa_cons (pv 4) (pa_cons (pv 5) pa_nil))) (pa_cons (pe_ca (ca_alike_laid T) hr (by decide) (by rfl) (pa_cons (pv 1) (pa_cons (pv 6) pa_nil))) (pa_cons (pe_ca (ca_alike_laid T) hr (by decide) (by rfl) (pa_cons (pv 0) (pa_cons (pv 1) pa_nil))) (pa_cons (pe_ca (ca_alike_laid T) hr (by decide) (by rfl) (pa_cons (pv 3) (pa_cons (pv 4) pa_nil))) (pa_cons (pe_ca (ca_alike_laid T) hr (by decide) (by rfl) (pa_cons (pv 3) (pa_cons (pe_tup (pa_cons (pe_tup (pa_cons pe_int (pa_cons pe_int pa_nil))) (pa_cons (pe_tup (pa_cons pe_int (pa_cons pe_int pa_nil))) (pa_cons (pe_tup (pa_cons pe_int (pa_cons pe_int pa_nil))) pa_nil)))) pa_nil))) pa_nil)))))))
    (pss_cons (ps_set (i := 8) sc.nd rfl (Or.inl rfl) (pe_lst (pa_cons pe_bl (pa_cons pe_bl (pa_cons pe_bl (pa_cons pe_bl (pa_cons pe_bl pa_nil)))))))
    (pss_cons (ps_set (i := 7) sc.nd rfl (Or.inl rfl) (pe_op op_cat (pv 7) (pe_lst (pa_cons (pe_ca (ca_parting_cell T) hr (by decide) (by rfl) (pa_cons (pv 4) (pa_cons (pv 5) pa_nil))) (pa_cons (pe_ca (ca_parting_cell T) hr (by decide) (by rfl) (pa_cons (pv 1) (pa_cons (pv 6) pa_nil))) (pa_cons (pe_ca (ca_parting_cell T) hr (by decide) (by rfl) (pa_cons (pv 0) (pa_cons (pv 1) pa_nil))) (pa_cons (pe_ca (ca_parting_cell T) hr (by decide) (by rfl) (pa_cons (pv 3) (pa_cons (pv 4) pa_nil))) (pa_cons (pe_ca (ca_parting_cell T) hr (by decide) (by rfl) (pa_cons (pv 4) (pa_cons (pv 3) pa_nil))) pa_nil))))))))
    (pss_cons (ps_set (i := 8) sc.nd rfl (Or.inl rfl) (pe_op op_cat (pv 8) (pe_lst (pa_cons pe_non (pa_cons pe_non (pa_cons (pe_tup (pa_cons pe_int (pa_cons pe_int pa_nil))) (pa_cons (pe_tup (pa_cons pe_int (pa_cons pe_int pa_nil))) (pa_cons (pe_tup (pa_cons pe_int (pa_cons pe_int pa_nil))) pa_nil))))))))
    (pss_cons (ps_set (i := 7) sc.nd rfl (Or.inl rfl) (pe_op op_cat (pv 7) (pe_lst (pa_cons (pe_ca (ca_least_unlike T) hr (by decide) (by rfl) (pa_cons (pv 4) (pa_cons (pv 5) pa_nil))) (pa_cons (pe_ca (ca_least_unlike T) hr (by decide) (by rfl) (pa_cons (pv 0) (pa_cons (pv 3) pa_nil))) (pa_cons (pe_ca (ca_least_unlike T) hr (by decide) (by rfl) (pa_cons (pv 3) (pa_cons (pe_tup (pa_cons (pe_tup (pa_cons pe_int pa_nil)) pa_nil)) pa_nil))) (pa_cons (pe_ca (ca_least_unlike T) hr (by decide) (by rfl) (pa_cons (pv 2) (pa_cons (pv 4) pa_nil))) pa_nil)))))))
    (pss_cons (ps_set (i := 8) sc.nd rfl (Or.inl rfl) (pe_op op_cat (pv 8) (pe_lst (pa_cons pe_int (pa_cons pe_int (pa_cons pe_non (pa_cons pe_int pa_nil)))))))
    (pss_cons (ps_for PassesOwn.never rfl (pi_seqK (K := K) rfl (pe_tup (pa_cons pe_bl (pa_cons pe_bl pa_nil)))) (pg_name (i := 9) sc.nd rfl (Or.inl rfl))
      (pss_cons (ps_set (i := 7) sc.nd rfl (Or.inl rfl) (pe_op op_cat (pv 7) (pe_lst (pa_cons (pe_ca (ca__law_reply T U) hr (by decide) (by rfl) (pa_cons (pv 9) (pa_cons (pv 2) (pa_cons (pv 0) pa_nil)))) (pa_cons (pe_ca (ca__law_reply T U) hr (by decide) (by rfl) (pa_cons (pv 9) (pa_cons (pv 3) (pa_cons (pe_tup (pa_cons (pe_tup (pa_cons pe_int (pa_cons pe_int (pa_cons pe_int pa_nil)))) (pa_cons (pe_tup (pa_cons pe_int (pa_cons pe_int (pa_cons pe_int pa_nil)))) (pa_cons (pe_tup (pa_cons pe_int (pa_cons pe_int (pa_cons pe_int pa_nil)))) pa_nil)))) pa_nil)))) (pa_cons (pe_ca (ca__law_reply T U) hr (by decide) (by rfl) (pa_cons (pv 9) (pa_cons (pv 3) (pa_cons (pe_slice (sl_tupK (K := K) rfl) (pv 3) po_none (po_some pe_int)) pa_nil)))) pa_nil))))))
      (pss_one (ps_set (i := 8) sc.nd rfl (Or.inl rfl) (pe_op op_cat (pv 8) (pe_op op_rep (pe_lst (pa_cons (pe_lst (pa_cons pe_str (pa_cons pe_bl pa_nil))) pa_nil)) pe_int))))))
    (pss_cons (ps_expr (pe_bm PySem.F.plainAttrs_list PySem.F.slot_list_append PySem.F.type_list_append mt_append (pv 7) (pa_cons (pe_caK (caF_alike_laid T) hr (by decide) (by rfl) (fun _ _ _ _ _ _ _ _ => rfl) (pk_cons (pe_op op_rep (pe_lst (pa_cons (pe_lst (pa_cons pe_int (pa_cons pe_int pa_nil))) pa_nil)) pe_int) (pk_cons (pe_ca (ca_ls2 T) hr (by decide) (by rfl) (pa_cons (pv 4) pa_nil)) pk_nil))) pa_nil)))
    (pss_cons (ps_expr (pe_bm PySem.F.plainAttrs_list PySem.F.slot_list_append PySem.F.type_list_append mt_append (pv 7) (pa_cons (pe_caK (caF_parting_cell T) hr (by decide) (by rfl) (fun _ _ _ _ _ _ _ _ => rfl) (pk_cons (pe_ca (ca_ls2 T) hr (by decide) (by rfl) (pa_cons (pv 4) pa_nil)) (pk_cons (pe_ca (ca_ls2 T) hr (by decide) (by rfl) (pa_cons (pv 3) pa_nil)) pk_nil))) pa_nil)))
    (pss_cons (ps_expr (pe_bm PySem.F.plainAttrs_list PySem.F.slot_list_append PySem.F.type_list_append mt_append (pv 7) (pa_cons (pe_caK (caF_least_unlike T) hr (by decide) (by rfl) (fun _ _ _ _ _ _ _ _ => rfl) (pk_cons (pe_ca (ca_ls2 T) hr (by decide) (by rfl) (pa_cons (pv 3) pa_nil)) (pk_cons (pe_ca (ca_ls2 T) hr (by decide) (by rfl) (pa_cons (pv 0) pa_nil)) pk_nil))) pa_nil)))
    (pss_one (ps_ret (pe_ca (ca_sameS T (ca_sameS T (ca_same0 T))) hr (by decide) (by rfl) (pa_cons (pv 7) (pa_cons (pe_op op_cat (pv 8) (pe_lst (pa_cons pe_bl (pa_cons (pe_tup (pa_cons pe_int (pa_cons pe_int pa_nil))) (pa_cons pe_int pa_nil))))) pa_nil)))))))))))))))))), ?_⟩
  rintro qs _ D - hR
  have unit : ∀ {ρ : List Sl} {X : XK} {g : Grid}, GD (tCall (spI (ι := Unit) (fun _ => []) (fun _ => True) (fun _ d => d = dHeap false g)) [] X tNil) ρ (dHeap false g) := fun {ρ X g} => gd_call (i := ()) (f := fun _ => dHeap false g) ga_nil trivial
  refine ok_par3S (da := dHeap false g_vault) (db := dHeap false g_capped) (dc := dHeap false g_shed) unit unit unit ?_
  refine (?_ : Ok qs [([], H)] _ [.im (dHeap false g_vault), .im (dHeap false g_capped), .im (dHeap false g_shed), .un, .un, .un, .un, .un, .un, .un] D)
  refine ok_par (da := dHeap false g_lean) (db := dHeap false g_shut) unit unit ?_
  refine ok_par (da := dHeap false g_solid) (db := dHeap false g_full) (GD.cast (gn_repT (gd_tup (ga_cons (gd_tup (ga_cons gd_int (ga_cons gd_int ga_nil)) fw) ga_nil) fw) gd_int (by decide) (by decide) (by decide) (by simp)) rfl)
    (gd_call (i := (false, g_capped, [(1, 0), (1, 1), (2, 0), (2, 1), (3, 0), (3, 1)], 3)) (ga_cons (gd_var rfl) (ga_cons (GN.gd (gn_lst (ga_cons (gd_tup (ga_cons gd_int (ga_cons gd_int ga_nil)) fw) (ga_cons (gd_tup (ga_cons gd_int (ga_cons gd_int ga_nil)) fw) (ga_cons (gd_tup (ga_cons gd_int (ga_cons gd_int ga_nil)) fw) (ga_cons (gd_tup (ga_cons gd_int (ga_cons gd_int ga_nil)) fw) (ga_cons (gd_tup (ga_cons gd_int (ga_cons gd_int ga_nil)) fw) (ga_cons (gd_tup (ga_cons gd_int (ga_cons gd_int ga_nil)) fw) ga_nil)))))) fw)) (ga_cons gd_int ga_nil))) ⟨shp_capped, by decide +kernel⟩) ?_
  refine (?_ : Ok qs [([], H)] _ (rhoH .un .un .un) D)
  refine ok_setD (d := .seq true dueA) (GN.gd (gn_lst (ga_cons (gd_al (gd_var rfl) (gd_var rfl) shp_shut shp_solid ⟨by decide +kernel, by decide +kernel⟩ (decide_eq_true al_ss)) (ga_cons (gd_al (gd_var rfl) (gd_var rfl) shp_capped shp_full ⟨by decide +kernel, by decide +kernel⟩ (decide_eq_true al_cf)) (ga_cons (gd_al (gd_var rfl) (gd_var rfl) shp_vault shp_capped ⟨by decide +kernel, by decide +kernel⟩ (decide_eq_false al_vc)) (ga_cons (gd_al (gd_var rfl) (gd_var rfl) shp_lean shp_shut ⟨by decide +kernel, by decide +kernel⟩ (decide_eq_false al_ls)) (ga_cons (gd_al (gd_var rfl) (GD.cast (gd_tup (ga_cons (gd_tup (ga_cons gd_int (ga_cons gd_int ga_nil)) fw) (ga_cons (gd_tup (ga_cons gd_int (ga_cons gd_int ga_nil)) fw) (ga_cons (gd_tup (ga_cons gd_int (ga_cons gd_int ga_nil)) fw) ga_nil))) fw) rfl) shp_lean shp_lean2 ⟨by decide +kernel, by decide +kernel⟩ (decide_eq_true al_ll)) ga_nil))))) fw)) ?_
  refine ok_setD (d := .seq true dueA) (GN.gd (gn_lst (ga_cons gd_bl (ga_cons gd_bl (ga_cons gd_bl (ga_cons gd_bl (ga_cons gd_bl ga_nil))))) fw)) ?_
  refine ok_setD (d := .seq true (dueA ++ dueB)) (GN.gd (gn_cat (ds := dueA) (es := dueB) (gd_var rfl) (GN.gd (gn_lst (ga_cons (gd_pa (gd_var rfl) (gd_var rfl) shp_shut shp_solid ⟨by decide +kernel, by decide +kernel⟩ pa_ss) (ga_cons (gd_pa (gd_var rfl) (gd_var rfl) shp_capped shp_full ⟨by decide +kernel, by decide +kernel⟩ pa_cf) (ga_cons (gd_pa (gd_var rfl) (gd_var rfl) shp_vault shp_capped ⟨by decide +kernel, by decide +kernel⟩ pa_vc) (ga_cons (gd_pa (gd_var rfl) (gd_var rfl) shp_lean shp_shut ⟨by decide +kernel, by decide +kernel⟩ pa_ls) (ga_cons (gd_pa (gd_var rfl) (gd_var rfl) shp_shut shp_lean ⟨by decide +kernel, by decide +kernel⟩ pa_sl) ga_nil))))) fw)) (sz (show 5 + 5 ≤ 100000 by decide)))) ?_
  refine ok_setD (d := .seq true (dueA ++ dueB)) (GN.gd (gn_cat (ds := dueA) (es := dueB) (gd_var rfl) (GN.gd (gn_lst (ga_cons gd_non (ga_cons gd_non (ga_cons (gd_tup (ga_cons gd_int (ga_cons gd_int ga_nil)) fw) (ga_cons (gd_tup (ga_cons gd_int (ga_cons gd_int ga_nil)) fw) (ga_cons (gd_tup (ga_cons gd_int (ga_cons gd_int ga_nil)) fw) ga_nil))))) fw)) (sz (show 5 + 5 ≤ 100000 by decide)))) ?_
  refine ok_setD (d := .seq true (dueN 0)) (GD.cast (GN.gd (gn_cat (ds := dueA ++ dueB) (es := dueC) (gd_var rfl) (GN.gd (gn_lst (ga_cons (gd_lu (gd_var rfl) (gd_var rfl) drw_shut drw_solid lu_ss) (ga_cons (gd_lu (gd_var rfl) (gd_var rfl) drw_vault drw_lean lu_vl) (ga_cons (gd_lu (gd_var rfl) (GD.cast (gd_tup (ga_cons (gd_tup (ga_cons gd_int ga_nil) fw) ga_nil) fw) rfl) drw_lean drw_one lu_lo) (ga_cons (gd_lu (gd_var rfl) (gd_var rfl) drw_shed drw_shut lu_hs) ga_nil)))) fw)) (sz (show 10 + 4 ≤ 100000 by decide)))) rfl) ?_
  refine ok_setD (d := .seq true (dueN 0)) (GD.cast (GN.gd (gn_cat (ds := dueA ++ dueB) (es := dueC) (gd_var rfl) (GN.gd (gn_lst (ga_cons gd_int (ga_cons gd_int (ga_cons gd_non (ga_cons gd_int ga_nil)))) fw)) (sz (show 10 + 4 ≤ 100000 by decide)))) rfl) ?_
  intro σ H1 E1
  replace E1 : En qs [([], H)] σ H1 (rhoH (.im (.seq true (dueN 0))) (.im (.seq true (dueN 0))) .un) := E1
  refine raw_seq (raw_forW (ps := qs) (its := [.bl false, .bl true]) (fun R r => gw_seq (l := false) (gd_tup (ga_cons gd_bl (ga_cons gd_bl ga_nil)) fw) qs _ σ H1 E1 R r)
    (fun H2 i σ' H' => ∃ o9, (i = 0 ∧ En qs ((qs, H2) :: [([], H)]) σ' H' (rhoH (.im (.seq true (dueN i))) (.im (.seq true (dueN i))) o9)) ∨ (0 < i ∧ ∃ p, p ∉ qs ∧ En (p :: qs) ((qs, H2) :: [([], H)]) σ' H' (rhoH (.ow p (.seq true (dueN i))) (.im (.seq true (dueN i))) o9)))
    (fun H2 s2 => ⟨.un, .inl ⟨rfl, (E1.mono s2).base (Same.refl _)⟩⟩) ?_ ?_ ?_)
  · rintro H2 i σ' H' ⟨o9, ⟨_, E2⟩ | ⟨_, p, hp, E2⟩⟩
    · refine ⟨fun a o h => ?_, fun x hx => E2.al x hx⟩
      obtain ⟨k1, k2⟩ := out_some h
      exact out_of (E2.ex _ List.mem_cons_self a o k2 k1) k2
    · refine ⟨fun a o h => ?_, fun x hx => E2.al x (List.mem_cons_of_mem _ hx)⟩
      obtain ⟨k1, k2⟩ := out_some h
      exact out_of (E2.ex _ List.mem_cons_self a o k2 k1) k2
  · rintro H2 i σ' H' H3 x d s2 hd J s3 hx
    have hi2 : i < 2 := (List.getElem?_eq_some_iff.mp hd).1
    obtain ⟨b, rfl⟩ : ∃ b, d = .bl b := by
      have hm := List.mem_of_getElem? hd
      rcases List.mem_cons.mp hm with z | z
      · exact ⟨_, z⟩
      · exact ⟨true, by simpa using z⟩
    have E2 : ∃ o9, En qs ((qs, H2) :: [([], H)]) σ' H' (rhoH (.im (.seq true (dueN i))) (.im (.seq true (dueN i))) o9) := by
      obtain ⟨o9, ⟨_, E2⟩ | ⟨_, p, hp, E2⟩⟩ := J
      · exact ⟨o9, E2⟩
      · exact ⟨o9, E2.freeze (i := 7) (d := .seq true (dueN i)) rfl hp⟩
    obtain ⟨o9, E2⟩ := E2
    have E3 := (E2.mono s3).setIm (i := 9) (v := x) (d := .bl b) hx
    show tSeq _ _ _ (σ'.set 9 (some x)) H3
    refine (?_ : Ok qs ((qs, H2) :: [([], H)]) _ (rhoH (.im (.seq true (dueN i))) (.im (.seq true (dueN i))) (.im (.bl b))) _) _ H3 E3
    have hl := dueN_len i
    refine ok_setN (d := .seq true (dueN (i + 1))) (GN.cast (gn_cat (ds := dueN i) (es := [uf, uf, uf]) (gd_var rfl) (GN.gd (gn_lst (ga_cons (gd_call (f := fun _ => uf) (i := (b, false, g_shed, false, g_vault)) (ga_cons (gd_var rfl) (ga_cons (gd_var rfl) (ga_cons (gd_var rfl) ga_nil))) un_sv) (ga_cons (gd_call (f := fun _ => uf) (i := (b, false, g_lean, false, g_wide)) (ga_cons (gd_var rfl) (ga_cons (gd_var rfl) (ga_cons (GD.cast (gd_tup (ga_cons (gd_tup (ga_cons gd_int (ga_cons gd_int (ga_cons gd_int ga_nil))) fw) (ga_cons (gd_tup (ga_cons gd_int (ga_cons gd_int (ga_cons gd_int ga_nil))) fw) (ga_cons (gd_tup (ga_cons gd_int (ga_cons gd_int (ga_cons gd_int ga_nil))) fw) ga_nil))) fw) rfl) ga_nil))) un_lw) (ga_cons (gd_call (f := fun _ => uf) (i := (b, false, g_lean, false, g_cut)) (ga_cons (gd_var rfl) (ga_cons (gd_var rfl) (ga_cons (GD.cast (gd_slT (gd_var (d := dHeap false g_lean) rfl) go_none (go_some gd_int) (by decide)) rfl) ga_nil))) un_lc) ga_nil))) fw)) (by rw [hl]; exact sz (show 14 + 3 * i + 3 ≤ 100000 by omega))) (congrArg (Dt.seq true) (dueN_succ i))) fun p hp => ?_
    refine ok_set1D (d := .seq true (dueN (i + 1))) (GD.cast (GN.gd (gn_cat (ds := dueN i) (es := [uf, uf, uf]) (gd_var rfl) (GD.cast (GN.gd (gn_rep (ds := [uf]) (GN.gd (gn_lst (ga_cons (GN.gd (gn_lst (ga_cons gd_str (ga_cons gd_bl ga_nil)) fw)) ga_nil) fw)) gd_int (by decide) (by decide) (by decide))) rfl) (by rw [hl]; exact sz (show 14 + 3 * i + 3 ≤ 100000 by omega)))) (congrArg (Dt.seq true) (dueN_succ i))) fun σ H E => ⟨_, .inr ⟨Nat.succ_pos i, p, hp, E⟩⟩
  · rintro H2 σ' H' s2 ⟨o9, ⟨z, _⟩ | ⟨_, p, hp, E2⟩⟩
    · cases z
    replace E2 : En (p :: qs) [([], H)] σ' H' (rhoH (.ow p (.seq true (dueN 2))) (.im (.seq true (dueN 2))) o9) := E2.unbase
    dsimp only
    refine (?_ : Ok (p :: qs) [([], H)] _ _ D) σ' H' E2
    have ls : ∀ {ρ : List Sl} {i : Nat} {g : Grid} {X : XK}, Shp g → ρ[i]? = some (.im (dHeap false g)) → GD (tCall (spI (ι := Bool × Grid) (fun i => [dHeap i.1 i.2]) (fun i => Shp i.2) (fun i d => d = dHeap true i.2)) [] X (tCons (tVar i) tNil)) ρ (dHeap true g) := fun {ρ i g X} S h => gd_call (f := fun i : Bool × Grid => dHeap true i.2) (i := (false, g)) (ga_cons (gd_var h) ga_nil) S
    refine ok_seq (ok_append (i := 7) (p := p) (ds := dueN 2) (d := .bl true) rfl (GE.gd (ge_callR (i := (true, g_shut, true, g_solid)) (da := dHeap true g_solid) (db := dHeap true g_shut) (ga_cons (GD.cast (GN.gd (gn_rep (ds := [tupI true [1, 1]]) (GN.gd (gn_lst (ga_cons (GN.gd (gn_lst (ga_cons gd_int (ga_cons gd_int ga_nil)) fw)) ga_nil) fw)) gd_int (by decide) (by decide) (by decide))) rfl) (ga_cons (ls shp_shut rfl) ga_nil)) rfl ⟨shp_shut, shp_solid, ⟨by decide +kernel, by decide +kernel⟩⟩) (fun d e => e.trans (congrArg Dt.bl (decide_eq_true al_ss)))) (szlt (by decide +kernel)) ?_)
    refine ok_seq (ok_append (i := 7) (p := p) (ds := dueN 2 ++ [.bl true]) (d := dCell (1, 0)) rfl (GE.gd (ge_callR (i := (true, g_lean, true, g_shut)) (da := dHeap true g_shut) (db := dHeap true g_lean) (ga_cons (ls shp_shut rfl) (ga_cons (ls shp_lean rfl) ga_nil)) rfl ⟨shp_lean, shp_shut, ⟨by decide +kernel, by decide +kernel⟩⟩) (fun d e => e.trans pa_ls)) (szlt (by decide +kernel)) ?_)
    refine ok_seq (ok_append (i := 7) (p := p) (ds := (dueN 2 ++ [.bl true]) ++ [dCell (1, 0)]) (d := .int 1) rfl (GE.gd (ge_callR (post := postLu) (i := (true, g_vault, true, g_lean)) (da := dHeap true g_lean) (db := dHeap true g_vault) (ga_cons (ls shp_lean rfl) (ga_cons (ls shp_vault rfl) ga_nil)) rfl ⟨shp_vault, shp_lean⟩) (fun d ⟨_, _, O, O', e⟩ => e.trans (lu_of drw_vault drw_lean lu_vl O O'))) (szlt (by decide +kernel)) fun σ3 H3 E3 => ?_)
    dsimp only
    refine (?_ : Ok (p :: qs) [([], H)] _ (rhoH (.ow p (.seq true (((dueN 2 ++ [.bl true]) ++ [dCell (1, 0)]) ++ [.int 1]))) (.im (.seq true (dueN 2))) o9) D) σ3 H3 E3
    rw [show ((dueN 2 ++ [Dt.bl true]) ++ [dCell (1, 0)]) ++ [Dt.int 1] = dueN 2 ++ dueD by rw [List.append_assoc, List.append_assoc]; rfl]
    refine ok_frz (i := 7) (d := .seq true (dueN 2 ++ dueD)) rfl hp ?_
    refine ok_rtD (gd_call (f := fun _ => .bl true) (i := .seq true (dueN 2 ++ dueD)) (ga_cons (gd_var rfl) (ga_cons (GN.gd (gn_cat (ds := dueN 2) (es := dueD) (gd_var rfl) (GN.gd (gn_lst (ga_cons gd_bl (ga_cons (gd_tup (ga_cons gd_int (ga_cons gd_int ga_nil)) fw) (ga_cons gd_int ga_nil))) fw)) (by rw [dueN_len]; exact sz (show 20 + 3 ≤ 100000 by decide)))) ga_nil)) due_ok) hR rfl
end
end DL
set_option maxHeartbeats 1000000
namespace DL
open PySem PySem.Spec PyProof.Rows L2
def spLaw (K : PySem.W.Frag) : Sp := fun vs H Q _ => ∃ (a : Addr) (ns : List Int), vs = [.ref a] ∧ SqL K H a (ns.map V.int) ∧ ns.length ≤ 63 ∧ ∀ H', Q (.bl true) H'
section
variable {P : Program} {w : World} {K : PySem.W.Frag} {mg : Str → Option Value} {base : Heap} {C : Addr}
theorem fn_law {f : Addr} {fd : FuncData} (F : L2.Fun K "law" "law" s_law f fd) (T : Top K mg) (U : Unf K mg C) : FnOk P w K mg base CX0 13 f fd ["_law_script"] (spLaw K) := by
  have sc := sc_law
  refine F.ok sc (fun vs H Q E h => by obtain ⟨_, _, e, _⟩ := h; rw [e]; rfl) fun cdv A outer s H vs Q E hr h => ⟨_, (pss_one (ps_ret (pe_and (pe_ca0 (ca__law_by_hand_right T U) hr (by decide) (by rfl)) (pe_one (pe_ca (ca__law_right T) hr (by decide) (by rfl) (pa_cons (pe_ca (ca__law_box T) hr (by decide) (by rfl) (pa_cons (pe_ca (ca__law_cells T) hr (by decide) (by rfl) (pa_cons (pv 0) (pa_cons pe_int pa_nil))) (pa_cons pe_int pa_nil))) pa_nil)))))), ?_⟩
  obtain ⟨a, ns, rfl, hs, hl, q⟩ := h
  have E0 : En [] [([], H)] (L2.start N_law [.ref a]) H [.raw (.ref a)] := enG (show matchG H [] [some (V.ref a)] _ from ⟨rfl, trivial⟩) (fun a h => by simp at h)
  refine gd_call (f := fun _ => Dt.bl true) (i := ()) ga_nil trivial [] [([], H)] _ H E0 _ fun v H1 s1 h1 => ⟨true, is_bl h1, ?_⟩
  have E1 := E0.mono s1
  refine iteT ⟨_, E1.raw (i := 0) rfl, a, ns, rfl, s1.seq hs, hl, fun p z H2 s2 h2 => ⟨p, z, rfl, h2, fun p' H3 s3 T3 => ⟨p', 0, rfl, T3, by decide, fun H' => q H'⟩⟩⟩
theorem law_main {l : PySem.W.OpenLaw} {fa : Addr} (T : Top K mg) (U : Unf K mg C) (hfa : mg "law" = some (.ref fa)) : ∃ fd : FuncData, (∀ (s : Shared) (v : Value), BindsTo s fd ⟨[v], []⟩ [("_law_script", v)]) ∧ ∀ base : Heap, K.In base → base.Ns mainGlobals mg → FnOk l.prog w K mg base CX0 13 fa fd ["_law_script"] (spLaw K) := by
  obtain ⟨f, fd, F, hm⟩ := T.f_law
  cases hfa.symm.trans hm
  refine ⟨fd, fun s v => ?_, fun base _ _ => fn_law F T U⟩
  obtain ⟨oc, od, kV, doc, pm, an, cdv, ct, osl, rfl, _, _⟩ := F.ex
  exact .of_eq rfl
end
end DL
set_option maxHeartbeats 0
/-! The head: what the top leaves. Printed by hd.py. -/
namespace DL
open PySem PySem.Spec PyProof.Rows L2
theorem fn_fact {K : PySem.W.Frag} {h : Heap} {mg : Str → Option Value} {x : Str} {st : Stmt} {f : Addr} {oc kV doc pm cdv ct : Value} {od an : Option Addr} {osl : Array (Option Value)} (X : K.In h) (G : h.Ns mainGlobals mg)
    (a : PySem.W.nsIn K mainGlobals x = some (some (.ref f))) (l : K.lookup f = some ⟨oc, od, .func (PySem.W.fnOf x x (defArgs st) (defBody st) (defScope st) .none kV doc pm an cdv ct), osl⟩) (c : PySem.W.codeIn K cdv x = true) (k : PySem.W.keepIn K (.ref f) = true) : Fn K mg x st :=
  ⟨f, _, fun_mk l c k, PySem.W.mg_of X G a⟩
theorem int_fact {K : PySem.W.Frag} {h : Heap} {mg : Str → Option Value} (X : K.In h) (G : h.Ns mainGlobals mg) {n : Str} {i : Int} {t : Tok} (a : PySem.W.nsIn K mainGlobals n = some (some (.int i t))) : ∃ t, mg n = some (.int i t) := ⟨t, PySem.W.mg_of X G a⟩
abbrev FnX {K : PySem.W.Frag} {h : Heap} (_ : K.In h) : (Str → Option Value) → Str → Stmt → Prop := Fn K
theorem kit_ty {K : PySem.W.Frag} {t : Value} {T : String} (m : PySem.W.kitMeta T = true) (s : PySem.W.subIn K t (.type T) = some true) : PySem.W.kitOne K t (.type T) = some true := by
  unfold PySem.W.kitOne PySem.W.kitCls
  split
  · rfl
  · dsimp only
    rw [if_pos m, s]
theorem unf_mk {K : PySem.W.Frag} {h : Heap} {mg : Str → Option Value} {C : Addr} (X : K.In h) (G : h.Ns mainGlobals mg)
    (a : PySem.W.nsIn K mainGlobals "Unfit" = some (some (.ref C))) (x : PySem.W.excIn K C [.type "ValueError", .type "Exception", .type "BaseException", .type "object"] "ValueError.__new__" = true) (k : PySem.W.keepIn K (.ref C) = true)
    (b : PySem.W.subIn K (.ref C) (.type "BaseException") = some true) (t : PySem.W.typeIn K (.ref C) = some (.type "type")) (i : PySem.W.isClsIn K C = true) (s : PySem.W.subIn K (.ref C) (.ref C) = some true)
    (hg : PySem.W.findIn K (.ref C) "__getattribute__" = some (some (.builtin "BaseException.__getattribute__"))) (hk : PySem.W.findIn K (.ref C) "__getattr__" = some none) (hd : PySem.W.hasDictIn K C = true) (ha : PySem.W.findIn K (.ref C) "__class__" = some (some (.builtin "object.__class__")))
    (hn : PySem.W.specialIn K (.builtin "object.__class__") "__get__" = some (some (.builtin "getset_descriptor.__get__"))) (ht : PySem.W.takesIn K (.builtin "object.__class__") = some true) (hm : PySem.W.mroIn K C (.type "object") = some true)
    (v : PySem.W.subIn K (.ref C) (.type "ValueError") = some true) (n : mg "ValueError" = none) : Unf K mg C :=
  ⟨PySem.W.mg_of X G a, x, k, b, t, i, s, ⟨hg, hk, b, hd, ha, hn, ht, hm⟩, kit_ty (by decide +kernel) v, n⟩
end DL
open PySem PySem.W PyProof.Rows
set_option maxHeartbeats 0 in
theorem PySem.Challenge.cw_laidandeaten_k13_whole_two_sections_laid_holds : PySem.Challenge.rw_laidandeaten_k13_whole_two_sections_laid.Holds := by
  w_on; o_law; k_head; (case hw => w_witness2)
  k_fill
  refine L2.walk_ofK (l := PySem.Challenge.rw_laidandeaten_k13_whole_two_sections_laid) (n := 63) (k := 13) (x := "_law_script") (CX := L2.CX0) (sp := DL.spLaw) rfl (by decide) rfl ⟨rfl, by decide, by decide⟩ (fun w h Y => PySem.W.kIn_of Y) ?F (fun _ _ a ns hl _ hS => ⟨a, ns, rfl, hS, hl, fun _ => rfl⟩) (fun _ _ _ _ h => h)
  case F =>
    intro w mg fa h KX G hmg
    have f_is_number : DL.FnX KX mg "is_number" DL.s_is_number := by
      refine' DL.fn_fact KX G ?a ?l ?c ?k
      (case a => k_is); (case l => k_is); (case c => k_is); (case k => k_is)
    have f_is_from : DL.FnX KX mg "is_from" DL.s_is_from := by
      refine' DL.fn_fact KX G ?a ?l ?c ?k
      (case a => k_is); (case l => k_is); (case c => k_is); (case k => k_is)
    have f_is_row : DL.FnX KX mg "is_row" DL.s_is_row := by
      refine' DL.fn_fact KX G ?a ?l ?c ?k
      (case a => k_is); (case l => k_is); (case c => k_is); (case k => k_is)
    have f_tupled : DL.FnX KX mg "tupled" DL.s_tupled := by
      refine' DL.fn_fact KX G ?a ?l ?c ?k
      (case a => k_is); (case l => k_is); (case c => k_is); (case k => k_is)
    have f_set_of : DL.FnX KX mg "set_of" DL.s_set_of := by
      refine' DL.fn_fact KX G ?a ?l ?c ?k
      (case a => k_is); (case l => k_is); (case c => k_is); (case k => k_is)
    have f_is_cell : DL.FnX KX mg "is_cell" DL.s_is_cell := by
      refine' DL.fn_fact KX G ?a ?l ?c ?k
      (case a => k_is); (case l => k_is); (case c => k_is); (case k => k_is)
    have f_some_cell : DL.FnX KX mg "some_cell" DL.s_some_cell := by
      refine' DL.fn_fact KX G ?a ?l ?c ?k
      (case a => k_is); (case l => k_is); (case c => k_is); (case k => k_is)
    have f_all_cells : DL.FnX KX mg "all_cells" DL.s_all_cells := by
      refine' DL.fn_fact KX G ?a ?l ?c ?k
      (case a => k_is); (case l => k_is); (case c => k_is); (case k => k_is)
    have f_stuff_at : DL.FnX KX mg "stuff_at" DL.s_stuff_at := by
      refine' DL.fn_fact KX G ?a ?l ?c ?k
      (case a => k_is); (case l => k_is); (case c => k_is); (case k => k_is)
    have f_near_cells : DL.FnX KX mg "near_cells" DL.s_near_cells := by
      refine' DL.fn_fact KX G ?a ?l ?c ?k
      (case a => k_is); (case l => k_is); (case c => k_is); (case k => k_is)
    have f_beside : DL.FnX KX mg "beside" DL.s_beside := by
      refine' DL.fn_fact KX G ?a ?l ?c ?k
      (case a => k_is); (case l => k_is); (case c => k_is); (case k => k_is)
    have f_flooded : DL.FnX KX mg "flooded" DL.s_flooded := by
      refine' DL.fn_fact KX G ?a ?l ?c ?k
      (case a => k_is); (case l => k_is); (case c => k_is); (case k => k_is)
    have f_lot_of_cells : DL.FnX KX mg "lot_of_cells" DL.s_lot_of_cells := by
      refine' DL.fn_fact KX G ?a ?l ?c ?k
      (case a => k_is); (case l => k_is); (case c => k_is); (case k => k_is)
    have f_open_cells : DL.FnX KX mg "open_cells" DL.s_open_cells := by
      refine' DL.fn_fact KX G ?a ?l ?c ?k
      (case a => k_is); (case l => k_is); (case c => k_is); (case k => k_is)
    have f_opened : DL.FnX KX mg "opened" DL.s_opened := by
      refine' DL.fn_fact KX G ?a ?l ?c ?k
      (case a => k_is); (case l => k_is); (case c => k_is); (case k => k_is)
    have f_parts_of : DL.FnX KX mg "parts_of" DL.s_parts_of := by
      refine' DL.fn_fact KX G ?a ?l ?c ?k
      (case a => k_is); (case l => k_is); (case c => k_is); (case k => k_is)
    have f_heights_of : DL.FnX KX mg "heights_of" DL.s_heights_of := by
      refine' DL.fn_fact KX G ?a ?l ?c ?k
      (case a => k_is); (case l => k_is); (case c => k_is); (case k => k_is)
    have f_air_cells : DL.FnX KX mg "air_cells" DL.s_air_cells := by
      refine' DL.fn_fact KX G ?a ?l ?c ?k
      (case a => k_is); (case l => k_is); (case c => k_is); (case k => k_is)
    have f_near_stuff : DL.FnX KX mg "near_stuff" DL.s_near_stuff := by
      refine' DL.fn_fact KX G ?a ?l ?c ?k
      (case a => k_is); (case l => k_is); (case c => k_is); (case k => k_is)
    have f_steps_of : DL.FnX KX mg "steps_of" DL.s_steps_of := by
      refine' DL.fn_fact KX G ?a ?l ?c ?k
      (case a => k_is); (case l => k_is); (case c => k_is); (case k => k_is)
    have f_necks_of : DL.FnX KX mg "necks_of" DL.s_necks_of := by
      refine' DL.fn_fact KX G ?a ?l ?c ?k
      (case a => k_is); (case l => k_is); (case c => k_is); (case k => k_is)
    have f_tops_out : DL.FnX KX mg "tops_out" DL.s_tops_out := by
      refine' DL.fn_fact KX G ?a ?l ?c ?k
      (case a => k_is); (case l => k_is); (case c => k_is); (case k => k_is)
    have f_above_of : DL.FnX KX mg "above_of" DL.s_above_of := by
      refine' DL.fn_fact KX G ?a ?l ?c ?k
      (case a => k_is); (case l => k_is); (case c => k_is); (case k => k_is)
    have f_tree : DL.FnX KX mg "tree" DL.s_tree := by
      refine' DL.fn_fact KX G ?a ?l ?c ?k
      (case a => k_is); (case l => k_is); (case c => k_is); (case k => k_is)
    have f_marks_of : DL.FnX KX mg "marks_of" DL.s_marks_of := by
      refine' DL.fn_fact KX G ?a ?l ?c ?k
      (case a => k_is); (case l => k_is); (case c => k_is); (case k => k_is)
    have f_chambers : DL.FnX KX mg "chambers" DL.s_chambers := by
      refine' DL.fn_fact KX G ?a ?l ?c ?k
      (case a => k_is); (case l => k_is); (case c => k_is); (case k => k_is)
    have f_hollow_row : DL.FnX KX mg "hollow_row" DL.s_hollow_row := by
      refine' DL.fn_fact KX G ?a ?l ?c ?k
      (case a => k_is); (case l => k_is); (case c => k_is); (case k => k_is)
    have f_sure_alike : DL.FnX KX mg "sure_alike" DL.s_sure_alike := by
      refine' DL.fn_fact KX G ?a ?l ?c ?k
      (case a => k_is); (case l => k_is); (case c => k_is); (case k => k_is)
    have f_alike_laid : DL.FnX KX mg "alike_laid" DL.s_alike_laid := by
      refine' DL.fn_fact KX G ?a ?l ?c ?k
      (case a => k_is); (case l => k_is); (case c => k_is); (case k => k_is)
    have f_first_laid : DL.FnX KX mg "first_laid" DL.s_first_laid := by
      refine' DL.fn_fact KX G ?a ?l ?c ?k
      (case a => k_is); (case l => k_is); (case c => k_is); (case k => k_is)
    have f_parting_cell : DL.FnX KX mg "parting_cell" DL.s_parting_cell := by
      refine' DL.fn_fact KX G ?a ?l ?c ?k
      (case a => k_is); (case l => k_is); (case c => k_is); (case k => k_is)
    have f_least_unlike : DL.FnX KX mg "least_unlike" DL.s_least_unlike := by
      refine' DL.fn_fact KX G ?a ?l ?c ?k
      (case a => k_is); (case l => k_is); (case c => k_is); (case k => k_is)
    have f__law_box : DL.FnX KX mg "_law_box" DL.s__law_box := by
      refine' DL.fn_fact KX G ?a ?l ?c ?k
      (case a => k_is); (case l => k_is); (case c => k_is); (case k => k_is)
    have f__law_take : DL.FnX KX mg "_law_take" DL.s__law_take := by
      refine' DL.fn_fact KX G ?a ?l ?c ?k
      (case a => k_is); (case l => k_is); (case c => k_is); (case k => k_is)
    have f__law_cells : DL.FnX KX mg "_law_cells" DL.s__law_cells := by
      refine' DL.fn_fact KX G ?a ?l ?c ?k
      (case a => k_is); (case l => k_is); (case c => k_is); (case k => k_is)
    have f__law_of : DL.FnX KX mg "_law_of" DL.s__law_of := by
      refine' DL.fn_fact KX G ?a ?l ?c ?k
      (case a => k_is); (case l => k_is); (case c => k_is); (case k => k_is)
    have f__law_lists : DL.FnX KX mg "_law_lists" DL.s__law_lists := by
      refine' DL.fn_fact KX G ?a ?l ?c ?k
      (case a => k_is); (case l => k_is); (case c => k_is); (case k => k_is)
    have f__law_same : DL.FnX KX mg "_law_same" DL.s__law_same := by
      refine' DL.fn_fact KX G ?a ?l ?c ?k
      (case a => k_is); (case l => k_is); (case c => k_is); (case k => k_is)
    have f__law_vault : DL.FnX KX mg "_law_vault" DL.s__law_vault := by
      refine' DL.fn_fact KX G ?a ?l ?c ?k
      (case a => k_is); (case l => k_is); (case c => k_is); (case k => k_is)
    have f__law_shed : DL.FnX KX mg "_law_shed" DL.s__law_shed := by
      refine' DL.fn_fact KX G ?a ?l ?c ?k
      (case a => k_is); (case l => k_is); (case c => k_is); (case k => k_is)
    have f__law_lean : DL.FnX KX mg "_law_lean" DL.s__law_lean := by
      refine' DL.fn_fact KX G ?a ?l ?c ?k
      (case a => k_is); (case l => k_is); (case c => k_is); (case k => k_is)
    have f__law_shut : DL.FnX KX mg "_law_shut" DL.s__law_shut := by
      refine' DL.fn_fact KX G ?a ?l ?c ?k
      (case a => k_is); (case l => k_is); (case c => k_is); (case k => k_is)
    have f__law_at : DL.FnX KX mg "_law_at" DL.s__law_at := by
      refine' DL.fn_fact KX G ?a ?l ?c ?k
      (case a => k_is); (case l => k_is); (case c => k_is); (case k => k_is)
    have f__law_round_about : DL.FnX KX mg "_law_round_about" DL.s__law_round_about := by
      refine' DL.fn_fact KX G ?a ?l ?c ?k
      (case a => k_is); (case l => k_is); (case c => k_is); (case k => k_is)
    have f__law_all_spots : DL.FnX KX mg "_law_all_spots" DL.s__law_all_spots := by
      refine' DL.fn_fact KX G ?a ?l ?c ?k
      (case a => k_is); (case l => k_is); (case c => k_is); (case k => k_is)
    have f__law_grown : DL.FnX KX mg "_law_grown" DL.s__law_grown := by
      refine' DL.fn_fact KX G ?a ?l ?c ?k
      (case a => k_is); (case l => k_is); (case c => k_is); (case k => k_is)
    have f__law_opened : DL.FnX KX mg "_law_opened" DL.s__law_opened := by
      refine' DL.fn_fact KX G ?a ?l ?c ?k
      (case a => k_is); (case l => k_is); (case c => k_is); (case k => k_is)
    have f__law_held : DL.FnX KX mg "_law_held" DL.s__law_held := by
      refine' DL.fn_fact KX G ?a ?l ?c ?k
      (case a => k_is); (case l => k_is); (case c => k_is); (case k => k_is)
    have f__law_hollows : DL.FnX KX mg "_law_hollows" DL.s__law_hollows := by
      refine' DL.fn_fact KX G ?a ?l ?c ?k
      (case a => k_is); (case l => k_is); (case c => k_is); (case k => k_is)
    have f__law_put : DL.FnX KX mg "_law_put" DL.s__law_put := by
      refine' DL.fn_fact KX G ?a ?l ?c ?k
      (case a => k_is); (case l => k_is); (case c => k_is); (case k => k_is)
    have f__law_washed : DL.FnX KX mg "_law_washed" DL.s__law_washed := by
      refine' DL.fn_fact KX G ?a ?l ?c ?k
      (case a => k_is); (case l => k_is); (case c => k_is); (case k => k_is)
    have f__law_tops : DL.FnX KX mg "_law_tops" DL.s__law_tops := by
      refine' DL.fn_fact KX G ?a ?l ?c ?k
      (case a => k_is); (case l => k_is); (case c => k_is); (case k => k_is)
    have f__law_growth : DL.FnX KX mg "_law_growth" DL.s__law_growth := by
      refine' DL.fn_fact KX G ?a ?l ?c ?k
      (case a => k_is); (case l => k_is); (case c => k_is); (case k => k_is)
    have f__law_roofs : DL.FnX KX mg "_law_roofs" DL.s__law_roofs := by
      refine' DL.fn_fact KX G ?a ?l ?c ?k
      (case a => k_is); (case l => k_is); (case c => k_is); (case k => k_is)
    have f__law_pile : DL.FnX KX mg "_law_pile" DL.s__law_pile := by
      refine' DL.fn_fact KX G ?a ?l ?c ?k
      (case a => k_is); (case l => k_is); (case c => k_is); (case k => k_is)
    have f__law_carve : DL.FnX KX mg "_law_carve" DL.s__law_carve := by
      refine' DL.fn_fact KX G ?a ?l ?c ?k
      (case a => k_is); (case l => k_is); (case c => k_is); (case k => k_is)
    have f__law_caves : DL.FnX KX mg "_law_caves" DL.s__law_caves := by
      refine' DL.fn_fact KX G ?a ?l ?c ?k
      (case a => k_is); (case l => k_is); (case c => k_is); (case k => k_is)
    have f__law_rooms : DL.FnX KX mg "_law_rooms" DL.s__law_rooms := by
      refine' DL.fn_fact KX G ?a ?l ?c ?k
      (case a => k_is); (case l => k_is); (case c => k_is); (case k => k_is)
    have f__law_ground : DL.FnX KX mg "_law_ground" DL.s__law_ground := by
      refine' DL.fn_fact KX G ?a ?l ?c ?k
      (case a => k_is); (case l => k_is); (case c => k_is); (case k => k_is)
    have f__law_layers : DL.FnX KX mg "_law_layers" DL.s__law_layers := by
      refine' DL.fn_fact KX G ?a ?l ?c ?k
      (case a => k_is); (case l => k_is); (case c => k_is); (case k => k_is)
    have f__law_capped : DL.FnX KX mg "_law_capped" DL.s__law_capped := by
      refine' DL.fn_fact KX G ?a ?l ?c ?k
      (case a => k_is); (case l => k_is); (case c => k_is); (case k => k_is)
    have f__law_all_of : DL.FnX KX mg "_law_all_of" DL.s__law_all_of := by
      refine' DL.fn_fact KX G ?a ?l ?c ?k
      (case a => k_is); (case l => k_is); (case c => k_is); (case k => k_is)
    have f__law_reply : DL.FnX KX mg "_law_reply" DL.s__law_reply := by
      refine' DL.fn_fact KX G ?a ?l ?c ?k
      (case a => k_is); (case l => k_is); (case c => k_is); (case k => k_is)
    have f__law_by_hand_right : DL.FnX KX mg "_law_by_hand_right" DL.s__law_by_hand_right := by
      refine' DL.fn_fact KX G ?a ?l ?c ?k
      (case a => k_is); (case l => k_is); (case c => k_is); (case k => k_is)
    have f__law_near : DL.FnX KX mg "_law_near" DL.s__law_near := by
      refine' DL.fn_fact KX G ?a ?l ?c ?k
      (case a => k_is); (case l => k_is); (case c => k_is); (case k => k_is)
    have f__law_laid : DL.FnX KX mg "_law_laid" DL.s__law_laid := by
      refine' DL.fn_fact KX G ?a ?l ?c ?k
      (case a => k_is); (case l => k_is); (case c => k_is); (case k => k_is)
    have f__law_right : DL.FnX KX mg "_law_right" DL.s__law_right := by
      refine' DL.fn_fact KX G ?a ?l ?c ?k
      (case a => k_is); (case l => k_is); (case c => k_is); (case k => k_is)
    have f_law : DL.FnX KX mg "law" DL.s_law := by
      refine' DL.fn_fact KX G ?a ?l ?c ?k
      (case a => k_is); (case l => k_is); (case c => k_is); (case k => k_is)
    have b_len : mg "len" = none := mg_none_of KX G (by k_is)
    have b_range : mg "range" = none := mg_none_of KX G (by k_is)
    have b_isinstance : mg "isinstance" = none := mg_none_of KX G (by k_is)
    have b_any : mg "any" = none := mg_none_of KX G (by k_is)
    have b_all : mg "all" = none := mg_none_of KX G (by k_is)
    have b_max : mg "max" = none := mg_none_of KX G (by k_is)
    have b_min : mg "min" = none := mg_none_of KX G (by k_is)
    have b_abs : mg "abs" = none := mg_none_of KX G (by k_is)
    have b_sorted : mg "sorted" = none := mg_none_of KX G (by k_is)
    have b_enumerate : mg "enumerate" = none := mg_none_of KX G (by k_is)
    have b_zip : mg "zip" = none := mg_none_of KX G (by k_is)
    have b_list : mg "list" = none := mg_none_of KX G (by k_is)
    have b_tuple : mg "tuple" = none := mg_none_of KX G (by k_is)
    have b_int : mg "int" = none := mg_none_of KX G (by k_is)
    have b_dict : mg "dict" = none := mg_none_of KX G (by k_is)
    have b_set : mg "set" = none := mg_none_of KX G (by k_is)
    have b_bool : mg "bool" = none := mg_none_of KX G (by k_is)
    have b_str : mg "str" = none := mg_none_of KX G (by k_is)
    have b_ValueError : mg "ValueError" = none := mg_none_of KX G (by k_is)
    have c_PAIR : ∃ t, mg "PAIR" = some (.int 2 t) := by
      refine' DL.int_fact KX G ?zPAIR
      (case zPAIR => k_is)
    have c_AIR : ∃ t, mg "AIR" = some (.int 0 t) := by
      refine' DL.int_fact KX G ?zAIR
      (case zAIR => k_is)
    refine' DL.law_main (l := PySem.Challenge.rw_laidandeaten_k13_whole_two_sections_laid) ⟨b_len, b_range, b_isinstance, b_any, b_all, b_max, b_min, b_abs, b_sorted, b_enumerate, b_zip, b_list, b_tuple, b_int, b_dict, b_set, b_bool, b_str, c_PAIR, c_AIR, f_is_number, f_is_from, f_is_row, f_tupled, f_set_of, f_is_cell, f_some_cell, f_all_cells, f_stuff_at, f_near_cells, f_beside, f_flooded, f_lot_of_cells, f_open_cells, f_opened, f_parts_of, f_heights_of, f_air_cells, f_near_stuff, f_steps_of, f_necks_of, f_tops_out, f_above_of, f_tree, f_marks_of, f_chambers, f_hollow_row, f_sure_alike, f_alike_laid, f_first_laid, f_parting_cell, f_least_unlike, f__law_box, f__law_take, f__law_cells, f__law_of, f__law_lists, f__law_same, f__law_vault, f__law_shed, f__law_lean, f__law_shut, f__law_at, f__law_round_about, f__law_all_spots, f__law_grown, f__law_opened, f__law_held, f__law_hollows, f__law_put, f__law_washed, f__law_tops, f__law_growth, f__law_roofs, f__law_pile, f__law_carve, f__law_caves, f__law_rooms, f__law_ground, f__law_layers, f__law_capped, f__law_all_of, f__law_reply, f__law_by_hand_right, f__law_near, f__law_laid, f__law_right, f_law⟩ (DL.unf_mk KX G ?a ?x ?k ?b ?t ?i ?s ?hg ?hk ?hd ?ha ?hn ?ht ?hm ?v b_ValueError) hmg
    (case a => k_is); (case x => k_exc); (case k => k_is); (case b => k_is); (case t => k_is); (case i => k_is); (case s => k_is); (case hg => k_is); (case hk => k_is); (case hd => k_is); (case ha => k_is); (case hn => k_is); (case ht => k_is); (case hm => k_is); (case v => k_is)
