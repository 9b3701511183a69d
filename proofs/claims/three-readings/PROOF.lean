import PyProof.Rows.All
import Wide.All
import OpenK.AllK
import Wide.FinOn
import HandS.ForMost
import HandS.ForExc
import HandS.TupAny
import HandS.TupMul
import HandS.Style
import HandS.DictTup
import HandS.Conv
import HandS.SetKeys
import KE.KDictDisplayH
import KE.GoesNew
import KE.GoesMore
import KE.GoesEnum
import HandS.ExcInit
import HandS.ExcField
import HandS.SortOrd
import HandS.IsInst
import HandS.Strs
import HandS.WideBits
import PySem.Challenge.RW_slidewires_k74_whole_three_readings
set_option Elab.async false
set_option linter.all false
set_option maxRecDepth 100000
set_option maxHeartbeats 4000000
/-! SwMath: kits, pictures, expressions, worths as plain data; the three readings agree. -/
namespace SW
open PySem

/-! ### expressions -/
inductive E where
  | inp (i : Nat) | num (i : Int) | less (a b : E) | pick (a b c : E)
def E.dep : E → Nat
  | .inp _ => 1
  | .num _ => 1
  | .less a b => max a.dep b.dep + 1
  | .pick a b c => max (max a.dep b.dep) c.dep + 1
def E.ev (ns : List Int) : E → Int
  | .inp i => ns.getD i 0
  | .num i => i
  | .less a b => if a.ev ns < b.ev ns then 1 else 0
  | .pick a b c => if a.ev ns ≠ 0 then b.ev ns else c.ev ns
def E.sub (cs : List E) : E → E
  | .inp i => cs.getD i (.num 0)
  | .num i => .num i
  | .less a b => .less (a.sub cs) (b.sub cs)
  | .pick a b c => .pick (a.sub cs) (b.sub cs) (c.sub cs)
def E.Ok (n : Nat) : E → Prop
  | .inp i => i < n
  | .num i => i = 0 ∨ i = 1
  | .less a b => a.Ok n ∧ b.Ok n
  | .pick a b c => a.Ok n ∧ b.Ok n ∧ c.Ok n
def E.D : E → PyData
  | .inp i => .tuple [.str "in", .int (i : Int)]
  | .num i => .tuple [.str "num", .int i]
  | .less a b => .tuple [.str "less", a.D, b.D]
  | .pick a b c => .tuple [.str "pick", a.D, b.D, c.D]
theorem getD_map {α β : Type} (f : α → β) (d : α) : ∀ (l : List α) (i : Nat), (l.map f).getD i (f d) = f (l.getD i d) := by
  intro l i
  rw [List.getD_eq_getElem?_getD, List.getD_eq_getElem?_getD, List.getElem?_map]
  cases l[i]? <;> rfl
theorem E.ev_sub (w : List Int) (cs : List E) : ∀ e : E, (e.sub cs).ev w = e.ev (cs.map (E.ev w))
  | .inp i => (getD_map (E.ev w) (.num 0) cs i).symm
  | .num _ => rfl
  | .less a b => by simp only [E.sub, E.ev, E.ev_sub w cs a, E.ev_sub w cs b]
  | .pick a b c => by simp only [E.sub, E.ev, E.ev_sub w cs a, E.ev_sub w cs b, E.ev_sub w cs c]
theorem E.dep_pos : ∀ e : E, 1 ≤ e.dep
  | .inp _ => Nat.le_refl _
  | .num _ => Nat.le_refl _
  | .less _ _ => by simp only [E.dep]; omega
  | .pick _ _ _ => by simp only [E.dep]; omega
theorem getD_mem {α : Type} {l : List α} {i : Nat} {d : α} (h : i < l.length) : l.getD i d ∈ l := by
  rw [List.getD_eq_getElem?_getD, List.getElem?_eq_getElem h]
  exact List.getElem_mem h
theorem E.dep_sub {cs : List E} {m : Nat} (hm : 1 ≤ m) (h : ∀ c ∈ cs, c.dep ≤ m) : ∀ e : E, (e.sub cs).dep ≤ e.dep + m
  | .inp i => by
    show (cs.getD i (.num 0)).dep ≤ 1 + m
    by_cases hi : i < cs.length
    · have := h _ (getD_mem (d := E.num 0) hi)
      omega
    · rw [List.getD_eq_getElem?_getD, List.getElem?_eq_none (by omega)]
      show 1 ≤ 1 + m
      omega
  | .num _ => by show 1 ≤ 1 + m; omega
  | .less a b => by
    have h1 := E.dep_sub hm h a
    have h2 := E.dep_sub hm h b
    simp only [E.sub, E.dep]
    omega
  | .pick a b c => by
    have h1 := E.dep_sub hm h a
    have h2 := E.dep_sub hm h b
    have h3 := E.dep_sub hm h c
    simp only [E.sub, E.dep]
    omega
theorem E.ok_sub {cs : List E} {n : Nat} (h : ∀ c ∈ cs, c.Ok n) : ∀ e : E, e.Ok cs.length → (e.sub cs).Ok n
  | .inp i, q => h _ (getD_mem (d := E.num 0) q)
  | .num _, q => q
  | .less a b, q => ⟨E.ok_sub h a q.1, E.ok_sub h b q.2⟩
  | .pick a b c, q => ⟨E.ok_sub h a q.1, E.ok_sub h b q.2.1, E.ok_sub h c q.2.2⟩

/-! ### worths -/
def Bits (w : List Int) : Prop := ∀ x ∈ w, x = 0 ∨ x = 1
theorem E.ev_bit {ns : List Int} (hb : Bits ns) : ∀ e : E, e.Ok ns.length → e.ev ns = 0 ∨ e.ev ns = 1
  | .inp i, q => hb _ (getD_mem (d := (0 : Int)) q)
  | .num _, q => q
  | .less a b, _ => by
    simp only [E.ev]
    split
    · exact .inr rfl
    · exact .inl rfl
  | .pick a b c, q => by
    simp only [E.ev]
    split
    · exact E.ev_bit hb b q.2.1
    · exact E.ev_bit hb c q.2.2
def W : Nat → List (List Int)
  | 0 => [[]]
  | n + 1 => (W n).flatMap fun w => [w ++ [0], w ++ [1]]
theorem bits_snoc {w : List Int} {x : Int} (h : Bits w) (hx : x = 0 ∨ x = 1) : Bits (w ++ [x]) := fun y hy => by
  rcases List.mem_append.mp hy with q | q
  · exact h y q
  · rw [List.mem_singleton.mp q]
    exact hx
theorem mem_W : ∀ {n : Nat} {w : List Int}, w ∈ W n ↔ w.length = n ∧ Bits w
  | 0, w => by
    constructor
    · intro h
      have e : w = [] := by simpa [W] using h
      subst e
      exact ⟨rfl, fun x hx => by cases hx⟩
    · rintro ⟨h, _⟩
      have e : w = [] := List.eq_nil_of_length_eq_zero h
      subst e
      simp [W]
  | n + 1, w => by
    show w ∈ (W n).flatMap (fun w => [w ++ [0], w ++ [1]]) ↔ _
    rw [List.mem_flatMap]
    constructor
    · rintro ⟨u, hu, hw⟩
      obtain ⟨h1, h2⟩ := mem_W.mp hu
      have hw' : w = u ++ [0] ∨ w = u ++ [1] := by simpa using hw
      rcases hw' with rfl | rfl
      · exact ⟨by rw [List.length_append, h1]; rfl, bits_snoc h2 (.inl rfl)⟩
      · exact ⟨by rw [List.length_append, h1]; rfl, bits_snoc h2 (.inr rfl)⟩
    · rintro ⟨h1, h2⟩
      have hne : w ≠ [] := fun e => by rw [e] at h1; cases h1
      have e := List.dropLast_concat_getLast hne
      refine ⟨w.dropLast, mem_W.mpr ⟨by rw [List.length_dropLast, h1]; rfl, fun x hx => h2 x (List.dropLast_subset _ hx)⟩, ?_⟩
      rcases h2 _ (List.getLast_mem hne) with q | q
      · rw [q] at e
        rw [e]
        simp
      · rw [q] at e
        rw [e]
        simp
theorem nodup_W : ∀ n : Nat, (W n).Nodup
  | 0 => by simp [W]
  | n + 1 => by
    have ih := nodup_W n
    show ((W n).flatMap fun w => [w ++ [0], w ++ [1]]).Nodup
    generalize W n = l at ih
    induction l with
    | nil => simp
    | cons a r ihr =>
      obtain ⟨h1, h2⟩ := List.nodup_cons.mp ih
      have ih2 := ihr h2
      have na : ∀ x : Int, a ++ [x] ∉ r.flatMap fun w => [w ++ [0], w ++ [1]] := fun x m => by
        obtain ⟨u, hu, hw⟩ := List.mem_flatMap.mp m
        have hw' : a ++ [x] = u ++ [0] ∨ a ++ [x] = u ++ [1] := by simpa using hw
        have e : a = u := by rcases hw' with e | e <;> exact (List.append_inj' e rfl).1
        exact h1 (e ▸ hu)
      rw [List.flatMap_cons]
      show ((a ++ [0]) :: (a ++ [1]) :: (r.flatMap fun w => [w ++ [0], w ++ [1]])).Nodup
      refine List.nodup_cons.mpr ⟨fun m => ?_, List.nodup_cons.mpr ⟨na 1, ih2⟩⟩
      rcases List.mem_cons.mp m with q | q
      · have := (List.append_inj' q rfl).2
        simp at this
      · exact na 0 q
theorem length_W : ∀ n : Nat, (W n).length = 2 ^ n
  | 0 => rfl
  | n + 1 => by
    have ih := length_W n
    show ((W n).flatMap fun w => [w ++ [0], w ++ [1]]).length = 2 ^ (n + 1)
    rw [Nat.pow_succ, ← ih]
    generalize W n = l
    induction l with
    | nil => rfl
    | cons a r ihr =>
      rw [List.flatMap_cons, List.length_append, ihr, List.length_cons]
      show 2 + r.length * 2 = (r.length + 1) * 2
      omega
theorem W_pos (n : Nat) : 1 ≤ (W n).length := by
  rw [length_W]
  exact Nat.one_le_two_pow
/-- the law's own row of worths -/
def lawRow (n m : Nat) : List Int := (List.range n).map fun j => ((m / 2 ^ (n - 1 - j) % 2 : Nat) : Int)
def LW (n : Nat) : List (List Int) := (List.range (2 ^ n)).map (lawRow n)
theorem range_two : ∀ k : Nat, List.range (k * 2) = (List.range k).flatMap fun m => [2 * m, 2 * m + 1]
  | 0 => rfl
  | k + 1 => by
    have e : (k + 1) * 2 = k * 2 + 1 + 1 := by omega
    rw [e, List.range_succ, List.range_succ, List.range_succ, List.flatMap_append, range_two k]
    have e2 : k * 2 = 2 * k := by omega
    simp [e2]
theorem lawRow_two (n m b : Nat) (hb : b < 2) : lawRow (n + 1) (2 * m + b) = lawRow n m ++ [(b : Int)] := by
  unfold lawRow
  rw [List.range_succ, List.map_append]
  have e1 : (List.range n).map (fun j => (((2 * m + b) / 2 ^ (n + 1 - 1 - j) % 2 : Nat) : Int)) = (List.range n).map fun j => ((m / 2 ^ (n - 1 - j) % 2 : Nat) : Int) := by
    refine List.map_congr_left fun j hj => ?_
    have hj' : j < n := List.mem_range.mp hj
    have e : n + 1 - 1 - j = (n - 1 - j) + 1 := by omega
    have e2 : (2 * m + b) / 2 = m := by omega
    rw [e, Nat.pow_succ, Nat.mul_comm (2 ^ _) 2, ← Nat.div_div_eq_div_mul, e2]
  have e3 : [n].map (fun j => (((2 * m + b) / 2 ^ (n + 1 - 1 - j) % 2 : Nat) : Int)) = [(b : Int)] := by
    have e : n + 1 - 1 - n = 0 := by omega
    have e2 : (2 * m + b) % 2 = b := by omega
    show [(((2 * m + b) / 2 ^ (n + 1 - 1 - n) % 2 : Nat) : Int)] = [(b : Int)]
    rw [e, Nat.pow_zero, Nat.div_one, e2]
  rw [e1, e3]
theorem LW_eq : ∀ n : Nat, LW n = W n
  | 0 => rfl
  | n + 1 => by
    have ih := LW_eq n
    show (List.range (2 ^ (n + 1))).map (lawRow (n + 1)) = (W n).flatMap fun w => [w ++ [0], w ++ [1]]
    rw [Nat.pow_succ, range_two, ← ih]
    unfold LW
    generalize List.range (2 ^ n) = l
    induction l with
    | nil => rfl
    | cons a r ihr =>
      rw [List.flatMap_cons, List.map_append, ihr, List.map_cons (a := a), List.flatMap_cons]
      have e0 := lawRow_two n a 0 (by decide)
      have e1 := lawRow_two n a 1 (by decide)
      show [lawRow (n + 1) (2 * a), lawRow (n + 1) (2 * a + 1)] ++ _ = _
      rw [e1, show lawRow (n + 1) (2 * a) = lawRow n a ++ [((0 : Nat) : Int)] from e0]
      rfl

/-! ### kits and pictures -/
structure Bx where
  nm : Str
  ab : List Str
  be : List Str
structure Kit where
  so : List Str
  bx : List Bx
def txD (ws : List Str) : PyData := .tuple (ws.map .str)
def inD (ws : List Int) : PyData := .tuple (ws.map .int)
def Bx.D (b : Bx) : PyData := .tuple [.str b.nm, txD b.ab, txD b.be]
def Kit.D (k : Kit) : PyData := .tuple [.str "loose", txD k.so, .tuple (k.bx.map Bx.D)]
structure Kit.Good (k : Kit) : Prop where
  so1 : 1 ≤ k.so.length
  so4 : k.so.length ≤ 4
  sok : ∀ s ∈ k.so, PyData.strOk s = true
  nd : (k.bx.map Bx.nm).Nodup
  b8 : k.bx.length ≤ 8
  ab : ∀ b ∈ k.bx, b.ab.length ≤ 4 ∧ ∀ s ∈ b.ab, s ∈ k.so
  be : ∀ b ∈ k.bx, b.be.length ≤ 4 ∧ ∀ s ∈ b.be, s ∈ k.so
  nok : ∀ b ∈ k.bx, PyData.strOk b.nm = true
def Kit.at (k : Kit) (i : Nat) : Bx := k.bx.getD i ⟨Str.empty, [], []⟩
theorem Kit.at_get {k : Kit} {i : Nat} (h : i < k.bx.length) : k.bx[i]? = some (k.at i) := by
  unfold Kit.at
  rw [List.getD_eq_getElem?_getD, List.getElem?_eq_getElem h]
  rfl
theorem Kit.at_mem {k : Kit} {i : Nat} (h : i < k.bx.length) : k.at i ∈ k.bx := getD_mem h
inductive Stp where
  | box (i : Nat) | cross
abbrev Lay := Nat × Stp
def Stp.D (k : Kit) : Stp → PyData
  | .box i => .tuple [.str "box", .str (k.at i).nm]
  | .cross => .tuple [.str "cross"]
def layD (k : Kit) (l : Lay) : PyData := .tuple [.int (l.1 : Int), l.2.D k]
structure Pic where
  ab : List Str
  la : List Lay
def Pic.D (k : Kit) (p : Pic) : PyData := .tuple [txD p.ab, .tuple (p.la.map (layD k))]
/-- n items from p on give way to what mid makes of them -/
def app {α : Type} (p n : Nat) (mid : List α → List α) (l : List α) : List α := l.take p ++ mid ((l.drop p).take n) ++ l.drop (p + n)
theorem app_map {α β : Type} {f : α → β} {m1 : List α → List α} {m2 : List β → List β} (h : ∀ x, (m1 x).map f = m2 (x.map f)) (p n : Nat) (l : List α) : (app p n m1 l).map f = app p n m2 (l.map f) := by
  unfold app
  rw [List.map_append, List.map_append, h, List.map_take, List.map_take, List.map_drop, List.map_drop]
theorem app_length {α : Type} {p n : Nat} {mid : List α → List α} {l : List α} (h : p + n ≤ l.length) : (app p n mid l).length = l.length - n + (mid ((l.drop p).take n)).length := by
  unfold app
  rw [List.length_append, List.length_append, List.length_take, List.length_drop]
  omega
theorem app_mem {α : Type} {p n : Nat} {mid : List α → List α} {l : List α} {x : α} (h : x ∈ app p n mid l) : x ∈ l ∨ x ∈ mid ((l.drop p).take n) := by
  unfold app at h
  rcases List.mem_append.mp h with q | q
  · rcases List.mem_append.mp q with q | q
    · exact .inl (List.mem_of_mem_take q)
    · exact .inr q
  · exact .inl (List.mem_of_mem_drop q)
def layW (k : Kit) (ws : List Str) (l : Lay) : List Str := match l.2 with
  | .cross => app l.1 2 List.reverse ws
  | .box i => app l.1 (k.at i).ab.length (fun _ => (k.at i).be) ws
def Fits (k : Kit) (ws : List Str) (l : Lay) : Prop := match l.2 with
  | .cross => l.1 + 2 ≤ ws.length
  | .box i => i < k.bx.length ∧ l.1 + (k.at i).ab.length ≤ ws.length ∧ (ws.drop l.1).take (k.at i).ab.length = (k.at i).ab
def FitAll (k : Kit) : List Str → List Lay → Prop
  | _, [] => True
  | ws, l :: r => Fits k ws l ∧ (layW k ws l).length ≤ 8 ∧ FitAll k (layW k ws l) r
def wAt (k : Kit) (p : Pic) (n : Nat) : List Str := (p.la.take n).foldl (layW k) p.ab
structure Pic.Good (k : Kit) (p : Pic) : Prop where
  so : ∀ s ∈ p.ab, s ∈ k.so
  a6 : p.ab.length ≤ 6
  l12 : p.la.length ≤ 12
  fit : FitAll k p.ab p.la
theorem FitAll.at {k : Kit} : ∀ {la : List Lay} {ws : List Str} {n : Nat} {l : Lay}, FitAll k ws la → la[n]? = some l → Fits k ((la.take n).foldl (layW k) ws) l ∧ (layW k ((la.take n).foldl (layW k) ws) l).length ≤ 8
  | [], _, _, _, _, h => by cases h
  | a :: r, ws, 0, l, f, h => by
    have e : a = l := Option.some.inj h
    subst e
    exact ⟨f.1, f.2.1⟩
  | a :: r, ws, n + 1, l, f, h => FitAll.at (la := r) (ws := layW k ws a) (n := n) f.2.2 h
theorem FitAll.snoc {k : Kit} {l : Lay} : ∀ {la : List Lay} {ws : List Str}, FitAll k ws la → Fits k (la.foldl (layW k) ws) l → (layW k (la.foldl (layW k) ws) l).length ≤ 8 → FitAll k ws (la ++ [l])
  | [], _, _, h1, h2 => ⟨h1, h2, True.intro⟩
  | a :: r, ws, f, h1, h2 => ⟨f.1, f.2.1, FitAll.snoc (la := r) f.2.2 h1 h2⟩
theorem take_snoc {α : Type} {l : List α} {i : Nat} {x : α} (h : l[i]? = some x) : l.take (i + 1) = l.take i ++ [x] := by
  obtain ⟨hi, e⟩ := List.getElem?_eq_some_iff.mp h
  rw [List.take_succ, h]
  rfl
theorem wAt_succ {k : Kit} {p : Pic} {n : Nat} {l : Lay} (h : p.la[n]? = some l) : wAt k p (n + 1) = layW k (wAt k p n) l := by
  unfold wAt
  rw [take_snoc h, List.foldl_append]
  rfl
theorem Pic.Good.fits {k : Kit} {p : Pic} (g : p.Good k) {n : Nat} {l : Lay} (h : p.la[n]? = some l) : Fits k (wAt k p n) l := (g.fit.at h).1
theorem Pic.Good.le8 {k : Kit} {p : Pic} (g : p.Good k) : ∀ n : Nat, (wAt k p n).length ≤ 8
  | 0 => Nat.le_trans g.a6 (by decide)
  | n + 1 => by
    cases h : p.la[n]? with
    | some l =>
      rw [wAt_succ h]
      exact (g.fit.at h).2
    | none =>
      have hn := List.getElem?_eq_none_iff.mp h
      have e : wAt k p (n + 1) = wAt k p n := by
        unfold wAt
        rw [List.take_of_length_le hn, List.take_of_length_le (Nat.le_succ_of_le hn)]
      rw [e]
      exact g.le8 n
theorem layW_so {k : Kit} (G : k.Good) {ws : List Str} {l : Lay} (f : Fits k ws l) (h : ∀ s ∈ ws, s ∈ k.so) : ∀ s ∈ layW k ws l, s ∈ k.so := by
  obtain ⟨p, st⟩ := l
  cases st with
  | cross =>
    intro s hs
    rcases app_mem hs with q | q
    · exact h s q
    · exact h s (List.mem_of_mem_drop (List.mem_of_mem_take (List.mem_reverse.mp q)))
  | box i =>
    intro s hs
    rcases app_mem (mid := fun _ => (k.at i).be) hs with q | q
    · exact h s q
    · exact (G.be _ (Kit.at_mem f.1)).2 s q
theorem Pic.Good.sos {k : Kit} {p : Pic} (G : k.Good) (g : p.Good k) : ∀ n : Nat, ∀ s ∈ wAt k p n, s ∈ k.so
  | 0 => g.so
  | n + 1 => by
    cases h : p.la[n]? with
    | some l =>
      rw [wAt_succ h]
      exact layW_so G (g.fits h) (g.sos G n)
    | none =>
      have hn := List.getElem?_eq_none_iff.mp h
      have e : wAt k p (n + 1) = wAt k p n := by
        unfold wAt
        rw [List.take_of_length_le hn, List.take_of_length_le (Nat.le_succ_of_le hn)]
      rw [e]
      exact g.sos G n
def Pic.below (k : Kit) (p : Pic) : List Str := wAt k p p.la.length

/-! ### fillings and the readings -/
abbrev Fl := List (List E)
structure FlGood (k : Kit) (fl : Fl) : Prop where
  len : fl.length = k.bx.length
  out : ∀ i, i < k.bx.length → (fl.getD i []).length = (k.at i).be.length
  ok : ∀ i, i < k.bx.length → ∀ e ∈ fl.getD i [], e.Ok (k.at i).ab.length ∧ e.dep ≤ 3
def due (fl : Fl) (i : Nat) (w : List Int) : List Int := (fl.getD i []).map (E.ev w)
def layN (k : Kit) (fl : Fl) (w : List Int) (l : Lay) : List Int := match l.2 with
  | .cross => app l.1 2 List.reverse w
  | .box i => app l.1 (k.at i).ab.length (due fl i) w
def layE (k : Kit) (fl : Fl) (es : List E) (l : Lay) : List E := match l.2 with
  | .cross => app l.1 2 List.reverse es
  | .box i => app l.1 (k.at i).ab.length (fun cs => (fl.getD i []).map (E.sub cs)) es
def fin (k : Kit) (fl : Fl) (p : Pic) (w : List Int) : List Int := p.la.foldl (layN k fl) w
def told (k : Kit) (fl : Fl) (p : Pic) (n : Nat) : List E := (p.la.take n).foldl (layE k fl) ((List.range p.ab.length).map E.inp)
theorem layE_map (k : Kit) (fl : Fl) (w : List Int) (es : List E) (l : Lay) : (layE k fl es l).map (E.ev w) = layN k fl (es.map (E.ev w)) l := by
  obtain ⟨p, st⟩ := l
  cases st with
  | cross => exact app_map (fun x => List.map_reverse) _ _ _
  | box i =>
    refine app_map (m1 := fun cs => (fl.getD i []).map (E.sub cs)) (m2 := due fl i) (fun x => ?_) _ _ _
    show ((fl.getD i []).map (E.sub x)).map (E.ev w) = (fl.getD i []).map (E.ev (x.map (E.ev w)))
    rw [List.map_map]
    exact List.map_congr_left fun e _ => E.ev_sub w x e
theorem foldE_map (k : Kit) (fl : Fl) (w : List Int) : ∀ (la : List Lay) (es : List E), (la.foldl (layE k fl) es).map (E.ev w) = la.foldl (layN k fl) (es.map (E.ev w))
  | [], _ => rfl
  | l :: r, es => by
    rw [List.foldl_cons, List.foldl_cons, foldE_map k fl w r, layE_map]
theorem inputs_ev (w : List Int) : ((List.range w.length).map E.inp).map (E.ev w) = w := by
  rw [List.map_map]
  refine List.ext_getElem (by rw [List.length_map, List.length_range]) fun i h1 h2 => ?_
  rw [List.getElem_map, List.getElem_range]
  show w.getD i 0 = w[i]
  rw [List.getD_eq_getElem?_getD, List.getElem?_eq_getElem h2]
  rfl
/-- THE LAW: the program, run, is what the worths come to -/
theorem told_fin (k : Kit) (fl : Fl) (p : Pic) {w : List Int} (h : w.length = p.ab.length) : (told k fl p p.la.length).map (E.ev w) = fin k fl p w := by
  unfold told fin
  rw [List.take_length, foldE_map, ← h, inputs_ev]
theorem layN_length {k : Kit} {fl : Fl} (F : FlGood k fl) {w : List Int} {ws : List Str} {l : Lay} (f : Fits k ws l) (h : w.length = ws.length) : (layN k fl w l).length = (layW k ws l).length := by
  obtain ⟨p, st⟩ := l
  cases st with
  | cross =>
    have f' : p + 2 ≤ ws.length := f
    show (app p 2 List.reverse w).length = (app p 2 List.reverse ws).length
    rw [app_length (by omega), app_length f', h, List.length_reverse, List.length_reverse, List.length_take, List.length_take, List.length_drop, List.length_drop, h]
  | box i =>
    have f' : i < k.bx.length ∧ p + (k.at i).ab.length ≤ ws.length ∧ _ := f
    show (app p _ (due fl i) w).length = (app p _ (fun _ => (k.at i).be) ws).length
    rw [app_length (by omega), app_length f'.2.1, h]
    unfold due
    rw [List.length_map, F.out i f'.1]
theorem bits_app {p n : Nat} {mid : List Int → List Int} {w : List Int} (h : Bits w) (hm : Bits (mid ((w.drop p).take n))) : Bits (app p n mid w) := fun x hx => by
  rcases app_mem hx with q | q
  · exact h x q
  · exact hm x q
theorem bits_cut {w : List Int} (h : Bits w) (p n : Nat) : Bits ((w.drop p).take n) := fun x hx => h x (List.mem_of_mem_drop (List.mem_of_mem_take hx))
theorem due_bits {k : Kit} {fl : Fl} (F : FlGood k fl) {i : Nat} (hi : i < k.bx.length) {w : List Int} (hw : w.length = (k.at i).ab.length) (h : Bits w) : Bits (due fl i w) := fun x hx => by
  obtain ⟨e, he, rfl⟩ := List.mem_map.mp hx
  exact E.ev_bit h e (by rw [hw]; exact (F.ok i hi e he).1)
theorem due_length {k : Kit} {fl : Fl} (F : FlGood k fl) {i : Nat} (hi : i < k.bx.length) (w : List Int) : (due fl i w).length = (k.at i).be.length := by
  unfold due
  rw [List.length_map, F.out i hi]
theorem cut_length {α : Type} {l : List α} {p n : Nat} (h : p + n ≤ l.length) : ((l.drop p).take n).length = n := by
  rw [List.length_take, List.length_drop]
  omega
theorem layN_bits {k : Kit} {fl : Fl} (F : FlGood k fl) {w : List Int} {ws : List Str} {l : Lay} (f : Fits k ws l) (h : w.length = ws.length) (hb : Bits w) : Bits (layN k fl w l) := by
  obtain ⟨p, st⟩ := l
  cases st with
  | cross => exact bits_app hb fun x hx => bits_cut hb p 2 x (List.mem_reverse.mp hx)
  | box i =>
    have f' : i < k.bx.length ∧ p + (k.at i).ab.length ≤ ws.length ∧ _ := f
    exact bits_app hb (due_bits F f'.1 (cut_length (by omega)) (bits_cut hb _ _))
/-- the worths behind n layers -/
def nAt (k : Kit) (fl : Fl) (p : Pic) (w : List Int) (n : Nat) : List Int := (p.la.take n).foldl (layN k fl) w
theorem nAt_succ {k : Kit} {fl : Fl} {p : Pic} {w : List Int} {n : Nat} {l : Lay} (h : p.la[n]? = some l) : nAt k fl p w (n + 1) = layN k fl (nAt k fl p w n) l := by
  unfold nAt
  rw [take_snoc h, List.foldl_append]
  rfl
theorem nAt_end (k : Kit) (fl : Fl) (p : Pic) (w : List Int) : nAt k fl p w p.la.length = fin k fl p w := by
  unfold nAt fin
  rw [List.take_length]
theorem nAt_ok {k : Kit} {fl : Fl} {p : Pic} (F : FlGood k fl) (g : p.Good k) {w : List Int} (hl : w.length = p.ab.length) (hb : Bits w) : ∀ n, n ≤ p.la.length → (nAt k fl p w n).length = (wAt k p n).length ∧ Bits (nAt k fl p w n)
  | 0, _ => ⟨hl, hb⟩
  | n + 1, hn => by
    obtain ⟨h1, h2⟩ := nAt_ok F g hl hb n (by omega)
    have e : p.la[n]? = some p.la[n] := List.getElem?_eq_getElem (by omega)
    rw [nAt_succ e, wAt_succ e]
    exact ⟨layN_length F (g.fits e) h1, layN_bits F (g.fits e) h1 h2⟩
theorem fin_mem {k : Kit} {fl : Fl} {p : Pic} (F : FlGood k fl) (g : p.Good k) {w : List Int} (hw : w ∈ W p.ab.length) : fin k fl p w ∈ W (p.below k).length := by
  obtain ⟨h1, h2⟩ := mem_W.mp hw
  have q := nAt_ok F g h1 h2 _ (Nat.le_refl _)
  rw [nAt_end] at q
  exact mem_W.mpr q
theorem told_succ {k : Kit} {fl : Fl} {p : Pic} {n : Nat} {l : Lay} (h : p.la[n]? = some l) : told k fl p (n + 1) = layE k fl (told k fl p n) l := by
  unfold told
  rw [take_snoc h, List.foldl_append]
  rfl
theorem layE_length {k : Kit} {fl : Fl} (F : FlGood k fl) {w : List E} {ws : List Str} {l : Lay} (f : Fits k ws l) (h : w.length = ws.length) : (layE k fl w l).length = (layW k ws l).length := by
  obtain ⟨p, st⟩ := l
  cases st with
  | cross =>
    have f' : p + 2 ≤ ws.length := f
    show (app p 2 List.reverse w).length = (app p 2 List.reverse ws).length
    rw [app_length (by omega), app_length f', h, List.length_reverse, List.length_reverse, List.length_take, List.length_take, List.length_drop, List.length_drop, h]
  | box i =>
    have f' : i < k.bx.length ∧ p + (k.at i).ab.length ≤ ws.length ∧ _ := f
    show (app p _ (fun cs => (fl.getD i []).map (E.sub cs)) w).length = (app p _ (fun _ => (k.at i).be) ws).length
    rw [app_length (by omega), app_length f'.2.1, h, List.length_map, F.out i f'.1]
/-- what the program's expressions are, layer by layer: as many as wires, over the feet above, not deep -/
theorem told_ok {k : Kit} {fl : Fl} {p : Pic} (F : FlGood k fl) (g : p.Good k) : ∀ n, n ≤ p.la.length → (told k fl p n).length = (wAt k p n).length ∧ ∀ e ∈ told k fl p n, e.Ok p.ab.length ∧ e.dep ≤ 3 * n + 1
  | 0, _ => by
    refine ⟨by unfold told wAt; simp, fun e he => ?_⟩
    have he' : e ∈ (List.range p.ab.length).map E.inp := he
    obtain ⟨i, hi, rfl⟩ := List.mem_map.mp he'
    exact ⟨List.mem_range.mp hi, Nat.le_refl _⟩
  | n + 1, hn => by
    obtain ⟨h1, h2⟩ := told_ok F g n (by omega)
    have e : p.la[n]? = some p.la[n] := List.getElem?_eq_getElem (by omega)
    have f := g.fits e
    rw [told_succ e, wAt_succ e]
    refine ⟨layE_length F f h1, ?_⟩
    revert f
    generalize p.la[n] = l
    obtain ⟨q, st⟩ := l
    cases st with
    | cross =>
      intro f x hx
      have hx' : x ∈ told k fl p n := by
        rcases app_mem hx with z | z
        · exact z
        · exact List.mem_of_mem_drop (List.mem_of_mem_take (List.mem_reverse.mp z))
      obtain ⟨a, b⟩ := h2 x hx'
      exact ⟨a, by omega⟩
    | box i =>
      intro f x hx
      have f' : i < k.bx.length ∧ q + (k.at i).ab.length ≤ (wAt k p n).length ∧ _ := f
      rcases app_mem (mid := fun cs => (fl.getD i []).map (E.sub cs)) hx with z | z
      · obtain ⟨a, b⟩ := h2 x z
        exact ⟨a, by omega⟩
      · obtain ⟨y, hy, rfl⟩ := List.mem_map.mp z
        obtain ⟨o, d⟩ := F.ok i f'.1 y hy
        have hc : ∀ c ∈ ((told k fl p n).drop q).take (k.at i).ab.length, c.Ok p.ab.length ∧ c.dep ≤ 3 * n + 1 := fun c hc => h2 c (List.mem_of_mem_drop (List.mem_of_mem_take hc))
        refine ⟨E.ok_sub (fun c h => (hc c h).1) y (by rw [cut_length (by omega)]; exact o), ?_⟩
        have z : (E.sub (((told k fl p n).drop q).take (k.at i).ab.length) y).dep ≤ y.dep + (3 * n + 1) := E.dep_sub (by omega) (fun c h => (hc c h).2) y
        show (E.sub (((told k fl p n).drop q).take (k.at i).ab.length) y).dep ≤ 3 * (n + 1) + 1
        omega

/-! ### the tables, the relations, as data -/
def onD (ends : List (List Int)) (w : List Int) : PyData := .tuple (ends.map fun e => .int (if e = w then 1 else 0))
def tabD (k : Kit) (fl : Fl) (i : Nat) : PyData := .tuple ((W (k.at i).ab.length).map fun w => onD (W (k.at i).be.length) (due fl i w))
def prD (w u : List Int) : PyData := .tuple [inD w, inD u]
def relD (k : Kit) (fl : Fl) (i : Nat) : PyData := .tuple ((W (k.at i).ab.length).map fun w => prD w (due fl i w))
def szD (k : Kit) : PyData := .tuple (k.so.map fun _ => .int 2)
def flD (fl : Fl) : PyData := .tuple (fl.map fun es => .tuple (es.map E.D))
def tabsD (k : Kit) (fl : Fl) : PyData := .tuple [szD k, .tuple ((List.range k.bx.length).map (tabD k fl))]
def relsD (k : Kit) (fl : Fl) : PyData := .tuple [szD k, .tuple ((List.range k.bx.length).map (relD k fl))]
def tabOut (k : Kit) (fl : Fl) (p : Pic) : PyData := .tuple ((W p.ab.length).map fun w => onD (W (p.below k).length) (fin k fl p w))
def relOut (k : Kit) (fl : Fl) (p : Pic) : PyData := .tuple ((W p.ab.length).map fun w => prD w (fin k fl p w))

/-! ### equality of data -/
theorem eqvAll_tx : ∀ a b : List Str, PyData.eqvAll (a.map .str) (b.map .str) = decide (a = b)
  | [], [] => by simp [PyData.eqvAll]
  | [], _ :: _ => by simp [PyData.eqvAll]
  | _ :: _, [] => by simp [PyData.eqvAll]
  | x :: a, y :: b => by
    have ih := eqvAll_tx a b
    simp only [List.map_cons, PyData.eqvAll, PyData.eqv, ih]
    by_cases h : x = y
    · subst h
      by_cases h2 : a = b
      · subst h2; simp
      · simp [h2]
    · have : (x == y) = false := beq_eq_false_iff_ne.mpr h
      simp [this, h]
theorem eqvAll_in : ∀ a b : List Int, PyData.eqvAll (a.map .int) (b.map .int) = decide (a = b)
  | [], [] => by simp [PyData.eqvAll]
  | [], _ :: _ => by simp [PyData.eqvAll]
  | _ :: _, [] => by simp [PyData.eqvAll]
  | x :: a, y :: b => by
    have ih := eqvAll_in a b
    simp only [List.map_cons, PyData.eqvAll, PyData.eqv, ih]
    by_cases h : x = y
    · subst h
      by_cases h2 : a = b
      · subst h2; simp
      · simp [h2]
    · have : (x == y) = false := beq_eq_false_iff_ne.mpr h
      simp [this, h]
theorem eqv_tx (a b : List Str) : PyData.eqv (txD a) (txD b) = decide (a = b) := by
  unfold txD
  simp only [PyData.eqv]
  exact eqvAll_tx a b
theorem eqv_in (a b : List Int) : PyData.eqv (inD a) (inD b) = decide (a = b) := by
  unfold inD
  simp only [PyData.eqv]
  exact eqvAll_in a b
theorem eqv_lin (a b : List Int) : PyData.eqv (.list (a.map .int)) (.list (b.map .int)) = decide (a = b) := by
  simp only [PyData.eqv]
  exact eqvAll_in a b
theorem eqv_lnil (ds : List PyData) : PyData.eqv (.list ds) (.list []) = ds.isEmpty := by
  cases ds <;> simp [PyData.eqv, PyData.eqvAll]
end SW
/-! SwBase: frames, data trees of tuples, bundles for defs, comprehensions. -/
namespace SW
open PySem PySem.Spec PyProof.Rows L2

/-! ### frames: what a step keeps -/
def KT (H H' : Hp) : Prop := ∀ b xs, H b = some (.tup xs) → H' b = some (.tup xs)
/-- all but what S names is as it was; tuples stand -/
structure Kp (S : Addr → Prop) (H H' : Hp) : Prop where
  but : ∀ b o, ¬ S b → H b = some o → H' b = some o
  kt : KT H H'
  fz : ∀ b o xs, H b = some (.frz o (.tup xs)) → H' b = some (.frz o (.tup xs))
/-- no tuple stands there -/
def Wr (H : Hp) (p : Addr) : Prop := (∀ ys, H p ≠ some (.tup ys)) ∧ ∀ o ys, H p ≠ some (.frz o (.tup ys))
def no : Addr → Prop := fun _ => False
def one (a : Addr) : Addr → Prop := fun b => b = a
theorem KT.refl (H : Hp) : KT H H := fun _ _ h => h
theorem KT.trans {H H1 H2 : Hp} (a : KT H H1) (b : KT H1 H2) : KT H H2 := fun c xs h => b c xs (a c xs h)
section
variable {S S' : Addr → Prop} {H H1 H2 H' : Hp} {a b p : Addr} {o : HO} {K : PySem.W.Frag} {xs : List V}
theorem Kp.refl (H : Hp) : Kp S H H := ⟨fun _ _ _ h => h, KT.refl H, fun _ _ _ h => h⟩
theorem Kp.trans (x : Kp S H H1) (y : Kp S H1 H2) : Kp S H H2 := ⟨fun c o n h => y.but c o n (x.but c o n h), x.kt.trans y.kt, fun c o xs h => y.fz c o xs (x.fz c o xs h)⟩
theorem Kp.w (x : Kp no H H') : Kp S H H' := ⟨fun c o _ h => x.but c o (fun z => z) h, x.kt, x.fz⟩
theorem Kp.mono (x : Kp S H H') (h : ∀ b, S b → S' b) : Kp S' H H' := ⟨fun c o n q => x.but c o (fun z => n (h c z)) q, x.kt, x.fz⟩
theorem Kp.get (x : Kp no H H') (h : H b = some o) : H' b = some o := x.but b o (fun z => z) h
theorem Kp.at (x : Kp (one a) H H') (n : b ≠ a) (h : H b = some o) : H' b = some o := x.but b o n h
theorem Kp.of_same (s : Same H H') : Kp S H H' := ⟨fun c o _ h => s c o h, fun c xs h => s c _ h, fun c o xs h => s c _ h⟩
theorem Kp.same (x : Kp no H H') : Same H H' := fun c o h => x.get h
theorem Kp.new (h : H p = none) (o : HO) : Kp S H (upd H p o) := .of_same fun c u e => by rw [upd_ne (ne_of_none e h)]; exact e
theorem Kp.put (h : Wr H p) (hs : S p) (o : HO) : Kp S H (upd H p o) :=
  ⟨fun c u n e => by rw [upd_ne (fun z : c = p => n (z.symm ▸ hs))]; exact e, fun c ys e => by rw [upd_ne (fun z : c = p => h.1 ys (z ▸ e))]; exact e, fun c u ys e => by rw [upd_ne (fun z : c = p => h.2 u ys (z ▸ e))]; exact e⟩
/-- a thing that H did not know may be what it likes -/
theorem Kp.free (x : Kp S H H') (h : H p = none) (o : HO) : Kp S H (upd H' p o) :=
  ⟨fun c u n e => by rw [upd_ne (ne_of_none e h)]; exact x.but c u n e, fun c ys e => by rw [upd_ne (ne_of_none e h)]; exact x.kt c ys e, fun c u ys e => by rw [upd_ne (ne_of_none e h)]; exact x.fz c u ys e⟩
theorem Kp.none (x : Kp S H H') (n : ¬ S b) (h : H' b = none) : H b = none := by
  cases q : H b with
  | none => rfl
  | some u =>
    rw [x.but b u n q] at h
    cases h
theorem Kp.sql (x : Kp S H H') (n : ¬ S a) (h : SqL K H a xs) : SqL K H' a xs := by
  rcases h with (h | ⟨o, h⟩) | h
  · exact .inl (.inl (x.but _ _ n h))
  · exact .inl (.inr ⟨o, x.but _ _ n h⟩)
  · exact .inr h
theorem lst_tup {xs : List V} (h : H p = some (.lst xs)) : Wr H p := ⟨fun ys e => absurd (h.symm.trans e) (fun z => nomatch z), fun u ys e => absurd (h.symm.trans e) (fun z => nomatch z)⟩
theorem dT_tup {kvs : List (List Key × V)} (h : H p = some (.dT kvs)) : Wr H p := ⟨fun ys e => absurd (h.symm.trans e) (fun z => nomatch z), fun u ys e => absurd (h.symm.trans e) (fun z => nomatch z)⟩
theorem dK_tup {kvs : List (Key × V)} (h : H p = some (.dK kvs)) : Wr H p := ⟨fun ys e => absurd (h.symm.trans e) (fun z => nomatch z), fun u ys e => absurd (h.symm.trans e) (fun z => nomatch z)⟩
theorem ins_tup {C d : Addr} {fs : List (Str × V)} (h : H p = some (.ins C d fs)) : Wr H p := ⟨fun ys e => absurd (h.symm.trans e) (fun z => nomatch z), fun u ys e => absurd (h.symm.trans e) (fun z => nomatch z)⟩
theorem fz_tup {u : Obj} {kvs : List (List Key × V)} (h : H p = some (.frz u (.dT kvs))) : Wr H p := ⟨fun ys e => absurd (h.symm.trans e) (fun z => nomatch z), fun u ys e => absurd (h.symm.trans e) (fun z => nomatch z)⟩
end

/-! ### data: trees of tuples of ints and texts -/
mutual
inductive TD (H : Hp) : V → PyData → Prop
  | int (i : Int) : TD H (.int i) (.int i)
  | str (x : Str) : TD H (.str x) (.str x)
  | tup {a : Addr} {xs : List V} {ds : List PyData} : H a = some (.tup xs) → TDs H xs ds → TD H (.ref a) (.tuple ds)
inductive TDs (H : Hp) : List V → List PyData → Prop
  | nil : TDs H [] []
  | cons {v : V} {vs : List V} {d : PyData} {ds : List PyData} : TD H v d → TDs H vs ds → TDs H (v :: vs) (d :: ds)
end
section
variable {H H' : Hp} {K : PySem.W.Frag}
mutual
theorem TD.kt (k : KT H H') : ∀ (d : PyData) (v : V), TD H v d → TD H' v d
  | .none, _, h => by cases h
  | .bool _, _, h => by cases h
  | .int i, _, h => by
    cases h
    exact .int i
  | .str x, _, h => by
    cases h
    exact .str x
  | .list _, _, h => by cases h
  | .tuple ds, _, h => by
    cases h with
    | tup ha hs => exact .tup (k _ _ ha) (TDs.kt k ds _ hs)
  | .dict _, _, h => by cases h
theorem TDs.kt (k : KT H H') : ∀ (ds : List PyData) (vs : List V), TDs H vs ds → TDs H' vs ds
  | [], _, h => by
    cases h
    exact .nil
  | d :: ds, _, h => by
    cases h with
    | cons h1 h2 => exact .cons (TD.kt k d _ h1) (TDs.kt k ds _ h2)
end
mutual
theorem TD.dp : ∀ (d : PyData) (v : V), TD H v d → Dp K H v d
  | .none, _, h => by cases h
  | .bool _, _, h => by cases h
  | .int i, _, h => by
    cases h
    exact .int i
  | .str x, _, h => by
    cases h
    exact .str x
  | .list _, _, h => by cases h
  | .tuple ds, _, h => by
    cases h with
    | tup ha hs => exact .tup (SqT.of ha) (TDs.dp ds _ hs)
  | .dict _, _, h => by cases h
theorem TDs.dp : ∀ (ds : List PyData) (vs : List V), TDs H vs ds → DpAll K H vs ds
  | [], _, h => by
    cases h
    exact .nil
  | d :: ds, _, h => by
    cases h with
    | cons h1 h2 => exact .cons (TD.dp d _ h1) (TDs.dp ds _ h2)
end
variable {v : V} {vs : List V} {d : PyData} {ds : List PyData} {S : Addr → Prop}
theorem TD.k (x : Kp S H H') (h : TD H v d) : TD H' v d := TD.kt x.kt d v h
theorem TDs.k (x : Kp S H H') (h : TDs H vs ds) : TDs H' vs ds := TDs.kt x.kt ds vs h
theorem TD.inv (h : TD H v (.tuple ds)) : ∃ a xs, v = .ref a ∧ H a = some (.tup xs) ∧ TDs H xs ds := by
  cases h with
  | tup ha hs => exact ⟨_, _, rfl, ha, hs⟩
theorem TD.int_inv {i : Int} (h : TD H v (.int i)) : v = .int i := by
  cases h
  rfl
theorem TD.str_inv {x : Str} (h : TD H v (.str x)) : v = .str x := by
  cases h
  rfl
theorem TDs.length : ∀ {vs : List V} {ds : List PyData}, TDs H vs ds → vs.length = ds.length
  | [], [], _ => rfl
  | [], _ :: _, h => by cases h
  | _ :: _, [], h => by cases h
  | v :: vs, d :: ds, h => by
    cases h with
    | cons h1 h2 => rw [List.length_cons, List.length_cons, TDs.length h2]
theorem TDs.at : ∀ {vs : List V} {ds : List PyData} {i : Nat} {d : PyData}, TDs H vs ds → ds[i]? = some d → ∃ v, vs[i]? = some v ∧ TD H v d
  | [], [], _, _, _, e => by cases e
  | [], _ :: _, _, _, h, _ => by cases h
  | _ :: _, [], _, _, h, _ => by cases h
  | v :: vs, d :: ds, 0, x, h, e => by
    cases h with
    | cons h1 h2 =>
      have e' : d = x := Option.some.inj e
      subst e'
      exact ⟨v, rfl, h1⟩
  | v :: vs, d :: ds, i + 1, x, h, e => by
    cases h with
    | cons h1 h2 => exact TDs.at (vs := vs) (ds := ds) (i := i) h2 e
theorem TDs.at' {i : Nat} (h : TDs H vs ds) (e : vs[i]? = some v) : ∃ d, ds[i]? = some d ∧ TD H v d := by
  have hi : i < ds.length := by
    rw [← h.length]
    exact (List.getElem?_eq_some_iff.mp e).1
  obtain ⟨u, hu, q⟩ := h.at (List.getElem?_eq_getElem hi)
  rw [e] at hu
  cases hu
  exact ⟨_, List.getElem?_eq_getElem hi, q⟩
theorem TDs.of_at : ∀ {vs : List V} {ds : List PyData}, vs.length = ds.length → (∀ (i : Nat) (v : V), vs[i]? = some v → ∃ d, ds[i]? = some d ∧ TD H v d) → TDs H vs ds
  | [], [], _, _ => .nil
  | [], _ :: _, h, _ => by cases h
  | _ :: _, [], h, _ => by cases h
  | v :: vs, d :: ds, h, k => by
    obtain ⟨x, e, q⟩ := k 0 v rfl
    have e' : d = x := Option.some.inj e
    subst e'
    exact .cons q (TDs.of_at (Nat.succ.inj h) fun i u hu => k (i + 1) u hu)
theorem TDs.append : ∀ {vs ws : List V} {ds es : List PyData}, TDs H vs ds → TDs H ws es → TDs H (vs ++ ws) (ds ++ es)
  | [], _, [], _, _, h => h
  | [], _, _ :: _, _, h, _ => by cases h
  | _ :: _, _, [], _, h, _ => by cases h
  | v :: vs, ws, d :: ds, es, h, q => by
    cases h with
    | cons h1 h2 => exact .cons h1 (TDs.append h2 q)
theorem TDs.take : ∀ {vs : List V} {ds : List PyData} (n : Nat), TDs H vs ds → TDs H (vs.take n) (ds.take n)
  | [], [], n, _ => by rw [List.take_nil, List.take_nil]; exact .nil
  | [], _ :: _, _, h => by cases h
  | _ :: _, [], _, h => by cases h
  | v :: vs, d :: ds, 0, _ => .nil
  | v :: vs, d :: ds, n + 1, h => by
    cases h with
    | cons h1 h2 => exact .cons h1 (TDs.take n h2)
theorem TDs.drop : ∀ {vs : List V} {ds : List PyData} (n : Nat), TDs H vs ds → TDs H (vs.drop n) (ds.drop n)
  | [], [], n, _ => by rw [List.drop_nil, List.drop_nil]; exact .nil
  | [], _ :: _, _, h => by cases h
  | _ :: _, [], _, h => by cases h
  | v :: vs, d :: ds, 0, h => h
  | v :: vs, d :: ds, n + 1, h => by
    cases h with
    | cons h1 h2 => exact TDs.drop n h2
theorem TDs.reverse : ∀ {vs : List V} {ds : List PyData}, TDs H vs ds → TDs H vs.reverse ds.reverse
  | [], [], _ => .nil
  | [], _ :: _, h => by cases h
  | _ :: _, [], h => by cases h
  | v :: vs, d :: ds, h => by
    cases h with
    | cons h1 h2 =>
      rw [List.reverse_cons, List.reverse_cons]
      exact (TDs.reverse h2).append (.cons h1 .nil)
theorem TDs.ints : ∀ (ns : List Int), TDs H (ns.map V.int) (ns.map PyData.int)
  | [] => .nil
  | n :: ns => .cons (.int n) (TDs.ints ns)
theorem TDs.strs : ∀ (ns : List Str), TDs H (ns.map V.str) (ns.map PyData.str)
  | [] => .nil
  | n :: ns => .cons (.str n) (TDs.strs ns)
theorem TDs.ints_inv : ∀ {ns : List Int} {vs : List V}, TDs H vs (ns.map PyData.int) → vs = ns.map V.int
  | [], [], _ => rfl
  | [], _ :: _, h => by cases h
  | _ :: _, [], h => by cases h
  | n :: ns, v :: vs, h => by
    cases h with
    | cons h1 h2 =>
      rw [List.map_cons, h1.int_inv, TDs.ints_inv h2]
theorem TDs.strs_inv : ∀ {ns : List Str} {vs : List V}, TDs H vs (ns.map PyData.str) → vs = ns.map V.str
  | [], [], _ => rfl
  | [], _ :: _, h => by cases h
  | _ :: _, [], h => by cases h
  | n :: ns, v :: vs, h => by
    cases h with
    | cons h1 h2 =>
      rw [List.map_cons, h1.str_inv, TDs.strs_inv h2]
theorem TD.ints {a : Addr} {ns : List Int} (h : H a = some (.tup (ns.map V.int))) : TD H (.ref a) (inD ns) := .tup h (TDs.ints ns)
theorem TD.ints_inv {ns : List Int} (h : TD H v (inD ns)) : ∃ a, v = .ref a ∧ H a = some (.tup (ns.map V.int)) := by
  obtain ⟨a, xs, rfl, ha, hs⟩ := TD.inv h
  rw [hs.ints_inv] at ha
  exact ⟨a, rfl, ha⟩
theorem TD.strs {a : Addr} {ns : List Str} (h : H a = some (.tup (ns.map V.str))) : TD H (.ref a) (txD ns) := .tup h (TDs.strs ns)
theorem TD.strs_inv {ns : List Str} (h : TD H v (txD ns)) : ∃ a, v = .ref a ∧ H a = some (.tup (ns.map V.str)) := by
  obtain ⟨a, xs, rfl, ha, hs⟩ := TD.inv h
  rw [hs.strs_inv] at ha
  exact ⟨a, rfl, ha⟩
/-- a new tuple of data -/
theorem TD.new {p : Addr} (hp : H p = none) (h : TDs H vs ds) : TD (upd H p (.tup vs)) (.ref p) (.tuple ds) := .tup upd_same (h.k (Kp.new (S := no) hp _))
end

/-! ### bundles: a def as its callers see it -/
structure Fn (P : Program) (w : World) (K : PySem.W.Frag) (mg : Str → Option Value) (base : Heap) (CX : CXT) (k : Nat) (x : Str) (ps : List Str) (sp : Sp) : Prop where
  ex : ∃ (f : Addr) (fd : FuncData), FnOk P w K mg base CX k f fd ps sp ∧ mg x = some (.ref f) ∧ PySem.W.keepIn K (.ref f) = true ∧ Binds K fd ps []
/-- a def of the text as the top has left it -/
structure Df (K : PySem.W.Frag) (mg : Str → Option Value) (x : Str) (st : Stmt) (ps : List Str) : Prop where
  ex : ∃ (f : Addr) (fd : FuncData), Fun K x x st f fd ∧ mg x = some (.ref f) ∧ Binds K fd ps []
structure Fm (P : Program) (w : World) (K : PySem.W.Frag) (mg : Str → Option Value) (base : Heap) (CX : CXT) (k : Nat) (C : Addr) (m : Str) (ps : List Str) (sp : Sp) : Prop where
  ex : ∃ (f : Addr) (fd : FuncData), FnOk P w K mg base CX k f fd ps sp ∧ Meth K C m f ∧ Binds K fd ps []
structure Mf (K : PySem.W.Frag) (C : Addr) (m qual : Str) (st : Stmt) (ps : List Str) : Prop where
  ex : ∃ (f : Addr) (fd : FuncData), Fun K m qual st f fd ∧ Meth K C m f ∧ Binds K fd ps []
/-- an __init__ -/
structure Fi (P : Program) (w : World) (K : PySem.W.Frag) (mg : Str → Option Value) (base : Heap) (CX : CXT) (k : Nat) (C : Addr) (x : Str) (ps : List Str) (sp : Sp) : Prop where
  ex : ∃ (f : Addr) (fd : FuncData), FnOk P w K mg base CX k f fd ps sp ∧ Mk K C f ∧ mg x = some (.ref C) ∧ Binds K fd ps []
structure If (K : PySem.W.Frag) (mg : Str → Option Value) (C : Addr) (x qual : Str) (st : Stmt) (ps : List Str) : Prop where
  ex : ∃ (f : Addr) (fd : FuncData), Fun K "__init__" qual st f fd ∧ Mk K C f ∧ mg x = some (.ref C) ∧ Binds K fd ps []
section
variable {P : Program} {w : World} {K : PySem.W.Frag} {mg : Str → Option Value} {base : Heap}
theorem Df.fn {x : Str} {st : Stmt} {N ps : List Str} {k : Nat} {sp : Sp} (D : Df K mg x st ps) (Sc : FnScope N ps (defScope st)) (len : ∀ vs H Q E, sp vs H Q E → vs.length = ps.length)
    (hbody : ∀ (f : Addr) (cdv : Value) (A : Around) (outer : List Env) (s : Shared) (H : Hp) (vs : List V) (Q : VK) (E : XK), Room k (A.deeper (envOfC x (defScope st) s.heap.objs.size f cdv)) → sp vs H Q E →
      ∃ t, PSs (cxOf CX0 P w K mg base N x (defScope st) f cdv A outer s H E).nox (defBody st) t ∧ t { nx := fun _ H' => Q .non H', rt := Q } (start N vs) H) : Fn P w K mg base CX0 (k + 1) x ps sp := by
  obtain ⟨f, fd, F, hm, hb⟩ := D.ex
  exact ⟨f, fd, F.ok Sc len (hbody f), hm, F.kp, hb⟩
theorem Df.fnX {x : Str} {st : Stmt} {N ps : List Str} {k : Nat} {sp : Sp} (D : Df K mg x st ps) (Sc : FnScope N ps (defScope st)) (len : ∀ vs H Q E, sp vs H Q E → vs.length = ps.length)
    (hbody : ∀ (f : Addr) (cdv : Value) (A : Around) (outer : List Env) (s : Shared) (H : Hp) (vs : List V) (Q : VK) (E : XK), Room k (A.deeper (envOfC x (defScope st) s.heap.objs.size f cdv)) → sp vs H Q E →
      ∃ t, PSs (cxOf (L2.CX P w) P w K mg base N x (defScope st) f cdv A outer s H E) (defBody st) t ∧ t { nx := fun _ H' => Q .non H', rt := Q } (start N vs) H) : Fn P w K mg base (L2.CX P w) (k + 1) x ps sp := by
  obtain ⟨f, fd, F, hm, hb⟩ := D.ex
  exact ⟨f, fd, F.okX Sc len (hbody f), hm, F.kp, hb⟩
theorem Mf.fm {C : Addr} {m qual : Str} {st : Stmt} {N ps : List Str} {k : Nat} {sp : Sp} (D : Mf K C m qual st ps) (Sc : FnScope N ps (defScope st)) (len : ∀ vs H Q E, sp vs H Q E → vs.length = ps.length)
    (hbody : ∀ (f : Addr) (cdv : Value) (A : Around) (outer : List Env) (s : Shared) (H : Hp) (vs : List V) (Q : VK) (E : XK), Room k (A.deeper (envOfC qual (defScope st) s.heap.objs.size f cdv)) → sp vs H Q E →
      ∃ t, PSs (cxOf CX0 P w K mg base N qual (defScope st) f cdv A outer s H E).nox (defBody st) t ∧ t { nx := fun _ H' => Q .non H', rt := Q } (start N vs) H) : Fm P w K mg base CX0 (k + 1) C m ps sp := by
  obtain ⟨f, fd, F, hm, hb⟩ := D.ex
  exact ⟨f, fd, F.ok Sc len (hbody f), hm, hb⟩
theorem Mf.fmX {C : Addr} {m qual : Str} {st : Stmt} {N ps : List Str} {k : Nat} {sp : Sp} (D : Mf K C m qual st ps) (Sc : FnScope N ps (defScope st)) (len : ∀ vs H Q E, sp vs H Q E → vs.length = ps.length)
    (hbody : ∀ (f : Addr) (cdv : Value) (A : Around) (outer : List Env) (s : Shared) (H : Hp) (vs : List V) (Q : VK) (E : XK), Room k (A.deeper (envOfC qual (defScope st) s.heap.objs.size f cdv)) → sp vs H Q E →
      ∃ t, PSs (cxOf (L2.CX P w) P w K mg base N qual (defScope st) f cdv A outer s H E) (defBody st) t ∧ t { nx := fun _ H' => Q .non H', rt := Q } (start N vs) H) : Fm P w K mg base (L2.CX P w) (k + 1) C m ps sp := by
  obtain ⟨f, fd, F, hm, hb⟩ := D.ex
  exact ⟨f, fd, F.okX Sc len (hbody f), hm, hb⟩
theorem If.fi {C : Addr} {x qual : Str} {st : Stmt} {N ps : List Str} {k : Nat} {sp : Sp} (D : If K mg C x qual st ps) (Sc : FnScope N ps (defScope st)) (len : ∀ vs H Q E, sp vs H Q E → vs.length = ps.length)
    (hbody : ∀ (f : Addr) (cdv : Value) (A : Around) (outer : List Env) (s : Shared) (H : Hp) (vs : List V) (Q : VK) (E : XK), Room k (A.deeper (envOfC qual (defScope st) s.heap.objs.size f cdv)) → sp vs H Q E →
      ∃ t, PSs (cxOf CX0 P w K mg base N qual (defScope st) f cdv A outer s H E).nox (defBody st) t ∧ t { nx := fun _ H' => Q .non H', rt := Q } (start N vs) H) : Fi P w K mg base CX0 (k + 1) C x ps sp := by
  obtain ⟨f, fd, F, hm, hg, hb⟩ := D.ex
  exact ⟨f, fd, F.ok Sc len (hbody f), hm, hg, hb⟩
variable {CX : CXT} {k k' : Nat} {x : Str} {ps : List Str} {sp : Sp} {C : Addr} {m : Str}
theorem Fn.mono (F : Fn P w K mg base CX k x ps sp) (h : k ≤ k') : Fn P w K mg base CX k' x ps sp := by
  obtain ⟨f, fd, G, r⟩ := F.ex
  exact ⟨f, fd, G.mono h, r⟩
end
def tFn (sp : Sp) (E : XK) (t : TA) : TE := fun σ H Q => t σ H fun vs H1 => sp vs H1 Q E
theorem tFn_call (sp : Sp) (E : XK) (t : TA) : tCall sp [] E t = tFn sp E t := by
  funext σ H Q
  show t σ H (fun vs H1 => sp (vs ++ []) H1 Q E) = t σ H fun vs H1 => sp vs H1 Q E
  simp only [List.append_nil]
def tFm (C : Addr) (m : Str) (sp : Sp) (E : XK) (ta : TE) (t : TA) : TE := fun σ H Q => ta σ H fun x H1 => ∃ a dx fs, x = .ref a ∧ H1 a = some (.ins C dx fs) ∧ fs.lookup m = none ∧ t σ H1 fun vs H2 => sp (x :: vs) H2 Q E
theorem tFm_meth (C : Addr) (m : Str) (sp : Sp) (E : XK) (ta : TE) (t : TA) : tMeth C m sp [] E ta t = tFm C m sp E ta t := by
  funext σ H Q
  unfold tMeth tFm
  simp only [List.append_nil]
def tFi (C : Addr) (sp : Sp) (E : XK) (t : TA) : TE := fun σ H Q => t σ H fun vs H1 => ∀ x dx, H1 x = none → H1 dx = none → dx ≠ x →
  sp (.ref x :: vs) (upd (upd H1 dx (.own x)) x (.ins C dx [])) (fun v H2 => v = .non ∧ Q (.ref x) H2) E
theorem tFi_make (C : Addr) (sp : Sp) (E : XK) (t : TA) : tMake C sp [] E t = tFi C sp E t := by
  funext σ H Q
  unfold tMake tFi
  simp only [List.append_nil]
section
variable {X : Cx} {k : Nat} {x m : Str} {ps : List Str} {sp : Sp} {C : Addr} {e o : Expr} {es : List Expr} {p apos pos : Pos} {t : TA} {ta : TE}
theorem pe_fn (F : Fn X.prog X.w X.K X.mg X.base CX0 k x ps sp) (hr : Room k X.A) (ha : PA X (e :: es) t) (hg : Gl X x := by rfl) (hdb : (x == ("__debug__" : Str)) = false := by decide)
    (he : starEach (e :: es) X.env = (false, eval e X.env) :: starEach es X.env := by rfl) (hpl : (backTo pos (starEach es X.env)).any (·.1) = false := by rfl) : PE X (.Call (.Name x p) (e :: es) [] pos) (tFn sp E0 t) := by
  obtain ⟨f, fd, G, hm, hk, hb⟩ := F.ex
  rw [← tFn_call]
  exact pe_call G hr hg hm hk hb .nil pass0 ha hdb he hpl
/-- a call of a def that may raise, where what it raises goes on out -/
theorem pe_fnS {W : WX} (F : Fn X.prog X.w X.K X.mg X.base (L2.CX X.prog X.w) k x ps sp) (tk : Takes X W) (hr : Room k X.A) (ha : PA X (e :: es) t) (hg : Gl X x := by rfl)
    (he : starEach (e :: es) X.env = (false, eval e X.env) :: starEach es X.env := by rfl) (hpl : (backTo pos (starEach es X.env)).any (·.1) = false := by rfl) (hdb : (x == ("__debug__" : Str)) = false := by decide) : PE X (.Call (.Name x p) (e :: es) [] pos) (tCallS sp (WE W) t) := by
  obtain ⟨f, fd, G, hm, hk, hb⟩ := F.ex
  exact pe_callS G hr hg hm hk hb (fun σ => passAt tk σ) ha hdb he hpl
theorem pe_fm {pl : Sem Bool} (c : Cls X.K C) (F : Fm X.prog X.w X.K X.mg X.base CX0 k C m ps sp) (hr : Room k X.A) (ho : PE X o ta) (ha : PA X (e :: es) t)
    (hst : starEach (e :: es) X.env = (false, eval e X.env) :: starEach es X.env := by rfl) (hpl : (backTo pos (starEach es X.env)).any (·.1) = false := by rfl)
    (ht : eval (.Call (.Attribute o m apos) (e :: es) [] pos) X.env = (do
      let ov ← eval o X.env
      standAt apos.atName
      let (f, first) ← holding [ov] (getMethod ov m pl)
      callWith pos f first (backTo pos (starEach (e :: es) X.env)) (backToKw pos (keywordEach [] X.env))) := by rfl) : PE X (.Call (.Attribute o m apos) (e :: es) [] pos) (tFm C m sp E0 ta t) := by
  obtain ⟨f, fd, G, hm, hb⟩ := F.ex
  rw [← tFm_meth]
  exact pe_meth ho c hm G hr hb .nil pass0 ha hst hpl ht
/-- a method that may raise, in a def that it leaves -/
theorem pe_fmX {pl : Sem Bool} {E : XK} (c : Cls X.K C) (F : Fm X.prog X.w X.K X.mg X.base (L2.CX X.prog X.w) k C m ps sp) (hx : Passes (L2.CX X.prog X.w) X E) (hr : Room k X.A) (ho : PE X o ta) (ha : PA X (e :: es) t)
    (hst : starEach (e :: es) X.env = (false, eval e X.env) :: starEach es X.env := by rfl) (hpl : (backTo pos (starEach es X.env)).any (·.1) = false := by rfl)
    (ht : eval (.Call (.Attribute o m apos) (e :: es) [] pos) X.env = (do
      let ov ← eval o X.env
      standAt apos.atName
      let (f, first) ← holding [ov] (getMethod ov m pl)
      callWith pos f first (backTo pos (starEach (e :: es) X.env)) (backToKw pos (keywordEach [] X.env))) := by rfl) : PE X (.Call (.Attribute o m apos) (e :: es) [] pos) (tFm C m sp E ta t) := by
  obtain ⟨f, fd, G, hm, hb⟩ := F.ex
  rw [← tFm_meth]
  exact pe_meth ho c hm G hr hb .nil hx ha hst hpl ht
theorem pe_fi (F : Fi X.prog X.w X.K X.mg X.base CX0 k C x ps sp) (hr : Room (k + 1) X.A) (ha : PA X (e :: es) t) (hg : Gl X x := by rfl) (hdb : (x == ("__debug__" : Str)) = false := by decide)
    (he : starEach (e :: es) X.env = (false, eval e X.env) :: starEach es X.env := by rfl) (hpl : (backTo pos (starEach es X.env)).any (·.1) = false := by rfl) : PE X (.Call (.Name x p) (e :: es) [] pos) (tFi C sp E0 t) := by
  obtain ⟨f, fd, G, M, hm, hb⟩ := F.ex
  rw [← tFi_make]
  exact pe_make M G hr hg hm hb .nil pass0 ha hdb he hpl
end

/-! ### comprehensions -/
/-- what is asked of a comprehension behind its source -/
def LcG (J : It) (g : TG) (tt : TT) (te : TE) (vs : List Nat) (σ : L2.St) (H1 : Hp) (Q : VK) : Prop := ∀ D, H1 D = none → ∃ W : Nat → Nat → Hp → Prop, (∃ m, W 0 m (upd H1 D (.lst []))) ∧ ∀ i m H, W i m H →
  (J.stop i H ∧ Q (.ref D) H) ∨ (J.go i H ∧ ∃ Nx : Hp → Prop, (∀ H', Nx H' → ∃ m', m' < m ∧ W (i + 1) m' H') ∧ ∀ x H', J.yld i H x H' → g x (wipe σ vs) H' fun σ2 H2 => wipe σ2 vs = wipe σ vs ∧ tt σ2 H2 fun b H3 =>
    if b = true then te σ2 H3 fun y H4 => ∃ acc, H4 D = some (.lst acc) ∧ acc.length < sizeLine ∧ Nx (upd H4 D (.lst (acc ++ [y]))) else Nx H3)
section
variable {S : Addr → Prop} {te : TE} {σ : L2.St} {H1 : Hp} {Q : VK} {K : PySem.W.Frag} {j : Nat}
theorem lc_J {J : It} {n : Nat} {xi : Nat → V → Prop} (hn : n < sizeLine) (Ok : Nat → Hp → Prop) (R : Nat → V → Hp → Prop) (h0 : Ok 0 H1)
    (hgo : ∀ i H, Kp S H1 H → i < n → J.go i H) (hst : ∀ H, Kp S H1 H → J.stop n H) (hy : ∀ i H x H', Kp S H1 H → i < n → J.yld i H x H' → H' = H ∧ xi i x)
    (hS : ∀ D, S D → H1 D ≠ none) (hOk : ∀ i H D xs ys, ¬ S D → (H D = none ∨ H D = some (.lst ys)) → Ok i H → Ok i (upd H D (.lst xs))) (hR : ∀ i v H H', KT H H' → R i v H → R i v H')
    (hs : ∀ i x H, i < n → xi i x → Kp S H1 H → Ok i H → ∀ Q' : VK, (∀ v H', Kp S H H' → Ok (i + 1) H' → R i v H' → Q' v H') → te ((wipe σ [j]).set j (some x)) H Q')
    (hq : ∀ D vs H, H1 D = none → Kp S H1 H → Ok n H → H D = some (.lst vs) → vs.length = n → (∀ (i : Nat) (v : V), vs[i]? = some v → R i v H) → Q (.ref D) H) :
    LcG J (gName j) tYes te [j] σ H1 Q := by
  intro D hD
  have nS : ¬ S D := fun z => hS D z hD
  refine ⟨fun i m H => m = n - i ∧ i ≤ n ∧ Kp S H1 H ∧ Ok i H ∧ ∃ vs, H D = some (.lst vs) ∧ vs.length = i ∧ ∀ l v, vs[l]? = some v → R l v H, ⟨n, rfl, Nat.zero_le _, Kp.new hD _, hOk 0 H1 D [] [] nS (.inl hD) h0, [], upd_same, rfl, fun l v e => by cases e⟩, ?_⟩
  rintro i m H ⟨rfl, hi, k, ok, vs, hv, hl, hr⟩
  by_cases hlt : i < n
  · refine .inr ⟨hgo i H k hlt, fun H' => Kp S H1 H' ∧ Ok (i + 1) H' ∧ ∃ vs, H' D = some (.lst vs) ∧ vs.length = i + 1 ∧ ∀ l v, vs[l]? = some v → R l v H', fun H' ⟨k', ok', z⟩ => ⟨n - (i + 1), by omega, rfl, hlt, k', ok', z⟩, fun x H' y => ?_⟩
    obtain ⟨rfl, xx⟩ := hy i H x H' k hlt y
    refine ⟨by
      show ((σ.set j none).set j (some x)).set j none = σ.set j none
      rw [List.set_set, List.set_set], ?_⟩
    show te ((wipe σ [j]).set j (some x)) H' _
    refine hs i x H' hlt xx k ok _ fun v H'' k2 ok2 rv => ⟨vs, k2.but _ _ nS hv, by omega, ?_⟩
    have hv2 := k2.but _ _ nS hv
    have kt : KT H'' (upd H'' D (.lst (vs ++ [v]))) := (Kp.put (S := one D) (lst_tup hv2) rfl _).kt
    refine ⟨(k.trans k2).free hD _, hOk _ _ _ _ vs nS (.inr hv2) ok2, _, upd_same, by rw [List.length_append, hl]; rfl, fun l u hu => ?_⟩
    by_cases hli : l < i
    · rw [List.getElem?_append_left (by omega)] at hu
      exact hR _ _ _ _ (k2.kt.trans kt) (hr l u hu)
    · rw [List.getElem?_append_right (by omega)] at hu
      have e : l = i := by
        have := (List.getElem?_eq_some_iff.mp hu).1
        simp at this
        omega
      subst e
      rw [hl, Nat.sub_self] at hu
      have e2 : v = u := Option.some.inj hu
      subst e2
      exact hR _ _ _ _ kt rv
  · have e : i = n := by omega
    subst e
    exact .inl ⟨hst H k, hq D vs H hD k ok hv hl hr⟩
/-- a list source -/
theorem lc_L {a : Addr} {xs : List V} (hx : SqL K H1 a xs) (ha : ¬ S a) (hn : xs.length < sizeLine) (Ok : Nat → Hp → Prop) (R : Nat → V → Hp → Prop) (h0 : Ok 0 H1)
    (hS : ∀ D, S D → H1 D ≠ none) (hOk : ∀ i H D xs ys, ¬ S D → (H D = none ∨ H D = some (.lst ys)) → Ok i H → Ok i (upd H D (.lst xs))) (hR : ∀ i v H H', KT H H' → R i v H → R i v H')
    (hs : ∀ i x H, i < xs.length → xs[i]? = some x → Kp S H1 H → Ok i H → ∀ Q' : VK, (∀ v H', Kp S H H' → Ok (i + 1) H' → R i v H' → Q' v H') → te ((wipe σ [j]).set j (some x)) H Q')
    (hq : ∀ D vs H, H1 D = none → Kp S H1 H → Ok xs.length H → H D = some (.lst vs) → vs.length = xs.length → (∀ (i : Nat) (v : V), vs[i]? = some v → R i v H) → Q (.ref D) H) :
    LcG (Itl K a) (gName j) tYes te [j] σ H1 Q :=
  lc_J (xi := fun i x => xs[i]? = some x) hn Ok R h0 (fun i H k hi => ⟨xs, xs[i], k.sql ha hx, List.getElem?_eq_getElem hi⟩) (fun H k => ⟨xs, k.sql ha hx, Nat.le_refl _⟩) (fun i H x H' k hi y => ⟨y.1, y.2 xs (k.sql ha hx)⟩) hS hOk hR hs hq
/-- a tuple source -/
theorem lc_T {a : Addr} {xs : List V} (hx : H1 a = some (.tup xs)) (hn : xs.length < sizeLine) (Ok : Nat → Hp → Prop) (R : Nat → V → Hp → Prop) (h0 : Ok 0 H1)
    (hS : ∀ D, S D → H1 D ≠ none) (hOk : ∀ i H D xs ys, ¬ S D → (H D = none ∨ H D = some (.lst ys)) → Ok i H → Ok i (upd H D (.lst xs))) (hR : ∀ i v H H', KT H H' → R i v H → R i v H')
    (hs : ∀ i x H, i < xs.length → xs[i]? = some x → Kp S H1 H → Ok i H → ∀ Q' : VK, (∀ v H', Kp S H H' → Ok (i + 1) H' → R i v H' → Q' v H') → te ((wipe σ [j]).set j (some x)) H Q')
    (hq : ∀ D vs H, H1 D = none → Kp S H1 H → Ok xs.length H → H D = some (.lst vs) → vs.length = xs.length → (∀ (i : Nat) (v : V), vs[i]? = some v → R i v H) → Q (.ref D) H) :
    LcG (Itt K a) (gName j) tYes te [j] σ H1 Q :=
  lc_J (xi := fun i x => xs[i]? = some x) hn Ok R h0 (fun i H k hi => ⟨xs, xs[i], SqT.of (k.kt _ _ hx), List.getElem?_eq_getElem hi⟩) (fun H k => ⟨xs, SqT.of (k.kt _ _ hx), Nat.le_refl _⟩) (fun i H x H' k hi y => ⟨y.1, y.2 xs (SqT.of (k.kt _ _ hx))⟩) hS hOk hR hs hq
/-- a range -/
theorem lc_R {lo : Int} {n : Nat} (hn : n < sizeLine) (Ok : Nat → Hp → Prop) (R : Nat → V → Hp → Prop) (h0 : Ok 0 H1)
    (hS : ∀ D, S D → H1 D ≠ none) (hOk : ∀ i H D xs ys, ¬ S D → (H D = none ∨ H D = some (.lst ys)) → Ok i H → Ok i (upd H D (.lst xs))) (hR : ∀ i v H H', KT H H' → R i v H → R i v H')
    (hs : ∀ i x H, i < n → x = .int (lo + i) → Kp S H1 H → Ok i H → ∀ Q' : VK, (∀ v H', Kp S H H' → Ok (i + 1) H' → R i v H' → Q' v H') → te ((wipe σ [j]).set j (some x)) H Q')
    (hq : ∀ D vs H, H1 D = none → Kp S H1 H → Ok n H → H D = some (.lst vs) → vs.length = n → (∀ (i : Nat) (v : V), vs[i]? = some v → R i v H) → Q (.ref D) H) :
    LcG (Itr lo n) (gName j) tYes te [j] σ H1 Q :=
  lc_J (xi := fun i x => x = .int (lo + i)) hn Ok R h0 (fun i H k hi => hi) (fun H k => Nat.le_refl _) (fun i H x H' k hi y => y) hS hOk hR hs hq
theorem lc_C {lo c : Int} {n : Nat} (hn : n < sizeLine) (Ok : Nat → Hp → Prop) (R : Nat → V → Hp → Prop) (h0 : Ok 0 H1)
    (hS : ∀ D, S D → H1 D ≠ none) (hOk : ∀ i H D xs ys, ¬ S D → (H D = none ∨ H D = some (.lst ys)) → Ok i H → Ok i (upd H D (.lst xs))) (hR : ∀ i v H H', KT H H' → R i v H → R i v H')
    (hs : ∀ i x H, i < n → x = .int (lo + (i : Nat) * c) → Kp S H1 H → Ok i H → ∀ Q' : VK, (∀ v H', Kp S H H' → Ok (i + 1) H' → R i v H' → Q' v H') → te ((wipe σ [j]).set j (some x)) H Q')
    (hq : ∀ D vs H, H1 D = none → Kp S H1 H → Ok n H → H D = some (.lst vs) → vs.length = n → (∀ (i : Nat) (v : V), vs[i]? = some v → R i v H) → Q (.ref D) H) :
    LcG (Itc lo c n) (gName j) tYes te [j] σ H1 Q :=
  lc_J (xi := fun i x => x = .int (lo + (i : Nat) * c)) hn Ok R h0 (fun i H k hi => hi) (fun H k => Nat.le_refl _) (fun i H x H' k hi y => y) hS hOk hR hs hq
/-! the same where nothing changes -/
theorem noS : ∀ D, no D → H1 D ≠ none := fun _ z => z.elim
theorem lp_L {a : Addr} {xs : List V} (hx : SqL K H1 a xs) (hn : xs.length < sizeLine) (R : Nat → V → Hp → Prop) (hR : ∀ i v H H', KT H H' → R i v H → R i v H')
    (hs : ∀ i x H, i < xs.length → xs[i]? = some x → Kp no H1 H → ∀ Q' : VK, (∀ v H', Kp no H H' → R i v H' → Q' v H') → te ((wipe σ [j]).set j (some x)) H Q')
    (hq : ∀ D vs H, H1 D = none → Kp no H1 H → H D = some (.lst vs) → vs.length = xs.length → (∀ (i : Nat) (v : V), vs[i]? = some v → R i v H) → Q (.ref D) H) :
    LcG (Itl K a) (gName j) tYes te [j] σ H1 Q :=
  lc_L hx (fun z => z) hn (fun _ _ => True) R True.intro noS (fun _ _ _ _ _ _ _ _ => True.intro) hR (fun i x H h1 h2 k _ Q' q => hs i x H h1 h2 k Q' fun v H' k' r => q v H' k' True.intro r) (fun D vs H h k _ h1 h2 h3 => hq D vs H h k h1 h2 h3)
theorem lp_T {a : Addr} {xs : List V} (hx : H1 a = some (.tup xs)) (hn : xs.length < sizeLine) (R : Nat → V → Hp → Prop) (hR : ∀ i v H H', KT H H' → R i v H → R i v H')
    (hs : ∀ i x H, i < xs.length → xs[i]? = some x → Kp no H1 H → ∀ Q' : VK, (∀ v H', Kp no H H' → R i v H' → Q' v H') → te ((wipe σ [j]).set j (some x)) H Q')
    (hq : ∀ D vs H, H1 D = none → Kp no H1 H → H D = some (.lst vs) → vs.length = xs.length → (∀ (i : Nat) (v : V), vs[i]? = some v → R i v H) → Q (.ref D) H) :
    LcG (Itt K a) (gName j) tYes te [j] σ H1 Q :=
  lc_T hx hn (fun _ _ => True) R True.intro noS (fun _ _ _ _ _ _ _ _ => True.intro) hR (fun i x H h1 h2 k _ Q' q => hs i x H h1 h2 k Q' fun v H' k' r => q v H' k' True.intro r) (fun D vs H h k _ h1 h2 h3 => hq D vs H h k h1 h2 h3)
theorem lp_R {lo : Int} {n : Nat} (hn : n < sizeLine) (R : Nat → V → Hp → Prop) (hR : ∀ i v H H', KT H H' → R i v H → R i v H')
    (hs : ∀ i x H, i < n → x = .int (lo + i) → Kp no H1 H → ∀ Q' : VK, (∀ v H', Kp no H H' → R i v H' → Q' v H') → te ((wipe σ [j]).set j (some x)) H Q')
    (hq : ∀ D vs H, H1 D = none → Kp no H1 H → H D = some (.lst vs) → vs.length = n → (∀ (i : Nat) (v : V), vs[i]? = some v → R i v H) → Q (.ref D) H) :
    LcG (Itr lo n) (gName j) tYes te [j] σ H1 Q :=
  lc_R hn (fun _ _ => True) R True.intro noS (fun _ _ _ _ _ _ _ _ => True.intro) hR (fun i x H h1 h2 k _ Q' q => hs i x H h1 h2 k Q' fun v H' k' r => q v H' k' True.intro r) (fun D vs H h k _ h1 h2 h3 => hq D vs H h k h1 h2 h3)
theorem lp_C {lo c : Int} {n : Nat} (hn : n < sizeLine) (R : Nat → V → Hp → Prop) (hR : ∀ i v H H', KT H H' → R i v H → R i v H')
    (hs : ∀ i x H, i < n → x = .int (lo + (i : Nat) * c) → Kp no H1 H → ∀ Q' : VK, (∀ v H', Kp no H H' → R i v H' → Q' v H') → te ((wipe σ [j]).set j (some x)) H Q')
    (hq : ∀ D vs H, H1 D = none → Kp no H1 H → H D = some (.lst vs) → vs.length = n → (∀ (i : Nat) (v : V), vs[i]? = some v → R i v H) → Q (.ref D) H) :
    LcG (Itc lo c n) (gName j) tYes te [j] σ H1 Q :=
  lc_C hn (fun _ _ => True) R True.intro noS (fun _ _ _ _ _ _ _ _ => True.intro) hR (fun i x H h1 h2 k _ Q' q => hs i x H h1 h2 k Q' fun v H' k' r => q v H' k' True.intro r) (fun D vs H h k _ h1 h2 h3 => hq D vs H h k h1 h2 h3)
end
/-- R of data: the i-th value is the i-th datum -/
def RD (ds : List PyData) : Nat → V → Hp → Prop := fun i v H => ∃ d, ds[i]? = some d ∧ TD H v d
theorem RD.kt {ds : List PyData} : ∀ i v H H', KT H H' → RD ds i v H → RD ds i v H' := fun i v H H' k ⟨d, e, q⟩ => ⟨d, e, TD.kt k d v q⟩
theorem RD.all {ds : List PyData} {vs : List V} {H : Hp} (hl : vs.length = ds.length) (h : ∀ (i : Nat) (v : V), vs[i]? = some v → RD ds i v H) : TDs H vs ds := TDs.of_at hl h
/-- R of plain values -/
def RV (f : Nat → V) : Nat → V → Hp → Prop := fun i v _ => v = f i
theorem RV.kt {f : Nat → V} : ∀ i v H H', KT H H' → RV f i v H → RV f i v H' := fun _ _ _ _ _ h => h
theorem RV.all {f : Nat → V} {vs : List V} {H : Hp} {n : Nat} (hl : vs.length = n) (h : ∀ (i : Nat) (v : V), vs[i]? = some v → RV f i v H) : vs = (List.range n).map f := by
  refine List.ext_getElem (by rw [hl, List.length_map, List.length_range]) fun i h1 h2 => ?_
  rw [List.getElem_map, List.getElem_range]
  exact h i _ (List.getElem?_eq_getElem h1)
end SW
/-! SwRules: rules that the layer lacks: a tuple from behind, a slice stored, a tuple times one. -/
namespace SW
open PySem PySem.Spec PyProof.Rows L2 HT

/-! ### t[::-1] -/
section
variable {prog : Program} {w : World} {A : Around} {E : Value → Shared → Prop} {s : Shared}
theorem slicePlaces_rev (n : Nat) : Builtin.Slice.slicePlaces ((n : Int) - 1) (-1) (-1) = n := by
  unfold Builtin.Slice.slicePlaces
  have h1 : ¬ ((-1 : Int) > 0) := by omega
  simp only [h1, if_false]
  by_cases h : (n : Int) - 1 > -1
  · simp only [h, if_true]
    have e : ((n : Int) - 1 - -1 - 1) / (- -1) = (n : Int) - 1 := by
      rw [show (- -1 : Int) = 1 by decide, Int.ediv_one]
      omega
    rw [e]
    omega
  · have e : n = 0 := by omega
    subst e
    rfl
theorem sliceApplied_rev {sl : Addr} {vs : Value} {n : Nat} {Q : Int × Int × Nat → Shared → Prop} (hs : s.heap.IsSliceOf sl .none .none vs) (ps : IsPart vs (some (-1))) (h : Q ((n : Int) - 1, -1, n) s) :
    wpAny (model prog w) A (Builtin.Slice.sliceApplied (.ref sl) (pure (n : Int))) Q E s := by
  obtain ⟨os, hos, hcs, hds⟩ := id hs
  unfold Builtin.Slice.sliceApplied Builtin.Slice.sliceFields
  refine wpAny_bind (wpAny_bind (wpAny_field hos hds (x := .none) rfl (wpAny_bind (wpAny_field hos hds (x := .none) rfl (wpAny_bind (wpAny_field hos hds (x := vs) rfl (wpAny_pure ?_)))))))
  refine wpAny_bind (slicePart_ ps ?_)
  show wpAny _ _ (if ((-1 : Int) == 0) = true then _ else _) _ _ s
  rw [if_neg (by decide)]
  refine wpAny_bind (slicePart_none (wpAny_bind (slicePart_none (wpAny_bind (wpAny_pure ?_)))))
  show wpAny _ _ (pure ((n : Int) - 1, (-1 : Int), Builtin.Slice.slicePlaces ((n : Int) - 1) (-1) (-1))) _ _ s
  rw [slicePlaces_rev]
  exact wpAny_pure h
theorem fm_congr {α β : Type} {f g : α → Option β} : ∀ {l : List α}, (∀ x ∈ l, f x = g x) → l.filterMap f = l.filterMap g
  | [], _ => rfl
  | a :: r, h => by
    rw [List.filterMap_cons, List.filterMap_cons, h a List.mem_cons_self, fm_congr fun x hx => h x (List.mem_cons_of_mem _ hx)]
theorem pick_rev (xs : Array Value) : ((List.range xs.size).filterMap fun (k : Nat) => xs[(((xs.size : Int) - 1) + (k : Int) * (-1)).toNat]?).toArray = xs.toList.reverse.toArray := by
  have e : (List.range xs.size).filterMap (fun (k : Nat) => xs[(((xs.size : Int) - 1) + (k : Int) * (-1)).toNat]?) = (List.range xs.size).reverse.filterMap (xs[·]?) := by
    rw [← PySem.W.krv_range, List.filterMap_map]
    refine fm_congr fun k hk => ?_
    have := List.mem_range.mp hk
    have e : (((xs.size : Int) - 1) + (k : Int) * (-1)).toNat = xs.size - 1 - k := by omega
    rw [e]
    rfl
  rw [e, List.filterMap_reverse, PySem.W.krv_all]
theorem getItem_tuple_rev {t sl : Addr} {items : Array Value} {vs : Value} {Q : Value → Shared → Prop} (ht : IsTup s.heap t items) (hs : s.heap.IsSliceOf sl .none .none vs) (ps : IsPart vs (some (-1)))
    (h : Q (.ref s.heap.objs.size) { s with heap := s.heap.push { cls := .type "tuple", data := .seq items.toList.reverse.toArray } }) (hsz : items.size ≤ sizeLine) : wpAny (model prog w) A (getItem (.ref t) (.ref sl)) Q E s := by
  have htake : sizeOk (.seq items.toList.reverse.toArray) := by
    show items.toList.reverse.toArray.size ≤ sizeLine
    rw [List.size_toArray, List.length_reverse, Array.length_toList]
    exact hsz
  obtain ⟨os, hos, hcs, hds⟩ := id hs
  have hTs : s.TypeIs (.ref sl) "slice" := ⟨os, hos, hcs⟩
  unfold getItem
  try with_reducible refine wpAny_holding ?_
  first | refine wpAny_bind (wpAny_pure ?_) | skip
  refine wpAny_bind (wpAny_sequenceKey ht.typeIs (by decide) ?_)
  refine wpAny_bind (wpAny_callSpecial?_slot (name := Str.ofString "__getitem__") ht.typeIs PyProof.Rows.slot_tuple_getitem
    (wpAny_call_entry PyProof.Rows.slot_tuple_getitem ht.typeIs entry_tuple_getitem ?_ (args_tuple_getitem _ _)))
  show wpAny _ _ (Builtin.Tuple.tupleItemsOf (.ref t) >>= _) _ _ s
  refine wpAny_bind (tupleItemsOf_ ht ?_)
  refine wpAny_bind (wpAny_typeOf hTs ?_)
  rw [if_pos (by decide)]
  refine wpAny_bind (sliceApplied_rev hs ps ?_)
  have hno : ¬ ((((items.size : Int) - 1) == 0 && (-1 : Int) == 1 && items.size == items.size) = true) := by
    intro q
    rw [Bool.and_eq_true, Bool.and_eq_true] at q
    exact absurd q.1.2 (by decide)
  show wpAny _ _ (if (((items.size : Int) - 1) == 0 && (-1 : Int) == 1 && items.size == items.size) = true then _ else _) _ _ s
  rw [if_neg hno, pick_rev]
  first
    | exact wpAny_bind (m := Builtin.Tuple.tupleExact _) (wpAny_newObj_type (wpAny_pure ⟨_, rfl, wpAny_pure h⟩) htake)
    | exact wpAny_bind (m := Builtin.Tuple.tupleExact _) (wpAny_newObj_type (wpAny_bind (wpAny_pure (wpAny_pure ⟨_, rfl, wpAny_pure h⟩))) htake)
    | exact wpAny_bind (wpAny_bind (m := Builtin.Tuple.tupleExact _) (wpAny_newObj_type (wpAny_pure (wpAny_pure ⟨_, rfl, wpAny_pure h⟩)) htake))
    | exact wpAny_bind (wpAny_bind (m := Builtin.Tuple.tupleExact _) (wpAny_newObj_type (wpAny_pure ⟨_, rfl, wpAny_pure h⟩) htake))
end
section
variable {X : Cx}
def tRevT (te : TE) : TE := fun σ H Q => te σ H fun x H1 => ∃ a xs, x = .ref a ∧ H1 a = some (.tup xs) ∧ ∀ p, H1 p = none → Q (.ref p) (upd H1 p (.tup xs.reverse))
theorem pe_revT {e : Expr} {te : TE} {k : Nat} {p1 p2 p3 pos : Pos} (he : PE X e te) : PE X (.Subscript e (.Slice none none (some (.UnaryOp .USub (.Constant (.int 1) k p1) p2)) p3) pos) (tRevT te) := by
  refine ⟨fun pins s σ H Q I h => ?_⟩
  refine Subscript_ (thn (he.run pins s σ H _ I h) fun v s1 ⟨x, H1, I1, r1, q1⟩ => ?_)
  obtain ⟨a, xs, ex, hx, q⟩ := q1
  subst ex
  cases r1
  have hst : PO X (some (.UnaryOp .USub (.Constant (.int 1) k p1) p2)) (tPart (tUn (rU fun i => .int (-i)) (tC (.int 1)))) := po_some (pe_un un_neg pe_int)
  refine wpAny_Slice ?_
  rw [evalPart_none]
  refine wpAny_pure (wpAny_pure ?_)
  refine thn (hst.run pins s1 σ H1 (fun o H4 => o = some (-1) ∧ H4 = H1) I1 ⟨1, rfl, -1, rfl, rfl, rfl⟩) fun vs s4 ⟨o, H4, I4, ps, eo, e4⟩ => ?_
  subst eo e4
  have I5 : Inv X pins σ H4 { s4 with heap := s4.heap.push { cls := .type "slice", data := .fields #[.none, .none, vs] } } := I4.kept (t' := s4.toks) fun b ob q => Heap.get?_push_of_some _ q
  obtain ⟨its, r, ht, hz⟩ := I5.tuple (SqT.of hx)
  have hlen := r.length
  show wpAny (model X.prog X.w) X.A (subscriptTail e (.Slice none none (some (.UnaryOp .USub (.Constant (.int 1) k p1) p2)) p3) (.ref a) (.ref s4.heap.objs.size)) (EP X pins σ Q) X.xe { s4 with heap := s4.heap.push { cls := .type "slice", data := .fields #[.none, .none, vs] } }
  refine tail_any (ops := [.ref a, .ref s4.heap.objs.size]) ht.typeIs (PyProof.Rows.slot_tuple_getitem.lookup) ?_ (by with_unfolding_all rfl)
  refine getItem_tuple_rev ht (Heap.IsSliceOf.new _ .none .none vs) ps ?_ (by rw [List.size_toArray]; omega)
  refine ⟨.ref _, _, I5.laid (t' := s4.toks) (o := .tup xs.reverse) (fun b ob q => Heap.get?_push_of_some _ q) (Nat.le_refl _) ?_, rfl, q _ (I5.hok.fresh (Nat.le_refl _))⟩
  exact ⟨by rw [List.length_reverse]; exact hz, its.reverse, r.reverse, IsTup.new _ _⟩

/-! ### o[a:c] = ys, another list -/
def gSli (to tl th : TE) : TG := fun v σ H Q => to σ H fun x H1 => tl σ H1 fun y H2 => th σ H2 fun z H3 => ∃ (l b : Addr) (xs ys : List V) (a c : Int), x = .ref l ∧ v = .ref b ∧ y = .int a ∧ z = .int c ∧ H3 l = some (.lst xs) ∧ H3 b = some (.lst ys) ∧ l ≠ b ∧
  0 ≤ a ∧ a ≤ c ∧ c ≤ xs.length ∧ xs.length + ys.length ≤ sizeLine ∧ Q σ (upd H3 l (.lst (xs.take a.toNat ++ ys ++ xs.drop c.toNat)))
theorem pg_sli {o lo hi : Expr} {to tl th : TE} {p2 pos : Pos} (ho : PE X o to) (hl : PE X lo tl) (hh : PE X hi th)
    (ha : ∀ v, assign (.Subscript o (.Slice (some lo) (some hi) none p2) pos) X.env v = (do
      let ov ← holding [v] (eval o X.env)
      let iv ← holding [v, ov] (eval (.Slice (some lo) (some hi) none p2) X.env)
      standAt pos
      holding [v, ov, iv] (setItem ov iv v)
      release [iv, v, ov] []) := by intro _; rfl) : PG X (.Subscript o (.Slice (some lo) (some hi) none p2) pos) (gSli to tl th) := by
  refine ⟨fun pins s σ H v u Q I r h => ?_⟩
  rw [ha]
  refine wpAny_bind (wpAny_holding (thn (ho.run pins s σ H _ I h) fun ov s1 ⟨x, H1, I1, r1, q1⟩ => ?_))
  refine wpAny_bind (wpAny_holding (wpAny_Slice ?_))
  rw [evalPart_some, evalPart_some]
  refine thn (hl.run pins s1 σ H1 _ I1 q1) fun vl s2 ⟨y, H2, I2, r2, q2⟩ => ?_
  refine thn (hh.run pins s2 σ H2 _ I2 q2) fun vh s3 ⟨z, H3, I3, r3, q3⟩ => ?_
  rw [evalPart_none]
  refine wpAny_pure ?_
  obtain ⟨l, b, xs, ys, a, c, rfl, rfl, rfl, rfl, hx, hy, hne, h0, hac, hc, hz, q⟩ := q3
  cases r1
  cases r
  have I4 : Inv X pins σ H3 { s3 with heap := s3.heap.push { cls := .type "slice", data := .fields #[vl, vh, .none] } } := I3.kept (t' := s3.toks) fun b ob q => Heap.get?_push_of_some _ q
  refine wpAny_bind (wpAny_standAt (wpAny_bind (wpAny_holding (set_slice I4 hx hy hne (Heap.IsSliceOf.new _ vl vh .none) r2 r3 h0 hac hc hz fun s5 I5 => ?_))))
  exact wpAny_release ⟨σ, _, I5, q⟩

/-! ### t * 1 -/
theorem tuple_mul1 (l : Addr) (items : Array Value) (n : Nat) (dd : Option Addr) (sl : Array (Option Value)) (u : Tok) :
    Meets (Builtin.«tuple.__mul__» ⟨[.ref l, .int 1 u], []⟩) (fun _ R s => s.heap.get? l = some { cls := .type "tuple", dict := dd, data := .seq items n, slots := sl } ∧ R (.ok (.ret (Value.ref l))) s) :=
  .of_wp fun prog w A R s h => by
    obtain ⟨hp, g, d, tk, os⟩ := s
    obtain ⟨hl, h⟩ := h
    have f1 := AutoSeq1.idx_int
    have c1 : (items.isEmpty || (1 : Int) == 1) = true := by simp
    wp_walk using wpAny_loadPart' hl
    repeat (first
      | (refine wpAny_ite_false (decide_eq_false (by decide)) ?_; wp_walk using wpAny_loadPart' hl)
      | (refine wpAny_ite_true (decide_eq_true c1) ?_; wp_walk using wpAny_loadPart' hl)
      | (refine wpAny_ite_true (decide_eq_true (by decide)) ?_; wp_walk using wpAny_loadPart' hl))
    exact ⟨_, rfl, h⟩
def rRep1 (K : PySem.W.Frag) : R2 := fun x y H Q => ∃ l xs, x = .ref l ∧ y = .int 1 ∧ SqT K H l xs ∧ Q (.ref l) H
theorem op_rep1 : OpR X (binaryOp .Mult) (rRep1 X.K) := by
  intro pins s σ H x y v u Q I rx ry h
  obtain ⟨l, xs, rfl, rfl, hT, q⟩ := h
  cases rx
  obtain ⟨t, rfl⟩ := ry
  obtain ⟨its, r, ⟨⟨cls, dd, data, sl⟩, ho, hc, n, hd⟩, hs⟩ := I.tuple hT
  simp only at hc hd
  subst hc hd
  exact wpAny_binaryOp_repeat_ref (T := "tuple") (U := "int") (by decide) ⟨_, ho, rfl⟩ (fun s' => typeIs_int s' 1 t) noFill_tuple_mul F.fills_int_mul F.slot_int_rmul repeat_tuple F.slot_int_index.lookup
    (call_meets F.slot_int_rmul (typeIs_int s 1 t) F.entry_int_rmul (F.args_int_rmul_2 _ _) (int_rmul_tuple 1 t l its.toArray n dd sl)
      ⟨ho, rfl, ⟨_, ho, rfl⟩, call_meets F.slot_tuple_mul ⟨_, ho, rfl⟩ F.entry_tuple_mul (F.args_tuple_mul_2 _ _) (tuple_mul1 l its.toArray n dd sl t) ⟨ho, ⟨.ref l, H, I, rfl, q⟩⟩⟩)
theorem OpR.or' {f : Value → Value → Sem Value} {r r' : R2} (h : OpR X f r) (h' : OpR X f r') : OpR X f (fun x y H Q => r x y H Q ∨ r' x y H Q) := by
  intro pins s σ H x y v u Q I rx ry q
  rcases q with q | q
  · exact h pins s σ H x y v u Q I rx ry q
  · exact h' pins s σ H x y v u Q I rx ry q
end
end SW
/-! SwRules2: dicts with tuple keys: their items walked, setdefault, a display of one pair. -/
namespace SW
open PySem PySem.Spec PyProof.Rows L2

section
variable {X : Cx} {pins : List (Addr × Obj)} {σ : L2.St} {H : Hp} {s : Shared} {d : Addr} {o : Obj}
theorem frzT2 {kvs : List (List Key × V)} (I : Inv X pins σ H s) (h : H d = some (.frz o (.dT kvs))) :
    (d == sysModules) = false ∧ s.heap.get? d = some o ∧ o.ExactDict ∧ ∃ (es : Array DictEntry) (ep : Nat), o.data = .dict es ep ∧ es.size = kvs.length ∧
      ∀ (i : Nat) (k : List Key) (v : V), kvs[i]? = some (k, v) → ∃ (en : DictEntry) (q : Addr), es[i]? = some en ∧ en.key = .ref q ∧ H q = some (.tup (k.map kV)) ∧ RelV v en.val := by
  obtain ⟨hd, z, hs, xs, pr, o', es, ep, ho, hx, hdt, he, _⟩ := I.hok d _ h
  rw [hd] at ho
  cases ho
  refine ⟨hs, hd, hx, es, ep, hdt, ?_, fun i k v e => ?_⟩
  · have l1 : es.size = xs.length := size_of_entries he
    have l2 : kvs.length = xs.length := Paired.length pr
    omega
  · obtain ⟨b, hb, e1, e2, e3⟩ := paired_get pr e
    have q := entry_at he i
    rw [hb] at q
    exact ⟨_, b.2.1, q, rfl, e2, e3⟩
end
/-- the pairs, each a new tuple of the key's own tuple and the value -/
def ItiT (d : Addr) (o : Obj) (kvs : List (List Key × V)) : It :=
  ⟨fun i H => H d = some (.frz o (.dT kvs)) ∧ i < kvs.length, fun i H x H' => ∃ T k v q, kvs[i]? = some (k, v) ∧ x = .ref T ∧ H T = none ∧ H q = some (.tup (k.map kV)) ∧ H' = upd H T (.tup [.ref q, v]), fun i H => H d = some (.frz o (.dT kvs)) ∧ kvs.length ≤ i⟩
section
variable {P : Program} {w : World} {K : PySem.W.Frag} {d : Addr} {o : Obj} {es : Array DictEntry} {ep : Nat}
theorem turn_itemsT {kvs : List (List Key × V)} {elts : List Expr} {kk : Nat} {tpos : Pos} (it : Addr) (hod : o.data = .dict es ep) :
    Turn P w K (.Tuple elts kk tpos) (ItiT d o kvs) [it] it (fun i h => ∃ ok ov, IsItemIter h it d i kvs.length ep ok ov) where
  mem := by simp
  obj := fun i h st b hb => by
    have e : b = it := by simpa using hb
    subst e
    obtain ⟨ok, ov, e⟩ := st
    exact ⟨_, e, fun v z => nomatch z⟩
  keep := fun i h h' st k => let ⟨ok, ov, e⟩ := st; ⟨ok, ov, k it (by simp) _ e⟩
  item := by
    intro X hP hw hK hc i pins s σ H E I hf st hg
    subst hP hw hK
    obtain ⟨hd, hi⟩ := hg
    obtain ⟨hs, hgd, hx, es', ep', hdt, hsz, ent⟩ := frzT2 I hd
    obtain ⟨rfl, rfl⟩ := dict_ep hod hdt
    obtain ⟨⟨k, v⟩, hkv⟩ : ∃ p, kvs[i]? = some p := ⟨kvs[i], List.getElem?_eq_getElem hi⟩
    obtain ⟨en, q, hen, hkey, hq, rv⟩ := ent i k v hkv
    obtain ⟨ok, ov, he⟩ := st
    rw [← hsz] at he
    have hlt : it < s.heap.objs.size := Heap.lt_size he
    have hi' : i < es'.size := by omega
    have hen' : es'[i] = en := by
      rw [Array.getElem?_eq_getElem hi'] at hen
      exact Option.some.inj hen
    refine DT.nextI he ⟨o, hgd, hx, hdt⟩ hi' fun h' ho hT hz hk => ?_
    rw [hen'] at ho hT
    refine ⟨_, rfl, wpAny_letOwnedTupleGo_items (s := { s with heap := h' }) ho fun h'' he' sb => ?_⟩
    have hT2 : h''.get? s.heap.objs.size = some { cls := .type "tuple", data := .seq #[en.key, en.val] } := (sb.2 _ (Nat.ne_of_gt hlt)).trans hT
    have new : ObjOk X.prog X.w (upd H s.heap.objs.size (.tup [.ref q, v])) h'' s.heap.objs.size (.tup [.ref q, v]) :=
      ⟨by show 2 ≤ sizeLine; decide, [en.key, en.val], .cons hkey (.cons rv .nil), ⟨_, hT2, rfl, _, rfl⟩⟩
    have I1 : Inv X pins σ (upd H s.heap.objs.size (.tup [.ref q, v])) { s with heap := h'' } :=
      I.turnedNew (t' := s.toks) (ch := [it]) (fun b ob hb e => (sb.2 b (by simpa using hb)).trans (hk b ob (by simpa using hb) e)) hf (Nat.le_refl _) new
    refine ⟨.ref s.heap.objs.size, _, I1, rfl, ⟨_, k, v, q, hkv, rfl, I.hok.fresh (Nat.le_refl _), hq, rfl⟩, ⟨en.key, en.val, ?_⟩, fun b hb => ?_⟩
    · rw [← hsz]; exact he'
    · have e : b = it := by simpa using hb
      rw [e, upd_ne (Nat.ne_of_lt hlt)]
      exact (hf it (by simp)).1
  done := by
    intro X hP hw hK hc i pins s σ H E I hf st hg
    subst hP hw hK
    obtain ⟨hd, hi⟩ := hg
    obtain ⟨f0, f1, f2, f3, f4, f5⟩ := hf it (by simp)
    obtain ⟨hs, hgd, hx, es', ep', hdt, hsz, ent⟩ := frzT2 I hd
    obtain ⟨rfl, rfl⟩ := dict_ep hod hdt
    obtain ⟨ok, ov, he⟩ := st
    rw [← hsz] at he
    exact DT.endI (I.ok.hd hc) he ⟨o, hgd, hx, hdt⟩ (by omega) fun h' eb => ⟨rfl, I.turned (t' := s.toks) (fun b ob hb e => eb b ob hb e) f0 f1 f3 f4 f5⟩
  self := fun A i s Q E st h => let ⟨_, _, e⟩ := st; PySem.W.kcp_self e h
end
def iItemsT (td : TE) : TI := fun σ H R => td σ H fun x H1 => ∃ d o kvs, x = .ref d ∧ H1 d = some (.frz o (.dT kvs)) ∧ R (ItiT d o kvs) H1
section
variable {X : Cx} {e : Expr} {td : TE} {apos cpos : Pos}
theorem pi_itemsT {elts : List Expr} {kk : Nat} {tpos : Pos} (he : PE X e td) (hbase : attributeBase e "items" X.env (eval e X.env) = eval e X.env := by rfl) (hline : (apos.endLine == cpos.line) = true := by rfl) :
    PI X (.Tuple elts kk tpos) (.Call (.Attribute e "items" apos) [] [] cpos) (iItemsT td) := by
  refine ⟨fun pins s σ H R I h => ?_⟩
  refine wpAny_Call_method (T := "dict") (id := "dict.items") hbase rfl hline F.plainAttrs_dict F.slot_dict_items F.type_dict_items (thn (he.run pins s σ H _ I h) fun u s1 ⟨x, H1, I1, rx, d, o, kvs, ex, hd, q⟩ => ?_)
  subst ex
  obtain rfl : u = Value.ref d := rx
  obtain ⟨hs, hgd, hx, es, ep, hdt, hsz, ent⟩ := frzT2 I1 hd
  have raw : DT.Raw s1.heap d es ep := ⟨o, hgd, hx, hdt⟩
  refine ⟨raw.typeIs, fun a e => (by cases e; exact ⟨o, hgd, hx.2.1⟩), ?_⟩
  have I2 : Inv X pins σ H1 { s1 with heap := s1.heap.push { cls := .type "dict_items", data := .fields #[.ref d] } } := I1.kept (t' := s1.toks) fun b ob q => Heap.get?_push_of_some _ q
  have fin : wpAny (model X.prog X.w) X.A (pyIter (.ref s1.heap.objs.size)) (PIE X pins σ (.Tuple elts kk tpos) R) X.xe { s1 with heap := s1.heap.push { cls := .type "dict_items", data := .fields #[.ref d] } } := by
    refine DT.iterI (d := d) (es := es) (ep := ep) ⟨_, Heap.get?_push_size _ rfl, rfl, rfl⟩ (raw.push _) (pi_one (tk := s1.toks) I2 _ (turn_itemsT _ hdt) ⟨.none, .none, ?_⟩ q)
    rw [← hsz]
    exact Heap.get?_push_size _ rfl
  show wpAny _ _ (callWith cpos (.builtin "dict.items") [.ref d] [] []) _ X.xe s1
  exact method_meetsIn F.slot_dict_items F.entry_dict_items rfl (PySem.evalArgs_none ⟨rfl, raw.typeIs, F.args_dict_items_1 _, _, DT.meetsItems (es := es) (ep := ep) hs, raw, fin⟩)
end

/-! ### d.setdefault(t, x), tuple keys -/
section
variable {X : Cx} {pins : List (Addr × Obj)} {σ : L2.St} {H : Hp} {s : Shared} {a b : Addr} {r : Value} {dv : V} {k : List Key} {A : Around} {E : Value → Shared → Prop}
theorem d_setdT {kvs : List (List Key × V)} {Q : Value → Shared → Prop} (hu : A.units + 1 < cLine) (I : Inv X pins σ H s) (e : H a = some (.dT kvs)) (eb : H b = some (.tup (k.map kV))) (rd : RelV dv r) (hl : kvs.length < sizeLine)
    (h1 : ∀ v, valV kvs k = some v → ∀ (w' : Value) (s' : Shared), Inv X pins σ H s' → RelV v w' → Q w' s') (h2 : valV kvs k = none → ∀ (w' : Value) (s' : Shared), Inv X pins σ (upd H a (.dT (putK kvs k dv))) s' → RelV dv w' → Q w' s') :
    wpAny (model X.prog X.w) A (call (.builtin "dict.setdefault") [.ref a, .ref b, r]) Q E s := by
  obtain ⟨z, hd, xs, rel, dd⟩ := dt_of I.hok e
  have hz : xs.length ≤ sizeLine := by rw [← Paired.length rel]; exact z
  refine call_setdefault_heap (hsz := hz) (tupleKind_room_in1 hu) (key_of I.hok eb) hd dd (fun p hp => ?_) fun hn h' dd' hs => ?_
  · have q := L2.KT.val rel k
    rw [hp] at q
    cases q0 : valV kvs k with
    | none =>
      rw [q0] at q
      exact (show False from q).elim
    | some v0 =>
      rw [q0] at q
      exact h1 v0 q0 _ _ (I.tok _) q
  · have q := L2.KT.val rel k
    rw [hn] at q
    cases q0 : valV kvs k with
    | some v0 =>
      rw [q0] at q
      exact (show False from q).elim
    | none =>
      have hl2 : (putK kvs k dv).length ≤ sizeLine := by have := length_putK kvs k dv; omega
      obtain ⟨q, es, ep, hq, h2', h3, h4, _, h5⟩ := dd'
      refine h2 q0 _ _ (d_write (t' := s.toks + _) I (by rw [e]; exact True.intro) hs ⟨q, hq⟩ ⟨hl2, hd, _, L2.KT.keeps (L2.KT.put rel k eb rd) (fun c ys ec => ?_), q, es, ep, hq, h2', h3, h4, h5⟩) rd
      rw [upd_ne (ne_of ec e (fun z => nomatch z))]
      exact ec
end
def tDSetdT (td ty tx : TE) : TE := fun σ H Q => td σ H fun x H1 => ∃ a, x = .ref a ∧ IsD H1 a ∧ ty σ H1 fun y H2 => tx σ H2 fun z H3 => ∃ (kvs : List (List Key × V)) (k : List Key) (b : Addr), H3 a = some (.dT kvs) ∧ y = .ref b ∧ H3 b = some (.tup (k.map kV)) ∧ kvs.length < sizeLine ∧
  (∀ v, valV kvs k = some v → Q v H3) ∧ (valV kvs k = none → Q z (upd H3 a (.dT (putK kvs k z))))
section
variable {X : Cx} {o e f : Expr} {td ty tx : TE} {apos cpos : Pos}
theorem pe_dsetdT (hu : X.A.units + 1 < cLine) (ho : PE X o td) (he : PE X e ty) (hf : PE X f tx) (m : M2 X o "setdefault" apos e f cpos) : PE X (.Call (.Attribute o "setdefault" apos) [e, f] [] cpos) (tDSetdT td ty tx) := by
  refine ⟨fun pins s σ H Q I h => ?_⟩
  refine wpAny_Call_method m.base m.few m.line PySem.F.plainAttrs_dict PySem.F.slot_dict_setdefault PySem.F.type_dict_setdefault (thn (ho.run pins s σ H _ I h) fun u s1 ⟨x, H1, I1, rx, a, ex, d, q1⟩ => ?_)
  subst ex
  obtain rfl : u = Value.ref a := rx
  obtain ⟨t1, t2, _⟩ := isD_at I1 d
  refine ⟨t1, t2, ?_⟩
  rw [m.trees]
  refine Calls.callWith_builtin rfl (Calls.evalArgs_plain (Calls.spliced_cons (thn (he.run pins s1 σ H1 _ I1 q1) fun iv s2 ⟨y, H2, I2, ry, q2⟩ =>
    Calls.spliced_cons (thn (hf.run pins s2 σ H2 _ I2 q2) fun fv s3 ⟨z, H3, I3, rz, kvs, k, b, ea, ey, eb, hl, q3, q4⟩ => Calls.spliced_nil ?_))))
  subst ey
  obtain rfl : iv = Value.ref b := ry
  exact d_setdT hu I3 ea eb rz hl (fun v hv w' s4 I4 rw' => ⟨v, _, I4, rw', q3 v hv⟩) fun hn w' s4 I4 rw' => ⟨z, _, I4, rw', q4 hn⟩
end

/-! ### {t: x}, the key a tuple -/
def tDisp1T (tk tv : TE) : TE := fun σ H Q => ∀ p, H p = none → tk σ (upd H p (.dT [])) fun x H1 => tv σ H1 fun y H2 => ∃ (k : List Key) (b : Addr), x = .ref b ∧ H2 b = some (.tup (k.map kV)) ∧ H2 p = some (.dT []) ∧ Q (.ref p) (upd H2 p (.dT [(k, y)]))
section
variable {X : Cx} {k v : Expr} {tk tv : TE} {pos : Pos}
theorem pe_disp1T (hu : X.A.units < cLine) (hk : PE X k tk) (hv : PE X v tv) : PE X (.Dict [some k] [v] pos) (tDisp1T tk tv) := by
  refine ⟨fun pins s σ H Q I q => ?_⟩
  have hn := I.hok.fresh (Nat.le_refl s.heap.objs.size)
  have I1 := I.laid (a := s.heap.objs.size) (o := .dT []) (h' := s.heap.push { cls := .type "dict", data := .dict #[] }) (t' := s.toks) (fun _ _ q => Heap.get?_push_of_some _ q) (Nat.le_refl _) (dt_empty s.heap I.big)
  have hlen : (pairTrees [some k] [v] X.env pos).length ≤ 15 := by show 1 ≤ 15; decide
  have hshape : (evalEachOpt [some k] X.env).zip ((evalEach [v] X.env).map fun v => do let x ← v; standAt pos; pure x) = (pairTrees [some k] [v] X.env pos).map fun p => (some p.1, p.2) := zip_pairTrees [some k] [v] X.env pos rfl rfl
  rw [arm_eval_Dict, hshape, dictDisplay_pairs _ (by intro e; cases e) (by omega)]
  refine wpAny_bind (wpAny_standAt (wpAny_bind (wpAny_subDictH (knd := tupleKind (mixKind X.prog X.w)) (Q := fun d s' => wpAny (model X.prog X.w) X.A (pure (Value.ref d)) (EP X pins σ Q) X.xe s') hu hlen ?_)))
  have hp := (pps_cons (pos := pos) hk hv pps_nil).run pins _ σ (upd H s.heap.objs.size (.dT [])) (fun ps H2 => match ps with
    | [(x, y)] => ∃ (k : List Key) (b : Addr), x = .ref b ∧ H2 b = some (.tup (k.map kV)) ∧ H2 s.heap.objs.size = some (.dT []) ∧ Q (.ref s.heap.objs.size) (upd H2 s.heap.objs.size (.dT [(k, y)]))
    | _ => False) I1 (q _ hn)
  refine thn hp fun ws s2 ⟨ps, H2, I2, rel, q2⟩ => ?_
  match ps, rel, q2 with
  | [], _, q2 => exact False.elim q2
  | _ :: _ :: _, _, q2 => exact False.elim q2
  | [(x, y)], rel, q2 =>
    obtain ⟨kk, b, ex, eb, e, q2⟩ := q2
    subst ex
    cases rel with
    | @cons _ w1 _ _ r1 r2 =>
      cases r2
      obtain ⟨kv, vv⟩ := w1
      obtain rfl : kv = Value.ref b := r1.1
      obtain ⟨z, hd, vs0, r0, dd⟩ := dt_of I2.hok e
      cases r0
      refine ⟨[(kk, b, vv)], ⟨rfl, rfl, key_of I2.hok eb, True.intro⟩, dd, fun h' tk dd' hs => wpAny_pure ⟨.ref s.heap.objs.size, _, ?_, rfl, q2⟩⟩
      obtain ⟨q, es, ep, hq, h2', h3, h4, _, h5⟩ := dd'
      refine d_write I2 (by rw [e]; exact True.intro) hs ⟨q, hq⟩ ⟨by show 1 ≤ sizeLine; decide, hd, [(kk, b, vv)], .cons ⟨rfl, ?_, r1.2⟩ .nil, q, es, ep, hq, h2', h3, h4, h5⟩
      show upd H2 s.heap.objs.size (.dT [(kk, y)]) b = _
      rw [upd_ne (ne_of eb e (fun z => nomatch z))]
      exact eb
end
end SW
/-! SwZip: zip of a list and a tuple. -/
namespace SW
open PySem PySem.Spec PyProof.Rows L2

/-- the list at a and the tuple at b, item by item in new pairs -/
def ItzM (K : PySem.W.Frag) (a b : Addr) : It :=
  ⟨fun i H => ∃ xs ys : List V, SqL K H a xs ∧ SqT K H b ys ∧ i < min xs.length ys.length,
    fun i H v H' => ∃ T x y, v = .ref T ∧ H T = none ∧ H' = upd H T (.tup [x, y]) ∧ (∀ xs, SqL K H a xs → xs[i]? = some x) ∧ ∀ ys, SqT K H b ys → ys[i]? = some y,
    fun i H => ∃ xs ys : List V, SqL K H a xs ∧ SqT K H b ys ∧ i = min xs.length ys.length⟩
structure ZAp (z TI TO i1 i2 a b : Addr) : Prop where
  s : ZipSep2 z TI TO i1 i2 [i1, a] [i2, b]
  a1 : a ≠ i1
  b2 : b ≠ i2
theorem vals_at {xs : List V} {its : List Value} {i : Nat} {u : Value} (rv : Vals xs its) (hu : its.toArray[i]? = some u) : ∃ x, xs[i]? = some x ∧ RelV x u := by
  have hu' : its[i]? = some u := by simpa using hu
  have hi : i < xs.length := by
    rw [rv.length]
    exact (List.getElem?_eq_some_iff.mp hu').1
  obtain ⟨u2, h2, r⟩ := rv.get (List.getElem?_eq_getElem hi)
  rw [hu'] at h2
  cases h2
  exact ⟨_, List.getElem?_eq_getElem hi, r⟩
theorem turn_zipM {P : Program} {w : World} {K : PySem.W.Frag} {elts : List Expr} {kk : Nat} {tpos : Pos} {a b z TI TO i1 i2 : Addr} (D : ZAp z TI TO i1 i2 a b) :
    Turn P w K (.Tuple elts kk tpos) (ItzM K a b) [z, TI, TO, i1, i2] z (fun i h => IsZip h z TI TO .none ∧ IsTupOf2 h TI (.ref i1) (.ref i2) ∧ (∃ x y, IsTupOf2 h TO x y) ∧ h.IsListIter i1 a i ∧ h.IsTupleIter i2 b i) where
  mem := by simp
  obj := fun i h st c hc => by
    obtain ⟨hz, hTI, ⟨x, y, hTO⟩, ⟨o1, e1, _, d1⟩, ⟨o2, e2, _, d2⟩⟩ := st
    have e' : c = z ∨ c = TI ∨ c = TO ∨ c = i1 ∨ c = i2 := by simpa using hc
    rcases e' with q | q | q | q | q
    · rw [q]; exact ⟨_, hz, fun v q => nomatch q⟩
    · rw [q]; exact ⟨_, hTI, fun v q => nomatch q⟩
    · rw [q]; exact ⟨_, hTO, fun v q => nomatch q⟩
    · exact ⟨o1, q ▸ e1, fun v q => by rw [d1] at q; cases q⟩
    · exact ⟨o2, q ▸ e2, fun v q => by rw [d2] at q; cases q⟩
  keep := fun i h h' st k => by
    obtain ⟨hz, hTI, ⟨x, y, hTO⟩, h1, h2⟩ := st
    exact ⟨k z (by simp) _ hz, k TI (by simp) _ hTI, ⟨x, y, k TO (by simp) _ hTO⟩, h1.at fun o q => k i1 (by simp) o q, h2.at fun o q => k i2 (by simp) o q⟩
  item := by
    intro X hP hw hK hc i pins s σ H E I hf st hg
    subst hP hw hK
    obtain ⟨hz, hTI, hTO, h1, h2⟩ := st
    obtain ⟨xs, ys, hqx, hqy, hi⟩ := hg
    obtain ⟨its, rv, p, _⟩ := I.list hqx
    obtain ⟨its2, rv2, p2, _⟩ := I.tuple hqy
    have hh := I.ok.hd hc
    have l1 := rv.length
    have l2 := rv2.length
    have G := GoesN.zip2 (prog := X.prog) (w := X.w) (A := X.A) (elts := elts) (x1 := kk) (pos := tpos) D.s (Draws.list (A := X.A.in1) hh i1 a D.a1 its.toArray) (Draws.tuple (A := X.A.in1) hh i2 b D.b2 its2.toArray)
    have old : ∀ c ∈ [z, TI, TO, i1, i2], c < s.heap.objs.size := fun c hcm => by
      obtain ⟨x0, y0, hTO'⟩ := hTO
      obtain ⟨_, e1, _⟩ := id h1
      obtain ⟨_, e2, _⟩ := id h2
      have e' : c = z ∨ c = TI ∨ c = TO ∨ c = i1 ∨ c = i2 := by simpa using hcm
      rcases e' with q | q | q | q | q <;> rw [q]
      · exact Heap.lt_size hz
      · exact Heap.lt_size hTI
      · exact Heap.lt_size hTO'
      · exact Heap.lt_size e1
      · exact Heap.lt_size e2
    refine G.goes i s _ _ (by rw [List.size_toArray, List.size_toArray, ← l1, ← l2]; exact hi) ⟨hz, hTI, hTO, ⟨h1, p.isList⟩, ⟨h2, p2⟩⟩ fun v h' tk y st' kk' _ => ?_
    obtain ⟨T, u, u2, rfl, hn, hu, hu2, hT⟩ := y
    obtain ⟨hz', hTI', hTO', ⟨h1', _⟩, ⟨h2', _⟩⟩ := st'
    obtain ⟨x, hx, ru⟩ := vals_at rv hu
    obtain ⟨y, hy, ru2⟩ := vals_at rv2 hu2
    have new : ObjOk X.prog X.w (upd H T (.tup [x, y])) h' T (.tup [x, y]) := ⟨by show 2 ≤ sizeLine; decide, [u, u2], .cons ru (.cons ru2 .nil), hT⟩
    have I1 : Inv X pins σ (upd H T (.tup [x, y])) { s with heap := h', toks := tk } :=
      I.turnedNew (t' := tk) (ch := [z, TI, TO, i1, i2]) (fun c o hb q => kk' c o (fun m => hb (by
        have e' : c = z ∨ c = TO ∨ c = i1 ∨ c = i2 := by simpa using m
        rcases e' with q | q | q | q <;> simp [q])) q) hf hn new
    refine ⟨.ref T, _, I1, rfl, ⟨T, x, y, rfl, I.hok.fresh hn, rfl, fun l hl => by rw [I.list_inj hl hqx]; exact hx, fun l hl => by rw [I.tuple_inj hl hqy]; exact hy⟩, ⟨hz', hTI', hTO', h1', h2'⟩, fun c hcm => ?_⟩
    rw [upd_ne (Nat.ne_of_lt (Nat.lt_of_lt_of_le (old c hcm) hn))]
    exact (hf c hcm).1
  done := by
    intro X hP hw hK hc i pins s σ H E I hf st hg
    subst hP hw hK
    obtain ⟨hz, hTI, hTO, h1, h2⟩ := st
    obtain ⟨xs, ys, hqx, hqy, hi⟩ := hg
    obtain ⟨its, rv, p, _⟩ := I.list hqx
    obtain ⟨its2, rv2, p2, _⟩ := I.tuple hqy
    have hh := I.ok.hd hc
    have l1 := rv.length
    have l2 := rv2.length
    have G := GoesN.zip2 (prog := X.prog) (w := X.w) (A := X.A) (elts := elts) (x1 := kk) (pos := tpos) D.s (Draws.list (A := X.A.in1) hh i1 a D.a1 its.toArray) (Draws.tuple (A := X.A.in1) hh i2 b D.b2 its2.toArray)
    have hi' : i = min its.toArray.size its2.toArray.size := by rw [List.size_toArray, List.size_toArray, ← l1, ← l2]; exact hi
    subst hi'
    refine G.stops s _ _ ⟨hz, hTI, hTO, ⟨h1, p.isList⟩, ⟨h2, p2⟩⟩ fun h' tk kk' _ => ?_
    exact I.turnedL (t' := tk) (ch := [z, TI, TO, i1, i2]) (fun c o hb q => kk' c o (fun m => hb (by
        have e' : c = z ∨ c = TO ∨ c = i1 ∨ c = i2 := by simpa using m
        rcases e' with q | q | q | q <;> simp [q])) q) hf
  self := fun A i s Q E st h => wpAny_pyIter_zip st.1 h
def iZipM (K : PySem.W.Frag) (ta : TA) : TI := fun σ H R => ta σ H fun vs H1 => ∃ a b xs ys, vs = [.ref a, .ref b] ∧ SqL K H1 a xs ∧ SqT K H1 b ys ∧ R (ItzM K a b) H1
theorem pi_zipM {X : Cx} {e e2 : Expr} {ta : TA} {p pos tpos : Pos} {elts : List Expr} {kk : Nat} (hg : Gl X "zip") (hm : X.mg "zip" = none) (ha : PA X [e, e2] ta)
    (hs : starEach [e, e2] X.env = (false, eval e X.env) :: starEach [e2] X.env := by rfl) (hpl : (backTo pos (starEach [e2] X.env)).any (·.1) = false := by rfl) :
    PI X (.Tuple elts kk tpos) (.Call (.Name "zip" p) [e, e2] [] pos) (iZipM X.K ta) := by
  refine ⟨fun pins s σ H R I h => ?_⟩
  refine Call_ (ld_blt I hg hm PyProof.Rows.boot_zip (PyProof.Rows.callWith_type1 (thn (ha.run pos pins s σ H _ I h) fun us s1 ⟨vs, H1, I1, r1, q1⟩ => ?_) hs hpl))
  obtain ⟨a, b, xs, ys, ex, hqx, hqy, q⟩ := q1
  subst ex
  cases r1 with
  | cons r rr =>
    cases rr with
    | cons r' rr =>
      cases rr
      cases r
      cases r'
      obtain ⟨its, rv, p1, _⟩ := I1.list hqx
      obtain ⟨its2, rv2, p2, _⟩ := I1.tuple hqy
      obtain ⟨o2, ho2, _⟩ := id p2
      have la : a < s1.heap.objs.size := p1.lt
      have lb : b < s1.heap.objs.size := Heap.lt_size ho2
      refine zip_begins2 (begins_list a its.toArray) (begins_tuple b its2.toArray) p1.isList p2 fun h' hz hTI hTO h1 h2 hsz hk => wpAny_pyIter_zip hz ?_
      have I2 : Inv X pins σ H1 { s1 with heap := h' } := I1.kept (t' := s1.toks) hk
      have ap : ZAp (s1.heap.objs.size + 4) (s1.heap.objs.size + 2) (s1.heap.objs.size + 3) s1.heap.objs.size (s1.heap.objs.size + 1) a b :=
        ⟨zip_sep2 (fp1 := [a]) (fp2 := [b]) (fun c m => by rw [List.mem_singleton.mp m]; exact la) (fun c m => by rw [List.mem_singleton.mp m]; exact lb), Nat.ne_of_lt la, Nat.ne_of_lt (Nat.lt_succ_of_lt lb)⟩
      refine ⟨s1.heap.objs.size + 4, [s1.heap.objs.size + 4, s1.heap.objs.size + 2, s1.heap.objs.size + 3, s1.heap.objs.size, s1.heap.objs.size + 1], _, _, H1, rfl, I2, turn_zipM ap, ⟨hz, hTI, ⟨_, _, hTO⟩, ⟨_, h1, rfl, rfl⟩, ⟨_, h2, rfl, rfl⟩⟩, fun c hcm => ?_, q⟩
      have hle : s1.heap.objs.size ≤ c := by
        have e' : c = s1.heap.objs.size + 4 ∨ c = s1.heap.objs.size + 2 ∨ c = s1.heap.objs.size + 3 ∨ c = s1.heap.objs.size ∨ c = s1.heap.objs.size + 1 := by simpa using hcm
        rcases e' with z | z | z | z | z <;> rw [z] <;> first | exact Nat.le_add_right _ _ | exact Nat.le_refl _
      exact I1.fpOk hle (I1.hok.fresh hle)
end SW
/-! SwRules3: the base's __init__ called by an own class's name; sorted of at most one thing; loops and comprehensions over zip of a list and a tuple. -/
namespace SW
open PySem PySem.Spec PyProof.Rows L2

/-! ### Base.__init__(self, ..), Base an own class over ValueError without an __init__ -/
section
variable {X : Cx} {e : Expr} {es : List Expr} {ta : TA} {x : Str} {p1 p2 pos : Pos}
structure BaseI (K : PySem.W.Frag) (C : Addr) : Prop where
  sp : PySem.W.specialIn K (.ref C) "__getattribute__" = some (some (.builtin "type.__getattribute__"))
  rd : PySem.W.readsIn K C (.type "type") = true
  vV : PySem.W.findCls K (.ref C) (.type "type") "__init__" = some (.val (.builtin "ValueError.__init__"))
theorem pe_binit {C0 : Addr} {pl : Sem Bool} (T : BaseI X.K C0) (hg : Gl X x) (hm : X.mg x = some (.ref C0)) (ha : PA X (e :: es) ta)
    (hc : eval (.Call (.Attribute (.Name x p1) "__init__" p2) (e :: es) [] pos) X.env = (do
      let ov ← eval (.Name x p1) X.env
      standAt p2.atName
      let (f, first) ← holding [ov] (getMethod ov "__init__" pl)
      callWith pos f first (backTo pos (starEach (e :: es) X.env)) (backToKw pos (keywordEach [] X.env))) := by rfl)
    (he : starEach (e :: es) X.env = (false, eval e X.env) :: starEach es X.env := by rfl) (hpl : (backTo pos (starEach es X.env)).any (·.1) = false := by rfl) (hd : (x == ("__debug__" : Str)) = false := by decide) :
    PE X (.Call (.Attribute (.Name x p1) "__init__" p2) (e :: es) [] pos) (tVeI X.K ta) := by
  refine ⟨fun pins s σ H Q I h => ?_⟩
  refine PySem.W.methodCall_KW (ld_glob I hg hm ?_ hd) hc
  refine PySem.W.method_cls I.kIn T.sp ?_
  refine PySem.W.cls_value I.kIn T.rd T.vV (by decide +kernel) ?_
  show wpAny _ _ (callWith pos (Value.builtin "ValueError.__init__") [] (backTo pos (starEach (e :: es) X.env)) []) _ _ _
  refine PyProof.Rows.callWith_method1 (thn (ha.run pos pins _ σ H _ (I.tok _) h) fun us s1 ⟨vs, H1, I1, r1, a, C, ws, ev, hl, T, ea, q⟩ => ?_) he hpl
  subst ev
  cases r1 with
  | @cons _ u0 _ ur ra rw' =>
    obtain rfl : u0 = Value.ref a := ra
    have hlen : ur.length ≤ sizeLine := by
      rw [← Paired.length rw', sizeLine_eq]
      omega
    exact oinit_ok T I1 ea hlen fun s' J => ⟨.non, H1, J, rfl, q⟩

/-! ### sorted of at most one thing -/
def rSort1 (K : PySem.W.Frag) : List V → Hp → VK → Prop := fun vs H Q => ∃ (a : Addr) (xs : List V), vs = [V.ref a] ∧ SqL K H a xs ∧ xs.length ≤ 1 ∧ ∀ p, H p = none → Q (.ref p) (upd H p (.lst xs))
theorem perm_one {α : Type} {l m : List α} (h : l.Perm m) (hm : m.length ≤ 1) : l = m := by
  match m, hm with
  | [], _ => exact h.eq_nil
  | [a], _ => exact List.perm_singleton.mp h
theorem cr_sorted1 : CallR X (.builtin "sorted") (rSort1 X.K) := by
  intro pins s σ H vs us Q I r h
  obtain ⟨a, xs, rfl, hs, h1, q⟩ := h
  obtain ⟨its, rv, hl, hz⟩ := I.list hs
  rw [Vals.ref1 r]
  have hlen := rv.length
  refine SrtO.sorted_ord (ltv := fun _ _ => false) ⟨fun _ _ _ => rfl, fun _ _ _ _ _ => rfl⟩ hl.isList (by rw [← rv.length]; exact hz) (fun h2 => absurd h2 (by omega)) fun out g1 g2 => ?_
  have eo : out = its := perm_one g2.perm (by omega)
  subst eo
  obtain ⟨ep, he'⟩ := PyProof.Rows.sortedAll_at s.heap out out.toArray
  exact ⟨.ref _, upd H (s.heap.objs.size + 1) (.lst xs), I.laid (t' := s.toks) (fun _ _ => PyProof.Rows.sortedAll_old) (Nat.le_succ _) ⟨hz, out, ep, rv, he'⟩, rfl, q _ (I.hok.fresh (Nat.le_succ _))⟩
end

/-! ### over zip(list, tuple) -/
section
variable {K : PySem.W.Frag} {a b : Addr} {xs ys : List V} {g : TG}
theorem for_zipM {tb : TS} {D : Ends} {σ : L2.St} {H : Hp} (hl : xs.length = ys.length) (Pv : Nat → L2.St → Hp → Prop) (h0 : Pv 0 σ H) (hq : ∀ i σ H, Pv i σ H → SqL K H a xs ∧ SqT K H b ys)
    (hs : ∀ (i : Nat) (x y : V) (T : Addr) (σ : L2.St) (H : Hp), xs[i]? = some x → ys[i]? = some y → Pv i σ H → H T = none → g (.ref T) σ (upd H T (.tup [x, y])) fun σ2 H2 => tb { D with nx := Pv (i + 1), ct := Pv (i + 1), bk := D.nx } σ2 H2) (hd : ∀ σ H, Pv xs.length σ H → D.nx σ H) :
    ∃ W : Nat → Nat → L2.St → Hp → Prop, (∃ m, W 0 m σ H) ∧ ∀ i m σ H, W i m σ H →
      ((ItzM K a b).stop i H ∧ D.nx σ H) ∨ ((ItzM K a b).go i H ∧ ∃ N : L2.St → Hp → Prop, (∀ σ' H', N σ' H' → ∃ m', m' < m ∧ W (i + 1) m' σ' H') ∧ ∀ v H', (ItzM K a b).yld i H v H' → g v σ H' fun σ2 H2 => tb { D with nx := N, ct := N, bk := D.nx } σ2 H2) := by
  refine ⟨fun i m σ H => m = xs.length - i ∧ i ≤ xs.length ∧ Pv i σ H, ⟨xs.length, rfl, Nat.zero_le _, h0⟩, ?_⟩
  rintro i m σ H ⟨rfl, hi, p⟩
  obtain ⟨qx, qy⟩ := hq i σ H p
  by_cases hlt : i < xs.length
  · refine .inr ⟨⟨xs, ys, qx, qy, by omega⟩, Pv (i + 1), fun σ' H' p' => ⟨xs.length - (i + 1), by omega, rfl, hlt, p'⟩, fun v H' y => ?_⟩
    obtain ⟨T, x', y', rfl, hT, rfl, f1, f2⟩ := y
    exact hs i x' y' T σ H (f1 xs qx) (f2 ys qy) p hT
  · have e : i = xs.length := by omega
    subst e
    exact .inl ⟨⟨xs, ys, qx, qy, by omega⟩, hd σ H p⟩
theorem lc_zipM {tt : TT} {te : TE} {vs : List Nat} {σ : L2.St} {H1 : Hp} {D : Addr} {Qd : Hp → Prop} (hl : xs.length = ys.length) (Pv : Nat → Hp → Prop) (h0 : Pv 0 (upd H1 D (.lst []))) (hq : ∀ i H, Pv i H → SqL K H a xs ∧ SqT K H b ys)
    (hs : ∀ (i : Nat) (x y : V) (T : Addr) (H : Hp), xs[i]? = some x → ys[i]? = some y → Pv i H → H T = none → g (.ref T) (wipe σ vs) (upd H T (.tup [x, y])) fun σ2 H2 => wipe σ2 vs = wipe σ vs ∧ tt σ2 H2 fun c H3 =>
      if c = true then te σ2 H3 fun y H4 => ∃ acc, H4 D = some (.lst acc) ∧ acc.length < sizeLine ∧ Pv (i + 1) (upd H4 D (.lst (acc ++ [y]))) else Pv (i + 1) H3) (hd : ∀ H, Pv xs.length H → Qd H) :
    ∃ W : Nat → Nat → Hp → Prop, (∃ m, W 0 m (upd H1 D (.lst []))) ∧ ∀ i m H, W i m H →
      ((ItzM K a b).stop i H ∧ Qd H) ∨ ((ItzM K a b).go i H ∧ ∃ Nx : Hp → Prop, (∀ H', Nx H' → ∃ m', m' < m ∧ W (i + 1) m' H') ∧ ∀ x H', (ItzM K a b).yld i H x H' → g x (wipe σ vs) H' fun σ2 H2 => wipe σ2 vs = wipe σ vs ∧ tt σ2 H2 fun c H3 =>
        if c = true then te σ2 H3 fun y H4 => ∃ acc, H4 D = some (.lst acc) ∧ acc.length < sizeLine ∧ Nx (upd H4 D (.lst (acc ++ [y]))) else Nx H3) := by
  refine ⟨fun i m H => m = xs.length - i ∧ i ≤ xs.length ∧ Pv i H, ⟨xs.length, rfl, Nat.zero_le _, h0⟩, ?_⟩
  rintro i m H ⟨rfl, hi, p⟩
  obtain ⟨qx, qy⟩ := hq i H p
  by_cases hlt : i < xs.length
  · refine .inr ⟨⟨xs, ys, qx, qy, by omega⟩, Pv (i + 1), fun H' p' => ⟨xs.length - (i + 1), by omega, rfl, hlt, p'⟩, fun v H' y => ?_⟩
    obtain ⟨T, x', y', rfl, hT, rfl, f1, f2⟩ := y
    exact hs i x' y' T H (f1 xs qx) (f2 ys qy) p hT
  · have e : i = xs.length := by omega
    subst e
    exact .inl ⟨⟨xs, ys, qx, qy, by omega⟩, hd H p⟩
end
end SW
/-! SwText: the text by places, its defs' names by slot, what is asked of the built-ins. -/
namespace SW
open PySem PySem.Spec PyProof.Rows L2

def top (i : Nat) : Stmt := PySem.Challenge.pw_slidewires_k74_whole_three_readings.main.body.getD i (.Pass ⟨0, 0, 0, 0⟩)
abbrev s_TooWide_init : Stmt := inClass (top 2) 0
abbrev s_box_names : Stmt := top 4
abbrev s_feet_of : Stmt := top 5
abbrev s_feet_taken : Stmt := top 7
abbrev s_given_for : Stmt := top 8
abbrev s_wires_behind : Stmt := top 9
abbrev s_wires_at : Stmt := top 10
abbrev s_below_of : Stmt := top 11
abbrev s_sizes_of : Stmt := top 14
abbrev s_worths_of : Stmt := top 15
abbrev s_check_width : Stmt := top 16
abbrev s_box_number : Stmt := top 17
abbrev s_rows_told : Stmt := top 18
abbrev s_through_box : Stmt := top 19
abbrev s_through_wires : Stmt := top 20
abbrev s_Going_init : Stmt := inClass (top 21) 0
abbrev s_Going_rows_of : Stmt := inClass (top 21) 1
abbrev s_Going_size_of : Stmt := inClass (top 21) 2
abbrev s_Going_through : Stmt := inClass (top 21) 3
abbrev s_read_table : Stmt := top 22
abbrev s_put_in : Stmt := top 25
abbrev s_parts_with : Stmt := top 26
abbrev s_Wires_init : Stmt := inClass (top 27) 0
abbrev s_Wires_crossed : Stmt := inClass (top 27) 1
abbrev s_Wires_boxed : Stmt := inClass (top 27) 2
abbrev s_read_program : Stmt := top 28
abbrev s_done_with : Stmt := top 29
abbrev s_run : Stmt := top 30
abbrev s_Passing_init : Stmt := inClass (top 32) 0
abbrev s_Passing_ends_of : Stmt := inClass (top 32) 1
abbrev s_Passing_through_box : Stmt := inClass (top 32) 2
abbrev s_Passing_past_wires : Stmt := inClass (top 32) 3
abbrev s_Passing_passed : Stmt := inClass (top 32) 4
abbrev s_read_relation : Stmt := top 33
abbrev s_l_cell_at : Stmt := top 35
abbrev s_l_deck : Stmt := top 36
abbrev s_l_draw : Stmt := top 37
abbrev s_l_feet : Stmt := top 38
abbrev s_l_kit : Stmt := top 39
abbrev s_l_takes : Stmt := top 40
abbrev s_l_after : Stmt := top 41
abbrev s_l_wires : Stmt := top 42
abbrev s_l_boxes_that_fit : Stmt := top 43
abbrev s_l_wires_that_fit : Stmt := top 44
abbrev s_l_picture : Stmt := top 45
abbrev s_l_small : Stmt := top 46
abbrev s_l_worths : Stmt := top 47
abbrev s_l_comes_to : Stmt := top 48
abbrev s_l_fillings : Stmt := top 49
abbrev s_l_told : Stmt := top 50
abbrev s_l_widest : Stmt := top 51
abbrev s_l_right : Stmt := top 52
abbrev s_law : Stmt := top 53
theorem sc_TooWide_init : FnScope ["self", "number"] ["self", "number"] (defScope s_TooWide_init) := ⟨rfl, rfl, rfl, by decide +kernel, rfl, by decide +kernel, by decide +kernel⟩
theorem sc_box_names : FnScope ["kit", "one"] ["kit"] (defScope s_box_names) := ⟨rfl, rfl, rfl, by decide +kernel, rfl, by decide +kernel, by decide +kernel⟩
theorem sc_feet_of : FnScope ["kit", "name", "box"] ["kit", "name"] (defScope s_feet_of) := ⟨rfl, rfl, rfl, by decide +kernel, rfl, by decide +kernel, by decide +kernel⟩
theorem sc_feet_taken : FnScope ["kit", "step"] ["kit", "step"] (defScope s_feet_taken) := ⟨rfl, rfl, rfl, by decide +kernel, rfl, by decide +kernel, by decide +kernel⟩
theorem sc_given_for : FnScope ["kit", "step", "wires", "above", "below"] ["kit", "step", "wires"] (defScope s_given_for) := ⟨rfl, rfl, rfl, by decide +kernel, rfl, by decide +kernel, by decide +kernel⟩
theorem sc_wires_behind : FnScope ["kit", "wires", "layer", "end", "given", "place", "step"] ["kit", "wires", "layer"] (defScope s_wires_behind) := ⟨rfl, rfl, rfl, by decide +kernel, rfl, by decide +kernel, by decide +kernel⟩
theorem sc_wires_at : FnScope ["kit", "picture", "at", "wires", "layer"] ["kit", "picture", "at"] (defScope s_wires_at) := ⟨rfl, rfl, rfl, by decide +kernel, rfl, by decide +kernel, by decide +kernel⟩
theorem sc_below_of : FnScope ["kit", "picture"] ["kit", "picture"] (defScope s_below_of) := ⟨rfl, rfl, rfl, by decide +kernel, rfl, by decide +kernel, by decide +kernel⟩
theorem sc_sizes_of : FnScope ["kit", "sizes", "wires", "sort"] ["kit", "sizes", "wires"] (defScope s_sizes_of) := ⟨rfl, rfl, rfl, by decide +kernel, rfl, by decide +kernel, by decide +kernel⟩
theorem sc_worths_of : FnScope ["sizes", "found", "size", "longer", "worths", "worth"] ["sizes"] (defScope s_worths_of) := ⟨rfl, rfl, rfl, by decide +kernel, rfl, by decide +kernel, by decide +kernel⟩
theorem sc_check_width : FnScope ["kit", "sizes", "picture", "at", "many", "size"] ["kit", "sizes", "picture"] (defScope s_check_width) := ⟨rfl, rfl, rfl, by decide +kernel, rfl, by decide +kernel, by decide +kernel⟩
theorem sc_box_number : FnScope ["kit", "name", "box"] ["kit", "name"] (defScope s_box_number) := ⟨rfl, rfl, rfl, by decide +kernel, rfl, by decide +kernel, by decide +kernel⟩
theorem sc_rows_told : FnScope ["kit", "sizes", "name", "table", "ends", "found", "above", "below", "worths", "row", "end", "number"] ["kit", "sizes", "name", "table"] (defScope s_rows_told) := ⟨rfl, rfl, rfl, by decide +kernel, rfl, by decide +kernel, by decide +kernel⟩
theorem sc_through_box : FnScope ["rows", "worths", "place", "many", "ahead", "behind", "end", "number"] ["rows", "worths", "place", "many"] (defScope s_through_box) := ⟨rfl, rfl, rfl, by decide +kernel, rfl, by decide +kernel, by decide +kernel⟩
theorem sc_through_wires : FnScope ["step", "size", "worths", "place", "two", "worth"] ["step", "size", "worths", "place"] (defScope s_through_wires) := ⟨rfl, rfl, rfl, by decide +kernel, rfl, by decide +kernel, by decide +kernel⟩
theorem sc_Going_init : FnScope ["self", "kit", "sizes", "tables"] ["self", "kit", "sizes", "tables"] (defScope s_Going_init) := ⟨rfl, rfl, rfl, by decide +kernel, rfl, by decide +kernel, by decide +kernel⟩
theorem sc_Going_rows_of : FnScope ["self", "name", "table"] ["self", "name"] (defScope s_Going_rows_of) := ⟨rfl, rfl, rfl, by decide +kernel, rfl, by decide +kernel, by decide +kernel⟩
theorem sc_Going_size_of : FnScope ["self", "step"] ["self", "step"] (defScope s_Going_size_of) := ⟨rfl, rfl, rfl, by decide +kernel, rfl, by decide +kernel, by decide +kernel⟩
theorem sc_Going_through : FnScope ["self", "layer", "known", "size", "found", "place", "step", "worths", "number", "more", "end", "times"] ["self", "layer", "known"] (defScope s_Going_through) := ⟨rfl, rfl, rfl, by decide +kernel, rfl, by decide +kernel, by decide +kernel⟩
theorem sc_read_table : FnScope ["kit", "filling", "picture", "going", "ends", "found", "worths", "sizes", "tables", "known", "layer", "end"] ["kit", "filling", "picture"] (defScope s_read_table) := ⟨rfl, rfl, rfl, by decide +kernel, rfl, by decide +kernel, by decide +kernel⟩
theorem sc_put_in : FnScope ["expression", "comes", "word", "part"] ["expression", "comes"] (defScope s_put_in) := ⟨rfl, rfl, rfl, by decide +kernel, rfl, by decide +kernel, by decide +kernel⟩
theorem sc_parts_with : FnScope ["expression", "counts", "word", "part"] ["expression", "counts"] (defScope s_parts_with) := ⟨rfl, rfl, rfl, by decide +kernel, rfl, by decide +kernel, by decide +kernel⟩
theorem sc_Wires_init : FnScope ["self", "many", "place"] ["self", "many"] (defScope s_Wires_init) := ⟨rfl, rfl, rfl, by decide +kernel, rfl, by decide +kernel, by decide +kernel⟩
theorem sc_Wires_crossed : FnScope ["self", "place"] ["self", "place"] (defScope s_Wires_crossed) := ⟨rfl, rfl, rfl, by decide +kernel, rfl, by decide +kernel, by decide +kernel⟩
theorem sc_Wires_boxed : FnScope ["self", "place", "many", "expressions", "comes", "counts", "more", "count", "expression"] ["self", "place", "many", "expressions"] (defScope s_Wires_boxed) := ⟨rfl, rfl, rfl, by decide +kernel, rfl, by decide +kernel, by decide +kernel⟩
theorem sc_read_program : FnScope ["kit", "filling", "picture", "wires", "place", "step", "many"] ["kit", "filling", "picture"] (defScope s_read_program) := ⟨rfl, rfl, rfl, by decide +kernel, rfl, by decide +kernel, by decide +kernel⟩
theorem sc_done_with : FnScope ["word", "worths"] ["word", "worths"] (defScope s_done_with) := ⟨rfl, rfl, rfl, by decide +kernel, rfl, by decide +kernel, by decide +kernel⟩
theorem sc_run : FnScope ["expression", "numbers", "word", "part"] ["expression", "numbers"] (defScope s_run) := ⟨rfl, rfl, rfl, by decide +kernel, rfl, by decide +kernel, by decide +kernel⟩
theorem sc_Passing_init : FnScope ["self", "kit", "sizes", "relations"] ["self", "kit", "sizes", "relations"] (defScope s_Passing_init) := ⟨rfl, rfl, rfl, by decide +kernel, rfl, by decide +kernel, by decide +kernel⟩
theorem sc_Passing_ends_of : FnScope ["self", "name", "found", "worths", "end"] ["self", "name"] (defScope s_Passing_ends_of) := ⟨rfl, rfl, rfl, by decide +kernel, rfl, by decide +kernel, by decide +kernel⟩
theorem sc_Passing_through_box : FnScope ["self", "name", "worths", "place", "many", "ends", "end"] ["self", "name", "worths", "place"] (defScope s_Passing_through_box) := ⟨rfl, rfl, rfl, by decide +kernel, rfl, by decide +kernel, by decide +kernel⟩
theorem sc_Passing_past_wires : FnScope ["self", "step", "worths", "place", "size", "end", "number"] ["self", "step", "worths", "place"] (defScope s_Passing_past_wires) := ⟨rfl, rfl, rfl, by decide +kernel, rfl, by decide +kernel, by decide +kernel⟩
theorem sc_Passing_passed : FnScope ["self", "layer", "known", "found", "worths", "place", "step", "end", "more"] ["self", "layer", "known"] (defScope s_Passing_passed) := ⟨rfl, rfl, rfl, by decide +kernel, rfl, by decide +kernel, by decide +kernel⟩
theorem sc_read_relation : FnScope ["kit", "filling", "picture", "passing", "found", "worths", "sizes", "relations", "known", "layer", "end"] ["kit", "filling", "picture"] (defScope s_read_relation) := ⟨rfl, rfl, rfl, by decide +kernel, rfl, by decide +kernel, by decide +kernel⟩
theorem sc_l_cell_at : FnScope ["_law_script", "_law_k"] ["_law_script", "_law_k"] (defScope s_l_cell_at) := ⟨rfl, rfl, rfl, by decide +kernel, rfl, by decide +kernel, by decide +kernel⟩
theorem sc_l_deck : FnScope ["_law_cell"] ["_law_cell"] (defScope s_l_deck) := ⟨rfl, rfl, rfl, by decide +kernel, rfl, by decide +kernel, by decide +kernel⟩
theorem sc_l_draw : FnScope ["_law_deck_here", "_law_most", "_law_mixed", "_law_found"] ["_law_deck_here", "_law_most"] (defScope s_l_draw) := ⟨rfl, rfl, rfl, by decide +kernel, rfl, by decide +kernel, by decide +kernel⟩
theorem sc_l_feet : FnScope ["_law_deck_here", "_law_sorts", "_law_great", "_law_many", "_law_k"] ["_law_deck_here", "_law_sorts", "_law_great"] (defScope s_l_feet) := ⟨rfl, rfl, rfl, by decide +kernel, rfl, by decide +kernel, by decide +kernel⟩
theorem sc_l_kit : FnScope ["_law_deck_here", "_law_manner", "_law_great", "_law_turn", "_law_names", "_law_sorts", "_law_words", "_law_boxes", "_law_name"] ["_law_deck_here", "_law_manner"] (defScope s_l_kit) := ⟨rfl, rfl, rfl, by decide +kernel, rfl, by decide +kernel, by decide +kernel⟩
theorem sc_l_takes : FnScope ["_law_kit_here", "_law_step", "_law_name", "_law_above", "_law_below"] ["_law_kit_here", "_law_step"] (defScope s_l_takes) := ⟨rfl, rfl, rfl, by decide +kernel, rfl, by decide +kernel, by decide +kernel⟩
theorem sc_l_after : FnScope ["_law_kit_here", "_law_wires_here", "_law_layer", "_law_taken", "_law_given", "_law_place", "_law_step", "_law_name", "_law_above", "_law_below"] ["_law_kit_here", "_law_wires_here", "_law_layer"] (defScope s_l_after) := ⟨rfl, rfl, rfl, by decide +kernel, rfl, by decide +kernel, by decide +kernel⟩
theorem sc_l_wires : FnScope ["_law_kit_here", "_law_picture_here", "_law_at", "_law_wires_here", "_law_layer"] ["_law_kit_here", "_law_picture_here", "_law_at"] (defScope s_l_wires) := ⟨rfl, rfl, rfl, by decide +kernel, rfl, by decide +kernel, by decide +kernel⟩
theorem sc_l_boxes_that_fit : FnScope ["_law_kit_here", "_law_wires_here", "_law_found", "_law_name", "_law_above", "_law_below", "_law_place"] ["_law_kit_here", "_law_wires_here"] (defScope s_l_boxes_that_fit) := ⟨rfl, rfl, rfl, by decide +kernel, rfl, by decide +kernel, by decide +kernel⟩
theorem sc_l_wires_that_fit : FnScope ["_law_kit_here", "_law_wires_here", "_law_found", "_law_sort", "_law_place", "_law_step"] ["_law_kit_here", "_law_wires_here"] (defScope s_l_wires_that_fit) := ⟨rfl, rfl, rfl, by decide +kernel, rfl, by decide +kernel, by decide +kernel⟩
theorem sc_l_picture : FnScope ["_law_deck_here", "_law_kit_here", "_law_most", "_law_many", "_law_wires_here", "_law_above", "_law_layers", "_law_boxes", "_law_k", "_law_some", "_law_more"] ["_law_deck_here", "_law_kit_here", "_law_most"] (defScope s_l_picture) := ⟨rfl, rfl, rfl, by decide +kernel, rfl, by decide +kernel, by decide +kernel⟩
theorem sc_l_small : FnScope ["_law_deck_here", "_law_many", "_law_deep", "_law_way", "_law_some", "_law_k"] ["_law_deck_here", "_law_many", "_law_deep"] (defScope s_l_small) := ⟨rfl, rfl, rfl, by decide +kernel, rfl, by decide +kernel, by decide +kernel⟩
theorem sc_l_worths : FnScope ["_law_many", "_law_number", "_law_k"] ["_law_many"] (defScope s_l_worths) := ⟨rfl, rfl, rfl, by decide +kernel, rfl, by decide +kernel, by decide +kernel⟩
theorem sc_l_comes_to : FnScope ["_law_expression", "_law_numbers", "_law_some", "_law_part"] ["_law_expression", "_law_numbers"] (defScope s_l_comes_to) := ⟨rfl, rfl, rfl, by decide +kernel, rfl, by decide +kernel, by decide +kernel⟩
theorem sc_l_fillings : FnScope ["_law_deck_here", "_law_kit_here", "_law_programs", "_law_tables", "_law_relations", "_law_sizes", "_law_name", "_law_above", "_law_below", "_law_rows", "_law_pairs", "_law_worths_here", "_law_due", "_law_sort", "_law_expression", "_law_end"] ["_law_deck_here", "_law_kit_here"] (defScope s_l_fillings) := ⟨rfl, rfl, rfl, by decide +kernel, rfl, by decide +kernel, by decide +kernel⟩
theorem sc_l_told : FnScope ["_law_way", "_law_kit_here", "_law_filling", "_law_picture_here", "_law_told_here", "e"] ["_law_way", "_law_kit_here", "_law_filling", "_law_picture_here"] (defScope s_l_told) := ⟨rfl, rfl, rfl, by decide +kernel, rfl, by decide +kernel, by decide +kernel⟩
theorem sc_l_widest : FnScope ["_law_kit_here", "_law_picture_here", "_law_at", "_law_many"] ["_law_kit_here", "_law_picture_here"] (defScope s_l_widest) := ⟨rfl, rfl, rfl, by decide +kernel, rfl, by decide +kernel, by decide +kernel⟩
theorem sc_l_right : FnScope ["_law_kit_here", "_law_fillings_here", "_law_picture_here", "_law_told_here", "_law_wide", "_law_rows", "_law_pairs", "_law_worths_here", "_law_due", "_law_way", "_law_expression", "_law_end"] ["_law_kit_here", "_law_fillings_here", "_law_picture_here"] (defScope s_l_right) := ⟨rfl, rfl, rfl, by decide +kernel, rfl, by decide +kernel, by decide +kernel⟩
theorem sc_law : FnScope ["_law_script", "_law_kit_here", "_law_fillings_here", "_law_k", "_law_picture_here"] ["_law_script"] (defScope s_law) := ⟨rfl, rfl, rfl, by decide +kernel, rfl, by decide +kernel, by decide +kernel⟩
/-- the built-ins' names are the built-ins' still -/
structure Bi (mg : Str → Option Value) : Prop where
  len : mg "len" = none
  range : mg "range" = none
  tuple : mg "tuple" = none
  zip : mg "zip" = none
  int : mg "int" = none
  sum : mg "sum" = none
  list : mg "list" = none
  sorted : mg "sorted" = none
  isinstance : mg "isinstance" = none
  most : ∃ t, mg "MOST" = some (.int 81 t)
  parts : ∃ t, mg "MOST_PARTS" = some (.int 500 t)
section
variable {X : Cx} {k : Nat} {x : Str} {ps : List Str} {sp : Sp} {e : Expr} {es : List Expr} {p pos : Pos} {t : TA}
/-- a call of a def that may raise, in a def that it leaves -/
theorem pe_fnX {E : XK} (F : Fn X.prog X.w X.K X.mg X.base (L2.CX X.prog X.w) k x ps sp) (hx : Passes (L2.CX X.prog X.w) X E) (hr : Room k X.A) (ha : PA X (e :: es) t) (hg : Gl X x := by rfl) (hdb : (x == ("__debug__" : Str)) = false := by decide)
    (he : starEach (e :: es) X.env = (false, eval e X.env) :: starEach es X.env := by rfl) (hpl : (backTo pos (starEach es X.env)).any (·.1) = false := by rfl) : PE X (.Call (.Name x p) (e :: es) [] pos) (tFn sp E t) := by
  obtain ⟨f, fd, G, hm, hk, hb⟩ := F.ex
  rw [← tFn_call]
  exact pe_call G hr hg hm hk hb .nil hx ha hdb he hpl
/-- a tuple, once or oftener -/
def rRepTA (K : PySem.W.Frag) : R2 := fun x y H Q => rRep1 K x y H Q ∨ rRepT K x y H Q
theorem op_repTA : OpR X (binaryOp .Mult) (rRepTA X.K) := OpR.or' op_rep1 op_repT
end

/-! ### the rules by their short names, the written part said (a comprehension's block wants that) -/
section
variable {X : Cx} {a b e o : Expr} {ta tb te to : TE} {lo hi : Option Expr} {tl th : TO} {p p2 apos pos : Pos} (K : PySem.W.Frag)
theorem pe_ixT (ha : PE X a ta) (hb : PE X b tb) (hs : PlainIx b := by exact fun _ _ => rfl) (hK : X.K = K := by rfl) : PE X (.Subscript a b pos) (tOp (rIxT K) ta tb) := by
  subst hK
  exact pe_ix ix_tup ha hb hs
theorem pe_ixL (ha : PE X a ta) (hb : PE X b tb) (hs : PlainIx b := by exact fun _ _ => rfl) (hK : X.K = K := by rfl) : PE X (.Subscript a b pos) (tOp (rIxL K) ta tb) := by
  subst hK
  exact pe_ix ix_list ha hb hs
theorem pe_slT (ha : PE X e te) (hl : PO X lo tl) (hh : PO X hi th) (hK : X.K = K := by rfl) : PE X (.Subscript e (.Slice lo hi none p2) pos) (tSl (rSlA K) te tl th) := by
  subst hK
  exact pe_slice sl_tupA ha hl hh
theorem pe_slL (ha : PE X e te) (hl : PO X lo tl) (hh : PO X hi th) (hK : X.K = K := by rfl) : PE X (.Subscript e (.Slice lo hi none p2) pos) (tSl (rSlL K) te tl th) := by
  subst hK
  exact pe_slice sl_list ha hl hh
theorem pe_catT (ha : PE X a ta) (hb : PE X b tb) (hK : X.K = K := by rfl) : PE X (.BinOp a .Add b pos) (tOp (rCatA K) ta tb) := by
  subst hK
  exact pe_op op_catA ha hb
theorem pe_repT (ha : PE X a ta) (hb : PE X b tb) (hK : X.K = K := by rfl) : PE X (.BinOp a .Mult b pos) (tOp (rRepTA K) ta tb) := by
  subst hK
  exact pe_op op_repTA ha hb
theorem pe_eqD (hu : X.A.units + 64 < cLine) (ha : PE X a ta) (hb : PE X b tb) (hK : X.K = K := by rfl) : PE X (.Compare a [.Eq] [b] pos) (tOp (rEqD K) ta tb) := by
  subst hK
  exact pe_cmpR (op_eqD hu) ha hb (nomark _)
theorem pt_eqD (hu : X.A.units + 64 < cLine) (ha : PE X a ta) (hb : PE X b tb) (hK : X.K = K := by rfl) : PT X (.Compare a [.Eq] [b] pos) (tTest (tOp (rEqD K) ta tb)) := by
  subst hK
  exact pt_cmpR (op_eqD hu) ha hb (nomark _)
theorem pe_neD (hu : X.A.units + 64 < cLine) (ha : PE X a ta) (hb : PE X b tb) (hK : X.K = K := by rfl) : PE X (.Compare a [.NotEq] [b] pos) (tOp (rNeD K) ta tb) := by
  subst hK
  exact pe_cmpR (op_neD hu) ha hb (nomark _)
theorem pt_neD (hu : X.A.units + 64 < cLine) (ha : PE X a ta) (hb : PE X b tb) (hK : X.K = K := by rfl) : PT X (.Compare a [.NotEq] [b] pos) (tTest (tOp (rNeD K) ta tb)) := by
  subst hK
  exact pt_cmpR (op_neD hu) ha hb (nomark _)
theorem pe_fldK {f : Str} (ha : PE X e te) (hb : attributeBase e f X.env (eval e X.env) = eval e X.env := by rfl) (hK : X.K = K := by rfl) : PE X (.Attribute e f pos) (tFld K te f) := by
  subst hK
  exact pe_fld ha hb
def rLenQ : List V → Hp → VK → Prop := fun xs H Q => ∃ p ys, xs = [.ref p] ∧ (SqL K H p ys ∨ SqT K H p ys) ∧ Q (.int ys.length) H
def rTupQ : List V → Hp → VK → Prop := fun xs H Q => ∃ p ys, xs = [.ref p] ∧ ((SqL K H p ys ∧ ∀ l, H l = none → Q (.ref l) (upd H l (.tup ys))) ∨ (SqT K H p ys ∧ Q (.ref p) H))
def rTIdx : V → List V → Hp → VK → Prop := fun x xs H Q => ∃ p, ∃ ys : List Str, ∃ z j, x = .ref p ∧ xs = [.str z] ∧ SqT K H p (ys.map V.str) ∧ ys[j]? = some z ∧ (∀ m, m < j → ys[m]? ≠ some z) ∧ Q (.int (j : Nat)) H
variable {tr : TA}
theorem pe_len (B : Bi X.mg) (ha : PA X [a] tr) (hg : Gl X "len" := by rfl) (he : starEach [a] X.env = (false, eval a X.env) :: starEach [] X.env := by rfl) (hpl : (backTo pos (starEach [] X.env)).any (·.1) = false := by rfl) (hK : X.K = K := by rfl) :
    PE X (.Call (.Name "len" p) [a] [] pos) (tCB (rLenQ K) tr) := by
  subst hK
  exact pe_callB call_len_seq hg B.len PySem.boot_len ha (by decide) (by decide) he hpl
theorem pe_tupOf (B : Bi X.mg) (ha : PA X [a] tr) (hg : Gl X "tuple" := by rfl) (he : starEach [a] X.env = (false, eval a X.env) :: starEach [] X.env := by rfl) (hpl : (backTo pos (starEach [] X.env)).any (·.1) = false := by rfl) (hK : X.K = K := by rfl) :
    PE X (.Call (.Name "tuple" p) [a] [] pos) (tCB (rTupQ K) tr) := by
  subst hK
  exact pe_callTy call_tuple_of hg B.tuple (by decide +kernel) ha (by decide) (by decide) he hpl
theorem pe_sumOf (B : Bi X.mg) (ha : PA X [a] tr) (hc : X.calm = true := by rfl) (hg : Gl X "sum" := by rfl) (he : starEach [a] X.env = (false, eval a X.env) :: starEach [] X.env := by rfl) (hpl : (backTo pos (starEach [] X.env)).any (·.1) = false := by rfl) (hK : X.K = K := by rfl) :
    PE X (.Call (.Name "sum" p) [a] [] pos) (tCB (rSum K) tr) := by
  subst hK
  exact pe_callB (cr_sum hc) hg B.sum (by decide +kernel) ha (by decide) (by decide) he hpl
theorem pe_sorted1 (B : Bi X.mg) (ha : PA X [a] tr) (hg : Gl X "sorted" := by rfl) (he : starEach [a] X.env = (false, eval a X.env) :: starEach [] X.env := by rfl) (hpl : (backTo pos (starEach [] X.env)).any (·.1) = false := by rfl) (hK : X.K = K := by rfl) :
    PE X (.Call (.Name "sorted" p) [a] [] pos) (tCB (rSort1 K) tr) := by
  subst hK
  exact pe_callB cr_sorted1 hg B.sorted (by decide +kernel) ha (by decide) (by decide) he hpl
theorem pe_intB (B : Bi X.mg) (ha : PA X [a] tr) (hg : Gl X "int" := by rfl) (he : starEach [a] X.env = (false, eval a X.env) :: starEach [] X.env := by rfl) (hpl : (backTo pos (starEach [] X.env)).any (·.1) = false := by rfl) :
    PE X (.Call (.Name "int" p) [a] [] pos) (tCB (fun xs H Q => (∃ i, xs = [.int i] ∧ Q (.int i) H) ∨ ∃ k, xs = [.bl k] ∧ Q (.int (if k then 1 else 0)) H) tr) :=
  pe_callTy call_int1 hg B.int (by decide +kernel) ha (by decide) (by decide) he hpl
theorem pe_bmK {T id : String} {name : Str} {es : List Expr} {r : V → List V → Hp → VK → Prop} (pa : PlainAttrs T) (slot : Slot T name id) (hty : typeOf (.builtin id) = pure (.type "method_descriptor")) (hm : MtR X id r) (ho : PE X o to) (ha : PA X (e :: es) tr)
    (hbase : attributeBase o name X.env (eval o X.env) = eval o X.env := by rfl)
    (hfew : ((backTo pos (starEach (e :: es) X.env)).all (fun x => !x.1) && (backToKw pos (keywordEach [] X.env)).all (fun x => x.1.isSome)
      && decide ((e :: es).length + ([] : List Keyword).length + (if ([] : List Keyword).isEmpty then 0 else 1) < 30)) = true := by rfl)
    (hline : (apos.endLine == pos.line) = true := by rfl) (hs : starEach (e :: es) X.env = (false, eval e X.env) :: starEach es X.env := by rfl) (hplain : (backTo pos (starEach es X.env)).any (·.1) = false := by rfl) (hK : X.K = K := by rfl) :
    PE X (.Call (.Attribute o name apos) (e :: es) [] pos) (tBM K T r to tr) := by
  subst hK
  exact pe_bm pa slot hty hm ho ha hbase hfew hline hs hplain
end
end SW
/-! SwInv: what a datum says of the objects that bear it. -/
namespace SW
open PySem PySem.Spec PyProof.Rows L2
section
variable {H : Hp} {v : V} {xs : List V} {d e f g : PyData}
theorem TDs.i1 (h : TDs H xs [d]) : ∃ x, xs = [x] ∧ TD H x d := by
  match xs, h with
  | [x], .cons h1 _ => exact ⟨x, rfl, h1⟩
  | _ :: _ :: _, .cons _ h2 => cases h2
theorem TDs.i2 (h : TDs H xs [d, e]) : ∃ x y, xs = [x, y] ∧ TD H x d ∧ TD H y e := by
  match xs, h with
  | x :: r, .cons h1 h2 =>
    obtain ⟨y, rfl, h3⟩ := h2.i1
    exact ⟨x, y, rfl, h1, h3⟩
theorem TDs.i3 (h : TDs H xs [d, e, f]) : ∃ x y z, xs = [x, y, z] ∧ TD H x d ∧ TD H y e ∧ TD H z f := by
  match xs, h with
  | x :: r, .cons h1 h2 =>
    obtain ⟨y, z, rfl, h3⟩ := h2.i2
    exact ⟨x, y, z, rfl, h1, h3⟩
theorem TDs.i4 (h : TDs H xs [d, e, f, g]) : ∃ x y z u, xs = [x, y, z, u] ∧ TD H x d ∧ TD H y e ∧ TD H z f ∧ TD H u g := by
  match xs, h with
  | x :: r, .cons h1 h2 =>
    obtain ⟨y, z, u, rfl, h3⟩ := h2.i3
    exact ⟨x, y, z, u, rfl, h1, h3⟩
theorem TD.i2 (h : TD H v (.tuple [d, e])) : ∃ a x y, v = .ref a ∧ H a = some (.tup [x, y]) ∧ TD H x d ∧ TD H y e := by
  obtain ⟨a, xs, rfl, ha, hs⟩ := h.inv
  obtain ⟨x, y, rfl, h1, h2⟩ := hs.i2
  exact ⟨a, x, y, rfl, ha, h1, h2⟩
theorem TD.i3 (h : TD H v (.tuple [d, e, f])) : ∃ a x y z, v = .ref a ∧ H a = some (.tup [x, y, z]) ∧ TD H x d ∧ TD H y e ∧ TD H z f := by
  obtain ⟨a, xs, rfl, ha, hs⟩ := h.inv
  obtain ⟨x, y, z, rfl, h1, h2⟩ := hs.i3
  exact ⟨a, x, y, z, rfl, ha, h1, h2⟩
theorem TD.i4 (h : TD H v (.tuple [d, e, f, g])) : ∃ a x y z u, v = .ref a ∧ H a = some (.tup [x, y, z, u]) ∧ TD H x d ∧ TD H y e ∧ TD H z f ∧ TD H u g := by
  obtain ⟨a, xs, rfl, ha, hs⟩ := h.inv
  obtain ⟨x, y, z, u, rfl, h1, h2⟩ := hs.i4
  exact ⟨a, x, y, z, u, rfl, ha, h1, h2⟩
theorem TD.mk1 {a : Addr} {x : V} (h : H a = some (.tup [x])) (h1 : TD H x d) : TD H (.ref a) (.tuple [d]) := .tup h (.cons h1 .nil)
theorem TD.mk2 {a : Addr} {x y : V} (h : H a = some (.tup [x, y])) (h1 : TD H x d) (h2 : TD H y e) : TD H (.ref a) (.tuple [d, e]) := .tup h (.cons h1 (.cons h2 .nil))
theorem TD.mk3 {a : Addr} {x y z : V} (h : H a = some (.tup [x, y, z])) (h1 : TD H x d) (h2 : TD H y e) (h3 : TD H z f) : TD H (.ref a) (.tuple [d, e, f]) := .tup h (.cons h1 (.cons h2 (.cons h3 .nil)))
/-- a box's tuple -/
theorem box_inv {b : Bx} (h : TD H v b.D) : ∃ q a e, v = .ref q ∧ H q = some (.tup [.str b.nm, .ref a, .ref e]) ∧ H a = some (.tup (b.ab.map V.str)) ∧ H e = some (.tup (b.be.map V.str)) := by
  obtain ⟨q, x, y, z, rfl, hq, h1, h2, h3⟩ := TD.i3 h
  obtain rfl := h1.str_inv
  obtain ⟨a, rfl, ha⟩ := h2.strs_inv
  obtain ⟨e, rfl, he⟩ := h3.strs_inv
  exact ⟨q, a, e, rfl, hq, ha, he⟩
/-- a kit as it stands: the sorts' tuple is a plain one, known to have no dict -/
structure KitAt (H : Hp) (v : V) (k : Kit) : Prop where
  ex : ∃ a s b bs o, v = .ref a ∧ H a = some (.tup [.str "loose", .ref s, .ref b]) ∧ H s = some (.frz o (.tup (k.so.map V.str))) ∧ o.cls = .type "tuple" ∧ o.dict = none ∧ H b = some (.tup bs) ∧ TDs H bs (k.bx.map Bx.D)
theorem KitAt.k {S : Addr → Prop} {H' : Hp} {k : Kit} (x : Kp S H H') (h : KitAt H v k) : KitAt H' v k := by
  obtain ⟨a, s, b, bs, o, e, ha, hs, hc, hd, hb, hbs⟩ := h.ex
  exact ⟨a, s, b, bs, o, e, x.kt _ _ ha, x.fz _ _ _ hs, hc, hd, x.kt _ _ hb, hbs.k x⟩
theorem kit_inv {k : Kit} (h : KitAt H v k) : ∃ a s b bs, v = .ref a ∧ H a = some (.tup [.str "loose", .ref s, .ref b]) ∧ (∃ o, H s = some (.frz o (.tup (k.so.map V.str))) ∧ o.cls = .type "tuple" ∧ o.dict = none) ∧ H b = some (.tup bs) ∧ TDs H bs (k.bx.map Bx.D) := by
  obtain ⟨a, s, b, bs, o, e, ha, hs, hc, hd, hb, hbs⟩ := h.ex
  exact ⟨a, s, b, bs, e, ha, ⟨o, hs, hc, hd⟩, hb, hbs⟩
theorem box_at {k : Kit} {bs : List V} (h : TDs H bs (k.bx.map Bx.D)) {i : Nat} (hi : i < k.bx.length) : ∃ q a e, bs[i]? = some (.ref q) ∧ H q = some (.tup [.str (k.at i).nm, .ref a, .ref e]) ∧ H a = some (.tup ((k.at i).ab.map V.str)) ∧ H e = some (.tup ((k.at i).be.map V.str)) := by
  have e1 : (k.bx.map Bx.D)[i]? = some (k.at i).D := by rw [List.getElem?_map, Kit.at_get hi]; rfl
  obtain ⟨v, hv, hd⟩ := h.at e1
  obtain ⟨q, a, e, rfl, r⟩ := box_inv hd
  exact ⟨q, a, e, hv, r⟩
theorem pic_inv {k : Kit} {p : Pic} (h : TD H v (p.D k)) : ∃ a w l ls, v = .ref a ∧ H a = some (.tup [.ref w, .ref l]) ∧ H w = some (.tup (p.ab.map V.str)) ∧ H l = some (.tup ls) ∧ TDs H ls (p.la.map (layD k)) := by
  obtain ⟨q, x, y, rfl, hq, h1, h2⟩ := TD.i2 h
  obtain ⟨w, rfl, hw⟩ := h1.strs_inv
  obtain ⟨l, ls, rfl, hl, hls⟩ := h2.inv
  exact ⟨q, w, l, ls, rfl, hq, hw, hl, hls⟩
theorem lay_inv {k : Kit} {l : Lay} (h : TD H v (layD k l)) : ∃ a q, v = .ref a ∧ H a = some (.tup [.int (l.1 : Int), .ref q]) ∧ TD H (.ref q) (l.2.D k) := by
  obtain ⟨a, x, y, rfl, ha, h1, h2⟩ := TD.i2 h
  obtain rfl := h1.int_inv
  have h2' := h2
  unfold Stp.D at h2
  split at h2
  · obtain ⟨q, xs, rfl, _⟩ := h2.inv
    exact ⟨a, q, rfl, ha, h2'⟩
  · obtain ⟨q, xs, rfl, _⟩ := h2.inv
    exact ⟨a, q, rfl, ha, h2'⟩
theorem lay_at {k : Kit} {la : List Lay} {ls : List V} (h : TDs H ls (la.map (layD k))) {i : Nat} {l : Lay} (hi : la[i]? = some l) : ∃ v, ls[i]? = some v ∧ TD H v (layD k l) := h.at (by rw [List.getElem?_map, hi]; rfl)
theorem stp_box {k : Kit} {q : Addr} {i : Nat} (h : TD H (.ref q) (Stp.D k (.box i))) : H q = some (.tup [.str "box", .str (k.at i).nm]) := by
  obtain ⟨a, x, y, e, ha, h1, h2⟩ := TD.i2 h
  cases e
  obtain rfl := h1.str_inv
  obtain rfl := h2.str_inv
  exact ha
theorem stp_cross {k : Kit} {q : Addr} (h : TD H (.ref q) (Stp.D k .cross)) : H q = some (.tup [.str "cross"]) := by
  obtain ⟨a, xs, e, ha, hs⟩ := h.inv
  cases e
  obtain ⟨x, rfl, h1⟩ := hs.i1
  obtain rfl := h1.str_inv
  exact ha
/-- the number of a name among names no two of which are alike -/
theorem nm_first {k : Kit} (G : k.Good) {i j : Nat} (hi : i < k.bx.length) (hj : j < i) : (k.bx.map Bx.nm)[j]? ≠ some (k.at i).nm := fun e => by
  have e2 : (k.bx.map Bx.nm)[i]? = some (k.at i).nm := by rw [List.getElem?_map, Kit.at_get hi]; rfl
  have := nd_ix G.nd e e2
  omega
end
/-- slices with bounds that are natural numbers -/
theorem cut_nn {xs : List V} {a b : Nat} : cutV xs (some (a : Int)) (some (b : Int)) = (xs.drop (min a xs.length)).take (min b xs.length - min a xs.length) := by
  unfold cutV
  rw [HT.sIx_nat, HT.sIx_nat]
theorem cut_mid {xs : List V} {p n : Nat} (h : p + n ≤ xs.length) : cutV xs (some (p : Int)) (some ((p : Int) + (n : Int))) = (xs.drop p).take n := by
  have e : ((p : Int) + (n : Int)) = ((p + n : Nat) : Int) := by omega
  rw [e, cut_nn, Nat.min_eq_left (show p ≤ xs.length by omega), Nat.min_eq_left h, Nat.add_sub_cancel_left]
theorem cut_to {xs : List V} {p : Nat} : cutV xs none (some (p : Int)) = xs.take p := by
  unfold cutV
  rw [HT.sIx_nat, HT.sIx_none, List.drop_zero, Nat.sub_zero]
  by_cases h : p ≤ xs.length
  · rw [Nat.min_eq_left h]
  · rw [Nat.min_eq_right (by omega), List.take_of_length_le (Nat.le_refl _), List.take_of_length_le (by omega)]
theorem cut_from {xs : List V} {p : Nat} : cutV xs (some (p : Int)) none = xs.drop p := by
  unfold cutV
  rw [HT.sIx_nat, HT.sIx_none]
  by_cases h : p ≤ xs.length
  · rw [Nat.min_eq_left h, List.take_of_length_le (by rw [List.length_drop]; omega)]
  · rw [Nat.min_eq_right (by omega), List.drop_eq_nil_of_le (Nat.le_refl _), List.drop_eq_nil_of_le (by omega), List.take_nil]
/-- a slice of a tuple, whether it is the tuple itself or a new one -/
theorem slA {K : PySem.W.Frag} {H : Hp} {a : Addr} {xs : List V} {lo hi : Option Int} {Q : VK} (h : H a = some (.tup xs)) (q : ∀ p H', Kp no H H' → H' p = some (.tup (cutV xs lo hi)) → Q (.ref p) H') : rSlA K (.ref a) lo hi H Q := by
  refine ⟨a, xs, rfl, SqT.of h, fun w => q a H (Kp.refl H) ?_, fun _ p hp => q p _ (Kp.new hp _) upd_same⟩
  have e : cutV xs lo hi = xs := by
    unfold cutV
    rw [w.1, w.2, List.drop_zero, Nat.sub_zero, List.take_length]
  rw [e]
  exact h
/-- a slice whose end is left out -/
theorem slN {K : PySem.W.Frag} {σ : L2.St} {H : Hp} {a : Addr} {xs : List V} {lo : Option Int} {Q : VK} (h : H a = some (.tup xs)) (q : ∀ p H', Kp no H H' → H' p = some (.tup (cutV xs lo none)) → Q (.ref p) H') : tNoPart σ H fun u H3 => rSlA K (.ref a) lo u H3 Q := slA h q
theorem catA {K : PySem.W.Frag} {H : Hp} {a b : Addr} {xs ys : List V} {Q : VK} (h : H a = some (.tup xs)) (h2 : H b = some (.tup ys)) (hz : xs.length + ys.length ≤ sizeLine) (q : ∀ p H', Kp no H H' → H' p = some (.tup (xs ++ ys)) → Q (.ref p) H') : rCatA K (.ref a) (.ref b) H Q := by
  refine ⟨a, b, xs, ys, rfl, rfl, SqT.of h, SqT.of h2, hz, fun e => q b H (Kp.refl H) ?_, fun _ e => q a H (Kp.refl H) ?_, fun _ _ p hp => q p _ (Kp.new hp _) upd_same⟩
  · rw [e, List.nil_append]
    exact h2
  · rw [e, List.append_nil]
    exact h
theorem szL {n : Nat} (h : n ≤ 100000) : n ≤ sizeLine := Nat.le_trans h (by decide)
theorem szLt {n : Nat} (h : n ≤ 100000) : n < sizeLine := Nat.lt_of_le_of_lt h (by decide)
end SW
/-! SwTix: a tuple known to be plain: made from a list; its index. -/
namespace SW
open PySem PySem.Spec PyProof.Rows L2
section
variable {X : Cx} {a b e o : Expr} {ta tb te to : TE} {p p2 apos pos : Pos}
theorem call_tuple_fz : CallR X (.type "tuple") (fun xs H Q => ∃ p ys, xs = [.ref p] ∧ SqL X.K H p ys ∧ ∀ l ob, H l = none → ob.cls = .type "tuple" → ob.dict = none → Q (.ref l) (upd H l (.frz ob (.tup ys)))) := by
  intro pins s σ H xs us Q I r h
  obtain ⟨p, ys, rfl, hq, q⟩ := h
  obtain ⟨u, rfl, rx⟩ := vals1 r
  cases rx
  obtain ⟨its, r', pl, hz⟩ := I.list hq
  have hlen := r'.length
  refine call_tuple_list pl.isList (fun h' kp => ?_) (by simp only [List.size_toArray] <;> omega)
  have I1 : Inv X pins σ H { s with heap := h' } := I.kept (t' := s.toks) kp
  have I2 : Inv X pins σ (upd H h'.objs.size (.frz { cls := .type "tuple", data := .seq its.toArray } (.tup ys))) { s with heap := h'.push { cls := .type "tuple", data := .seq its.toArray } } :=
    I1.laid (t' := s.toks) (fun b o e => Heap.get?_push_of_some _ e) (Nat.le_refl _) (show ObjOk X.prog X.w _ _ _ (.frz _ (.tup ys)) from ⟨Heap.get?_push_size _ rfl, hz, its, r', IsTup.new _ _⟩)
  exact ⟨.ref h'.objs.size, _, I2, rfl, q _ _ (I1.hok.fresh (Nat.le_refl _)) rfl rfl⟩
def rTupF (K : PySem.W.Frag) : List V → Hp → VK → Prop := fun xs H Q => ∃ p ys, xs = [.ref p] ∧ SqL K H p ys ∧ ∀ l ob, H l = none → ob.cls = .type "tuple" → ob.dict = none → Q (.ref l) (upd H l (.frz ob (.tup ys)))
theorem pe_tupOfF (K : PySem.W.Frag) {tr : TA} (B : Bi X.mg) (ha : PA X [a] tr) (hg : Gl X "tuple" := by rfl) (he : starEach [a] X.env = (false, eval a X.env) :: starEach [] X.env := by rfl) (hpl : (backTo pos (starEach [] X.env)).any (·.1) = false := by rfl) (hK : X.K = K := by rfl) :
    PE X (.Call (.Name "tuple" p) [a] [] pos) (tCB (rTupF K) tr) := by
  subst hK
  exact pe_callTy call_tuple_fz hg B.tuple (by decide +kernel) ha (by decide) (by decide) he hpl
/-- t.index(x) of a tuple that is known to be plain -/
def tTIdxF (K : PySem.W.Frag) (to : TE) (t : TA) : TE := fun σ H Q => to σ H fun x H1 => (∃ p ob ys, x = .ref p ∧ H1 p = some (.frz ob (.tup ys)) ∧ ob.cls = .type "tuple" ∧ ob.dict = none) ∧ t σ H1 fun xs H2 => rTIdx K x xs H2 Q
theorem pe_tidxF (K : PySem.W.Frag) {t : TA} {es : List Expr} (ho : PE X o to) (ha : PA X (e :: es) t)
    (hbase : attributeBase o "index" X.env (eval o X.env) = eval o X.env := by rfl)
    (hfew : ((backTo pos (starEach (e :: es) X.env)).all (fun x => !x.1) && (backToKw pos (keywordEach [] X.env)).all (fun x => x.1.isSome)
      && decide ((e :: es).length + ([] : List Keyword).length + (if ([] : List Keyword).isEmpty then 0 else 1) < 30)) = true := by rfl)
    (hline : (apos.endLine == pos.line) = true := by rfl) (hs : starEach (e :: es) X.env = (false, eval e X.env) :: starEach es X.env := by rfl) (hplain : (backTo pos (starEach es X.env)).any (·.1) = false := by rfl) (hK : X.K = K := by rfl) :
    PE X (.Call (.Attribute o "index" apos) (e :: es) [] pos) (tTIdxF K to t) := by
  subst hK
  refine ⟨fun pins s σ H Q I h => ?_⟩
  refine wpAny_Call_method_late hbase hfew hline rfl (thn (ho.run pins s σ H _ I h) fun v s1 ⟨x, H1, I1, r1, ty, q1⟩ => ?_)
  obtain ⟨p0, ob, ys, rfl, hp, hc, hd⟩ := ty
  have r1' := r1
  cases r1
  obtain ⟨hob, _⟩ := (show ObjOk X.prog X.w H1 s1.heap p0 (.frz ob (.tup ys)) from I1.hok p0 _ hp)
  refine ⟨"tuple", "tuple.index", PySem.F.plainAttrs_tuple, PySem.F.slot_tuple_index, PySem.F.type_tuple_index, ⟨ob, hob, hc⟩, fun a e => ?_, ?_⟩
  · cases e
    exact ⟨ob, hob, hd⟩
  have hA := ha.run pos pins s1 σ H1 _ I1 q1
  rw [hs] at hA ⊢
  refine Calls.callWith_builtin (by show (false || (backTo pos (starEach es X.env)).any (·.1)) = false; rw [hplain] <;> rfl) (Calls.evalArgs_plain ?_)
  exact thn hA fun us s2 ⟨vs, H2, I2, r2, q2⟩ => mt_tup_index pins s2 σ H2 _ vs _ us Q I2 r1' r2 q2
end
theorem Kp.put1 {H : Hp} {p : Addr} {o : HO} (h : Wr H p) : Kp (one p) H (upd H p o) := Kp.put (S := one p) h rfl o
/-- a comprehension whose end is a word of the heap alone -/
theorem lcD {J : It} {g : TG} {tt : TT} {te : TE} {vs : List Nat} {σ : L2.St} {H1 : Hp} {D : Addr} {Qd : Hp → Prop} (hD : H1 D = none) (h : LcG J g tt te vs σ H1 (fun v H => v = .ref D → Qd H)) : ∃ W : Nat → Nat → Hp → Prop, (∃ m, W 0 m (upd H1 D (.lst []))) ∧ ∀ i m H, W i m H →
  (J.stop i H ∧ Qd H) ∨ (J.go i H ∧ ∃ Nx : Hp → Prop, (∀ H', Nx H' → ∃ m', m' < m ∧ W (i + 1) m' H') ∧ ∀ x H', J.yld i H x H' → g x (wipe σ vs) H' fun σ2 H2 => wipe σ2 vs = wipe σ vs ∧ tt σ2 H2 fun b H3 =>
    if b = true then te σ2 H3 fun y H4 => ∃ acc, H4 D = some (.lst acc) ∧ acc.length < sizeLine ∧ Nx (upd H4 D (.lst (acc ++ [y]))) else Nx H3) := by
  obtain ⟨W, h0, h1⟩ := h D hD
  refine ⟨W, h0, fun i m H w => ?_⟩
  rcases h1 i m H w with ⟨a, b⟩ | b
  · exact .inl ⟨a, b rfl⟩
  · exact .inr b
end SW
/-! SwD1: the stock's and the pictures' defs. -/
namespace SW
open PySem PySem.Spec PyProof.Rows L2
/-! ### tests whose answer is known -/
theorem iteD {c A B : Prop} [Decidable c] (h : c) (a : A) : if decide c = true then A else B := by
  rw [if_pos (decide_eq_true h)]
  exact a
theorem iteDN {c A B : Prop} [Decidable c] (h : ¬ c) (b : B) : if decide c = true then A else B := by
  rw [if_neg (by rw [decide_eq_false h]; exact Bool.false_ne_true)]
  exact b
theorem iteN {c A B : Prop} [Decidable c] (h : ¬ c) (a : A) : if (!decide c) = true then A else B := by
  rw [if_pos (by rw [decide_eq_false h]; rfl)]
  exact a
theorem iteNN {c A B : Prop} [Decidable c] (h : c) (b : B) : if (!decide c) = true then A else B := by
  rw [if_neg (by rw [decide_eq_true h]; exact Bool.false_ne_true)]
  exact b
theorem sz0 : 0 ≤ sizeLine := by decide
theorem sz1 : 1 ≤ sizeLine := by decide
theorem sz2 : 2 ≤ sizeLine := by decide
theorem sz3 : 3 ≤ sizeLine := by decide
theorem sz4 : 4 ≤ sizeLine := by decide
theorem cr_box : ¬ V.str "cross" = V.str "box" := by decide +kernel
theorem cr_cup : ¬ V.str "cross" = V.str "cup" := by decide +kernel
theorem cr_cap : ¬ V.str "cross" = V.str "cap" := by decide +kernel
/-! ### what a step takes and gives -/
def StOk (k : Kit) : Stp → Prop
  | .box i => i < k.bx.length
  | .cross => True
def takes (k : Kit) : Stp → Nat
  | .box i => (k.at i).ab.length
  | .cross => 2
def gives (k : Kit) (ws : List Str) : Stp → List Str
  | .box i => (k.at i).be
  | .cross => ws.reverse
theorem takes_le {k : Kit} (G : k.Good) {st : Stp} (h : StOk k st) : takes k st ≤ 4 := by
  cases st with
  | box i => exact (G.ab _ (Kit.at_mem h)).1
  | cross => show 2 ≤ 4; decide
theorem fits_ok {k : Kit} {ws : List Str} {l : Lay} (f : Fits k ws l) : StOk k l.2 ∧ l.1 + takes k l.2 ≤ ws.length := by
  obtain ⟨p, st⟩ := l
  cases st with
  | box i => exact ⟨f.1, f.2.1⟩
  | cross => exact ⟨True.intro, f⟩
theorem layW_eq {k : Kit} {ws : List Str} {l : Lay} (f : Fits k ws l) : layW k ws l = ws.take l.1 ++ gives k ((ws.drop l.1).take (takes k l.2)) l.2 ++ ws.drop (l.1 + takes k l.2) := by
  obtain ⟨p, st⟩ := l
  cases st with
  | box i => rfl
  | cross => rfl
section
variable {P : Program} {w : World} {K : PySem.W.Frag} {mg : Str → Option Value} {base : Heap}
/-- the names of a kit's boxes, a new list -/
def spBoxNames : Sp := fun vs H Q _ => ∃ (k : Kit) (v : V), vs = [v] ∧ KitAt H v k ∧ k.Good ∧ ∀ p H', Kp no H H' → H p = none → H' p = some (.lst (k.bx.map fun b => V.str b.nm)) → Q (.ref p) H'
theorem names_of {k : Kit} {bs : List V} {H : Hp} (h : TDs H bs (k.bx.map Bx.D)) {vs : List V} (hl : vs.length = bs.length) (hv : ∀ (i : Nat) (v : V), vs[i]? = some v → i < k.bx.length → v = .str (k.at i).nm) : vs = k.bx.map fun b => V.str b.nm := by
  have e := h.length
  rw [List.length_map] at e
  refine List.ext_getElem? fun i => ?_
  rw [List.getElem?_map]
  by_cases hi : i < k.bx.length
  · rw [Kit.at_get hi, List.getElem?_eq_getElem (by omega)]
    exact congrArg some (hv i _ (List.getElem?_eq_getElem (by omega)) hi)
  · rw [List.getElem?_eq_none (by omega), List.getElem?_eq_none (by omega)]
    rfl
theorem nm_flat (k : Kit) : (k.bx.map fun b => V.str b.nm).all flatV = true := by
  refine List.all_eq_true.mpr fun x hx => ?_
  obtain ⟨b, _, rfl⟩ := List.mem_map.mp hx
  rfl
theorem nm_get {k : Kit} {i : Nat} (hi : i < k.bx.length) : (k.bx.map fun b => V.str b.nm)[i]? = some (.str (k.at i).nm) := by
  rw [List.getElem?_map, Kit.at_get hi]
  rfl
theorem nm_self (x : Str) : eqV (.str x) (.str x) = true := by
  show (x == x) = true
  exact beq_self_eq_true _
theorem nm_none {k : Kit} (G : k.Good) {i : Nat} (hi : i < k.bx.length) (m : Nat) (z : V) (hm : m < i) (hz : (k.bx.map fun b => V.str b.nm)[m]? = some z) : eqV z (.str (k.at i).nm) = false := by
  rw [List.getElem?_map] at hz
  obtain ⟨b, hb, rfl⟩ := Option.map_eq_some_iff.mp hz
  show (b.nm == (k.at i).nm) = false
  refine beq_eq_false_iff_ne.mpr fun e => nm_first G hi hm ?_
  rw [List.getElem?_map, hb, ← e]
  rfl
theorem box_names (B : Bi mg) (D : Df K mg "box_names" s_box_names ["kit"]) : Fn P w K mg base CX0 1 "box_names" ["kit"] spBoxNames := by
  refine D.fn sc_box_names (fun vs H Q E h => ?_) (fun f cdv A outer s H vs Q E hr h => ?_)
  · obtain ⟨k, v, rfl, _⟩ := h
    rfl
  · obtain ⟨k, v, rfl, hk, G, q⟩ := h
    obtain ⟨a, so, b, bs, rfl, ha, hso, hb, hbs⟩ := kit_inv hk
    have lb := hbs.length
    rw [List.length_map] at lb
    have l8 := G.b8
    -- box_names  slots: 0 kit, 1 one
    refine ⟨_, (pss_one (ps_ret (pe_lc (own := [("one", 1)]) (g := (gName 1)) (tt := tYes) rfl sc_box_names.nd (pi_tup (pe_ixT K (pv 0) pe_int)) (blkOk_by (by kernel_rfl)) (fun _ _ _ _ _ => (pg_name (i := 1) sc_box_names.nd rfl (by first | exact Or.inl rfl | exact Or.inr rfl))) (fun _ _ _ _ _ => pts_nil) (fun _ _ _ _ _ => (pe_ixT K (pv 1) pe_int))))), ?_⟩
    refine ⟨_, rfl, a, _, 2, _, rfl, rfl, SqT.of ha, rfl, b, rfl, ⟨bs, SqT.of hb⟩, lp_T hb (szLt (by omega)) (fun i v _ => i < k.bx.length → v = .str (k.at i).nm) (fun _ _ _ _ _ h => h) (fun i x H1 hi hx k1 Q' q' => ?_) fun D vs H1 hD k1 hv hl hr1 => ?_⟩
    · obtain ⟨q0, a0, e0, hq0, hq, _⟩ := box_at hbs (i := i) (by omega)
      rw [hx] at hq0
      cases hq0
      exact ⟨_, rfl, q0, _, 0, _, rfl, rfl, SqT.of (k1.get hq), rfl, q' _ H1 (Kp.refl H1) fun _ => rfl⟩
    · refine q D H1 k1 hD ?_
      rw [hv, names_of hbs hl hr1]
/-- the feet of the i-th box -/
def spFeetOf : Sp := fun vs H Q _ => ∃ (k : Kit) (v : V) (i : Nat), vs = [v, .str (k.at i).nm] ∧ KitAt H v k ∧ k.Good ∧ i < k.bx.length ∧
  ∀ p a e H', Kp no H H' → H' p = some (.tup [.ref a, .ref e]) → H' a = some (.tup ((k.at i).ab.map V.str)) → H' e = some (.tup ((k.at i).be.map V.str)) → Q (.ref p) H'
theorem feet_of (B : Bi mg) (D : Df K mg "feet_of" s_feet_of ["kit", "name"]) (F_box_names : Fn P w K mg base CX0 1 "box_names" ["kit"] spBoxNames) : Fn P w K mg base CX0 2 "feet_of" ["kit", "name"] spFeetOf := by
  refine D.fn sc_feet_of (fun vs H Q E h => ?_) (fun f cdv A outer s H vs Q E hr h => ?_)
  · obtain ⟨k, v, i, rfl, _⟩ := h
    rfl
  · obtain ⟨k, v, i, rfl, hk, G, hi, q⟩ := h
    obtain ⟨a, so, b, bs, rfl, ha, hso, hb, hbs⟩ := kit_inv hk
    obtain ⟨q0, a0, e0, hq0, hq, ha0, he0⟩ := box_at hbs hi
    -- feet_of  slots: 0 kit, 1 name, 2 box
    refine ⟨_, (pss_cons (ps_set (i := 2) sc_feet_of.nd rfl (Or.inl rfl) (pe_ixT K (pe_ixT K (pv 0) pe_int) (pe_bmK K (r := (rIndex K)) PySem.F.plainAttrs_list PySem.F.slot_list_index PySem.F.type_list_index mt_index (pe_fn F_box_names (hr.mono (by omega)) (pa_cons (pv 0) pa_nil)) (pa_cons (pv 1) pa_nil))))
    (pss_one (ps_ret (pe_tup (pa_cons (pe_ixT K (pv 2) pe_int) (pa_cons (pe_ixT K (pv 2) pe_int) pa_nil)))))), ?_⟩
    refine ⟨_, rfl, a, _, 2, _, rfl, rfl, SqT.of ha, rfl, _, rfl, k, _, rfl, hk, G, fun p H1 k1 _ hp => ?_⟩
    refine ⟨.inl ⟨rfl, _, SqL.of hp⟩, _, rfl, p, _, _, i, _, rfl, rfl, SqL.of hp, rfl, nm_flat k, nm_get hi, nm_self _, nm_none G hi, ?_⟩
    refine ⟨b, bs, i, .ref q0, rfl, rfl, SqT.of (k1.get hb), atI_nat hq0, ?_⟩
    refine ⟨_, rfl, q0, _, 1, _, rfl, rfl, SqT.of (k1.get hq), rfl, _, rfl, q0, _, 2, _, rfl, rfl, SqT.of (k1.get hq), rfl, sz2, fun p2 hp2 => ?_⟩
    have k2 := Kp.new (S := no) hp2 (.tup [V.ref a0, V.ref e0])
    exact q p2 a0 e0 _ (k1.trans k2) upd_same (k2.get (k1.get ha0)) (k2.get (k1.get he0))
/-- how many wires a step takes -/
def spFeetTaken : Sp := fun vs H Q _ => ∃ (k : Kit) (v : V) (u : Addr) (st : Stp), vs = [v, .ref u] ∧ KitAt H v k ∧ k.Good ∧ TD H (.ref u) (st.D k) ∧ StOk k st ∧ ∀ H', Kp no H H' → Q (.int (takes k st : Nat)) H'
theorem feet_taken (B : Bi mg) (D : Df K mg "feet_taken" s_feet_taken ["kit", "step"]) (F_feet_of : Fn P w K mg base CX0 2 "feet_of" ["kit", "name"] spFeetOf) : Fn P w K mg base CX0 3 "feet_taken" ["kit", "step"] spFeetTaken := by
  refine D.fn sc_feet_taken (fun vs H Q E h => ?_) (fun f cdv A outer s H vs Q E hr h => ?_)
  · obtain ⟨k, v, u, st, rfl, _⟩ := h
    rfl
  · obtain ⟨k, v, u, st, rfl, hk, G, hu, ho, q⟩ := h
    -- feet_taken  slots: 0 kit, 1 step
    refine ⟨_, (pss_cons (ps_if (pt_cmpR op_eq (pe_ixT K (pv 1) pe_int) pe_str (nomark _))
      (pss_one (ps_ret (pe_len K B (pa_cons (pe_ixT K (pe_fn F_feet_of (hr.mono (by omega)) (pa_cons (pv 0) (pa_cons (pe_ixT K (pv 1) pe_int) pa_nil))) pe_int) pa_nil))))
      pss_nil)
    (pss_one (ps_ret (pe_op op_mul pe_int (pe_intB B (pa_cons (pe_cmpR op_ne (pe_ixT K (pv 1) pe_int) pe_str (nomark _)) pa_nil)))))), ?_⟩
    cases st with
    | box i =>
      have hs := stp_box hu
      refine ⟨_, rfl, u, _, 0, _, rfl, rfl, SqT.of hs, rfl, rfl, _, rfl, iteD rfl ?_⟩
      refine ⟨_, rfl, _, rfl, u, _, 1, _, rfl, rfl, SqT.of hs, rfl, k, v, i, rfl, hk, G, ho, fun p a e H1 k1 hp ha he => ?_⟩
      refine ⟨p, _, 0, _, rfl, rfl, SqT.of hp, rfl, a, _, rfl, .inr (SqT.of ha), ?_⟩
      rw [List.length_map]
      exact q H1 k1
    | cross =>
      have hs := stp_cross hu
      refine ⟨_, rfl, u, _, 0, _, rfl, rfl, SqT.of hs, rfl, rfl, _, rfl, iteDN cr_box ?_⟩
      refine ⟨_, rfl, u, _, 0, _, rfl, rfl, SqT.of hs, rfl, rfl, .inr ⟨_, rfl, ?_⟩⟩
      refine ⟨2, 1, rfl, ?_, .inl ⟨by decide, by decide⟩, q H (Kp.refl H)⟩
      rw [decide_eq_false cr_cup]
      rfl
/-- the sorts that a step gives -/
def spGivenFor : Sp := fun vs H Q _ => ∃ (k : Kit) (v : V) (u x : Addr) (st : Stp) (ws : List Str), vs = [v, .ref u, .ref x] ∧ KitAt H v k ∧ k.Good ∧ TD H (.ref u) (st.D k) ∧ H x = some (.tup (ws.map V.str)) ∧ (∀ i, st = .box i → i < k.bx.length ∧ ws = (k.at i).ab) ∧
  ∀ p H', Kp no H H' → H' p = some (.tup ((gives k ws st).map V.str)) → Q (.ref p) H'
theorem shaped_tx {ws : List Str} (h : ∀ s ∈ ws, PyData.strOk s = true) : SeqAt.shaped (txD ws) = true := by
  have h1 : ∀ ws : List Str, (∀ s ∈ ws, PyData.strOk s = true) → PyData.canLayAll0 (ws.map .str) = true := by
    intro ws
    induction ws with
    | nil => intro _; simp [PyData.canLayAll0]
    | cons a r ih =>
      intro h
      simp only [List.map_cons, PyData.canLayAll0, PyData.canLay0]
      rw [h a List.mem_cons_self, ih fun s hs => h s (List.mem_cons_of_mem _ hs)]
      rfl
  have h2 : ∀ ws : List Str, PyData.depthAll (ws.map .str) = 0 := by
    intro ws
    induction ws with
    | nil => simp [PyData.depthAll]
    | cons a r ih => simp [PyData.depthAll, PyData.depth, ih]
  have e1 : (txD ws).canLay0 = true := by
    unfold txD
    simp only [PyData.canLay0]
    exact h1 ws h
  have e2 : (txD ws).depth = 1 := by
    unfold txD
    simp only [PyData.depth]
    rw [h2 ws]
  unfold SeqAt.shaped
  rw [e1, e2]
  rfl
theorem Kit.Good.okA {k : Kit} (G : k.Good) {i : Nat} (hi : i < k.bx.length) : ∀ s ∈ (k.at i).ab, PyData.strOk s = true := fun s hs => G.sok s ((G.ab _ (Kit.at_mem hi)).2 s hs)
theorem given_for (B : Bi mg) (D : Df K mg "given_for" s_given_for ["kit", "step", "wires"]) (F_feet_of : Fn P w K mg base CX0 2 "feet_of" ["kit", "name"] spFeetOf) : Fn P w K mg base CX0 3 "given_for" ["kit", "step", "wires"] spGivenFor := by
  refine D.fn sc_given_for (fun vs H Q E h => ?_) (fun f cdv A outer s H vs Q E hr h => ?_)
  · obtain ⟨k, v, u, x, st, ws, rfl, _⟩ := h
    rfl
  · obtain ⟨k, v, u, x, st, ws, rfl, hk, G, hu, hx, ho, q⟩ := h
    -- given_for  slots: 0 kit, 1 step, 2 wires, 3 above, 4 below
    refine ⟨_, (pss_cons (ps_if (pt_cmpR op_eq (pe_ixT K (pv 1) pe_int) pe_str (nomark _))
      (pss_cons (ps_asg (pe_fn F_feet_of (hr.mono (by omega)) (pa_cons (pv 0) (pa_cons (pe_ixT K (pv 1) pe_int) pa_nil))) (pg_tup (by rfl) (pgs_cons (pg_name (i := 3) sc_given_for.nd rfl (by first | exact Or.inl rfl | exact Or.inr rfl)) (pgs_cons (pg_name (i := 4) sc_given_for.nd rfl (by first | exact Or.inl rfl | exact Or.inr rfl)) pgs_nil))))
      (pss_cons (ps_if (pt_neD K hr.units (pv 2) (pv 3))
        (pss_one (ps_ret pe_non))
        pss_nil)
      (pss_one (ps_ret (pv 4)))))
      pss_nil)
    (pss_cons (ps_if (pt_cmpR op_eq (pe_ixT K (pv 1) pe_int) pe_str (nomark _))
      pss_never
      pss_nil)
    (pss_cons (ps_if (pt_cmpR op_ne (pe_ixT K (pv 1) pe_int) pe_str (nomark _))
      (pss_one (ps_ret (pe_revT (pv 2))))
      pss_nil)
    (pss_cons (ps_if (pt_cmpR op_ne (pe_ixT K (pv 2) pe_int) (pe_ixT K (pv 2) pe_int) (nomark _))
      (pss_one (ps_ret pe_non))
      pss_nil)
    (pss_one (ps_ret (pe_tup pa_nil))))))), ?_⟩
    cases st with
    | box i =>
      obtain ⟨hi, rfl⟩ := ho i rfl
      have hs := stp_box hu
      refine ⟨_, rfl, u, _, 0, _, rfl, rfl, SqT.of hs, rfl, rfl, _, rfl, iteD rfl ?_⟩
      refine ⟨_, rfl, _, rfl, u, _, 1, _, rfl, rfl, SqT.of hs, rfl, k, v, i, rfl, hk, G, hi, fun p a e H1 k1 hp ha he => ?_⟩
      refine ⟨p, _, rfl, SqT.of hp, rfl, _, _, rfl, _, _, rfl, rfl, ?_⟩
      refine ⟨_, rfl, _, rfl, txD (k.at i).ab, txD (k.at i).ab, (TD.strs (k1.get hx)).dp, (TD.strs ha).dp, shaped_tx (G.okA hi), shaped_tx (G.okA hi), _, rfl, ?_⟩
      rw [eqv_tx]
      refine iteNN rfl ?_
      exact ⟨_, rfl, q e H1 k1 he⟩
    | cross =>
      have hs := stp_cross hu
      refine ⟨_, rfl, u, _, 0, _, rfl, rfl, SqT.of hs, rfl, rfl, _, rfl, iteDN cr_box ?_⟩
      refine ⟨_, rfl, u, _, 0, _, rfl, rfl, SqT.of hs, rfl, rfl, _, rfl, iteDN cr_cup ?_⟩
      refine ⟨_, rfl, u, _, 0, _, rfl, rfl, SqT.of hs, rfl, rfl, _, rfl, iteN cr_cap ?_⟩
      refine ⟨_, rfl, x, _, rfl, hx, fun p hp => ?_⟩
      refine q p _ (Kp.new hp _) ?_
      rw [upd_same, ← List.map_reverse]
      rfl
end
end SW
/-! SwD2: the wires of pictures, sizes and worths. -/
namespace SW
open PySem PySem.Spec PyProof.Rows L2
section
variable {P : Program} {w : World} {K : PySem.W.Frag} {mg : Str → Option Value} {base : Heap}
/-- the sorts behind a layer that fits -/
def spWiresBehind : Sp := fun vs H Q _ => ∃ (k : Kit) (v : V) (x y : Addr) (ws : List Str) (l : Lay), vs = [v, .ref x, .ref y] ∧ KitAt H v k ∧ k.Good ∧ H x = some (.tup (ws.map V.str)) ∧ TD H (.ref y) (layD k l) ∧ Fits k ws l ∧ ws.length ≤ 8 ∧
  ∀ p H', Kp no H H' → H' p = some (.tup ((layW k ws l).map V.str)) → Q (.ref p) H'
theorem map_cut {ws : List Str} {p n : Nat} : ((ws.map V.str).drop p).take n = ((ws.drop p).take n).map V.str := by rw [List.map_take, List.map_drop]
theorem wires_behind (B : Bi mg) (D : Df K mg "wires_behind" s_wires_behind ["kit", "wires", "layer"]) (F_feet_taken : Fn P w K mg base CX0 3 "feet_taken" ["kit", "step"] spFeetTaken) (F_given_for : Fn P w K mg base CX0 3 "given_for" ["kit", "step", "wires"] spGivenFor) :
    Fn P w K mg base CX0 4 "wires_behind" ["kit", "wires", "layer"] spWiresBehind := by
  refine D.fn sc_wires_behind (fun vs H Q E h => ?_) (fun f cdv A outer s H vs Q E hr h => ?_)
  · obtain ⟨k, v, x, y, ws, l, rfl, _⟩ := h
    rfl
  · obtain ⟨k, v, x, y, ws, l, rfl, hk, G, hx, hy, hf, h8, q⟩ := h
    obtain ⟨p, st⟩ := l
    obtain ⟨y', u, e, hy', hu⟩ := lay_inv hy
    cases e
    obtain ⟨ho, hle⟩ := fits_ok hf
    have ht4 := takes_le G ho
    -- wires_behind  slots: 0 kit, 1 wires, 2 layer, 3 end, 4 given, 5 place, 6 step
    refine ⟨_, (pss_cons (ps_asg (pv 2) (pg_tup (by rfl) (pgs_cons (pg_name (i := 5) sc_wires_behind.nd rfl (by first | exact Or.inl rfl | exact Or.inr rfl)) (pgs_cons (pg_name (i := 6) sc_wires_behind.nd rfl (by first | exact Or.inl rfl | exact Or.inr rfl)) pgs_nil))))
    (pss_cons (ps_set (i := 3) sc_wires_behind.nd rfl (Or.inl rfl) (pe_op op_add (pv 5) (pe_fn F_feet_taken (hr.mono (by omega)) (pa_cons (pv 0) (pa_cons (pv 6) pa_nil)))))
    (pss_cons (ps_if (pt_cmpR op_gt (pv 3) (pe_len K B (pa_cons (pv 1) pa_nil)) (nomark _))
      (pss_one (ps_ret pe_non))
      pss_nil)
    (pss_cons (ps_set (i := 4) sc_wires_behind.nd rfl (Or.inl rfl) (pe_fn F_given_for (hr.mono (by omega)) (pa_cons (pv 0) (pa_cons (pv 6) (pa_cons (pe_slT K (pv 1) (po_some (pv 5)) (po_some (pv 3))) pa_nil)))))
    (pss_cons (ps_if (pt_cmpR op_isN (pv 4) pe_non (nomark _))
      (pss_one (ps_ret pe_non))
      pss_nil)
    (pss_one (ps_ret (pe_catT K (pe_catT K (pe_slT K (pv 1) po_none (po_some (pv 5))) (pv 4)) (pe_slT K (pv 1) (po_some (pv 3)) po_none))))))))), ?_⟩
    refine ⟨_, rfl, y, _, rfl, SqT.of hy', rfl, _, _, rfl, _, _, rfl, rfl, ?_⟩
    refine ⟨_, rfl, _, rfl, _, rfl, k, v, u, st, rfl, hk, G, hu, ho, fun H1 k1 => ?_⟩
    refine ⟨_, _, rfl, rfl, ?_⟩
    refine ⟨_, rfl, _, rfl, x, _, rfl, .inr (SqT.of (k1.get hx)), _, _, rfl, rfl, _, rfl, iteDN (by rw [List.length_map]; show ¬ ((ws.length : Int) < (p : Int) + (takes k st : Nat)); have : p + takes k st ≤ ws.length := hle; omega) ?_⟩
    refine ⟨_, rfl, _, rfl, _, rfl, _, rfl, _, rfl, _, rfl, _, rfl, ?_⟩
    refine slA (k1.get hx) fun c H2 k2 hc => ?_
    have k12 := k1.trans k2
    rw [cut_mid (by rw [List.length_map]; exact hle), map_cut] at hc
    refine ⟨k, v, u, c, st, _, rfl, hk.k k12, G, hu.k k12, hc, fun i hi => ?_, fun g H3 k3 hg => ?_⟩
    · subst hi
      exact ⟨ho, hf.2.2⟩
    have k123 := k12.trans k3
    refine ⟨_, rfl, rfl, _, rfl, iteDN (by intro z; cases z) ?_⟩
    refine ⟨_, rfl, _, rfl, _, rfl, ?_⟩
    refine slA (k123.get hx) fun c2 H4 k4 hc2 => ?_
    rw [cut_to] at hc2
    refine ⟨_, rfl, ?_⟩
    refine catA hc2 (k4.get hg) (szL ?_) fun c3 H5 k5 hc3 => ?_
    · simp only [List.length_map, List.length_take]
      have : (gives k ((ws.drop p).take (takes k st)) st).length ≤ 8 := by
        cases st with
        | box i => exact Nat.le_trans (G.be _ (Kit.at_mem ho)).1 (by decide)
        | cross =>
          show (((ws.drop p).take 2).reverse).length ≤ 8
          rw [List.length_reverse, List.length_take]
          omega
      omega
    refine ⟨_, rfl, _, rfl, _, rfl, ?_⟩
    have k15 := (k123.trans k4).trans k5
    refine slN (k15.get hx) fun c4 H6 k6 hc4 => ?_
    have e3 : ((p : Int) + (takes k st : Nat)) = ((p + takes k st : Nat) : Int) := by omega
    rw [e3, cut_from] at hc4
    refine catA (k6.get hc3) hc4 (szL ?_) fun c5 H7 k7 hc5 => q c5 H7 (((k15.trans k6)).trans k7) ?_
    · simp only [List.length_append, List.length_take, List.length_drop, List.length_map]
      have : (gives k ((ws.drop p).take (takes k st)) st).length ≤ 8 := by
        cases st with
        | box i => exact Nat.le_trans (G.be _ (Kit.at_mem ho)).1 (by decide)
        | cross =>
          show (((ws.drop p).take 2).reverse).length ≤ 8
          rw [List.length_reverse, List.length_take]
          omega
      omega
    · rw [hc5, layW_eq hf, List.map_append, List.map_append, List.map_take, List.map_drop]
/-- the wires ahead of a layer, or at the end -/
def spWiresAt : Sp := fun vs H Q _ => ∃ (k : Kit) (p : Pic) (v u : V) (n : Nat), vs = [v, u, .int (n : Nat)] ∧ KitAt H v k ∧ k.Good ∧ TD H u (p.D k) ∧ p.Good k ∧ n ≤ p.la.length ∧
  ∀ x H', Kp no H H' → H' x = some (.tup ((wAt k p n).map V.str)) → Q (.ref x) H'
theorem wires_at (B : Bi mg) (D : Df K mg "wires_at" s_wires_at ["kit", "picture", "at"]) (F_wires_behind : Fn P w K mg base CX0 4 "wires_behind" ["kit", "wires", "layer"] spWiresBehind) :
    Fn P w K mg base CX0 5 "wires_at" ["kit", "picture", "at"] spWiresAt := by
  refine D.fn sc_wires_at (fun vs H Q E h => ?_) (fun f cdv A outer s H vs Q E hr h => ?_)
  · obtain ⟨k, p, v, u, n, rfl, _⟩ := h
    rfl
  · obtain ⟨k, p, v, u, n, rfl, hk, G, hu, Gp, hn, q⟩ := h
    obtain ⟨a, x, l, ls, rfl, ha, hx, hl, hls⟩ := pic_inv hu
    have ll := hls.length
    rw [List.length_map] at ll
    -- wires_at  slots: 0 kit, 1 picture, 2 at, 3 wires, 4 layer
    refine ⟨_, (pss_cons (ps_set (i := 3) sc_wires_at.nd rfl (Or.inl rfl) (pe_ixT K (pv 1) pe_int))
    (pss_cons (ps_for PassesOwn.never rfl (pi_tup (pe_slT K (pe_ixT K (pv 1) pe_int) po_none (po_some (pv 2)))) (pg_name (i := 4) sc_wires_at.nd rfl (by first | exact Or.inl rfl | exact Or.inr rfl))
      (pss_one (ps_set (i := 3) sc_wires_at.nd rfl (Or.inl rfl) (pe_fn F_wires_behind (hr.mono (by omega)) (pa_cons (pv 0) (pa_cons (pv 3) (pa_cons (pv 4) pa_nil)))))))
    (pss_one (ps_ret (pv 3))))), ?_⟩
    refine ⟨_, rfl, a, _, 0, _, rfl, rfl, SqT.of ha, rfl, ?_⟩
    refine ⟨_, rfl, a, _, 1, _, rfl, rfl, SqT.of ha, rfl, _, rfl, _, rfl, ?_⟩
    refine slA hl fun c H1 k1 hc => ?_
    rw [cut_to] at hc
    have lt : (ls.take n).length = n := by rw [List.length_take]; omega
    refine ⟨c, rfl, ⟨_, SqT.of hc⟩, for_tup (K := K) (a := c) (xs := ls.take n) (fun i σ H2 => ∃ (y : Addr) (o : Option V), σ = [some v, some (.ref a), some (.int (n : Nat)), some (.ref y), o] ∧ Kp no H H2 ∧ H2 c = some (.tup (ls.take n)) ∧ H2 y = some (.tup ((wAt k p i).map V.str)))
      ⟨x, none, rfl, k1, hc, k1.get hx⟩ (fun i σ H2 _ ⟨_, _, _, _, h2, _⟩ => SqT.of h2) ?_ ?_⟩
    · rintro i z σ H2 hi ⟨y, o, rfl, k2, hc2, hy⟩
      have hi2 : i < n := by
        have := (List.getElem?_eq_some_iff.mp hi).1
        omega
      rw [List.getElem?_take_of_lt hi2] at hi
      have hli : p.la[i]? = some p.la[i] := List.getElem?_eq_getElem (by omega)
      obtain ⟨z2, hz2, hd⟩ := lay_at hls hli
      rw [hi] at hz2
      cases hz2
      obtain ⟨ya, yq, rfl, _⟩ := lay_inv hd
      refine ⟨_, rfl, _, rfl, _, rfl, k, v, y, ya, _, _, rfl, hk.k k2, G, hy, hd.k k2, Gp.fits hli, Gp.le8 i, fun g H3 k3 hg => ?_⟩
      refine ⟨g, _, rfl, k2.trans k3, k3.get hc2, ?_⟩
      rw [hg, wAt_succ hli]
    · rintro σ H2 ⟨y, o, rfl, k2, hc2, hy⟩
      rw [lt] at hy
      exact ⟨_, rfl, q y H2 k2 hy⟩
/-- a picture's sorts below -/
def spBelowOf : Sp := fun vs H Q _ => ∃ (k : Kit) (p : Pic) (v u : V), vs = [v, u] ∧ KitAt H v k ∧ k.Good ∧ TD H u (p.D k) ∧ p.Good k ∧ ∀ x H', Kp no H H' → H' x = some (.tup ((p.below k).map V.str)) → Q (.ref x) H'
theorem below_of (B : Bi mg) (D : Df K mg "below_of" s_below_of ["kit", "picture"]) (F_wires_at : Fn P w K mg base CX0 5 "wires_at" ["kit", "picture", "at"] spWiresAt) : Fn P w K mg base CX0 6 "below_of" ["kit", "picture"] spBelowOf := by
  refine D.fn sc_below_of (fun vs H Q E h => ?_) (fun f cdv A outer s H vs Q E hr h => ?_)
  · obtain ⟨k, p, v, u, rfl, _⟩ := h
    rfl
  · obtain ⟨k, p, v, u, rfl, hk, G, hu, Gp, q⟩ := h
    obtain ⟨a, x, l, ls, rfl, ha, hx, hl, hls⟩ := pic_inv hu
    have ll := hls.length
    rw [List.length_map] at ll
    -- below_of  slots: 0 kit, 1 picture
    refine ⟨_, (pss_one (ps_ret (pe_fn F_wires_at (hr.mono (by omega)) (pa_cons (pv 0) (pa_cons (pv 1) (pa_cons (pe_len K B (pa_cons (pe_ixT K (pv 1) pe_int) pa_nil)) pa_nil)))))), ?_⟩
    refine ⟨_, rfl, _, rfl, _, rfl, a, _, 1, _, rfl, rfl, SqT.of ha, rfl, l, _, rfl, .inr (SqT.of hl), ?_⟩
    refine ⟨k, p, v, .ref a, p.la.length, by rw [ll], hk, G, hu, Gp, Nat.le_refl _, q⟩
end
end SW
/-! SwD3: sizes, worths, the box's number. -/
namespace SW
open PySem PySem.Spec PyProof.Rows L2
section
variable {P : Program} {w : World} {K : PySem.W.Frag} {mg : Str → Option Value} {base : Heap}
theorem sz_inv {H : Hp} {k : Kit} {u : V} (h : TD H u (szD k)) : ∃ a, u = .ref a ∧ H a = some (.tup (k.so.map fun _ => V.int 2)) := by
  have e : szD k = inD (k.so.map fun _ => 2) := by unfold szD inD; rw [List.map_map]; rfl
  rw [e] at h
  obtain ⟨a, rfl, ha⟩ := h.ints_inv
  rw [List.map_map] at ha
  exact ⟨a, rfl, ha⟩
theorem first_ix {α : Type} [DecidableEq α] {x : α} : ∀ {l : List α}, x ∈ l → ∃ j : Nat, l[j]? = some x ∧ ∀ m, m < j → l[m]? ≠ some x
  | [], h => by cases h
  | a :: r, h => by
    by_cases e : a = x
    · exact ⟨0, by rw [e]; rfl, fun m hm => absurd hm (Nat.not_lt_zero m)⟩
    · have h' : x ∈ r := by
        rcases List.mem_cons.mp h with q | q
        · exact absurd q.symm e
        · exact q
      obtain ⟨j, h1, h2⟩ := first_ix h'
      refine ⟨j + 1, h1, fun m hm => ?_⟩
      cases m with
      | zero => exact fun z => e (Option.some.inj z)
      | succ m => exact h2 m (by omega)
/-- the sizes of wires: twos -/
def spSizesOf : Sp := fun vs H Q _ => ∃ (k : Kit) (v u : V) (x : Addr) (ws : List Str), vs = [v, u, .ref x] ∧ KitAt H v k ∧ k.Good ∧ TD H u (szD k) ∧ H x = some (.tup (ws.map V.str)) ∧ (∀ s ∈ ws, s ∈ k.so) ∧ ws.length ≤ 8 ∧
  ∀ p H', Kp no H H' → H p = none → H' p = some (.lst (List.replicate ws.length (.int 2))) → Q (.ref p) H'
theorem rep_of {α : Type} {vs : List α} {n : Nat} {c : α} (hl : vs.length = n) (h : ∀ (i : Nat) (v : α), vs[i]? = some v → v = c) : vs = List.replicate n c := by
  refine List.eq_replicate_iff.mpr ⟨hl, fun b hb => ?_⟩
  obtain ⟨i, hi⟩ := List.mem_iff_getElem?.mp hb
  exact h i b hi
theorem sizes_of (B : Bi mg) (D : Df K mg "sizes_of" s_sizes_of ["kit", "sizes", "wires"]) : Fn P w K mg base CX0 1 "sizes_of" ["kit", "sizes", "wires"] spSizesOf := by
  refine D.fn sc_sizes_of (fun vs H Q E h => ?_) (fun f cdv A outer s H vs Q E hr h => ?_)
  · obtain ⟨k, v, u, x, ws, rfl, _⟩ := h
    rfl
  · obtain ⟨k, v, u, x, ws, rfl, hk, G, hu, hx, hso, h8, q⟩ := h
    obtain ⟨z, rfl, hz⟩ := sz_inv hu
    obtain ⟨a, so, b, bs, rfl, ha, ⟨ob, hs, hc, hd⟩, hb, hbs⟩ := kit_inv hk
    -- sizes_of  slots: 0 kit, 1 sizes, 2 wires, 3 sort
    refine ⟨_, (pss_one (ps_ret (pe_lc (own := [("sort", 3)]) (g := (gName 3)) (tt := tYes) rfl sc_sizes_of.nd (pi_tup (pv 2)) (blkOk_by (by kernel_rfl)) (fun _ _ _ _ _ => (pg_name (i := 3) sc_sizes_of.nd rfl (by first | exact Or.inl rfl | exact Or.inr rfl))) (fun _ _ _ _ _ => pts_nil) (fun _ _ _ _ _ => (pe_ixT K (pv 1) (pe_tidxF K (pe_ixT K (pv 0) pe_int) (pa_cons (pv 3) pa_nil))))))), ?_⟩
    refine ⟨_, rfl, x, rfl, ⟨_, SqT.of hx⟩, lp_T hx (szLt (by rw [List.length_map]; omega)) (fun _ v _ => v = .int 2) (fun _ _ _ _ _ h => h) (fun i y H1 hi hy k1 Q' q' => ?_) fun D vs H1 hD k1 hv hl hr1 => ?_⟩
    · rw [List.getElem?_map] at hy
      obtain ⟨s0, hs0, rfl⟩ := Option.map_eq_some_iff.mp hy
      obtain ⟨j, hj, hj2⟩ := first_ix (hso s0 (List.mem_of_getElem? hs0))
      have hj3 : (k.so.map fun _ => V.int 2)[j]? = some (.int 2) := by rw [List.getElem?_map, hj]; rfl
      refine ⟨_, rfl, _, rfl, a, _, 1, _, rfl, rfl, SqT.of (k1.get ha), rfl, ⟨so, ob, _, rfl, k1.get hs, hc, hd⟩, _, rfl, so, k.so, s0, j, rfl, rfl, .inl (.inr ⟨ob, k1.get hs⟩), hj, hj2, ?_⟩
      exact ⟨z, _, j, _, rfl, rfl, SqT.of (k1.get hz), atI_nat hj3, q' _ H1 (Kp.refl H1) rfl⟩
    · rw [List.length_map] at hl
      refine q D H1 k1 hD ?_
      rw [hv, rep_of hl hr1]
/-- the worths of n wires of size two -/
def spWorthsOf : Sp := fun vs H Q _ => ∃ (x : Addr) (n : Nat), vs = [.ref x] ∧ H x = some (.lst (List.replicate n (.int 2))) ∧ n ≤ 8 ∧
  ∀ p us H', Kp no H H' → H p = none → H' p = some (.lst us) → TDs H' us ((W n).map inD) → Q (.ref p) H'
theorem W_le {n : Nat} (h : n ≤ 8) : (W n).length ≤ 256 := by
  rw [length_W]
  exact Nat.pow_le_pow_right (by decide) h
theorem W_step (n : Nat) : (W (n + 1)).map inD = (W n).flatMap fun u => [inD (u ++ [0]), inD (u ++ [1])] := by
  show ((W n).flatMap fun w => [w ++ [0], w ++ [1]]).map inD = _
  rw [List.map_flatMap]
  rfl
theorem take_flat {α β : Type} {f : α → List β} {l : List α} {i : Nat} {x : α} (h : l[i]? = some x) : (l.take (i + 1)).flatMap f = (l.take i).flatMap f ++ f x := by
  rw [take_snoc h, List.flatMap_append]
  simp
theorem worths_of (B : Bi mg) (D : Df K mg "worths_of" s_worths_of ["sizes"]) : Fn P w K mg base CX0 1 "worths_of" ["sizes"] spWorthsOf := by
  refine D.fn sc_worths_of (fun vs H Q E h => ?_) (fun f cdv A outer s H vs Q E hr h => ?_)
  · obtain ⟨x, n, rfl, _⟩ := h
    rfl
  · obtain ⟨x, n, rfl, hx, h8, q⟩ := h
    -- worths_of  slots: 0 sizes, 1 found, 2 size, 3 longer, 4 worths, 5 worth
    refine ⟨_, (pss_cons (ps_set (i := 1) sc_worths_of.nd rfl (Or.inl rfl) (pe_lst (pa_cons (pe_tup pa_nil) pa_nil)))
    (pss_cons (ps_for PassesOwn.never rfl (pi_list (pv 0)) (pg_name (i := 2) sc_worths_of.nd rfl (by first | exact Or.inl rfl | exact Or.inr rfl))
      (pss_cons (ps_set (i := 3) sc_worths_of.nd rfl (Or.inl rfl) (pe_lst pa_nil))
      (pss_cons (ps_for PassesOwn.never rfl (pi_list (pv 1)) (pg_name (i := 4) sc_worths_of.nd rfl (by first | exact Or.inl rfl | exact Or.inr rfl))
        (pss_one (ps_expr (pe_bmK K (r := rExtend) PySem.F.plainAttrs_list PySem.F.slot_list_extend PySem.F.type_list_extend mt_extend (pv 3) (pa_cons (pe_lc (own := [("worth", 5)]) (g := (gName 5)) (tt := tYes) rfl sc_worths_of.nd (pi_range1 (by rfl) B.range (pa_cons (pv 2) pa_nil)) (blkOk_by (by kernel_rfl)) (fun _ _ _ _ _ => (pg_name (i := 5) sc_worths_of.nd rfl (by first | exact Or.inl rfl | exact Or.inr rfl))) (fun _ _ _ _ _ => pts_nil) (fun _ _ _ _ _ => (pe_catT K (pv 4) (pe_tup (pa_cons (pv 5) pa_nil))))) pa_nil)))))
      (pss_one (ps_set (i := 1) sc_worths_of.nd rfl (Or.inl rfl) (pv 3))))))
    (pss_one (ps_ret (pv 1))))), ?_⟩
    refine ⟨sz0, fun e0 he0 => ⟨sz1, fun f0 hf0 => ?_⟩⟩
    have k0 : Kp no H (upd (upd H e0 (.tup [])) f0 (.lst [.ref e0])) := (Kp.new he0 _).trans (Kp.new hf0 _)
    refine ⟨_, rfl, x, rfl, ⟨_, SqL.of (k0.get hx)⟩, for_list (K := K) (a := x) (xs := List.replicate n (.int 2)) (fun i σ H2 => ∃ (f1 : Addr) (us : List V) (o1 o2 o3 : Option V), σ = [some (.ref x), some (.ref f1), o1, o2, o3, none] ∧ Kp no H H2 ∧ H f1 = none ∧ H2 f1 = some (.lst us) ∧ TDs H2 us ((W i).map inD))
      ⟨f0, _, none, none, none, rfl, k0, (Kp.new (S := no) he0 _).none (fun z => z) hf0, upd_same, ?_⟩ (fun i σ H2 _ ⟨_, _, _, _, _, _, h2, _⟩ => SqL.of (h2.get hx)) ?_ ?_⟩
    · exact .cons (TD.ints (ns := []) (by rw [upd_ne (fun z => by rw [← z, upd_same] at hf0; cases hf0), upd_same]; rfl)) .nil
    · rintro i z σ H2 hi ⟨f1, us, o1, o2, o3, rfl, k2, hf1, hf2, hus⟩
      have hin : i < n := by
        have := (List.getElem?_eq_some_iff.mp hi).1
        rwa [List.length_replicate] at this
      have hz : z = .int 2 := List.eq_of_mem_replicate (List.mem_of_getElem? hi)
      subst hz
      have lu := hus.length
      rw [List.length_map] at lu
      have hW := W_le (n := i) (by omega)
      refine ⟨sz0, fun g0 hg0 => ?_⟩
      have k3 : Kp no H (upd H2 g0 (.lst [])) := k2.trans (Kp.new hg0 _)
      have nf : f1 ≠ g0 := ne_of_none hf2 hg0
      refine ⟨_, rfl, f1, rfl, ⟨us, SqL.of (by rw [upd_ne nf]; exact hf2)⟩, for_list (K := K) (a := f1) (xs := us) (fun j σ H3 => ∃ (ys : List V) (o3 : Option V), σ = [some (.ref x), some (.ref f1), some (.int 2), some (.ref g0), o3, none] ∧ Kp no H H3 ∧ H3 f1 = some (.lst us) ∧ TDs H3 us ((W i).map inD) ∧ H3 g0 = some (.lst ys) ∧ TDs H3 ys (((W i).take j).flatMap fun u => [inD (u ++ [0]), inD (u ++ [1])]))
        ⟨[], o3, rfl, k3, by rw [upd_ne nf]; exact hf2, hus.k (Kp.new (S := no) hg0 _), upd_same, .nil⟩ (fun j σ H3 _ ⟨_, _, _, _, h3, _⟩ => SqL.of h3) ?_ ?_⟩
      · rintro j z σ H3 hj ⟨ys, o4, rfl, k4, hf3, hus3, hg3, hys⟩
        have hj2 : j < (W i).length := by
          have := (List.getElem?_eq_some_iff.mp hj).1
          omega
        have hwj : (W i)[j]? = some (W i)[j] := List.getElem?_eq_getElem hj2
        obtain ⟨z2, hz2, hd2⟩ := hus3.at (d := inD (W i)[j]) (i := j) (by rw [List.getElem?_map, hwj]; rfl)
        rw [hj] at hz2
        cases hz2
        obtain ⟨a3, rfl, ha3⟩ := hd2.ints_inv
        have lw : ((W i)[j]).length = i := (mem_W.mp (List.getElem_mem hj2)).1
        have ly := hys.length
        have ly2 : (((W i).take j).flatMap fun u => [inD (u ++ [0]), inD (u ++ [1])]).length ≤ 512 := by
          have : ∀ l : List (List Int), (l.flatMap fun u => [inD (u ++ [0]), inD (u ++ [1])]).length = 2 * l.length := by
            intro l
            induction l with
            | nil => rfl
            | cons a r ih => rw [List.flatMap_cons, List.length_append, ih, List.length_cons]; show 2 + 2 * r.length = 2 * (r.length + 1); omega
          rw [this, List.length_take]
          omega
        refine ⟨_, rfl, .inl ⟨rfl, _, SqL.of hg3⟩, ?_⟩
        refine ⟨_, rfl, 2, rfl, by decide, by decide, fun D hD => lcD hD (lp_R (lo := 0) (n := 2) (szLt (by decide)) (RD [inD ((W i)[j] ++ [0]), inD ((W i)[j] ++ [1])]) RD.kt (fun l y H4 hl hy k5 Q' q' => ?_) fun D' vs H4 _ k5 hv hl hr1 eD => ?_)⟩
        · subst hy
          refine ⟨_, rfl, _, rfl, sz1, fun t ht => ?_⟩
          refine catA (a := a3) (b := t) ((Kp.new (S := no) ht (.tup [V.int (0 + (l : Int))])).get (k5.get ha3)) upd_same (szL (by rw [List.length_map, lw]; show i + 1 ≤ 100000; omega)) fun c H5 k6 hc5 => ?_
          refine q' _ H5 ((Kp.new ht _).trans k6) ?_
          have hl2 : l = 0 ∨ l = 1 := by omega
          rcases hl2 with rfl | rfl
          · exact ⟨_, rfl, TD.ints (by rw [hc5, List.map_append]; rfl)⟩
          · exact ⟨_, rfl, TD.ints (by rw [hc5, List.map_append]; rfl)⟩
        · cases eD
          have hvs := RD.all (H := H4) (by rw [hl]; rfl) hr1
          refine ⟨g0, D, ys, vs, rfl, rfl, k5.get hg3, hv, szL (by omega), ?_⟩
          have k6 : Kp (one g0) H4 (upd H4 g0 (.lst (ys ++ vs))) := Kp.put1 (lst_tup (k5.get hg3))
          have ng : H g0 = none := k2.none (fun z => z) hg0
          refine ⟨_, _, rfl, ((k4.trans k5)).free ng _, k6.at nf (k5.get hf3), (hus3.k k5).k k6, upd_same, ?_⟩
          rw [take_flat hwj]
          exact ((hys.k k5).append hvs).k k6
      · rintro σ H3 ⟨ys, o4, rfl, k4, hf3, hus3, hg3, hys⟩
        rw [lu, List.take_length, ← W_step] at hys
        exact ⟨_, rfl, g0, ys, _, _, _, rfl, k4, k2.none (fun z => z) hg0, hg3, hys⟩
    · rintro σ H2 ⟨f1, us, o1, o2, o3, rfl, k2, hf1, hf2, hus⟩
      rw [List.length_replicate] at hus
      exact ⟨_, rfl, q f1 us H2 k2 hf1 hf2 hus⟩
/-- a box's number -/
def spBoxNumber : Sp := fun vs H Q _ => ∃ (k : Kit) (v : V) (i : Nat), vs = [v, .str (k.at i).nm] ∧ KitAt H v k ∧ k.Good ∧ i < k.bx.length ∧ ∀ H', Kp no H H' → Q (.int (i : Nat)) H'
theorem box_number (B : Bi mg) (D : Df K mg "box_number" s_box_number ["kit", "name"]) : Fn P w K mg base CX0 1 "box_number" ["kit", "name"] spBoxNumber := by
  refine D.fn sc_box_number (fun vs H Q E h => ?_) (fun f cdv A outer s H vs Q E hr h => ?_)
  · obtain ⟨k, v, i, rfl, _⟩ := h
    rfl
  · obtain ⟨k, v, n, rfl, hk, G, hn, q⟩ := h
    obtain ⟨a, so, b, bs, rfl, ha, hso, hb, hbs⟩ := kit_inv hk
    have lb := hbs.length
    rw [List.length_map] at lb
    have l8 := G.b8
    -- box_number  slots: 0 kit, 1 name, 2 box
    refine ⟨_, (pss_one (ps_ret (pe_bmK K (r := (rIndex K)) PySem.F.plainAttrs_list PySem.F.slot_list_index PySem.F.type_list_index mt_index (pe_lc (own := [("box", 2)]) (g := (gName 2)) (tt := tYes) rfl sc_box_number.nd (pi_tup (pe_ixT K (pv 0) pe_int)) (blkOk_by (by kernel_rfl)) (fun _ _ _ _ _ => (pg_name (i := 2) sc_box_number.nd rfl (by first | exact Or.inl rfl | exact Or.inr rfl))) (fun _ _ _ _ _ => pts_nil) (fun _ _ _ _ _ => (pe_ixT K (pv 2) pe_int))) (pa_cons (pv 1) pa_nil)))), ?_⟩
    refine ⟨_, rfl, a, _, 2, _, rfl, rfl, SqT.of ha, rfl, b, rfl, ⟨bs, SqT.of hb⟩, fun D hD => lcD hD (lp_T hb (szLt (by omega)) (fun i v _ => i < k.bx.length → v = .str (k.at i).nm) (fun _ _ _ _ _ h => h) (fun i x H1 hi hx k1 Q' q' => ?_) fun D' vs H1 _ k1 hv hl hr1 eD => ?_)⟩
    · obtain ⟨q0, a0, e0, hq0, hq, _⟩ := box_at hbs (i := i) (by omega)
      rw [hx] at hq0
      cases hq0
      exact ⟨_, rfl, q0, _, 0, _, rfl, rfl, SqT.of (k1.get hq), rfl, q' _ H1 (Kp.refl H1) fun _ => rfl⟩
    · cases eD
      have e := names_of hbs hl hr1
      subst e
      exact ⟨.inl ⟨rfl, _, SqL.of hv⟩, _, rfl, D, _, _, n, _, rfl, rfl, SqL.of hv, rfl, nm_flat k, nm_get hn, nm_self _, nm_none G hn, q H1 k1⟩
end
end SW
/-! SwD4: too wide. -/
namespace SW
open PySem PySem.Spec PyProof.Rows L2
/-- the class TooWide, as the top has left it -/
structure Tf (K : PySem.W.Frag) (mg : Str → Option Value) (C : Addr) (qual : Str) (st : Stmt) (ps : List Str) : Prop where
  ex : ∃ (f : Addr) (fd : FuncData), Fun K "__init__" qual st f fd ∧ PySem.W.findIn K (.ref C) "__init__" = some (some (.ref f)) ∧ PySem.W.typeIn K (.ref f) = some (.type "function") ∧ Binds K fd ps []
  oe : OexC K C
  hm : mg "TooWide" = some (.ref C)
  no : PySem.W.findIn K (.ref C) "number" = some none
structure Tn (P : Program) (w : World) (K : PySem.W.Frag) (mg : Str → Option Value) (base : Heap) (C : Addr) (k : Nat) (ps : List Str) (sp : Sp) : Prop where
  ex : ∃ (f : Addr) (fd : FuncData), FnOk P w K mg base CX0 k f fd ps sp ∧ PySem.W.findIn K (.ref C) "__init__" = some (some (.ref f)) ∧ PySem.W.typeIn K (.ref f) = some (.type "function") ∧ Binds K fd ps []
  oe : OexC K C
  hm : mg "TooWide" = some (.ref C)
theorem Tf.fi {P : Program} {w : World} {K : PySem.W.Frag} {mg : Str → Option Value} {base : Heap} {C : Addr} {qual : Str} {st : Stmt} {N ps : List Str} {k : Nat} {sp : Sp} (D : Tf K mg C qual st ps) (Sc : FnScope N ps (defScope st)) (len : ∀ vs H Q E, sp vs H Q E → vs.length = ps.length)
    (hbody : ∀ (f : Addr) (cdv : Value) (A : Around) (outer : List Env) (s : Shared) (H : Hp) (vs : List V) (Q : VK) (E : XK), Room k (A.deeper (envOfC qual (defScope st) s.heap.objs.size f cdv)) → sp vs H Q E →
      ∃ t, PSs (cxOf CX0 P w K mg base N qual (defScope st) f cdv A outer s H E).nox (defBody st) t ∧ t { nx := fun _ H' => Q .non H', rt := Q } (start N vs) H) : Tn P w K mg base C (k + 1) ps sp := by
  obtain ⟨f, fd, F, h1, h2, hb⟩ := D.ex
  exact ⟨⟨f, fd, F.ok Sc len (hbody f), h1, h2, hb⟩, D.oe, D.hm⟩
theorem Tn.pmk {X : Cx} {C : Addr} {k : Nat} {ps : List Str} {sp : Sp} {e : Expr} {es : List Expr} {ta : TA} {p pos : Pos} (F : Tn X.prog X.w X.K X.mg X.base C k ps sp) (hr : Room (k + 1) X.A) (ha : PA X (e :: es) ta) (hg : Gl X "TooWide" := by rfl)
    (he : starEach (e :: es) X.env = (false, eval e X.env) :: starEach es X.env := by rfl) (hpl : (backTo pos (starEach es X.env)).any (·.1) = false := by rfl) : PMk X (.Call (.Name "TooWide" p) (e :: es) [] pos) (tMkO C sp [] ta) := by
  obtain ⟨f, fd, G, h1, h2, hb⟩ := F.ex
  exact pmk_oex F.oe h1 h2 G hr hb .nil pass0 hg F.hm ha (by decide) he hpl
def spTooWide (C : Addr) : Sp := fun vs H Q _ => ∃ (a : Addr) (n : Int), vs = [.ref a, .int n] ∧ H a = some (exo a C none) ∧ ∀ d, H d = none → d ≠ a → Q .non (upd (upd H d (exd d [("number", .int n)])) a (exo a C (some d)))
/-- TooWide(n) as the raise sees it -/
theorem tw_mk {C : Addr} {n : Int} {H1 : Hp} {Q : XK} (q : ∀ d, H1 d = none → Q (.ref C) (some d) (upd H1 d (.xd [("number", .int n)]))) : ([V.int n] : List V).length ≤ 1000 ∧ ∀ a, H1 a = none → spTooWide C (.ref a :: ([V.int n] ++ [])) (upd H1 a (exo a C none))
    (fun v H2 => v = .non ∧ ∃ (d : Addr) (fs : List (Str × V)), H2 a = some (exo a C (some d)) ∧ H2 d = some (exd d fs) ∧ H1 d = none ∧ Q (.ref C) (some d) (upd (del H2 a) d (.xd fs))) (fun _ _ _ => False) := by
  refine ⟨by show 1 ≤ 1000; decide, fun a ha => ⟨a, n, rfl, upd_same, fun d hd hne => ⟨rfl, d, _, upd_same, by rw [upd_ne hne, upd_same], ?_, ?_⟩⟩⟩
  · rw [upd_ne hne] at hd
    exact hd
  · have hd1 : H1 d = none := by rw [upd_ne hne] at hd; exact hd
    have e : upd (del (upd (upd (upd H1 a (exo a C none)) d (exd d [("number", .int n)])) a (exo a C (some d))) a) d (.xd [("number", .int n)]) = upd H1 d (.xd [("number", .int n)]) := by
      funext b
      by_cases hb : b = d
      · rw [hb, upd_same, upd_same]
      · rw [upd_ne hb, upd_ne hb]
        by_cases hba : b = a
        · rw [hba, del_same, ha]
        · rw [del_ne hba, upd_ne hba, upd_ne hb, upd_ne hba]
    rw [e]
    exact q d hd1
section
variable {P : Program} {w : World} {K : PySem.W.Frag} {mg : Str → Option Value} {base : Heap} {C : Addr}
theorem TooWide_init {C0 : Addr} (TB : BaseI K C0) (mgWireError : mg "WireError" = some (.ref C0)) (D : Tf K mg C "TooWide.__init__" s_TooWide_init ["self", "number"]) : Tn P w K mg base C 1 ["self", "number"] (spTooWide C) := by
  have hno := D.no
  have hoe := D.oe
  refine D.fi sc_TooWide_init (fun vs H Q E h => ?_) (fun f cdv A outer s H vs Q E hr h => ?_)
  · obtain ⟨a, n, rfl, _⟩ := h
    rfl
  · obtain ⟨a, n, rfl, ha, q⟩ := h
    -- TooWide.__init__  slots: 0 self, 1 number
    refine ⟨_, (pss_cons (ps_expr (pe_binit TB rfl mgWireError (pa_cons (pv 0) (pa_cons pe_str pa_nil))))
    (pss_one (ps_ost (pv 0) (pv 1)))), ?_⟩
    refine ⟨_, rfl, a, C, _, rfl, by show 1 ≤ 1000; decide, hoe, ha, _, rfl, _, rfl, a, C, rfl, hoe, hno, .inl ⟨ha, q⟩⟩
/-- no wires are too wide | the first that are -/
def spCheckWidth (C : Addr) : Sp := fun vs H Q E => ∃ (k : Kit) (p : Pic) (v u y : V), vs = [v, u, y] ∧ KitAt H v k ∧ k.Good ∧ TD H u (szD k) ∧ TD H y (p.D k) ∧ p.Good k ∧
  ((∀ n, n ≤ p.la.length → (wAt k p n).length ≤ 6) → ∀ H', Kp no H H' → Q .non H') ∧
  (∀ n, n ≤ p.la.length → 6 < (wAt k p n).length → (∀ m, m < n → (wAt k p m).length ≤ 6) → ∀ d H', Kp no H H' → H d = none → H' d = some (.xd [("number", .int (2 ^ (wAt k p n).length))]) → E (.ref C) (some d) H')
theorem two_le {m : Nat} (h : m ≤ 6) : (2 : Int) ^ m ≤ 81 := by
  have : m = 0 ∨ m = 1 ∨ m = 2 ∨ m = 3 ∨ m = 4 ∨ m = 5 ∨ m = 6 := by omega
  rcases this with rfl | rfl | rfl | rfl | rfl | rfl | rfl <;> decide
theorem two_gt {m : Nat} (h : 6 < m) (h8 : m ≤ 8) : (81 : Int) < 2 ^ m := by
  have : m = 7 ∨ m = 8 := by omega
  rcases this with rfl | rfl <;> decide
theorem check_width (B : Bi mg) (TW : Tn P w K mg base C 1 ["self", "number"] (spTooWide C)) (D : Df K mg "check_width" s_check_width ["kit", "sizes", "picture"])
    (F_sizes_of : Fn P w K mg base CX0 1 "sizes_of" ["kit", "sizes", "wires"] spSizesOf) (F_wires_at : Fn P w K mg base CX0 5 "wires_at" ["kit", "picture", "at"] spWiresAt) : Fn P w K mg base (L2.CX P w) 6 "check_width" ["kit", "sizes", "picture"] (spCheckWidth C) := by
  obtain ⟨tM, hMOST⟩ := B.most
  refine D.fnX sc_check_width (fun vs H Q E h => ?_) (fun f cdv A outer s H vs Q E hr h => ?_)
  · obtain ⟨k, p, v, u, y, rfl, _⟩ := h
    rfl
  · obtain ⟨k, p, v, u, y, rfl, hk, G, hu, hy, Gp, q1, q2⟩ := h
    obtain ⟨a, x, l, ls, rfl, ha, hx, hl, hls⟩ := pic_inv hy
    have ll := hls.length
    rw [List.length_map] at ll
    have l12 := Gp.l12
    -- check_width  slots: 0 kit, 1 sizes, 2 picture, 3 at, 4 many, 5 size
    refine ⟨_, (pss_one (ps_for (passes_of rfl) rfl (pi_range1 (by rfl) B.range (pa_cons (pe_op op_add (pe_len K B (pa_cons (pe_ixT K (pv 2) pe_int) pa_nil)) pe_int) pa_nil)) (pg_name (i := 3) sc_check_width.nd rfl (by first | exact Or.inl rfl | exact Or.inr rfl))
      (pss_cons (ps_set (i := 4) sc_check_width.nd rfl (Or.inl rfl) pe_int)
      (pss_cons (ps_for (passes_of rfl) rfl (pi_list (pe_fn F_sizes_of (hr.mono (by omega)) (pa_cons (pv 0) (pa_cons (pv 1) (pa_cons (pe_fn F_wires_at (hr.mono (by omega)) (pa_cons (pv 0) (pa_cons (pv 2) (pa_cons (pv 3) pa_nil)))) pa_nil))))) (pg_name (i := 5) sc_check_width.nd rfl (by first | exact Or.inl rfl | exact Or.inr rfl))
        (pss_one (ps_set (i := 4) sc_check_width.nd rfl (Or.inl rfl) (pe_op op_mul (pv 4) (pv 5)))))
      (pss_one (ps_if (pt_cmpR op_gt (pv 4) (pe_glob (v := .int 81) rfl hMOST ⟨_, rfl⟩) (nomark _))
        (pss_one (ps_raise rfl (takes_of rfl rfl rfl rfl) (TW.pmk (hr.mono (by omega)) (pa_cons (pv 4) pa_nil))))
        pss_nil)))))), ?_⟩
    refine ⟨_, rfl, a, _, 1, _, rfl, rfl, SqT.of ha, rfl, l, _, rfl, .inr (SqT.of hl), _, _, rfl, rfl, _, rfl, by omega, by omega, ?_⟩
    have e1 : ((ls.length : Int) + 1).toNat = p.la.length + 1 := by omega
    rw [e1]
    refine for_range (fun i σ H2 => ∃ o1 o2 o3 : Option V, σ = [some v, some u, some (.ref a), o1, o2, o3] ∧ Kp no H H2 ∧ ∀ m, m < i → (wAt k p m).length ≤ 6) ⟨none, none, none, rfl, Kp.refl H, fun m hm => absurd hm (Nat.not_lt_zero m)⟩ ?_ ?_
    · rintro i σ H2 hi ⟨o1, o2, o3, rfl, k2, h6⟩
      have h8 := Gp.le8 i
      refine ⟨_, rfl, _, rfl, _, rfl, _, rfl, _, rfl, k, p, v, .ref a, i, by rw [Int.zero_add], hk.k k2, G, hy.k k2, Gp, by omega, fun c H3 k3 hc => ?_⟩
      have k23 := k2.trans k3
      refine ⟨k, v, u, c, _, rfl, hk.k k23, G, hu.k k23, hc, Gp.sos G i, h8, fun s H4 k4 _ hs => ?_⟩
      have k24 := k23.trans k4
      refine ⟨s, rfl, ⟨_, SqL.of hs⟩, for_list (K := K) (a := s) (xs := List.replicate (wAt k p i).length (.int 2)) (fun j σ H5 => ∃ o3 : Option V, σ = [some v, some u, some (.ref a), some (.int (0 + (i : Int))), some (.int (2 ^ j)), o3] ∧ Kp no H H5 ∧ H5 s = some (.lst (List.replicate (wAt k p i).length (.int 2))))
        ⟨o3, rfl, k24, hs⟩ (fun j σ H5 _ ⟨_, _, _, h5⟩ => SqL.of h5) ?_ ?_⟩
      · rintro j z σ H5 hj ⟨o4, rfl, k5, hs5⟩
        have hz : z = .int 2 := List.eq_of_mem_replicate (List.mem_of_getElem? hj)
        subst hz
        exact ⟨_, rfl, _, rfl, _, _, rfl, rfl, .inr ⟨by decide, by decide⟩, _, rfl, k5, hs5⟩
      · rintro σ H5 ⟨o4, rfl, k5, hs5⟩
        rw [List.length_replicate]
        by_cases hw : (wAt k p i).length ≤ 6
        · refine ⟨_, rfl, _, _, rfl, rfl, _, rfl, iteDN (by have := two_le hw; omega) ?_⟩
          refine ⟨_, _, _, rfl, k5, fun m hm => ?_⟩
          by_cases e : m = i
          · rw [e]
            exact hw
          · exact h6 m (by omega)
        · refine ⟨_, rfl, _, _, rfl, rfl, _, rfl, iteD (two_gt (by omega) h8) ?_⟩
          refine ⟨_, rfl, tw_mk fun d hd => ?_⟩
          exact q2 i (by omega) (by omega) h6 d _ (k5.trans (Kp.new hd _)) (k5.none (fun z => z) hd) upd_same
    · rintro σ H2 ⟨o1, o2, o3, rfl, k2, h6⟩
      exact q1 (fun n hn => h6 n (by omega)) H2 k2
end
end SW
/-! SwD5: a box's rows; one row through a box, through wires. -/
namespace SW
open PySem PySem.Spec PyProof.Rows L2
section
variable {P : Program} {w : World} {K : PySem.W.Frag} {mg : Str → Option Value} {base : Heap}
/-! comprehensions with a target or a test of their own -/
theorem lcg_L {a : Addr} {xs : List V} {g : TG} {tt : TT} {te : TE} {vs : List Nat} {σ : L2.St} {H1 : Hp} {D : Addr} {Qd : Hp → Prop} (Pv : Nat → Hp → Prop) (h0 : Pv 0 (upd H1 D (.lst []))) (hq : ∀ i H, Pv i H → SqL K H a xs)
    (hs : ∀ (i : Nat) (x : V) (H : Hp), xs[i]? = some x → Pv i H → g x (wipe σ vs) H fun σ2 H2 => wipe σ2 vs = wipe σ vs ∧ tt σ2 H2 fun c H3 =>
      if c = true then te σ2 H3 fun y H4 => ∃ acc, H4 D = some (.lst acc) ∧ acc.length < sizeLine ∧ Pv (i + 1) (upd H4 D (.lst (acc ++ [y]))) else Pv (i + 1) H3) (hd : ∀ H, Pv xs.length H → Qd H) :
    ∃ W : Nat → Nat → Hp → Prop, (∃ m, W 0 m (upd H1 D (.lst []))) ∧ ∀ i m H, W i m H →
      ((Itl K a).stop i H ∧ Qd H) ∨ ((Itl K a).go i H ∧ ∃ Nx : Hp → Prop, (∀ H', Nx H' → ∃ m', m' < m ∧ W (i + 1) m' H') ∧ ∀ x H', (Itl K a).yld i H x H' → g x (wipe σ vs) H' fun σ2 H2 => wipe σ2 vs = wipe σ vs ∧ tt σ2 H2 fun c H3 =>
        if c = true then te σ2 H3 fun y H4 => ∃ acc, H4 D = some (.lst acc) ∧ acc.length < sizeLine ∧ Nx (upd H4 D (.lst (acc ++ [y]))) else Nx H3) := by
  refine ⟨fun i m H => m = xs.length - i ∧ i ≤ xs.length ∧ Pv i H, ⟨xs.length, rfl, Nat.zero_le _, h0⟩, ?_⟩
  rintro i m H ⟨rfl, hi, p⟩
  have q := hq i H p
  by_cases hlt : i < xs.length
  · refine .inr ⟨⟨xs, xs[i], q, List.getElem?_eq_getElem hlt⟩, Pv (i + 1), fun H' p' => ⟨xs.length - (i + 1), by omega, rfl, hlt, p'⟩, fun v H' y => ?_⟩
    obtain ⟨e, y⟩ := y
    subst e
    exact hs i v _ (y xs q) p
  · have e : i = xs.length := by omega
    subst e
    exact .inl ⟨⟨xs, q, Nat.le_refl _⟩, hd H p⟩
theorem lcg_T {a : Addr} {xs : List V} {g : TG} {tt : TT} {te : TE} {vs : List Nat} {σ : L2.St} {H1 : Hp} {D : Addr} {Qd : Hp → Prop} (Pv : Nat → Hp → Prop) (h0 : Pv 0 (upd H1 D (.lst []))) (hq : ∀ i H, Pv i H → SqT K H a xs)
    (hs : ∀ (i : Nat) (x : V) (H : Hp), xs[i]? = some x → Pv i H → g x (wipe σ vs) H fun σ2 H2 => wipe σ2 vs = wipe σ vs ∧ tt σ2 H2 fun c H3 =>
      if c = true then te σ2 H3 fun y H4 => ∃ acc, H4 D = some (.lst acc) ∧ acc.length < sizeLine ∧ Pv (i + 1) (upd H4 D (.lst (acc ++ [y]))) else Pv (i + 1) H3) (hd : ∀ H, Pv xs.length H → Qd H) :
    ∃ W : Nat → Nat → Hp → Prop, (∃ m, W 0 m (upd H1 D (.lst []))) ∧ ∀ i m H, W i m H →
      ((Itt K a).stop i H ∧ Qd H) ∨ ((Itt K a).go i H ∧ ∃ Nx : Hp → Prop, (∀ H', Nx H' → ∃ m', m' < m ∧ W (i + 1) m' H') ∧ ∀ x H', (Itt K a).yld i H x H' → g x (wipe σ vs) H' fun σ2 H2 => wipe σ2 vs = wipe σ vs ∧ tt σ2 H2 fun c H3 =>
        if c = true then te σ2 H3 fun y H4 => ∃ acc, H4 D = some (.lst acc) ∧ acc.length < sizeLine ∧ Nx (upd H4 D (.lst (acc ++ [y]))) else Nx H3) := by
  refine ⟨fun i m H => m = xs.length - i ∧ i ≤ xs.length ∧ Pv i H, ⟨xs.length, rfl, Nat.zero_le _, h0⟩, ?_⟩
  rintro i m H ⟨rfl, hi, p⟩
  have q := hq i H p
  by_cases hlt : i < xs.length
  · refine .inr ⟨⟨xs, xs[i], q, List.getElem?_eq_getElem hlt⟩, Pv (i + 1), fun H' p' => ⟨xs.length - (i + 1), by omega, rfl, hlt, p'⟩, fun v H' y => ?_⟩
    obtain ⟨e, y⟩ := y
    subst e
    exact hs i v _ (y xs q) p
  · have e : i = xs.length := by omega
    subst e
    exact .inl ⟨⟨xs, q, Nat.le_refl _⟩, hd H p⟩
theorem yesI {σ : L2.St} {H : Hp} {A B : Hp → Prop} (h : A H) : tYes σ H fun c H3 => if c = true then A H3 else B H3 := h
/-- worths as a key -/
def kW (w : List Int) : List Key := w.map Sum.inl
theorem kW_kV (w : List Int) : (kW w).map kV = w.map V.int := by
  unfold kW
  rw [List.map_map]
  rfl
theorem kW_inj {a b : List Int} (h : kW a = kW b) : a = b := (List.map_inj_right (fun _ _ e => Sum.inl.inj e)).mp h
/-- a box's rows: for each worths a list of the one pair (what is due, 1) -/
structure RowOk (kvs : List (List Key × V)) (H : Hp) (fl : Fl) (i : Nat) (w : List Int) : Prop where
  ex : ∃ l t e, valV kvs (kW w) = some (.ref l) ∧ H l = some (.lst [.ref t]) ∧ H t = some (.tup [.ref e, .int 1]) ∧ H e = some (.tup ((due fl i w).map V.int))
def RowsAt (H : Hp) (d : Addr) (k : Kit) (fl : Fl) (i : Nat) : Prop := ∃ kvs, H d = some (.dT kvs) ∧ ∀ w ∈ W (k.at i).ab.length, RowOk kvs H fl i w
/-- nothing but S changes, and S has neither lists nor tuple dicts -/
theorem RowOk.k {S : Addr → Prop} {H H' : Hp} {kvs : List (List Key × V)} {fl : Fl} {i : Nat} {w : List Int} (x : Kp S H H') (hS : ∀ b ys, S b → H b ≠ some (.lst ys)) (h : RowOk kvs H fl i w) : RowOk kvs H' fl i w := by
  obtain ⟨l, t, e, h1, h2, h3, h4⟩ := h.ex
  exact ⟨l, t, e, h1, x.but _ _ (fun z => hS l _ z h2) h2, x.kt _ _ h3, x.kt _ _ h4⟩
theorem RowsAt.k {S : Addr → Prop} {H H' : Hp} {d : Addr} {k : Kit} {fl : Fl} {i : Nat} (x : Kp S H H') (hS : ∀ b ys, S b → H b ≠ some (.lst ys)) (hd : ¬ S d) (h : RowsAt H d k fl i) : RowsAt H' d k fl i := by
  obtain ⟨kvs, h1, h2⟩ := h
  exact ⟨kvs, x.but _ _ hd h1, fun w hw => (h2 w hw).k x hS⟩
def spRowsTold : Sp := fun vs H Q _ => ∃ (k : Kit) (fl : Fl) (i : Nat) (v u t : V), vs = [v, u, .str (k.at i).nm, t] ∧ KitAt H v k ∧ k.Good ∧ FlGood k fl ∧ i < k.bx.length ∧ TD H u (szD k) ∧ TD H t (tabD k fl i) ∧
  ∀ p H', Kp no H H' → H p = none → RowsAt H' p k fl i → Q (.ref p) H'
theorem rows_told (B : Bi mg) (D : Df K mg "rows_told" s_rows_told ["kit", "sizes", "name", "table"]) (F_feet_of : Fn P w K mg base CX0 2 "feet_of" ["kit", "name"] spFeetOf)
    (F_sizes_of : Fn P w K mg base CX0 1 "sizes_of" ["kit", "sizes", "wires"] spSizesOf) (F_worths_of : Fn P w K mg base CX0 1 "worths_of" ["sizes"] spWorthsOf) : Fn P w K mg base CX0 3 "rows_told" ["kit", "sizes", "name", "table"] spRowsTold := by
  refine D.fn sc_rows_told (fun vs H Q E h => ?_) (fun f cdv A outer s H vs Q E hr h => ?_)
  · obtain ⟨k, fl, i, v, u, t, rfl, _⟩ := h
    rfl
  · obtain ⟨k, fl, i, v, u, t, rfl, hk, G, F, hi, hsz, ht, q⟩ := h
    have hu := hu_of hr
    have ga := G.ab _ (Kit.at_mem hi)
    have ge := G.be _ (Kit.at_mem hi)
    obtain ⟨ta, rows, rfl, hta, hrows⟩ := ht.inv
    have lrows := hrows.length
    rw [List.length_map] at lrows
    -- rows_told  slots: 0 kit, 1 sizes, 2 name, 3 table, 4 ends, 5 found, 6 above, 7 below, 8 worths, 9 row, 10 end, 11 number
    refine ⟨_, (pss_cons (ps_asg (pe_fn F_feet_of (hr.mono (by omega)) (pa_cons (pv 0) (pa_cons (pv 2) pa_nil))) (pg_tup (by rfl) (pgs_cons (pg_name (i := 6) sc_rows_told.nd rfl (by first | exact Or.inl rfl | exact Or.inr rfl)) (pgs_cons (pg_name (i := 7) sc_rows_told.nd rfl (by first | exact Or.inl rfl | exact Or.inr rfl)) pgs_nil))))
    (pss_cons (ps_set (i := 4) sc_rows_told.nd rfl (Or.inl rfl) (pe_fn F_worths_of (hr.mono (by omega)) (pa_cons (pe_fn F_sizes_of (hr.mono (by omega)) (pa_cons (pv 0) (pa_cons (pv 1) (pa_cons (pv 7) pa_nil)))) pa_nil)))
    (pss_cons (ps_set (i := 5) sc_rows_told.nd rfl (Or.inl rfl) pe_dnewT)
    (pss_cons (ps_for PassesOwn.never rfl (pi_zipM (by rfl) B.zip (pa_cons (pe_fn F_worths_of (hr.mono (by omega)) (pa_cons (pe_fn F_sizes_of (hr.mono (by omega)) (pa_cons (pv 0) (pa_cons (pv 1) (pa_cons (pv 6) pa_nil)))) pa_nil)) (pa_cons (pv 3) pa_nil))) (pg_tup (by rfl) (pgs_cons (pg_name (i := 8) sc_rows_told.nd rfl (by first | exact Or.inl rfl | exact Or.inr rfl)) (pgs_cons (pg_name (i := 9) sc_rows_told.nd rfl (by first | exact Or.inl rfl | exact Or.inr rfl)) pgs_nil)))
      (pss_one (ps_dput hu (pv 5) (pv 8) (pe_lc (own := [("end", 10), ("number", 11)]) (g := (gTup K 2 (gCons (gName 10) (gCons (gName 11) gNil)))) rfl sc_rows_told.nd (pi_zipM (by rfl) B.zip (pa_cons (pv 4) (pa_cons (pv 9) pa_nil))) (blkOk_by (by kernel_rfl)) (fun _ _ _ _ _ => (pg_tup (by rfl) (pgs_cons (pg_name (i := 10) sc_rows_told.nd rfl (by first | exact Or.inl rfl | exact Or.inr rfl)) (pgs_cons (pg_name (i := 11) sc_rows_told.nd rfl (by first | exact Or.inl rfl | exact Or.inr rfl)) pgs_nil)))) (fun _ _ _ _ _ => (pts_one (pt_cmpR op_ne (pv 11) pe_int (nomark _)))) (fun _ _ _ _ _ => (pe_tup (pa_cons (pv 10) (pa_cons (pv 11) pa_nil))))) rfl)))
    (pss_one (ps_ret (pv 5))))))), ?_⟩
    refine ⟨_, rfl, _, rfl, k, v, i, rfl, hk, G, hi, fun p a e H1 k1 hp ha he => ?_⟩
    refine ⟨p, _, rfl, SqT.of hp, rfl, _, _, rfl, _, _, rfl, rfl, ?_⟩
    refine ⟨_, rfl, _, rfl, _, rfl, k, v, u, e, _, rfl, hk.k k1, G, hsz.k k1, he, ge.2, by omega, fun s H2 k2 _ hs => ?_⟩
    have k12 := k1.trans k2
    refine ⟨s, _, rfl, hs, by omega, fun p2 us H3 k3 n3 hp2 hus => ?_⟩
    have k13 := k12.trans k3
    refine fun d hd => ?_
    have k24 : Kp no H1 (upd H3 d (.dT [])) := (k2.trans k3).trans (Kp.new hd _)
    have k14 := k1.trans k24
    refine ⟨_, rfl, _, rfl, _, rfl, k, v, u, a, _, rfl, hk.k k14, G, hsz.k k14, k24.get ha, ga.2, by omega, fun s2 H5 k5 _ hs2 => ?_⟩
    refine ⟨s2, _, rfl, hs2, by omega, fun p3 vs H6 k6 n6 hp3 hvs => ?_⟩
    have k46 := k5.trans k6
    have k16 := k14.trans k46
    have lvs := hvs.length
    have lus := hus.length
    rw [List.length_map] at lvs lus
    have hWb := W_le (n := (k.at i).ab.length) (by omega)
    have hWe := W_le (n := (k.at i).be.length) (by omega)
    have nd : H d = none := (k13.none (fun z => z) hd)
    have kd := Kp.new (S := no) hd (.dT [])
    refine ⟨_, rfl, p3, ta, vs, rows, rfl, SqL.of hp3, SqT.of (k16.get hta), for_zipM (K := K) (a := p3) (b := ta) (xs := vs) (ys := rows) (by omega) (fun j σ H7 => ∃ (o8 o9 : Option V) (kvs : List (List Key × V)), σ = [some v, some u, some (.str (k.at i).nm), some (.ref ta), some (.ref p2), some (.ref d), some (.ref a), some (.ref e), o8, o9, none, none] ∧ Kp no H H7 ∧ H7 d = some (.dT kvs) ∧ kvs.length ≤ j ∧
        (∀ idx w, idx < j → (W (k.at i).ab.length)[idx]? = some w → RowOk kvs H7 fl i w) ∧ H7 p2 = some (.lst us) ∧ TDs H7 us ((W (k.at i).be.length).map inD) ∧ H7 p3 = some (.lst vs) ∧ TDs H7 vs ((W (k.at i).ab.length).map inD) ∧ H7 ta = some (.tup rows) ∧ TDs H7 rows ((W (k.at i).ab.length).map fun w => onD (W (k.at i).be.length) (due fl i w)))
      ⟨none, none, [], rfl, k16, k46.get upd_same, Nat.le_refl _, fun idx w z => absurd z (Nat.not_lt_zero _), k46.get (kd.get hp2), (hus.k kd).k k46, hp3, hvs, k16.get hta, hrows.k k16⟩
      (fun j σ H7 ⟨_, _, _, _, _, _, _, _, _, _, h3, _, h4, _⟩ => ⟨SqL.of h3, SqT.of h4⟩) ?_ ?_⟩
    · rintro j x y T σ H7 hx hy ⟨o8, o9, kvs, rfl, k7, hd7, hlen, hrow, hp27, hus7, hp37, hvs7, hta7, hrw7⟩ hT
      have hj : j < (W (k.at i).ab.length).length := by
        have := (List.getElem?_eq_some_iff.mp hx).1
        omega
      have hwj : (W (k.at i).ab.length)[j]? = some (W (k.at i).ab.length)[j] := List.getElem?_eq_getElem hj
      have hwm : (W (k.at i).ab.length)[j] ∈ W (k.at i).ab.length := List.getElem_mem hj
      revert hwj hwm
      generalize (W (k.at i).ab.length)[j] = wj
      intro hwj hwm
      obtain ⟨x2, hx2, hxd⟩ := hvs7.at (d := inD wj) (i := j) (by rw [List.getElem?_map, hwj]; rfl)
      rw [hx] at hx2
      cases hx2
      obtain ⟨xa, rfl, hxa⟩ := hxd.ints_inv
      obtain ⟨y2, hy2, hyd⟩ := hrw7.at (d := onD (W (k.at i).be.length) (due fl i wj)) (i := j) (by rw [List.getElem?_map, hwj]; rfl)
      rw [hy] at hy2
      cases hy2
      obtain ⟨ya, ys, rfl, hya, hys⟩ := hyd.inv
      have lys := hys.length
      rw [List.length_map] at lys
      have kT := Kp.new (S := no) hT (.tup [V.ref xa, V.ref ya])
      have k8 := k7.trans kT
      refine ⟨T, _, rfl, SqT.of upd_same, rfl, _, _, rfl, _, _, rfl, rfl, ?_⟩
      have hdm : due fl i wj ∈ W (k.at i).be.length := mem_W.mpr ⟨due_length F hi wj, due_bits F hi (mem_W.mp hwm).1 (mem_W.mp hwm).2⟩
      obtain ⟨jd, hjd⟩ := List.mem_iff_getElem?.mp hdm
      have hjl : jd < (W (k.at i).be.length).length := (List.getElem?_eq_some_iff.mp hjd).1
      refine ⟨_, rfl, _, rfl, p2, ya, us, ys, rfl, SqL.of (kT.get hp27), SqT.of (kT.get hya), fun D hD => lc_zipM (K := K) (a := p2) (b := ya) (xs := us) (ys := ys) (by omega)
        (fun l H8 => Kp no (upd H7 T (.tup [V.ref xa, V.ref ya])) H8 ∧ ((l ≤ jd ∧ H8 D = some (.lst [])) ∨ (jd < l ∧ ∃ t e, H8 D = some (.lst [.ref t]) ∧ H8 t = some (.tup [.ref e, .int 1]) ∧ H8 e = some (.tup ((due fl i wj).map V.int)))))
        ⟨Kp.new hD _, .inl ⟨Nat.zero_le _, upd_same⟩⟩ (fun l H8 h => ⟨SqL.of (h.1.get (kT.get hp27)), SqT.of (h.1.get (kT.get hya))⟩) ?_ ?_⟩
      · rintro l x y T2 H8 hxl hyl ⟨k9, hD8⟩ hT2
        have hl : l < (W (k.at i).be.length).length := by
          have := (List.getElem?_eq_some_iff.mp hxl).1
          omega
        have hel : (W (k.at i).be.length)[l]? = some (W (k.at i).be.length)[l] := List.getElem?_eq_getElem hl
        revert hel
        generalize (W (k.at i).be.length)[l] = el
        intro hel
        have k79 := kT.trans k9
        have kT2 := Kp.new (S := no) hT2 (.tup [x, y])
        obtain ⟨x2, hx2, hxd⟩ := hus7.at (d := inD el) (i := l) (by rw [List.getElem?_map, hel]; rfl)
        rw [hxl] at hx2
        cases hx2
        obtain ⟨ea, rfl, hea⟩ := hxd.ints_inv
        obtain ⟨y2, hy2, hyd⟩ := hys.at (d := .int (if el = due fl i wj then 1 else 0)) (i := l) (by rw [List.getElem?_map, hel]; rfl)
        rw [hyl] at hy2
        cases hy2
        obtain rfl := hyd.int_inv
        refine ⟨T2, _, rfl, SqT.of upd_same, rfl, _, _, rfl, _, _, rfl, rfl, rfl, ?_⟩
        by_cases hee : el = due fl i wj
        · have hlj : l = jd := nd_ix (nodup_W _) (hee ▸ hel) hjd
          subst hlj
          rw [if_pos hee] at kT2 ⊢
          have hD9 : H8 D = some (.lst []) := by
            rcases hD8 with ⟨_, z⟩ | ⟨z, _⟩
            · exact z
            · exact absurd z (Nat.lt_irrefl _)
          refine ⟨_, rfl, rfl, _, rfl, ?_⟩
          refine iteN (by decide +kernel) ?_
          refine ⟨_, rfl, _, rfl, sz2, fun t2 ht2 => ?_⟩
          have k10 := Kp.new (S := no) ht2 (.tup [V.ref ea, V.int 1])
          have k11 := kT2.trans k10
          refine ⟨[], k11.get hD9, by decide, (k9.trans k11).free hD _, .inr ⟨Nat.lt_succ_self _, t2, ea, upd_same, ?_, ?_⟩⟩
          · rw [upd_ne (ne_of_none (kT2.get hD9) ht2).symm, upd_same]
          · have h9 := k11.get (k79.get hea)
            have hne : ea ≠ D := ne_of h9 (k11.get hD9) (fun z => by cases z)
            rw [upd_ne hne, h9, hee]
        · rw [if_neg hee] at kT2 ⊢
          refine ⟨_, rfl, rfl, _, rfl, ?_⟩
          refine iteNN rfl ?_
          refine ⟨k9.trans kT2, ?_⟩
          rcases hD8 with ⟨z, hz⟩ | ⟨z, t2, e2, hz1, hz2, hz3⟩
          · refine .inl ⟨?_, kT2.get hz⟩
            rcases Nat.lt_or_eq_of_le z with z | z
            · exact z
            · subst z
              rw [hel] at hjd
              exact absurd (Option.some.inj hjd) hee
          · exact .inr ⟨by omega, t2, e2, kT2.get hz1, kT2.get hz2, kT2.get hz3⟩
      · rintro H8 ⟨k9, ⟨z, _⟩ | ⟨_, t2, e2, hz1, hz2, hz3⟩⟩
        · omega
        have k79 := kT.trans k9
        have hd8 := k79.get hd7
        refine ⟨_, rfl, _, rfl, d, _, rfl, .inr ⟨kvs, kW wj, xa, hd8, rfl, by rw [kW_kV]; exact k79.get hxa, szLt (by omega), rfl⟩, ?_⟩
        have kp := Kp.put1 (o := .dT (putK kvs (kW wj) (.ref D))) (dT_tup hd8)
        have nlst : ∀ b ys, one d b → H8 b ≠ some (.lst ys) := fun b ys hb z => by
          rw [show b = d from hb, hd8] at z
          cases z
        have gl : ∀ {b ys}, H8 b = some (.lst ys) → upd H8 d (.dT (putK kvs (kW wj) (.ref D))) b = some (.lst ys) := fun {b ys} z => kp.but _ _ (fun q => nlst b ys q z) z
        refine ⟨_, _, _, rfl, (k7.trans k79).free nd _, upd_same, Nat.le_trans (length_putK _ _ _) (by omega), fun idx w' hidx hw' => ?_, gl (k79.get hp27), (hus7.k k79).k kp, gl (k79.get hp37), (hvs7.k k79).k kp, kp.kt _ _ (k79.get hta7), (hrw7.k k79).k kp⟩
        by_cases hij : idx = j
        · subst hij
          rw [hwj] at hw'
          cases hw'
          exact ⟨D, t2, e2, by rw [valV_put, if_pos rfl], gl hz1, kp.kt _ _ hz2, kp.kt _ _ hz3⟩
        · obtain ⟨l, t, e, h1, h2, h3, h4⟩ := ((((hrow idx w' (by omega) hw').k k79 (fun _ _ z => z.elim))).k kp nlst).ex
          refine ⟨l, t, e, ?_, h2, h3, h4⟩
          rw [valV_put, if_neg (fun z => hij (nd_ix (nodup_W _) hw' (by rw [kW_inj z]; exact hwj))), h1]
    · rintro σ H7 ⟨o8, o9, kvs, rfl, k7, hd7, hlen, hrow, _⟩
      refine ⟨_, rfl, q d H7 k7 nd ⟨kvs, hd7, fun w' hw' => ?_⟩⟩
      obtain ⟨idx, hidx⟩ := List.mem_iff_getElem?.mp hw'
      exact hrow idx w' (by have := (List.getElem?_eq_some_iff.mp hidx).1; omega) hidx
def spThroughBox : Sp := fun vs H Q _ => ∃ (k : Kit) (fl : Fl) (i : Nat) (d x : Addr) (ws : List Str) (w : List Int) (p : Nat), vs = [.ref d, .ref x, .int (p : Nat), .int ((k.at i).ab.length : Nat)] ∧ RowsAt H d k fl i ∧ FlGood k fl ∧ k.Good ∧ i < k.bx.length ∧
  H x = some (.tup (w.map V.int)) ∧ w.length ≤ 8 ∧ p + (k.at i).ab.length ≤ w.length ∧ Bits w ∧
  ∀ l t e H', Kp no H H' → H l = none → H' l = some (.lst [.ref t]) → H' t = some (.tup [.ref e, .int 1]) → H' e = some (.tup ((app p (k.at i).ab.length (due fl i) w).map V.int)) → Q (.ref l) H'
theorem through_box (B : Bi mg) (D : Df K mg "through_box" s_through_box ["rows", "worths", "place", "many"]) : Fn P w K mg base CX0 1 "through_box" ["rows", "worths", "place", "many"] spThroughBox := by
  refine D.fn sc_through_box (fun vs H Q E h => ?_) (fun f cdv A outer s H vs Q E hr h => ?_)
  · obtain ⟨k, fl, i, d, x, ws, w, p, rfl, _⟩ := h
    rfl
  · obtain ⟨k, fl, i, d, x, ws, w, p, rfl, hd, F, G, hi, hx, h8, hle, hb, q⟩ := h
    have hu := hu_of hr
    -- through_box  slots: 0 rows, 1 worths, 2 place, 3 many, 4 ahead, 5 behind, 6 end, 7 number
    refine ⟨_, (pss_cons (ps_set (i := 4) sc_through_box.nd rfl (Or.inr rfl) (pe_slT K (pv 1) po_none (po_some (pv 2))))
    (pss_cons (ps_set (i := 5) sc_through_box.nd rfl (Or.inr rfl) (pe_slT K (pv 1) (po_some (pe_op op_add (pv 2) (pv 3))) po_none))
    (pss_one (ps_ret (pe_lc (own := [("end", 6), ("number", 7)]) (g := (gTup K 2 (gCons (gName 6) (gCons (gName 7) gNil)))) (tt := tYes) rfl sc_through_box.nd (pi_list (pe_dget hu (pv 0) (pe_slT K (pv 1) (po_some (pv 2)) (po_some (pe_op op_add (pv 2) (pv 3)))) (fun _ _ => rfl))) (blkOk_by (by kernel_rfl)) (fun _ _ _ _ _ => (pg_tup (by rfl) (pgs_cons (pg_name (i := 6) sc_through_box.nd rfl (by first | exact Or.inl rfl | exact Or.inr rfl)) (pgs_cons (pg_name (i := 7) sc_through_box.nd rfl (by first | exact Or.inl rfl | exact Or.inr rfl)) pgs_nil)))) (fun _ _ _ _ _ => pts_nil) (fun _ _ _ _ _ => (pe_tup (pa_cons (pe_catT K (pe_catT K (pv 4) (pv 6)) (pv 5)) (pa_cons (pv 7) pa_nil))))))))), ?_⟩
    obtain ⟨kvs, hdk, hrow⟩ := hd
    have lc := cut_length hle
    have hw2 : (w.drop p).take (k.at i).ab.length ∈ W (k.at i).ab.length := mem_W.mpr ⟨lc, bits_cut hb _ _⟩
    have ld := due_length F hi ((w.drop p).take (k.at i).ab.length)
    have ge := G.be _ (Kit.at_mem hi)
    refine ⟨_, rfl, _, rfl, _, rfl, ?_⟩
    refine slA hx fun c1 H1 k1 hc1 => ?_
    rw [cut_to] at hc1
    refine ⟨_, rfl, _, rfl, _, rfl, _, _, rfl, rfl, _, rfl, ?_⟩
    refine slN (k1.get hx) fun c2 H2 k2 hc2 => ?_
    have k12 := k1.trans k2
    have e3 : ((p : Int) + ((k.at i).ab.length : Nat)) = ((p + (k.at i).ab.length : Nat) : Int) := by omega
    rw [e3, cut_from] at hc2
    refine ⟨_, rfl, _, rfl, _, rfl, _, rfl, _, rfl, _, rfl, _, _, rfl, rfl, _, rfl, ?_⟩
    refine slA (k12.get hx) fun c3 H3 k3 hc3 => ?_
    have k13 := k12.trans k3
    rw [cut_mid (by rw [List.length_map]; exact hle), ← List.map_drop, ← List.map_take] at hc3
    obtain ⟨l, t, e, h1, h2, h3, h4⟩ := ((hrow _ hw2).k k13 (fun _ _ z => z.elim)).ex
    refine ⟨d, .ref l, rfl, .inr ⟨kvs, kW _, c3, .inl (k13.get hdk), rfl, by rw [kW_kV]; exact hc3, h1.symm⟩, ?_⟩
    refine ⟨l, rfl, ⟨_, SqL.of h2⟩, fun D hD => lcg_L (K := K) (a := l) (xs := [.ref t]) (fun j H4 => Kp no H3 H4 ∧ ((j = 0 ∧ H4 D = some (.lst [])) ∨ (j = 1 ∧ ∃ t e, H4 D = some (.lst [.ref t]) ∧ H4 t = some (.tup [.ref e, .int 1]) ∧ H4 e = some (.tup ((app p (k.at i).ab.length (due fl i) w).map V.int)))))
      ⟨Kp.new hD _, .inl ⟨rfl, upd_same⟩⟩ (fun j H4 h => SqL.of (h.1.get h2)) ?_ ?_⟩
    · rintro j x H4 hj ⟨k4, hD4⟩
      have hj0 : j = 0 := by
        have := (List.getElem?_eq_some_iff.mp hj).1
        simpa using this
      subst hj0
      cases hj
      have hD5 : H4 D = some (.lst []) := by
        rcases hD4 with ⟨_, z⟩ | ⟨z, _⟩
        · exact z
        · cases z
      refine ⟨t, _, rfl, SqT.of (k4.get h3), rfl, _, _, rfl, _, _, rfl, rfl, rfl, yesI ?_⟩
      refine ⟨_, rfl, _, rfl, ?_⟩
      have k24 := k3.trans k4
      refine catA ((k2.trans k24).get hc1) (k4.get h4) (szL ?_) fun c5 H5 k5 hc5 => ?_
      · rw [List.length_take, List.length_map, List.length_map, ld]
        omega
      refine ⟨_, rfl, ?_⟩
      refine catA hc5 ((k24.trans k5).get hc2) (szL ?_) fun c6 H6 k6 hc6 => ?_
      · rw [List.length_append, List.length_take, List.length_drop, List.length_map, List.length_map, ld]
        omega
      refine ⟨_, rfl, sz2, fun t2 ht2 => ?_⟩
      have k7 := Kp.new (S := no) ht2 (.tup [V.ref c6, V.int 1])
      have k47 := (k5.trans k6).trans k7
      refine ⟨[], k47.get hD5, by decide, ?_⟩
      have k48 := (k4.trans k47).free hD (.lst ([] ++ [V.ref t2]))
      have nt : ∀ b xs, (upd H6 t2 (.tup [V.ref c6, V.int 1])) b = some (.tup xs) → b ≠ D := fun b xs hb z => by
        rw [z, k47.get hD5] at hb
        cases hb
      refine ⟨k48, .inr ⟨rfl, t2, c6, upd_same, ?_, ?_⟩⟩
      · rw [upd_ne (nt _ _ upd_same), upd_same]
      · rw [upd_ne (nt _ _ (k7.get hc6)), k7.get hc6, app, List.map_append, List.map_append, List.map_take, List.map_drop]
    · rintro H4 ⟨k4, ⟨z, _⟩ | ⟨_, t2, e2, h5, h6, h7⟩⟩
      · cases z
      · exact q D t2 e2 H4 (k13.trans k4) (k13.none (fun z => z) hD) h5 h6 h7
def spThroughWires : Sp := fun vs H Q _ => ∃ (k : Kit) (u x : Addr) (w : List Int) (p : Nat) (z : Int), vs = [.ref u, .int z, .ref x, .int (p : Nat)] ∧ TD H (.ref u) (Stp.D k .cross) ∧ H x = some (.tup (w.map V.int)) ∧ w.length ≤ 8 ∧ p + 2 ≤ w.length ∧
  ∀ l t e H', Kp no H H' → H l = none → H' l = some (.lst [.ref t]) → H' t = some (.tup [.ref e, .int 1]) → H' e = some (.tup ((app p 2 List.reverse w).map V.int)) → Q (.ref l) H'
theorem through_wires (B : Bi mg) (D : Df K mg "through_wires" s_through_wires ["step", "size", "worths", "place"]) : Fn P w K mg base CX0 1 "through_wires" ["step", "size", "worths", "place"] spThroughWires := by
  refine D.fn sc_through_wires (fun vs H Q E h => ?_) (fun f cdv A outer s H vs Q E hr h => ?_)
  · obtain ⟨k, u, x, w, p, z, rfl, _⟩ := h
    rfl
  · obtain ⟨k, u, x, w, p, z, rfl, hu0, hx, h8, hle, q⟩ := h
    -- through_wires  slots: 0 step, 1 size, 2 worths, 3 place, 4 two, 5 worth
    refine ⟨_, (pss_cons (ps_if (pt_cmpR op_eq (pe_ixT K (pv 0) pe_int) pe_str (nomark _))
      (pss_cons (ps_set (i := 4) sc_through_wires.nd rfl (Or.inl rfl) (pe_tup (pa_cons (pe_ixT K (pv 2) (pe_op op_add (pv 3) pe_int)) (pa_cons (pe_ixT K (pv 2) (pv 3)) pa_nil))))
      (pss_one (ps_ret (pe_lst (pa_cons (pe_tup (pa_cons (pe_catT K (pe_catT K (pe_slT K (pv 2) po_none (po_some (pv 3))) (pv 4)) (pe_slT K (pv 2) (po_some (pe_op op_add (pv 3) pe_int)) po_none)) (pa_cons pe_int pa_nil))) pa_nil)))))
      pss_nil)
    (pss_cons (ps_if (pt_cmpR op_eq (pe_ixT K (pv 0) pe_int) pe_str (nomark _))
      pss_never
      pss_nil)
    (pss_cons (ps_if (pt_cmpR op_eq (pe_ixT K (pv 2) (pv 3)) (pe_ixT K (pv 2) (pe_op op_add (pv 3) pe_int)) (nomark _))
      (pss_one (ps_ret (pe_lst (pa_cons (pe_tup (pa_cons (pe_catT K (pe_slT K (pv 2) po_none (po_some (pv 3))) (pe_slT K (pv 2) (po_some (pe_op op_add (pv 3) pe_int)) po_none)) (pa_cons pe_int pa_nil))) pa_nil))))
      pss_nil)
    (pss_one (ps_ret (pe_lst pa_nil)))))), ?_⟩
    have hs := stp_cross hu0
    have e1 : ((p : Int) + 1) = ((p + 1 : Nat) : Int) := by omega
    have e2 : ((p : Int) + 2) = ((p + 2 : Nat) : Int) := by omega
    have g0 : (w.map V.int)[p]? = some (.int w[p]) := by rw [List.getElem?_map, List.getElem?_eq_getElem (by omega)]; rfl
    have g1 : (w.map V.int)[p + 1]? = some (.int w[p + 1]) := by rw [List.getElem?_map, List.getElem?_eq_getElem (by omega)]; rfl
    refine ⟨_, rfl, u, _, 0, _, rfl, rfl, SqT.of hs, rfl, rfl, _, rfl, iteD rfl ?_⟩
    refine ⟨_, rfl, _, rfl, _, _, rfl, rfl, x, _, _, _, rfl, rfl, SqT.of hx, by rw [e1]; exact atI_nat g1, _, rfl, _, rfl, x, _, _, _, rfl, rfl, SqT.of hx, atI_nat g0, sz2, fun c0 hc0 => ?_⟩
    have k0 := Kp.new (S := no) hc0 (.tup [V.int w[p + 1], V.int w[p]])
    have hc0' : (upd H c0 (.tup [V.int w[p + 1], V.int w[p]])) c0 = some (.tup [V.int w[p + 1], V.int w[p]]) := upd_same
    refine ⟨_, rfl, _, rfl, _, rfl, ?_⟩
    refine slA (k0.get hx) fun c1 H1 k1 hc1 => ?_
    rw [cut_to] at hc1
    refine ⟨_, rfl, ?_⟩
    refine catA hc1 (k1.get hc0') (szL ?_) fun c2 H2 k2 hc2 => ?_
    · rw [List.length_take, List.length_map]
      show min p w.length + 2 ≤ 100000
      omega
    have k12 := (k0.trans k1).trans k2
    refine ⟨_, rfl, _, rfl, _, _, rfl, rfl, _, rfl, ?_⟩
    refine slN (k12.get hx) fun c3 H3 k3 hc3 => ?_
    rw [e2, cut_from] at hc3
    refine catA (k3.get hc2) hc3 (szL ?_) fun c4 H4 k4 hc4 => ?_
    · rw [List.length_append, List.length_take, List.length_drop, List.length_map]
      show min p w.length + 2 + (w.length - (p + 2)) ≤ 100000
      omega
    have k14 := (k12.trans k3).trans k4
    refine ⟨sz2, fun t ht => ⟨sz1, fun l hl => ?_⟩⟩
    have k5 := Kp.new (S := no) ht (.tup [V.ref c4, V.int 1])
    have k6 := Kp.new (S := no) hl (.lst [V.ref t])
    refine q l t c4 _ ((k14.trans k5).trans k6) ((k14.trans k5).none (fun z => z) hl) upd_same (k6.get upd_same) (k6.get (k5.get ?_))
    rw [hc4]
    have e5 : (w.drop p).take 2 = [w[p], w[p + 1]] := by
      rw [List.drop_eq_getElem_cons (by omega), List.drop_eq_getElem_cons (by omega)]
      rfl
    unfold app
    rw [e5, List.map_append, List.map_append, List.map_take, List.map_drop]
    rfl
end
end SW
/-! SwD6: the class Going. -/
namespace SW
open PySem PySem.Spec PyProof.Rows L2
theorem Kp.shed {S : Addr → Prop} {H H1 H2 : Hp} (k1 : Kp no H H1) (k2 : Kp S H1 H2) (h : ∀ b, S b → H b = Option.none) : Kp no H H2 :=
  ⟨fun b o _ hb => k2.but _ _ (fun z => by rw [h b z] at hb; cases hb) (k1.get hb), k1.kt.trans k2.kt, fun b o xs hb => k2.fz _ _ _ (k1.fz _ _ _ hb)⟩
/-- a thing is locked, and let go again -/
theorem Kp.unlock {S : Addr → Prop} {H H' : Hp} {d : Addr} {od : Obj} {u : HO} (hd : H d = some u) (hw : Wr H d) (x : Kp S (upd H d (.frz od u)) H') : Kp S H (upd H' d u) := by
  refine ⟨fun b o n hb => ?_, fun b xs hb => ?_, fun b o xs hb => ?_⟩
  · by_cases e : b = d
    · rw [e] at hb ⊢
      rw [upd_same]
      exact hd.symm.trans hb
    · rw [upd_ne e]
      exact x.but b o n (by rw [upd_ne e]; exact hb)
  · have e : b ≠ d := fun z => hw.1 xs (z ▸ hb)
    rw [upd_ne e]
    exact x.kt b xs (by rw [upd_ne e]; exact hb)
  · have e : b ≠ d := fun z => hw.2 o xs (z ▸ hb)
    rw [upd_ne e]
    exact x.fz b o xs (by rw [upd_ne e]; exact hb)
/-! ### a memo: by a box's name, what stands for it -/
structure Memo (H : Hp) (dk : Addr) (k : Kit) (At : Nat → Addr → Prop) : Prop where
  ex : ∃ (kvs : List (Key × V)) (l : List Nat), H dk = some (.dK kvs) ∧ l.Nodup ∧ (∀ i ∈ l, i < k.bx.length ∧ (valV kvs (.inr (k.at i).nm)).isSome = true) ∧ kvs.length ≤ l.length ∧
    ∀ i, i < k.bx.length → ∀ x, valV kvs (.inr (k.at i).nm) = some x → ∃ d, x = .ref d ∧ At i d
theorem Memo.k {S : Addr → Prop} {H H' : Hp} {dk : Addr} {k : Kit} {At At' : Nat → Addr → Prop} (x : Kp S H H') (hd : ¬ S dk) (h : Memo H dk k At) (ha : ∀ i d, At i d → At' i d) : Memo H' dk k At' := by
  obtain ⟨kvs, l, h1, h2, h3, h4, h5⟩ := h.ex
  refine ⟨kvs, l, x.but _ _ hd h1, h2, h3, h4, fun i hi v hv => ?_⟩
  obtain ⟨d, e, a⟩ := h5 i hi v hv
  exact ⟨d, e, ha i d a⟩
theorem nodup_le : ∀ {n : Nat} {l : List Nat}, l.Nodup → (∀ i ∈ l, i < n) → l.length ≤ n
  | 0, l, _, h => by
    cases l with
    | nil => exact Nat.le_refl _
    | cons a r => exact absurd (h a List.mem_cons_self) (Nat.not_lt_zero _)
  | n + 1, l, hn, h => by
    have h1 := nodup_le (n := n) (l := l.erase n) (hn.erase n) fun i hi => by
      obtain ⟨h2, h3⟩ := (List.Nodup.mem_erase_iff hn).mp hi
      have := h i h3
      omega
    rw [List.length_erase] at h1
    split at h1 <;> omega
theorem Memo.new {H : Hp} {dk : Addr} {k : Kit} {At : Nat → Addr → Prop} (h : H dk = some (.dK [])) : Memo H dk k At := ⟨[], [], h, List.nodup_nil, fun i hi => (by cases hi), Nat.le_refl _, fun i _ v hv => (by cases hv)⟩
theorem nm_inj {k : Kit} (G : k.Good) {i j : Nat} (hi : i < k.bx.length) (hj : j < k.bx.length) (e : (k.at i).nm = (k.at j).nm) : i = j := by
  refine nd_ix G.nd (x := (k.at i).nm) ?_ ?_
  · rw [List.getElem?_map, Kit.at_get hi]; rfl
  · rw [List.getElem?_map, Kit.at_get hj, e]; rfl
/-- a new entry -/
theorem Memo.put {H : Hp} {dk : Addr} {k : Kit} {At At' : Nat → Addr → Prop} (G : k.Good) {i : Nat} (hi : i < k.bx.length) {d : Addr} {kvs : List (Key × V)} {l : List Nat} (h2 : l.Nodup) (h3 : ∀ i ∈ l, i < k.bx.length ∧ (valV kvs (.inr (k.at i).nm)).isSome = true) (h4 : kvs.length ≤ l.length)
    (h5 : ∀ i, i < k.bx.length → ∀ x, valV kvs (.inr (k.at i).nm) = some x → ∃ d, x = .ref d ∧ At' i d) (hv : valV kvs (.inr (k.at i).nm) = none) (ha : At' i d) : Memo (upd H dk (.dK (putK kvs (.inr (k.at i).nm) (.ref d)))) dk k At' := by
  have ni : i ∉ l := fun z => by
    have := (h3 i z).2
    rw [hv] at this
    cases this
  refine ⟨_, i :: l, upd_same, List.nodup_cons.mpr ⟨ni, h2⟩, fun j hj => ?_, Nat.le_trans (length_putK _ _ _) (by rw [List.length_cons]; omega), fun j hj x hx => ?_⟩
  · rcases List.mem_cons.mp hj with e | e
    · subst e
      exact ⟨hi, by rw [valV_put, if_pos rfl]; rfl⟩
    · refine ⟨(h3 j e).1, ?_⟩
      rw [valV_put]
      split
      · rfl
      · exact (h3 j e).2
  · rw [valV_put] at hx
    by_cases e : j = i
    · subst e
      rw [if_pos rfl] at hx
      exact ⟨d, (Option.some.inj hx).symm, ha⟩
    · rw [if_neg (fun z => e (nm_inj G hj hi (Sum.inr.inj z)))] at hx
      exact h5 j hj x hx
/-! ### Going -/
theorem putF_len (f : Str) (v : V) : ∀ fs : List (Str × V), (putF f v fs).length ≤ fs.length + 1
  | [] => Nat.le_refl _
  | (g, x) :: r => by
    unfold putF
    split
    · exact Nat.le_succ _
    · exact Nat.succ_le_succ (putF_len f v r)
theorem putF_len2 {f : Str} {v : V} {fs : List (Str × V)} {n : Nat} (h : fs.length ≤ n) : (putF f v fs).length ≤ n + 1 := Nat.le_trans (putF_len f v fs) (by omega)
theorem nil_len : ([] : List (Str × V)).length ≤ 0 := Nat.le_refl 0
theorem putF_k {n : Nat} {fs : List (Str × V)} (h : fs.length ≤ n) (hn : n < 1000) : fs.length < 1000 := Nat.lt_of_le_of_lt h hn
def fsG (v u t d : V) : List (Str × V) := putF "known_rows" d (putF "tables" t (putF "sizes" u (putF "kit" v [])))
section
variable {v u t d : V}
theorem fsG_kit : (fsG v u t d).lookup ("kit" : Str) = some v := by
  unfold fsG
  rw [lookup_putF, if_neg (by decide +kernel), lookup_putF, if_neg (by decide +kernel), lookup_putF, if_neg (by decide +kernel), lookup_putF, if_pos rfl]
theorem fsG_sizes : (fsG v u t d).lookup ("sizes" : Str) = some u := by
  unfold fsG
  rw [lookup_putF, if_neg (by decide +kernel), lookup_putF, if_neg (by decide +kernel), lookup_putF, if_pos rfl]
theorem fsG_tables : (fsG v u t d).lookup ("tables" : Str) = some t := by
  unfold fsG
  rw [lookup_putF, if_neg (by decide +kernel), lookup_putF, if_pos rfl]
theorem fsG_rows : (fsG v u t d).lookup ("known_rows" : Str) = some d := by
  unfold fsG
  rw [lookup_putF, if_pos rfl]
theorem fsG_no {f : Str} (h1 : ¬ f = "known_rows") (h2 : ¬ f = "tables") (h3 : ¬ f = "sizes") (h4 : ¬ f = "kit") : (fsG v u t d).lookup f = none := by
  unfold fsG
  rw [lookup_putF, if_neg h1, lookup_putF, if_neg h2, lookup_putF, if_neg h3, lookup_putF, if_neg h4]
  rfl
end
structure CG (K : PySem.W.Frag) (C : Addr) : Prop where
  c : Cls K C
  kit : NoAttr K C "kit"
  sizes : NoAttr K C "sizes"
  tables : NoAttr K C "tables"
  rows : NoAttr K C "known_rows"
def tabsOf (k : Kit) (fl : Fl) : PyData := .tuple ((List.range k.bx.length).map (tabD k fl))
structure Go (H : Hp) (x C dk : Addr) (k : Kit) (fl : Fl) : Prop where
  ex : ∃ dx v u t, H x = some (.ins C dx (fsG v u t (.ref dk))) ∧ KitAt H v k ∧ TD H u (szD k) ∧ TD H t (tabsOf k fl)
  me : Memo H dk k (fun i d => RowsAt H d k fl i)
theorem Go.kS {S : Addr → Prop} {H H' : Hp} {x C dk : Addr} {k : Kit} {fl : Fl} (q : Kp S H H') (hx : ¬ S x) (hk : ¬ S dk) (hS : ∀ b ys, S b → H b ≠ some (.lst ys)) (hr : ∀ d i, S d → ¬ RowsAt H d k fl i) (h : Go H x C dk k fl) : Go H' x C dk k fl := by
  obtain ⟨dx, v, u, t, h1, h2, h3, h4⟩ := h.ex
  exact ⟨⟨dx, v, u, t, q.but _ _ hx h1, h2.k q, h3.k q, h4.k q⟩, h.me.k q hk fun i d a => a.k q hS (fun z => hr d i z a)⟩
theorem Go.k {H H' : Hp} {x C dk : Addr} {k : Kit} {fl : Fl} (q : Kp no H H') (h : Go H x C dk k fl) : Go H' x C dk k fl := h.kS q (fun z => z) (fun z => z) (fun _ _ z => z.elim) fun _ _ z => z.elim
section
variable {P : Program} {w : World} {K : PySem.W.Frag} {mg : Str → Option Value} {base : Heap} {C : Addr}
def spGoingInit (C : Addr) : Sp := fun vs H Q _ => ∃ (k : Kit) (fl : Fl) (x dx : Addr) (v u t : V), vs = [.ref x, v, u, t] ∧ H x = some (.ins C dx []) ∧ KitAt H v k ∧ TD H u (szD k) ∧ TD H t (tabsOf k fl) ∧
  ∀ dk H', Kp (one x) H H' → H dk = none → Go H' x C dk k fl → Q .non H'
theorem Going_init (c : CG K C) (D : If K mg C "Going" "Going.__init__" s_Going_init ["self", "kit", "sizes", "tables"]) : Fi P w K mg base CX0 1 C "Going" ["self", "kit", "sizes", "tables"] (spGoingInit C) := by
  refine D.fi sc_Going_init (fun vs H Q E h => ?_) (fun f cdv A outer s H vs Q E hr h => ?_)
  · obtain ⟨k, fl, x, dx, v, u, t, rfl, _⟩ := h
    rfl
  · obtain ⟨k, fl, x, dx, v, u, t, rfl, hx, hk, hu, ht, q⟩ := h
    -- Going.__init__  slots: 0 self, 1 kit, 2 sizes, 3 tables
    refine ⟨_, (pss_cons (ps_fld (pv 0) (pv 1) rfl)
    (pss_cons (ps_fld (pv 0) (pv 2) rfl)
    (pss_cons (ps_fld (pv 0) (pv 3) rfl)
    (pss_one (ps_fld (pv 0) pe_dnewK rfl))))), ?_⟩
    refine ⟨_, rfl, _, rfl, x, C, dx, _, rfl, hx, c.c, c.kit, by decide, ?_⟩
    refine ⟨_, rfl, _, rfl, x, C, dx, _, rfl, upd_same, c.c, c.sizes, putF_k (n := 1) (putF_len2 nil_len) (by decide), ?_⟩
    refine ⟨_, rfl, _, rfl, x, C, dx, _, rfl, upd_same, c.c, c.tables, putF_k (n := 2) (putF_len2 (putF_len2 nil_len)) (by decide), fun dk hdk => ?_⟩
    rw [upd_upd, upd_upd] at hdk ⊢
    have k1 : Kp (one x) H (upd H x (.ins C dx (putF "tables" t (putF "sizes" u (putF "kit" v []))))) := Kp.put1 (ins_tup hx)
    have hne : x ≠ dk := ne_of_none upd_same hdk
    refine ⟨_, rfl, x, C, dx, _, rfl, by rw [upd_ne hne]; exact upd_same, c.c, c.rows, putF_k (n := 3) (putF_len2 (putF_len2 (putF_len2 nil_len))) (by decide), ?_⟩
    have k2 := Kp.new (S := one x) hdk (.dK [])
    have hx2 : (upd (upd H x (.ins C dx (putF "tables" t (putF "sizes" u (putF "kit" v []))))) dk (.dK [])) x = some (.ins C dx (putF "tables" t (putF "sizes" u (putF "kit" v [])))) := by rw [upd_ne hne]; exact upd_same
    have k3 := Kp.put1 (o := .ins C dx (fsG v u t (.ref dk))) (ins_tup hx2)
    have k13 := (k1.trans k2).trans k3
    refine q dk _ k13 (by rw [upd_ne hne.symm] at hdk; exact hdk) ⟨⟨dx, v, u, t, upd_same, hk.k k13, hu.k k13, ht.k k13⟩, Memo.new (by rw [upd_ne hne.symm, upd_same])⟩
def spRowsOf (C : Addr) : Sp := fun vs H Q _ => ∃ (k : Kit) (fl : Fl) (x dk : Addr) (i : Nat), vs = [.ref x, .str (k.at i).nm] ∧ Go H x C dk k fl ∧ k.Good ∧ FlGood k fl ∧ i < k.bx.length ∧
  ∀ d H', Kp (one dk) H H' → Go H' x C dk k fl → RowsAt H' d k fl i → Q (.ref d) H'
theorem Going_rows_of (B : Bi mg) (c : CG K C) (D : Mf K C "rows_of" "Going.rows_of" s_Going_rows_of ["self", "name"]) (F_box_number : Fn P w K mg base CX0 1 "box_number" ["kit", "name"] spBoxNumber)
    (F_rows_told : Fn P w K mg base CX0 3 "rows_told" ["kit", "sizes", "name", "table"] spRowsTold) : Fm P w K mg base CX0 4 C "rows_of" ["self", "name"] (spRowsOf C) := by
  refine D.fm sc_Going_rows_of (fun vs H Q E h => ?_) (fun f cdv A outer s H vs Q E hr h => ?_)
  · obtain ⟨k, fl, x, dk, i, rfl, _⟩ := h
    rfl
  · obtain ⟨k, fl, x, dk, i, rfl, hg, G, F, hi, q⟩ := h
    have hu := hu_of hr
    obtain ⟨dx, v, u, t, hx, hk, hsz, ht⟩ := hg.ex
    obtain ⟨kvs, l, hdk, h2, h3, h4, h5⟩ := hg.me.ex
    have hl := nodup_le h2 fun i hi => (h3 i hi).1
    have l8 := G.b8
    obtain ⟨ta, ts, rfl, hta, hts⟩ := ht.inv
    -- Going.rows_of  slots: 0 self, 1 name, 2 table
    refine ⟨_, (pss_cons (ps_if (pt_cmp (pc_dnotin hu (pv 1) (pe_fldK K (pv 0))))
      (pss_cons (ps_set (i := 2) sc_Going_rows_of.nd rfl (Or.inl rfl) (pe_ixT K (pe_fldK K (pv 0)) (pe_fn F_box_number (hr.mono (by omega)) (pa_cons (pe_fldK K (pv 0)) (pa_cons (pv 1) pa_nil)))))
      (pss_one (ps_dput hu (pe_fldK K (pv 0)) (pv 1) (pe_fn F_rows_told (hr.mono (by omega)) (pa_cons (pe_fldK K (pv 0)) (pa_cons (pe_fldK K (pv 0)) (pa_cons (pv 1) (pa_cons (pv 2) pa_nil))))) rfl)))
      pss_nil)
    (pss_one (ps_ret (pe_dget hu (pe_fldK K (pv 0)) (pv 1) (fun _ _ => rfl))))), ?_⟩
    refine ⟨_, rfl, _, rfl, x, C, dx, _, _, rfl, hx, c.c, c.rows, fsG_rows, dk, _, rfl, DGet.k (k := .inr (k.at i).nm) hdk, _, rfl, ?_⟩
    cases hv : valV kvs (.inr (k.at i).nm) with
    | some y =>
      obtain ⟨d, rfl, hrow⟩ := h5 i hi y hv
      show tNext _ _ _
      refine ⟨_, rfl, x, C, dx, _, _, rfl, hx, c.c, c.rows, fsG_rows, _, rfl, dk, .ref d, rfl, ?_, q d H (Kp.refl H) hg hrow⟩
      rw [← hv]
      exact DGet.k (k := .inr (k.at i).nm) hdk
    | none =>
      obtain ⟨tv, htv, htd⟩ := hts.at (i := i) (d := tabD k fl i) (by rw [List.getElem?_map, List.getElem?_range hi]; rfl)
      refine ⟨_, rfl, x, C, dx, _, _, rfl, hx, c.c, c.tables, fsG_tables, _, rfl, x, C, dx, _, _, rfl, hx, c.c, c.kit, fsG_kit, _, rfl, k, v, i, rfl, hk, G, hi, fun H1 k1 => ?_⟩
      refine ⟨ta, _, i, _, rfl, rfl, SqT.of (k1.get hta), atI_nat htv, ?_⟩
      have hx1 := k1.get hx
      refine ⟨_, rfl, x, C, dx, _, _, rfl, hx1, c.c, c.kit, fsG_kit, _, rfl, x, C, dx, _, _, rfl, hx1, c.c, c.sizes, fsG_sizes, _, rfl, _, rfl, k, fl, i, v, u, tv, rfl, hk.k k1, G, F, hi, hsz.k k1, htd.k k1, fun d H2 k2 nd hrow => ?_⟩
      have k12 := k1.trans k2
      have hx2 := k12.get hx
      have hdk2 := k12.get hdk
      refine ⟨_, rfl, x, C, dx, _, _, rfl, hx2, c.c, c.rows, fsG_rows, _, rfl, dk, _, rfl, DPut.k (k := .inr (k.at i).nm) hdk2 (szLt (by omega)), ?_⟩
      have kp := Kp.put1 (o := .dK (putK kvs (.inr (k.at i).nm) (.ref d))) (dK_tup hdk2)
      have k13 : Kp (one dk) H _ := (k12.w).trans kp
      have xne : ¬ one dk x := fun z => by rw [show x = dk from z, hdk2] at hx2; cases hx2
      have nls : ∀ b ys, one dk b → H2 b ≠ some (.lst ys) := fun b ys z e => by rw [show b = dk from z, hdk2] at e; cases e
      have nr : ∀ d i, RowsAt H2 d k fl i → ¬ one dk d := fun d i ⟨kv, z, _⟩ e => by rw [show d = dk from e, hdk2] at z; cases z
      have rw3 : ∀ i d, RowsAt H2 d k fl i → RowsAt (upd H2 dk (.dK (putK kvs (.inr (k.at i).nm) (.ref d)))) d k fl i := fun i d a => a.k (Kp.put1 (dK_tup hdk2)) nls (nr d i a)
      have hx3 := kp.but _ _ xne hx2
      have go3 : Go (upd H2 dk (.dK (putK kvs (.inr (k.at i).nm) (.ref d)))) x C dk k fl := ⟨⟨dx, v, u, _, hx3, hk.k k13, hsz.k k13, ht.k k13⟩, Memo.put (At := fun i d => RowsAt H d k fl i) G hi h2 h3 h4 (fun j hj y hy => by
        obtain ⟨d', e, a⟩ := h5 j hj y hy
        exact ⟨d', e, (a.k k12 (fun _ _ z => z.elim) (fun z => z)).k kp nls (nr d' j (a.k k12 (fun _ _ z => z.elim) (fun z => z)))⟩) hv (rw3 i d hrow)⟩
      refine ⟨_, rfl, x, C, dx, _, _, rfl, hx3, c.c, c.rows, fsG_rows, _, rfl, dk, .ref d, rfl, ?_, q d _ k13 go3 (rw3 i d hrow)⟩
      have e : (some (V.ref d)) = valV (putK kvs (.inr (k.at i).nm) (.ref d)) (.inr (k.at i).nm) := by rw [valV_put, if_pos rfl]
      rw [e]
      exact DGet.k (k := .inr (k.at i).nm) upd_same
end
end SW
/-! SwD7: Going.through. -/
namespace SW
open PySem PySem.Spec PyProof.Rows L2
theorem for_itiT {d : Addr} {o : Obj} {kvs : List (List Key × V)} {g : TG} {tb : TS} {D : Ends} {σ : L2.St} {H : Hp} (Pv : Nat → L2.St → Hp → Prop) (h0 : Pv 0 σ H) (hq : ∀ i σ H, Pv i σ H → H d = some (.frz o (.dT kvs)))
    (hs : ∀ (i : Nat) (k : List Key) (v : V) (T q : Addr) (σ : L2.St) (H : Hp), kvs[i]? = some (k, v) → Pv i σ H → H T = none → H q = some (.tup (k.map kV)) → g (.ref T) σ (upd H T (.tup [.ref q, v])) fun σ2 H2 => tb { D with nx := Pv (i + 1), ct := Pv (i + 1), bk := D.nx } σ2 H2) (hd : ∀ σ H, Pv kvs.length σ H → D.nx σ H) :
    ∃ W : Nat → Nat → L2.St → Hp → Prop, (∃ m, W 0 m σ H) ∧ ∀ i m σ H, W i m σ H →
      ((ItiT d o kvs).stop i H ∧ D.nx σ H) ∨ ((ItiT d o kvs).go i H ∧ ∃ N : L2.St → Hp → Prop, (∀ σ' H', N σ' H' → ∃ m', m' < m ∧ W (i + 1) m' σ' H') ∧ ∀ v H', (ItiT d o kvs).yld i H v H' → g v σ H' fun σ2 H2 => tb { D with nx := N, ct := N, bk := D.nx } σ2 H2) := by
  refine ⟨fun i m σ H => m = kvs.length - i ∧ i ≤ kvs.length ∧ Pv i σ H, ⟨kvs.length, rfl, Nat.zero_le _, h0⟩, ?_⟩
  rintro i m σ H ⟨rfl, hi, p⟩
  have q := hq i σ H p
  by_cases hlt : i < kvs.length
  · refine .inr ⟨⟨q, hlt⟩, Pv (i + 1), fun σ' H' p' => ⟨kvs.length - (i + 1), by omega, rfl, hlt, p'⟩, fun v H' y => ?_⟩
    obtain ⟨T, k, u, c, hk, rfl, hT, hc, rfl⟩ := y
    exact hs i k u T c σ H hk p hT hc
  · have e : i = kvs.length := by omega
    subst e
    exact .inl ⟨⟨q, Nat.le_refl _⟩, hd σ H p⟩
theorem bx_cup : ¬ V.str "box" = V.str "cup" := by decide +kernel
section
variable {P : Program} {w : World} {K : PySem.W.Frag} {mg : Str → Option Value} {base : Heap} {C : Addr}
def spSizeOf : Sp := fun vs H Q _ => ∃ (k : Kit) (x : V) (u : Addr) (st : Stp), vs = [x, .ref u] ∧ TD H (.ref u) (st.D k) ∧ Q (.int 0) H
theorem Going_size_of (B : Bi mg) (D : Mf K C "size_of" "Going.size_of" s_Going_size_of ["self", "step"]) : Fm P w K mg base CX0 1 C "size_of" ["self", "step"] spSizeOf := by
  refine D.fm sc_Going_size_of (fun vs H Q E h => ?_) (fun f cdv A outer s H vs Q E hr h => ?_)
  · obtain ⟨k, x, u, st, rfl, _⟩ := h
    rfl
  · obtain ⟨k, x, u, st, rfl, hu, q⟩ := h
    -- Going.size_of  slots: 0 self, 1 step
    refine ⟨_, (pss_cons (ps_if (pt_cmpR op_ne (pe_ixT K (pv 1) pe_int) pe_str (nomark _))
      (pss_one (ps_ret pe_int))
      pss_nil)
    (pss_one (ps_ret (pe_ixT K (pe_fldK K (pv 0)) (pe_tidxF K (pe_ixT K (pe_fldK K (pv 0)) pe_int) (pa_cons (pe_ixT K (pv 1) pe_int) pa_nil)))))), ?_⟩
    cases st with
    | box i =>
      have hs := stp_box hu
      exact ⟨_, rfl, u, _, 0, _, rfl, rfl, SqT.of hs, rfl, rfl, _, rfl, iteN bx_cup q⟩
    | cross =>
      have hs := stp_cross hu
      exact ⟨_, rfl, u, _, 0, _, rfl, rfl, SqT.of hs, rfl, rfl, _, rfl, iteN cr_cup q⟩
def spThrough (C : Addr) : Sp := fun vs H Q _ => ∃ (k : Kit) (fl : Fl) (x y d dk : Addr) (ws : List Str) (ns : List Int) (l : Lay), vs = [.ref x, .ref y, .ref d] ∧ Go H x C dk k fl ∧ k.Good ∧ FlGood k fl ∧ TD H (.ref y) (layD k l) ∧ H d = some (.dT [(kW ns, .int 1)]) ∧
  Fits k ws l ∧ ns.length = ws.length ∧ ws.length ≤ 8 ∧ Bits ns ∧ ∀ p H', Kp (one dk) H H' → Go H' x C dk k fl → H p = none → H' p = some (.dT [(kW (layN k fl ns l), .int 1)]) → Q (.ref p) H'
theorem rows_ne {H : Hp} {d : Addr} {k : Kit} {fl : Fl} {i : Nat} {ns : List Int} {n : Int} (h : RowsAt H d k fl i) : H d ≠ some (.dT [(kW ns, .int n)]) := fun z => by
  obtain ⟨kvs, h1, h2⟩ := h
  rw [z] at h1
  cases h1
  obtain ⟨w0, hw0⟩ : ∃ w0, w0 ∈ W (k.at i).ab.length := ⟨_, List.getElem_mem (W_pos _)⟩
  obtain ⟨_, _, _, z2, _⟩ := (h2 w0 hw0).ex
  by_cases e : kW ns = kW w0
  · rw [valV_pos e] at z2
    cases z2
  · rw [valV_neg e] at z2
    cases z2
theorem Going_through (B : Bi mg) (c : CG K C) (D : Mf K C "through" "Going.through" s_Going_through ["self", "layer", "known"]) (F_Going_size_of : Fm P w K mg base CX0 1 C "size_of" ["self", "step"] spSizeOf)
    (F_Going_rows_of : Fm P w K mg base CX0 4 C "rows_of" ["self", "name"] (spRowsOf C)) (F_feet_of : Fn P w K mg base CX0 2 "feet_of" ["kit", "name"] spFeetOf) (F_through_box : Fn P w K mg base CX0 1 "through_box" ["rows", "worths", "place", "many"] spThroughBox)
    (F_through_wires : Fn P w K mg base CX0 1 "through_wires" ["step", "size", "worths", "place"] spThroughWires) : Fm P w K mg base CX0 5 C "through" ["self", "layer", "known"] (spThrough C) := by
  have cGoing := c.c
  refine D.fm sc_Going_through (fun vs H Q E h => ?_) (fun f cdv A outer s H vs Q E hr h => ?_)
  · obtain ⟨k, fl, x, y, d, dk, ws, ns, l, rfl, _⟩ := h
    rfl
  · obtain ⟨k, fl, x, y, d, dk, ws, ns, l0, rfl, hg, G, F, hy, hd, hf, hl, h8, hb, q⟩ := h
    have hu := hu_of hr
    obtain ⟨dx, v, us, ta, hx, hk, hsz, hta⟩ := hg.ex
    obtain ⟨kvs0, _, hdk, _⟩ := hg.me.ex
    obtain ⟨y', u, e, hy', hst⟩ := lay_inv hy
    cases e
    have hfo := fits_ok hf
    -- Going.through  slots: 0 self, 1 layer, 2 known, 3 size, 4 found, 5 place, 6 step, 7 worths, 8 number, 9 more, 10 end, 11 times
    refine ⟨_, (pss_cons (ps_asg (pv 1) (pg_tup (by rfl) (pgs_cons (pg_name (i := 5) sc_Going_through.nd rfl (by first | exact Or.inl rfl | exact Or.inr rfl)) (pgs_cons (pg_name (i := 6) sc_Going_through.nd rfl (by first | exact Or.inl rfl | exact Or.inr rfl)) pgs_nil))))
    (pss_cons (ps_set (i := 3) sc_Going_through.nd rfl (Or.inl rfl) (pe_fm cGoing F_Going_size_of (hr.mono (by omega)) (pv 0) (pa_cons (pv 6) pa_nil)))
    (pss_cons (ps_set (i := 4) sc_Going_through.nd rfl (Or.inl rfl) pe_dnewT)
    (pss_cons (ps_lock (ps_for PassesOwn.never rfl (pi_itemsT (pv 2)) (pg_tup (by rfl) (pgs_cons (pg_name (i := 7) sc_Going_through.nd rfl (by first | exact Or.inl rfl | exact Or.inr rfl)) (pgs_cons (pg_name (i := 8) sc_Going_through.nd rfl (by first | exact Or.inl rfl | exact Or.inr rfl)) pgs_nil)))
      (pss_cons (ps_if (pt_cmpR op_eq (pe_ixT K (pv 6) pe_int) pe_str (nomark _))
        (pss_one (ps_set (i := 9) sc_Going_through.nd rfl (Or.inl rfl) (pe_fn F_through_box (hr.mono (by omega)) (pa_cons (pe_fm cGoing F_Going_rows_of (hr.mono (by omega)) (pv 0) (pa_cons (pe_ixT K (pv 6) pe_int) pa_nil)) (pa_cons (pv 7) (pa_cons (pv 5) (pa_cons (pe_len K B (pa_cons (pe_ixT K (pe_fn F_feet_of (hr.mono (by omega)) (pa_cons (pe_fldK K (pv 0)) (pa_cons (pe_ixT K (pv 6) pe_int) pa_nil))) pe_int) pa_nil)) pa_nil)))))))
        (pss_one (ps_set (i := 9) sc_Going_through.nd rfl (Or.inl rfl) (pe_fn F_through_wires (hr.mono (by omega)) (pa_cons (pv 6) (pa_cons (pv 3) (pa_cons (pv 7) (pa_cons (pv 5) pa_nil))))))))
      (pss_one (ps_for PassesOwn.never rfl (pi_list (pv 9)) (pg_tup (by rfl) (pgs_cons (pg_name (i := 10) sc_Going_through.nd rfl (by first | exact Or.inl rfl | exact Or.inr rfl)) (pgs_cons (pg_name (i := 11) sc_Going_through.nd rfl (by first | exact Or.inl rfl | exact Or.inr rfl)) pgs_nil)))
        (pss_one (ps_dput hu (pv 4) (pv 10) (pe_op op_add (pe_dget2 hu (pv 4) (pv 10) pe_int ⟨rfl, rfl, rfl, rfl⟩) (pe_op op_mul (pv 8) (pv 11))) rfl)))))))
    (pss_one (ps_ret (pv 4))))))), ?_⟩
    refine ⟨_, rfl, y, _, rfl, SqT.of hy', rfl, _, _, rfl, _, _, rfl, rfl, ?_⟩
    refine ⟨_, rfl, x, dx, _, rfl, hx, fsG_no (by decide +kernel) (by decide +kernel) (by decide +kernel) (by decide +kernel), _, rfl, k, .ref x, u, l0.2, rfl, hst, ?_⟩
    refine fun p hp => ?_
    have npd : d ≠ p := ne_of_none hd hp
    refine ⟨d, .dT [(kW ns, .int 1)], by rw [upd_ne npd]; exact hd, True.intro, fun od => ?_⟩
    obtain ⟨HL, eHL⟩ : ∃ HL, HL = upd H d (.frz od (.dT [(kW ns, .int 1)])) := ⟨_, rfl⟩
    have npL : HL p = none := by rw [eHL, upd_ne npd.symm]; exact hp
    have kL : Kp (one d) H HL := by rw [eHL]; exact Kp.put1 (dT_tup hd)
    have goL : Go HL x C dk k fl := hg.kS kL (fun z => by rw [show x = d from z, hd] at hx; cases hx) (fun z => by rw [show dk = d from z, hd] at hdk; cases hdk) (fun b ys z e => by rw [show b = d from z, hd] at e; cases e) fun b i z a => rows_ne (ns := ns) (n := 1) a (by rw [show b = d from z]; exact hd)
    have eH : upd (upd H p (.dT [])) d (.frz od (.dT [(kW ns, .int 1)])) = upd HL p (.dT []) := by
      rw [eHL]
      funext b
      by_cases h1 : b = d
      · rw [h1, upd_same, upd_ne npd, upd_same]
      · by_cases h2 : b = p
        · rw [upd_ne h1, h2, upd_same, upd_same]
        · rw [upd_ne h1, upd_ne h2, upd_ne h2, upd_ne h1]
    rw [eH]
    have k1 : Kp (one dk) HL (upd HL p (.dT [])) := Kp.new npL _
    have hdL : HL d = some (.frz od (.dT [(kW ns, .int 1)])) := by rw [eHL]; exact upd_same
    refine ⟨_, rfl, d, od, _, rfl, by rw [upd_ne npd]; exact hdL, for_itiT (fun i σ H5 => ∃ o7 o8 o9 o10 o11 : Option V, σ = [some (.ref x), some (.ref y), some (.ref d), some (.int 0), some (.ref p), some (.int (l0.1 : Int)), some (.ref u), o7, o8, o9, o10, o11] ∧ Kp (one dk) HL H5 ∧ Go H5 x C dk k fl ∧ H5 d = some (.frz od (.dT [(kW ns, .int 1)])) ∧ H5 p = some (.dT (if i = 0 then [] else [(kW (layN k fl ns l0), .int 1)])))
      ⟨_, _, _, _, _, rfl, k1, goL.k (Kp.new npL _), by rw [upd_ne npd]; exact hdL, by rw [upd_same, if_pos rfl]⟩ (fun i σ H5 ⟨_, _, _, _, _, _, _, _, h, _⟩ => h) ?_ ?_⟩
    · rintro i kk vv T q0 σ H5 hi ⟨o7, o8, o9, o10, o11, rfl, k5, go5, hd5, hp5⟩ hT hq0
      have hi0 : i = 0 := by
        have := (List.getElem?_eq_some_iff.mp hi).1
        simpa using this
      subst hi0
      cases hi
      rw [if_pos rfl] at hp5
      rw [kW_kV] at hq0
      have kT := Kp.new (S := no) hT (.tup [V.ref q0, V.int 1])
      obtain ⟨H6, e6⟩ : ∃ H6, H6 = upd H5 T (.tup [V.ref q0, V.int 1]) := ⟨_, rfl⟩
      rw [← e6] at kT ⊢
      have hT6 : H6 T = some (.tup [V.ref q0, V.int 1]) := by rw [e6]; exact upd_same
      have k6 : Kp (one dk) HL H6 := k5.trans kT.w
      have go6 := go5.k kT
      have hd6 := kT.get hd5
      have hp6 := kT.get hp5
      have hq6 := kT.get hq0
      have hs6 : TD H6 (.ref u) (l0.2.D k) := (hst.k kL).k k6
      obtain ⟨dx6, v6, u6, t6, hx6, hk6, _⟩ := go6.ex
      refine ⟨T, _, rfl, SqT.of hT6, rfl, _, _, rfl, _, _, rfl, rfl, ?_⟩
      obtain ⟨p0, st⟩ := l0
      cases st with
      | box ib =>
        have hib : ib < k.bx.length := hfo.1
        have hs := stp_box hs6
        refine ⟨_, rfl, u, _, 0, _, rfl, rfl, SqT.of hs, rfl, rfl, _, rfl, iteD rfl ?_⟩
        refine ⟨_, rfl, x, dx6, _, rfl, hx6, fsG_no (by decide +kernel) (by decide +kernel) (by decide +kernel) (by decide +kernel), _, rfl, u, _, 1, _, rfl, rfl, SqT.of hs, rfl, k, fl, x, dk, ib, rfl, go6, G, F, hib, fun dr H7 k7 go7 row7 => ?_⟩
        obtain ⟨dx7, v7, u7, t7, hx7, hk7, _⟩ := go7.ex
        have hs7 := k7.kt _ _ hs
        obtain ⟨kv6, _, hdk6, _⟩ := go6.me.ex
        refine ⟨_, rfl, _, rfl, _, rfl, x, C, dx7, _, _, rfl, hx7, c.c, c.kit, fsG_kit, _, rfl, u, _, 1, _, rfl, rfl, SqT.of hs7, rfl, k, v7, ib, rfl, hk7, G, hib, fun p' a' e' H75 k75 hp' ha' he' => ?_⟩
        refine ⟨p', _, 0, _, rfl, rfl, SqT.of hp', rfl, a', _, rfl, .inr (SqT.of ha'), ?_⟩
        have k675 := k7.trans k75.w
        refine ⟨k, fl, ib, dr, q0, [], ns, p0, by rw [List.length_map], row7.k k75 (fun _ _ z => z.elim) (fun z => z), F, G, hib, k675.kt _ _ hq6, by omega, by rw [hl]; exact hfo.2, hb, fun l t e H8 k8' nl hl ht he => ?_⟩
        have k68 := k675.trans k8'.w
        have k8 : Kp (one dk) HL H8 := k6.trans k68
        have go8 := (go7.k k75).k k8'
        have hd8 := k68.but _ _ (fun z => by rw [show d = dk from z, hdk6] at hd6; cases hd6) hd6
        have hp8 := k68.but _ _ (fun z => by rw [show p = dk from z, hdk6] at hp6; cases hp6) hp6
        refine ⟨_, rfl, l, rfl, ⟨_, SqL.of hl⟩, for_list (K := K) (a := l) (xs := [.ref t]) (fun j σ H9 => ∃ (o10 o11 : Option V), σ = [some (.ref x), some (.ref y), some (.ref d), some (.int 0), some (.ref p), some (.int (p0 : Int)), some (.ref u), some (.ref q0), some (.int 1), some (.ref l), o10, o11] ∧ Kp (one dk) HL H9 ∧ Go H9 x C dk k fl ∧ H9 d = some (.frz od (.dT [(kW ns, .int 1)])) ∧ H9 l = some (.lst [.ref t]) ∧ H9 t = some (.tup [.ref e, .int 1]) ∧ H9 e = some (.tup ((layN k fl ns (p0, .box ib)).map V.int)) ∧ H9 p = some (.dT (if j = 0 then [] else [(kW (layN k fl ns (p0, .box ib)), .int 1)])))
          ⟨_, _, rfl, k8, go8, hd8, hl, ht, he, by rw [if_pos rfl]; exact hp8⟩ (fun j σ H9 _ ⟨_, _, _, _, _, _, z, _⟩ => SqL.of z) ?_ ?_⟩
        · rintro j z σ H9 hj ⟨o10, o11, rfl, k9, go9, hd9, hl9, ht9, he9, hp9⟩
          have hj0 : j = 0 := by
            have := (List.getElem?_eq_some_iff.mp hj).1
            simpa using this
          subst hj0
          cases hj
          rw [if_pos rfl] at hp9
          have he9' : H9 e = some (.tup ((kW (layN k fl ns (p0, .box ib))).map kV)) := by rw [kW_kV]; exact he9
          refine ⟨t, _, rfl, SqT.of ht9, rfl, _, _, rfl, _, _, rfl, rfl, ?_⟩
          refine ⟨_, rfl, p, rfl, .inr ⟨_, .inl hp9⟩, _, rfl, valV [] (kW (layN k fl ns (p0, .box ib))), DGet.t hp9 he9', ?_⟩
          refine ⟨_, rfl, _, rfl, _, _, rfl, rfl, .inl ⟨by decide, by decide⟩, 0, 1, rfl, rfl, ?_⟩
          refine ⟨_, rfl, _, rfl, p, _, rfl, DPut.t hp9 he9' (by decide), ?_⟩
          have kp := Kp.put1 (o := .dT (putK [] (kW (layN k fl ns (p0, .box ib))) (.int (0 + 1)))) (dT_tup hp9)
          have nls : ∀ b ys, one p b → H9 b ≠ some (.lst ys) := fun b ys z e => by rw [show b = p from z, hp9] at e; cases e
          have nr : ∀ d i, one p d → ¬ RowsAt H9 d k fl i := fun b i z a => by
            obtain ⟨kv, h1, h2⟩ := a
            rw [show b = p from z, hp9] at h1
            cases h1
            obtain ⟨w0, hw0⟩ : ∃ w0, w0 ∈ W (k.at i).ab.length := ⟨_, List.getElem_mem (W_pos _)⟩
            obtain ⟨_, _, _, z2, _⟩ := (h2 w0 hw0).ex
            cases z2
          obtain ⟨dx9, v9, u9, t9, hx9, _⟩ := go9.ex
          obtain ⟨kv9, _, hk9, _⟩ := go9.me.ex
          have nx : ¬ one p x := fun z => by rw [show x = p from z, hp9] at hx9; cases hx9
          have nk : ¬ one p dk := fun z => by rw [show dk = p from z, hp9] at hk9; cases hk9
          refine ⟨_, _, rfl, k9.free npL _, go9.kS kp nx nk nls nr, kp.but _ _ (fun z => by rw [show d = p from z, hp9] at hd9; cases hd9) hd9, kp.but _ _ (fun z => nls _ _ z hl9) hl9, kp.kt _ _ ht9, kp.kt _ _ he9, ?_⟩
          rw [upd_same, if_neg (by omega)]
          rfl
        · rintro σ H9 ⟨o10, o11, rfl, k9, go9, hd9, hl9, ht9, he9, hp9⟩
          exact ⟨_, _, _, _, _, rfl, k9, go9, hd9, hp9⟩
      | cross =>
        have hs := stp_cross hs6
        refine ⟨_, rfl, u, _, 0, _, rfl, rfl, SqT.of hs, rfl, rfl, _, rfl, iteDN cr_box ?_⟩
        refine ⟨_, rfl, _, rfl, _, rfl, _, rfl, k, u, q0, ns, p0, 0, rfl, hs6, hq6, by omega, by rw [hl]; exact hfo.2, fun l t e H8 k8' nl hl ht he => ?_⟩
        have k8 : Kp (one dk) HL H8 := k6.trans k8'.w
        have go8 := go6.k k8'
        have hd8 := k8'.get hd6
        have hp8 := k8'.get hp6
        refine ⟨_, rfl, l, rfl, ⟨_, SqL.of hl⟩, for_list (K := K) (a := l) (xs := [.ref t]) (fun j σ H9 => ∃ (o10 o11 : Option V), σ = [some (.ref x), some (.ref y), some (.ref d), some (.int 0), some (.ref p), some (.int (p0 : Int)), some (.ref u), some (.ref q0), some (.int 1), some (.ref l), o10, o11] ∧ Kp (one dk) HL H9 ∧ Go H9 x C dk k fl ∧ H9 d = some (.frz od (.dT [(kW ns, .int 1)])) ∧ H9 l = some (.lst [.ref t]) ∧ H9 t = some (.tup [.ref e, .int 1]) ∧ H9 e = some (.tup ((layN k fl ns (p0, .cross)).map V.int)) ∧ H9 p = some (.dT (if j = 0 then [] else [(kW (layN k fl ns (p0, .cross)), .int 1)])))
          ⟨_, _, rfl, k8, go8, hd8, hl, ht, he, by rw [if_pos rfl]; exact hp8⟩ (fun j σ H9 _ ⟨_, _, _, _, _, _, z, _⟩ => SqL.of z) ?_ ?_⟩
        · rintro j z σ H9 hj ⟨o10, o11, rfl, k9, go9, hd9, hl9, ht9, he9, hp9⟩
          have hj0 : j = 0 := by
            have := (List.getElem?_eq_some_iff.mp hj).1
            simpa using this
          subst hj0
          cases hj
          rw [if_pos rfl] at hp9
          have he9' : H9 e = some (.tup ((kW (layN k fl ns (p0, .cross))).map kV)) := by rw [kW_kV]; exact he9
          refine ⟨t, _, rfl, SqT.of ht9, rfl, _, _, rfl, _, _, rfl, rfl, ?_⟩
          refine ⟨_, rfl, p, rfl, .inr ⟨_, .inl hp9⟩, _, rfl, valV [] (kW (layN k fl ns (p0, .cross))), DGet.t hp9 he9', ?_⟩
          refine ⟨_, rfl, _, rfl, _, _, rfl, rfl, .inl ⟨by decide, by decide⟩, 0, 1, rfl, rfl, ?_⟩
          refine ⟨_, rfl, _, rfl, p, _, rfl, DPut.t hp9 he9' (by decide), ?_⟩
          have kp := Kp.put1 (o := .dT (putK [] (kW (layN k fl ns (p0, .cross))) (.int (0 + 1)))) (dT_tup hp9)
          have nls : ∀ b ys, one p b → H9 b ≠ some (.lst ys) := fun b ys z e => by rw [show b = p from z, hp9] at e; cases e
          have nr : ∀ d i, one p d → ¬ RowsAt H9 d k fl i := fun b i z a => by
            obtain ⟨kv, h1, h2⟩ := a
            rw [show b = p from z, hp9] at h1
            cases h1
            obtain ⟨w0, hw0⟩ : ∃ w0, w0 ∈ W (k.at i).ab.length := ⟨_, List.getElem_mem (W_pos _)⟩
            obtain ⟨_, _, _, z2, _⟩ := (h2 w0 hw0).ex
            cases z2
          obtain ⟨dx9, v9, u9, t9, hx9, _⟩ := go9.ex
          obtain ⟨kv9, _, hk9, _⟩ := go9.me.ex
          have nx : ¬ one p x := fun z => by rw [show x = p from z, hp9] at hx9; cases hx9
          have nk : ¬ one p dk := fun z => by rw [show dk = p from z, hp9] at hk9; cases hk9
          refine ⟨_, _, rfl, k9.free npL _, go9.kS kp nx nk nls nr, kp.but _ _ (fun z => by rw [show d = p from z, hp9] at hd9; cases hd9) hd9, kp.but _ _ (fun z => nls _ _ z hl9) hl9, kp.kt _ _ ht9, kp.kt _ _ he9, ?_⟩
          rw [upd_same, if_neg (by omega)]
          rfl
        · rintro σ H9 ⟨o10, o11, rfl, k9, go9, hd9, hl9, ht9, he9, hp9⟩
          exact ⟨_, _, _, _, _, rfl, k9, go9, hd9, hp9⟩
    · rintro σ H5 ⟨o7, o8, o9, o10, o11, rfl, k5, go5, hd5, hp5⟩
      refine ⟨hd5, ?_⟩
      subst eHL
      have k6 : Kp (one dk) H (upd H5 d (.dT [(kW ns, .int 1)])) := Kp.unlock hd (dT_tup hd) k5
      have kU : Kp (one d) H5 (upd H5 d (.dT [(kW ns, .int 1)])) := Kp.put1 (fz_tup hd5)
      obtain ⟨dx5, v5, u5, t5, hx5, _⟩ := go5.ex
      obtain ⟨kv5, _, hk5, _⟩ := go5.me.ex
      have go6 := go5.kS kU (fun z => by rw [show x = d from z, hd5] at hx5; cases hx5) (fun z => by rw [show dk = d from z, hd5] at hk5; cases hk5) (fun b ys z e => by rw [show b = d from z, hd5] at e; cases e) fun b i z a => by
        obtain ⟨kv, h1, _⟩ := a
        rw [show b = d from z, hd5] at h1
        cases h1
      exact ⟨_, rfl, q p _ k6 go6 hp (by rw [upd_ne npd.symm]; exact hp5)⟩
end
end SW
/-! SwD8: read_table. -/
namespace SW
open PySem PySem.Spec PyProof.Rows L2
section
variable {P : Program} {w : World} {K : PySem.W.Frag} {mg : Str → Option Value} {base : Heap} {C CT : Addr}
theorem RowsAt.k2 {S : Addr → Prop} {H H' : Hp} {d : Addr} {k : Kit} {fl : Fl} {i : Nat} (x : Kp S H H') (hS : ∀ b t e, S b → H b = some (.lst [.ref t]) → H t ≠ some (.tup [.ref e, .int 1])) (hd : ¬ S d) (h : RowsAt H d k fl i) : RowsAt H' d k fl i := by
  obtain ⟨kvs, h1, h2⟩ := h
  refine ⟨kvs, x.but _ _ hd h1, fun w hw => ?_⟩
  obtain ⟨l, t, e, a1, a2, a3, a4⟩ := (h2 w hw).ex
  exact ⟨l, t, e, a1, x.but _ _ (fun z => hS l t e z a2 a3) a2, x.kt _ _ a3, x.kt _ _ a4⟩
theorem Go.kS2 {S : Addr → Prop} {H H' : Hp} {x C dk : Addr} {k : Kit} {fl : Fl} (q : Kp S H H') (hx : ¬ S x) (hk : ¬ S dk) (hS : ∀ b t e, S b → H b = some (.lst [.ref t]) → H t ≠ some (.tup [.ref e, .int 1])) (hr : ∀ d i, S d → ¬ RowsAt H d k fl i) (h : Go H x C dk k fl) : Go H' x C dk k fl := by
  obtain ⟨dx, v, u, t, h1, h2, h3, h4⟩ := h.ex
  exact ⟨⟨dx, v, u, t, q.but _ _ hx h1, h2.k q, h3.k q, h4.k q⟩, h.me.k q hk fun i d a => a.k2 q hS (fun z => hr d i z a)⟩
theorem get_one {a b : List Int} : ((valV [(kW a, V.int 1)] (kW b)).getD (.int 0)) = .int (if b = a then 1 else 0) := by
  by_cases e : b = a
  · rw [if_pos e, valV_pos (show kW a = kW b by rw [e])]
    rfl
  · rw [if_neg e, valV_neg (show ¬ kW a = kW b from fun z => e (kW_inj z).symm)]
    rfl
def spReadTable (CT : Addr) : Sp := fun vs H Q E => ∃ (k : Kit) (fl : Fl) (p : Pic) (v f y : V), vs = [v, f, y] ∧ KitAt H v k ∧ k.Good ∧ FlGood k fl ∧ TD H f (tabsD k fl) ∧ TD H y (p.D k) ∧ p.Good k ∧
  ((∀ n, n ≤ p.la.length → (wAt k p n).length ≤ 6) → ∀ z H', Kp no H H' → TD H' z (tabOut k fl p) → Q z H') ∧
  (∀ n, n ≤ p.la.length → 6 < (wAt k p n).length → (∀ m, m < n → (wAt k p m).length ≤ 6) → ∀ d H', Kp no H H' → H d = none → H' d = some (.xd [("number", .int (2 ^ (wAt k p n).length))]) → E (.ref CT) (some d) H')
theorem read_table (B : Bi mg) (c : CG K C) (D : Df K mg "read_table" s_read_table ["kit", "filling", "picture"]) (F_check_width : Fn P w K mg base (L2.CX P w) 6 "check_width" ["kit", "sizes", "picture"] (spCheckWidth CT))
    (F_Going_init : Fi P w K mg base CX0 1 C "Going" ["self", "kit", "sizes", "tables"] (spGoingInit C)) (F_Going_through : Fm P w K mg base CX0 5 C "through" ["self", "layer", "known"] (spThrough C))
    (F_below_of : Fn P w K mg base CX0 6 "below_of" ["kit", "picture"] spBelowOf)
    (F_sizes_of : Fn P w K mg base CX0 1 "sizes_of" ["kit", "sizes", "wires"] spSizesOf) (F_worths_of : Fn P w K mg base CX0 1 "worths_of" ["sizes"] spWorthsOf) :
    Fn P w K mg base (L2.CX P w) 7 "read_table" ["kit", "filling", "picture"] (spReadTable CT) := by
  have cGoing := c.c
  refine D.fnX sc_read_table (fun vs H Q E h => ?_) (fun f cdv A outer s H vs Q E hr h => ?_)
  · obtain ⟨k, fl, p, v, f, y, rfl, _⟩ := h
    rfl
  · obtain ⟨k, fl, p, v, f0, y, rfl, hk, G, F, hf, hy, Gp, q1, q2⟩ := h
    have hu := hu_of hr
    obtain ⟨fa, u, t, rfl, hfa, hsz, ht⟩ := TD.i2 hf
    obtain ⟨a, xw, l, ls, rfl, ha, hxw, hl, hls⟩ := pic_inv hy
    have ll := hls.length
    rw [List.length_map] at ll
    have l12 := Gp.l12
    have hWn := W_le (n := p.ab.length) (Nat.le_trans Gp.a6 (by decide))
    have hWm := W_le (n := (p.below k).length) (Gp.le8 _)
    -- read_table  slots: 0 kit, 1 filling, 2 picture, 3 going, 4 ends, 5 found, 6 worths, 7 sizes, 8 tables, 9 known, 10 layer, 11 end
    refine ⟨_, (pss_cons (ps_asg (pv 1) (pg_tup (by rfl) (pgs_cons (pg_name (i := 7) sc_read_table.nd rfl (by first | exact Or.inl rfl | exact Or.inr rfl)) (pgs_cons (pg_name (i := 8) sc_read_table.nd rfl (by first | exact Or.inl rfl | exact Or.inr rfl)) pgs_nil))))
    (pss_cons (ps_expr (pe_fnX F_check_width (passes_call (takes_of rfl rfl rfl rfl) fun _ _ _ _ h => h) (hr.mono (by omega)) (pa_cons (pv 0) (pa_cons (pv 7) (pa_cons (pv 2) pa_nil)))))
    (pss_cons (ps_set (i := 3) sc_read_table.nd rfl (Or.inl rfl) (pe_fi F_Going_init (hr.mono (by omega)) (pa_cons (pv 0) (pa_cons (pv 7) (pa_cons (pv 8) pa_nil)))))
    (pss_cons (ps_set (i := 4) sc_read_table.nd rfl (Or.inl rfl) (pe_fn F_worths_of (hr.mono (by omega)) (pa_cons (pe_fn F_sizes_of (hr.mono (by omega)) (pa_cons (pv 0) (pa_cons (pv 7) (pa_cons (pe_fn F_below_of (hr.mono (by omega)) (pa_cons (pv 0) (pa_cons (pv 2) pa_nil))) pa_nil)))) pa_nil)))
    (pss_cons (ps_set (i := 5) sc_read_table.nd rfl (Or.inl rfl) (pe_lst pa_nil))
    (pss_cons (ps_for (passes_of rfl) rfl (pi_list (pe_fn F_worths_of (hr.mono (by omega)) (pa_cons (pe_fn F_sizes_of (hr.mono (by omega)) (pa_cons (pv 0) (pa_cons (pv 7) (pa_cons (pe_ixT K (pv 2) pe_int) pa_nil)))) pa_nil))) (pg_name (i := 6) sc_read_table.nd rfl (by first | exact Or.inl rfl | exact Or.inr rfl))
      (pss_cons (ps_set (i := 9) sc_read_table.nd rfl (Or.inr rfl) (pe_disp1T hr.units0 (pv 6) pe_int))
      (pss_cons (ps_for (passes_of rfl) rfl (pi_tup (pe_ixT K (pv 2) pe_int)) (pg_name (i := 10) sc_read_table.nd rfl (by first | exact Or.inl rfl | exact Or.inr rfl))
        (pss_one (ps_set (i := 9) sc_read_table.nd rfl (Or.inr rfl) (pe_fm cGoing F_Going_through (hr.mono (by omega)) (pv 3) (pa_cons (pv 10) (pa_cons (pv 9) pa_nil))))))
      (pss_one (ps_expr (pe_bmK K (r := rAppend) PySem.F.plainAttrs_list PySem.F.slot_list_append PySem.F.type_list_append mt_append (pv 5) (pa_cons (pe_tupOf K B (pa_cons (pe_lc (own := [("end", 11)]) (g := (gName 11)) (tt := tYes) rfl sc_read_table.nd (pi_list (pv 4)) (blkOk_by (by kernel_rfl)) (fun _ _ _ _ _ => (pg_name (i := 11) sc_read_table.nd rfl (by first | exact Or.inl rfl | exact Or.inr rfl))) (fun _ _ _ _ _ => pts_nil) (fun _ _ _ _ _ => (pe_dget2 hu (pv 9) (pv 11) pe_int ⟨rfl, rfl, rfl, rfl⟩))) pa_nil)) pa_nil)))))))
    (pss_one (ps_ret (pe_tupOf K B (pa_cons (pv 5) pa_nil)))))))))), ?_⟩
    refine ⟨_, rfl, fa, _, rfl, SqT.of hfa, rfl, _, _, rfl, _, _, rfl, rfl, ?_⟩
    refine ⟨_, rfl, _, rfl, _, rfl, k, p, v, u, .ref a, rfl, hk, G, hsz, hy, Gp, fun h6 H1 k1 => ?_, q2⟩
    refine ⟨_, rfl, _, rfl, _, rfl, fun x dx nx ndx hne => ?_⟩
    have k2 : Kp no H1 (upd (upd H1 dx (.own x)) x (.ins C dx [])) := (Kp.new ndx _).trans (Kp.new (by rw [upd_ne hne.symm]; exact nx) _)
    have k02 := k1.trans k2
    refine ⟨k, fl, x, dx, v, u, t, rfl, upd_same, hk.k k02, hsz.k k02, ht.k k02, fun dk H3 k3 ndk go3 => ⟨rfl, ?_⟩⟩
    have k13 : Kp no H1 H3 := k2.shed k3 (fun b z => by rw [show b = x from z]; exact nx)
    have k03 := k1.trans k13
    have ndk0 : H dk = none := k02.none (fun z => z) ndk
    refine ⟨_, rfl, _, rfl, _, rfl, _, rfl, k, p, v, .ref a, rfl, hk.k k03, G, hy.k k03, Gp, fun b H4 k4 hb => ?_⟩
    have k04 := k03.trans k4
    refine ⟨k, v, u, b, p.below k, rfl, hk.k k04, G, hsz.k k04, hb, Gp.sos G _, Gp.le8 _, fun s H5 k5 _ hs => ?_⟩
    refine ⟨s, _, rfl, hs, Gp.le8 _, fun p2 us H6 k6 n6 hp2 hus => ?_⟩
    have k46 := k5.trans k6
    have k06 := k04.trans k46
    refine ⟨sz0, fun fo hfo => ?_⟩
    have k67 := Kp.new (S := no) hfo (.lst [])
    have k07 := k06.trans k67
    have nfo : H fo = none := k06.none (fun z => z) hfo
    refine ⟨_, rfl, _, rfl, _, rfl, a, _, 0, _, rfl, rfl, SqT.of (k07.get ha), rfl, k, v, u, xw, p.ab, rfl, hk.k k07, G, hsz.k k07, k07.get hxw, Gp.so, Nat.le_trans Gp.a6 (by decide), fun s2 H8 k8 _ hs2 => ?_⟩
    refine ⟨s2, _, rfl, hs2, Nat.le_trans Gp.a6 (by decide), fun p3 vs H9 k9 n9 hp3 hvs => ?_⟩
    have k79 := k8.trans k9
    have k09 := k07.trans k79
    have k69 := k67.trans k79
    have go9 := ((go3.k k4).k k46).k k69
    have lus := hus.length
    have lvs := hvs.length
    rw [List.length_map] at lus lvs
    refine ⟨p3, rfl, ⟨_, SqL.of hp3⟩, for_list (K := K) (a := p3) (xs := vs) (fun j σ H' => ∃ (o6 o9 o10 : Option V) (ys : List V), σ = [some v, some (.ref fa), some (.ref a), some (.ref x), some (.ref p2), some (.ref fo), o6, some u, some t, o9, o10, none] ∧ Kp no H H' ∧ Go H' x C dk k fl ∧ H' p2 = some (.lst us) ∧ TDs H' us ((W (p.below k).length).map inD) ∧ H' p3 = some (.lst vs) ∧ TDs H' vs ((W p.ab.length).map inD) ∧ H' fo = some (.lst ys) ∧
        TDs H' ys (((W p.ab.length).take j).map fun w => onD (W (p.below k).length) (fin k fl p w)))
      ⟨_, _, _, [], rfl, k09, go9, k69.get hp2, hus.k k69, hp3, hvs, k79.get upd_same, .nil⟩ (fun j σ H' _ ⟨_, _, _, _, _, _, _, _, _, z, _⟩ => SqL.of z) ?_ ?_⟩
    · rintro j z σ H' hj ⟨o6, o9, o10, ys, rfl, k', go', hp2', hus', hp3', hvs', hfo', hys'⟩
      have hj2 : j < (W p.ab.length).length := by
        have := (List.getElem?_eq_some_iff.mp hj).1
        omega
      have hwj : (W p.ab.length)[j]? = some (W p.ab.length)[j] := List.getElem?_eq_getElem hj2
      have hwm : (W p.ab.length)[j] ∈ W p.ab.length := List.getElem_mem hj2
      revert hwj hwm
      generalize (W p.ab.length)[j] = wj
      intro hwj hwm
      obtain ⟨hwl, hwb⟩ := mem_W.mp hwm
      obtain ⟨z2, hz2, hzd⟩ := hvs'.at (d := inD wj) (i := j) (by rw [List.getElem?_map, hwj]; rfl)
      rw [hj] at hz2
      cases hz2
      obtain ⟨za, rfl, hza⟩ := hzd.ints_inv
      refine fun kd hkd => ?_
      have kn := Kp.new (S := no) hkd (.dT [])
      refine ⟨_, rfl, kW wj, za, rfl, by rw [kW_kV]; exact kn.get hza, upd_same, ?_⟩
      rw [upd_upd]
      have k1' : Kp (one dk) H' (upd H' kd (.dT [(kW wj, .int 1)])) := Kp.new hkd _
      have go1 := go'.k (Kp.new hkd (.dT [(kW wj, .int 1)]))
      refine ⟨_, rfl, a, _, 1, _, rfl, rfl, SqT.of (k1'.kt _ _ (k'.get ha)), rfl, l, rfl, ⟨_, SqT.of (k1'.kt _ _ (k'.get hl))⟩, for_tup (K := K) (a := l) (xs := ls) (fun i σ H'' => ∃ (kd : Addr) (o10 : Option V), σ = [some v, some (.ref fa), some (.ref a), some (.ref x), some (.ref p2), some (.ref fo), some (.ref za), some u, some t, some (.ref kd), o10, none] ∧ Kp (one dk) H' H'' ∧ Go H'' x C dk k fl ∧ H'' kd = some (.dT [(kW (nAt k fl p wj i), .int 1)]))
        ⟨kd, _, rfl, k1', go1, upd_same⟩ (fun i σ H'' _ ⟨_, _, _, q, _⟩ => SqT.of (q.kt _ _ (k'.get hl))) ?_ ?_⟩
      · rintro i yl σ H'' hi ⟨kd, o10, rfl, k'', go'', hkd''⟩
        have hi2 : i < p.la.length := by
          have := (List.getElem?_eq_some_iff.mp hi).1
          omega
        have hli : p.la[i]? = some p.la[i] := List.getElem?_eq_getElem hi2
        obtain ⟨z2, hz2, hd⟩ := lay_at hls hli
        rw [hi] at hz2
        cases hz2
        obtain ⟨ya, yq, rfl, _⟩ := lay_inv hd
        obtain ⟨dx6, _, _, _, hx6, _⟩ := go''.ex
        obtain ⟨n1, n2⟩ := nAt_ok F Gp hwl hwb i (by omega)
        refine ⟨_, rfl, x, dx6, _, rfl, hx6, fsG_no (by decide +kernel) (by decide +kernel) (by decide +kernel) (by decide +kernel), _, rfl, _, rfl, k, fl, x, ya, kd, dk, wAt k p i, nAt k fl p wj i, p.la[i], rfl, go'', G, F, (hd.k k').k k'', hkd'', Gp.fits hli, n1, Gp.le8 i, n2, fun p4 H7 k7 go7 n7 hp4 => ?_⟩
        exact ⟨p4, _, rfl, k''.trans k7, go7, by rw [nAt_succ hli]; exact hp4⟩
      · rintro σ H'' ⟨kd, o10, rfl, k'', go'', hkd''⟩
        rw [ll, nAt_end] at hkd''
        obtain ⟨kvs0, _, hdk', _⟩ := go'.me.ex
        have gl : ∀ {b ys}, H' b = some (.lst ys) → H'' b = some (.lst ys) := fun {b ys} h => k''.but _ _ (fun z => by rw [show b = dk from z, hdk'] at h; cases h) h
        have hfo'' := gl hfo'
        refine ⟨_, rfl, .inl ⟨rfl, _, SqL.of hfo''⟩, _, rfl, p2, rfl, ⟨_, SqL.of (gl hp2')⟩, fun D hD => lcD hD (lp_L (K := K) (xs := us) (SqL.of (gl hp2')) (szLt (by omega)) (RD ((W (p.below k).length).map fun e => .int (if e = fin k fl p wj then 1 else 0))) RD.kt (fun i x1 Hc hi hx1 kc Q' q' => ?_) fun D' vs Hc _ kc hv hvl hr1 eD => ?_)⟩
        · have hi2 : i < (W (p.below k).length).length := by omega
          have hei : (W (p.below k).length)[i]? = some (W (p.below k).length)[i] := List.getElem?_eq_getElem hi2
          obtain ⟨z2, hz2, hzd⟩ := hus'.at (d := inD (W (p.below k).length)[i]) (i := i) (by rw [List.getElem?_map, hei]; rfl)
          rw [hx1] at hz2
          cases hz2
          obtain ⟨ea, rfl, hea⟩ := hzd.ints_inv
          refine ⟨_, rfl, kd, rfl, .inr ⟨_, .inl (kc.get hkd'')⟩, _, rfl, valV _ (kW (W (p.below k).length)[i]), DGet.t (kc.get hkd'') (by rw [kW_kV]; exact kc.kt _ _ (k''.kt _ _ hea)), ?_⟩
          rw [get_one]
          exact q' _ Hc (Kp.refl Hc) ⟨_, by rw [List.getElem?_map, hei]; rfl, .int _⟩
        · cases eD
          have hvs2 := RD.all (H := Hc) (by rw [hvl, List.length_map, lus]) hr1
          refine ⟨D, vs, rfl, .inl ⟨SqL.of hv, fun tt htt => ?_⟩⟩
          have kt := Kp.new (S := no) htt (.tup vs)
          have kct := kc.trans kt
          have hfoT := kct.get hfo''
          have lys := hys'.length
          rw [List.length_map, List.length_take] at lys
          refine ⟨fo, ys, .ref tt, rfl, rfl, hfoT, szLt (by omega), ?_⟩
          have kp := Kp.put1 (o := .lst (ys ++ [.ref tt])) (lst_tup hfoT)
          have kH := (k'.shed (k''.trans kct.w) (fun b z => by rw [show b = dk from z]; exact ndk0)).free nfo (.lst (ys ++ [.ref tt]))
          have k4t := k''.trans kct.w
          obtain ⟨dxc, _, _, _, hxc, _⟩ := ((go''.k kct)).ex
          obtain ⟨kvc, _, hdc, _⟩ := ((go''.k kct)).me.ex
          obtain ⟨kva, _, hka, _⟩ := go3.me.ex
          have nfl : ∀ {b} {o : HO} {HH : Hp}, HH b = some o → HH fo = some (.lst ys) → o ≠ .lst ys → b ≠ fo := fun h1 h2 h3 => ne_of h1 h2 h3
          have hp2T := kct.get (gl hp2')
          have hp3T := kct.get (gl hp3')
          have n2 : p2 ≠ fo := ne_of_none hp2 hfo
          have n3 : p3 ≠ fo := fun z => by
            have e1 := k8.get (show upd H6 fo (.lst []) fo = some (.lst []) from upd_same)
            rw [← z, n9] at e1
            cases e1
          have hysT := (hys'.k k4t)
          have nls : ∀ b t e, one fo b → upd Hc tt (.tup vs) b = some (.lst [.ref t]) → upd Hc tt (.tup vs) t ≠ some (.tup [.ref e, .int 1]) := fun b t e z h1 h2 => by
            rw [show b = fo from z, hfoT] at h1
            cases h1
            obtain ⟨d0, hd0, htd⟩ := hysT.at' (i := 0) (v := .ref t) rfl
            obtain ⟨w0, _, rfl⟩ := List.mem_map.mp (List.mem_of_getElem? hd0)
            obtain ⟨t', xs, e1, h3, h4⟩ := TD.inv htd
            cases e1
            rw [h2] at h3
            cases h3
            obtain ⟨d1, hd1, hed⟩ := h4.at' (i := 0) (v := .ref e) rfl
            obtain ⟨w1, _, rfl⟩ := List.mem_map.mp (List.mem_of_getElem? hd1)
            cases hed
          have goT := (go''.k kct).kS2 kp (fun z => by rw [show x = fo from z, hfoT] at hxc; cases hxc) (fun z => by rw [show dk = fo from z, hfoT] at hdc; cases hdc) nls fun b i z a => by
            obtain ⟨kv, h1, _⟩ := a
            rw [show b = fo from z, hfoT] at h1
            cases h1
          refine ⟨_, _, _, _, rfl, kH, goT, kp.but _ _ n2 hp2T, (hus'.k k4t).k kp, kp.but _ _ n3 hp3T, (hvs'.k k4t).k kp, upd_same, ?_⟩
          rw [take_snoc hwj, List.map_append]
          refine (hysT.k kp).append (.cons ?_ .nil)
          exact (TD.tup (upd_same (H := Hc) (a := tt)) (hvs2.k kt)).k kp
    · rintro σ H' ⟨o6, o9, o10, ys, rfl, k', go', hp2', hus', hp3', hvs', hfo', hys'⟩
      rw [lvs, List.take_length] at hys'
      refine ⟨_, rfl, fo, ys, rfl, .inl ⟨SqL.of hfo', fun r hr => ?_⟩⟩
      exact q1 h6 _ _ (k'.trans (Kp.new hr _)) (TD.new hr hys')
end
end SW
/-! SwD9: expressions: put in, counted, run. -/
namespace SW
open PySem PySem.Spec PyProof.Rows L2
/-! ### compound expressions -/
def E.wd : E → Str
  | .inp _ => "in"
  | .num _ => "num"
  | .less _ _ => "less"
  | .pick _ _ _ => "pick"
def E.prt : E → List E
  | .less a b => [a, b]
  | .pick a b c => [a, b, c]
  | _ => []
def E.Cp : E → Prop
  | .less _ _ => True
  | .pick _ _ _ => True
  | _ => False
theorem E.cD : ∀ {e : E}, e.Cp → e.D = .tuple (.str e.wd :: e.prt.map E.D)
  | .less _ _, _ => rfl
  | .pick _ _ _, _ => rfl
theorem E.cSub {cs : List E} : ∀ {e : E}, e.Cp → (e.sub cs).D = .tuple (.str e.wd :: e.prt.map fun a => (a.sub cs).D)
  | .less _ _, _ => rfl
  | .pick _ _ _, _ => rfl
theorem E.cDep : ∀ {e : E}, e.Cp → ∀ a ∈ e.prt, a.dep + 1 ≤ e.dep
  | .less a b, _, x, hx => by
    simp only [E.prt, List.mem_cons, List.not_mem_nil, or_false] at hx
    simp only [E.dep]
    rcases hx with rfl | rfl <;> omega
  | .pick a b c, _, x, hx => by
    simp only [E.prt, List.mem_cons, List.not_mem_nil, or_false] at hx
    simp only [E.dep]
    rcases hx with rfl | rfl | rfl <;> omega
theorem E.cOk {n : Nat} : ∀ {e : E}, e.Cp → e.Ok n → ∀ a ∈ e.prt, a.Ok n
  | .less a b, _, h, x, hx => by
    simp only [E.prt, List.mem_cons, List.not_mem_nil, or_false] at hx
    rcases hx with rfl | rfl
    · exact h.1
    · exact h.2
  | .pick a b c, _, h, x, hx => by
    simp only [E.prt, List.mem_cons, List.not_mem_nil, or_false] at hx
    rcases hx with rfl | rfl | rfl
    · exact h.1
    · exact h.2.1
    · exact h.2.2
theorem E.c3 : ∀ e : E, e.prt.length ≤ 3
  | .inp _ => Nat.zero_le 3
  | .num _ => Nat.zero_le 3
  | .less _ _ => by show 2 ≤ 3; decide
  | .pick _ _ _ => Nat.le_refl 3
theorem wd_in : ∀ {e : E}, e.Cp → ¬ V.str e.wd = V.str "in"
  | .less _ _, _ => by show ¬ V.str "less" = V.str "in"; decide +kernel
  | .pick _ _ _, _ => by show ¬ V.str "pick" = V.str "in"; decide +kernel
theorem wd_num : ∀ {e : E}, e.Cp → ¬ V.str e.wd = V.str "num"
  | .less _ _, _ => by show ¬ V.str "less" = V.str "num"; decide +kernel
  | .pick _ _ _, _ => by show ¬ V.str "pick" = V.str "num"; decide +kernel
theorem num_in : ¬ V.str "num" = V.str "in" := by decide +kernel
theorem exp_inp {H : Hp} {v : V} {i : Nat} (h : TD H v (E.inp i).D) : ∃ a, v = .ref a ∧ H a = some (.tup [.str "in", .int (i : Int)]) := by
  obtain ⟨a, x, y, rfl, ha, h1, h2⟩ := TD.i2 h
  obtain rfl := h1.str_inv
  obtain rfl := h2.int_inv
  exact ⟨a, rfl, ha⟩
theorem exp_num {H : Hp} {v : V} {i : Int} (h : TD H v (E.num i).D) : ∃ a, v = .ref a ∧ H a = some (.tup [.str "num", .int i]) := by
  obtain ⟨a, x, y, rfl, ha, h1, h2⟩ := TD.i2 h
  obtain rfl := h1.str_inv
  obtain rfl := h2.int_inv
  exact ⟨a, rfl, ha⟩
theorem exp_cp {H : Hp} {v : V} {e : E} (c : e.Cp) (h : TD H v e.D) : ∃ a xs, v = .ref a ∧ H a = some (.tup (.str e.wd :: xs)) ∧ TDs H xs (e.prt.map E.D) := by
  rw [E.cD c] at h
  obtain ⟨a, xs, rfl, ha, hs⟩ := h.inv
  cases hs with
  | cons h1 h2 =>
    obtain rfl := h1.str_inv
    exact ⟨a, _, rfl, ha, h2⟩
theorem cp_or : ∀ e : E, (∃ i, e = .inp i) ∨ (∃ i, e = .num i) ∨ e.Cp
  | .inp i => .inl ⟨i, rfl⟩
  | .num i => .inr (.inl ⟨i, rfl⟩)
  | .less _ _ => .inr (.inr True.intro)
  | .pick _ _ _ => .inr (.inr True.intro)
section
variable {P : Program} {w : World} {K : PySem.W.Frag} {mg : Str → Option Value} {base : Heap}
def spPutIn (n : Nat) : Sp := fun vs H Q _ => ∃ (e : E) (cs : List E) (v : V) (c : Addr) (ys : List V), vs = [v, .ref c] ∧ e.dep ≤ n ∧ e.Ok cs.length ∧ TD H v e.D ∧ H c = some (.lst ys) ∧ TDs H ys (cs.map E.D) ∧
  ∀ x H', Kp no H H' → TD H' x (e.sub cs).D → Q x H'
theorem put_in (B : Bi mg) (D : Df K mg "put_in" s_put_in ["expression", "comes"]) : ∀ n : Nat, Fn P w K mg base CX0 (n + 1) "put_in" ["expression", "comes"] (spPutIn n)
  | 0 => by
    refine D.fn sc_put_in (fun vs H Q EX h => ?_) (fun f cdv A outer s H vs Q EX hr h => ?_)
    · obtain ⟨e, cs, v, c, ys, rfl, _⟩ := h
      rfl
    · obtain ⟨e, cs, v, c, ys, rfl, hd, _⟩ := h
      have := e.dep_pos
      omega
  | n + 1 => by
    have F_put_in := put_in B D n
    refine D.fn sc_put_in (fun vs H Q EX h => ?_) (fun f cdv A outer s H vs Q EX hr h => ?_)
    · obtain ⟨e, cs, v, c, ys, rfl, _⟩ := h
      rfl
    · obtain ⟨e, cs, v, c, ys, rfl, hd, ho, hv, hc, hys, q⟩ := h
      -- put_in  slots: 0 expression, 1 comes, 2 word, 3 part
      refine ⟨_, (pss_cons (ps_set (i := 2) sc_put_in.nd rfl (Or.inl rfl) (pe_ixT K (pv 0) pe_int))
    (pss_cons (ps_if (pt_cmpR op_eq (pv 2) pe_str (nomark _))
      (pss_one (ps_ret (pe_ixL K (pv 1) (pe_ixT K (pv 0) pe_int))))
      pss_nil)
    (pss_cons (ps_if (pt_cmpR op_eq (pv 2) pe_str (nomark _))
      (pss_one (ps_ret (pv 0)))
      pss_nil)
    (pss_one (ps_ret (pe_catT K (pe_tup (pa_cons (pv 2) pa_nil)) (pe_tupOf K B (pa_cons (pe_lc (own := [("part", 3)]) (g := (gName 3)) (tt := tYes) rfl sc_put_in.nd (pi_tup (pe_slT K (pv 0) (po_some pe_int) po_none)) (blkOk_by (by kernel_rfl)) (fun _ _ _ _ _ => (pg_name (i := 3) sc_put_in.nd rfl (by first | exact Or.inl rfl | exact Or.inr rfl))) (fun _ _ _ _ _ => pts_nil) (fun _ _ _ _ _ => (pe_fn F_put_in (hr.mono (by omega)) (pa_cons (pv 3) (pa_cons (pv 1) pa_nil))))) pa_nil)))))))), ?_⟩
      rcases cp_or e with ⟨i, rfl⟩ | ⟨i, rfl⟩ | cp
      · obtain ⟨a, rfl, ha⟩ := exp_inp hv
        refine ⟨_, rfl, a, _, 0, _, rfl, rfl, SqT.of ha, rfl, ?_⟩
        refine ⟨_, rfl, rfl, _, rfl, iteD rfl ?_⟩
        have ho' : i < cs.length := ho
        have hci : cs[i]? = some cs[i] := List.getElem?_eq_getElem ho'
        obtain ⟨y, hy, hyd⟩ := hys.at (d := (cs[i]).D) (i := i) (by rw [List.getElem?_map, hci]; rfl)
        refine ⟨_, rfl, _, rfl, a, _, 1, _, rfl, rfl, SqT.of ha, rfl, c, _, i, _, rfl, rfl, SqL.of hc, atI_nat hy, q _ H (Kp.refl H) ?_⟩
        have e1 : E.sub cs (.inp i) = cs[i] := by
          show cs.getD i (.num 0) = _
          rw [List.getD_eq_getElem?_getD, hci]
          rfl
        rw [e1]
        exact hyd
      · obtain ⟨a, rfl, ha⟩ := exp_num hv
        refine ⟨_, rfl, a, _, 0, _, rfl, rfl, SqT.of ha, rfl, ?_⟩
        refine ⟨_, rfl, rfl, _, rfl, iteDN num_in ?_⟩
        refine ⟨_, rfl, rfl, _, rfl, iteD rfl ?_⟩
        exact ⟨_, rfl, q _ H (Kp.refl H) hv⟩
      · obtain ⟨a, xs, rfl, ha, hxs⟩ := exp_cp cp hv
        have at0 : atI (V.str e.wd :: xs) 0 = some (V.str e.wd) := atI_nat (j := 0) (show (V.str e.wd :: xs)[0]? = some (V.str e.wd) from rfl)
        have lx := hxs.length
        rw [List.length_map] at lx
        have h3 := e.c3
        refine ⟨_, rfl, a, _, 0, _, rfl, rfl, SqT.of ha, at0, ?_⟩
        refine ⟨_, rfl, rfl, _, rfl, iteDN (wd_in cp) ?_⟩
        refine ⟨_, rfl, rfl, _, rfl, iteDN (wd_num cp) ?_⟩
        refine ⟨_, rfl, sz1, fun t0 ht0 => ?_⟩
        have k0 := Kp.new (S := no) ht0 (.tup [V.str e.wd])
        refine ⟨_, rfl, _, rfl, ?_⟩
        refine slN (k0.get ha) fun c2 H1 k1 hc2 => ?_
        have ec : cutV (V.str e.wd :: xs) (some ((1 : Nat) : Int)) none = xs := by rw [cut_from]; rfl
        rw [show (1 : Int) = ((1 : Nat) : Int) from rfl, ec] at hc2
        have k01 := k0.trans k1
        refine ⟨c2, rfl, ⟨_, SqT.of hc2⟩, fun D hD => lcD hD (lp_T hc2 (szLt (by omega)) (RD (e.prt.map fun a => (a.sub cs).D)) RD.kt (fun i x H2 hi hx k2 Q' q' => ?_) fun D' vs H2 _ k2 hv2 hvl hr1 eD => ?_)⟩
        · obtain ⟨d, hd1, hxd⟩ := hxs.at' hx
          rw [List.getElem?_map] at hd1
          obtain ⟨b, hb, rfl⟩ := Option.map_eq_some_iff.mp hd1
          have hbm := List.mem_of_getElem? hb
          have k02 := k01.trans k2
          refine ⟨_, rfl, _, rfl, b, cs, x, c, ys, rfl, by have := E.cDep cp b hbm; omega, E.cOk cp ho b hbm, hxd.k k02, k02.get hc, hys.k k02, fun z H3 k3 hz => ?_⟩
          exact q' z H3 k3 ⟨_, by rw [List.getElem?_map, hb]; rfl, hz⟩
        · cases eD
          have hall := RD.all (H := H2) (by rw [hvl, List.length_map, lx]) hr1
          refine ⟨D, vs, rfl, .inl ⟨SqL.of hv2, fun t1 ht1 => ?_⟩⟩
          have kt := Kp.new (S := no) ht1 (.tup vs)
          have k3 := (k1.trans k2).trans kt
          refine catA (k3.get upd_same) upd_same (szL (by rw [hvl, lx]; show 1 + e.prt.length ≤ 100000; omega)) fun c4 H4 k4 hc4 => ?_
          refine q _ H4 ((k0.trans k3).trans k4) ?_
          rw [E.cSub cp]
          exact .tup hc4 (.cons (.str _) ((hall.k kt).k k4))
def spPartsWith (n : Nat) : Sp := fun vs H Q _ => ∃ (e : E) (v : V) (c : Addr) (ns : List Int), vs = [v, .ref c] ∧ e.dep ≤ n ∧ e.Ok ns.length ∧ TD H v e.D ∧ H c = some (.lst (ns.map V.int)) ∧ ∀ m H', Kp no H H' → Q (.int m) H'
theorem parts_with (B : Bi mg) (D : Df K mg "parts_with" s_parts_with ["expression", "counts"]) : ∀ n : Nat, Fn P w K mg base CX0 (n + 1) "parts_with" ["expression", "counts"] (spPartsWith n)
  | 0 => by
    refine D.fn sc_parts_with (fun vs H Q EX h => ?_) (fun f cdv A outer s H vs Q EX hr h => ?_)
    · obtain ⟨e, v, c, ns, rfl, _⟩ := h
      rfl
    · obtain ⟨e, v, c, ns, rfl, hd, _⟩ := h
      have := e.dep_pos
      omega
  | n + 1 => by
    have F_parts_with := parts_with B D n
    refine D.fn sc_parts_with (fun vs H Q EX h => ?_) (fun f cdv A outer s H vs Q EX hr h => ?_)
    · obtain ⟨e, v, c, ns, rfl, _⟩ := h
      rfl
    · obtain ⟨e, v, c, ns, rfl, hd, ho, hv, hc, q⟩ := h
      -- parts_with  slots: 0 expression, 1 counts, 2 word, 3 part
      refine ⟨_, (pss_cons (ps_set (i := 2) sc_parts_with.nd rfl (Or.inl rfl) (pe_ixT K (pv 0) pe_int))
    (pss_cons (ps_if (pt_cmpR op_eq (pv 2) pe_str (nomark _))
      (pss_one (ps_ret (pe_ixL K (pv 1) (pe_ixT K (pv 0) pe_int))))
      pss_nil)
    (pss_cons (ps_if (pt_cmpR op_eq (pv 2) pe_str (nomark _))
      (pss_one (ps_ret pe_int))
      pss_nil)
    (pss_one (ps_ret (pe_op op_add pe_int (pe_sumOf K B (pa_cons (pe_lc (own := [("part", 3)]) (g := (gName 3)) (tt := tYes) rfl sc_parts_with.nd (pi_tup (pe_slT K (pv 0) (po_some pe_int) po_none)) (blkOk_by (by kernel_rfl)) (fun _ _ _ _ _ => (pg_name (i := 3) sc_parts_with.nd rfl (by first | exact Or.inl rfl | exact Or.inr rfl))) (fun _ _ _ _ _ => pts_nil) (fun _ _ _ _ _ => (pe_fn F_parts_with (hr.mono (by omega)) (pa_cons (pv 3) (pa_cons (pv 1) pa_nil))))) pa_nil)))))))), ?_⟩
      rcases cp_or e with ⟨i, rfl⟩ | ⟨i, rfl⟩ | cp
      · obtain ⟨a, rfl, ha⟩ := exp_inp hv
        refine ⟨_, rfl, a, _, 0, _, rfl, rfl, SqT.of ha, rfl, ?_⟩
        refine ⟨_, rfl, rfl, _, rfl, iteD rfl ?_⟩
        have ho' : i < ns.length := ho
        exact ⟨_, rfl, _, rfl, a, _, 1, _, rfl, rfl, SqT.of ha, rfl, c, _, i, _, rfl, rfl, SqL.of hc, atI_nat (by rw [List.getElem?_map, List.getElem?_eq_getElem ho']; rfl), q _ H (Kp.refl H)⟩
      · obtain ⟨a, rfl, ha⟩ := exp_num hv
        refine ⟨_, rfl, a, _, 0, _, rfl, rfl, SqT.of ha, rfl, ?_⟩
        refine ⟨_, rfl, rfl, _, rfl, iteDN num_in ?_⟩
        refine ⟨_, rfl, rfl, _, rfl, iteD rfl ?_⟩
        exact q _ H (Kp.refl H)
      · obtain ⟨a, xs, rfl, ha, hxs⟩ := exp_cp cp hv
        have at0 : atI (V.str e.wd :: xs) 0 = some (V.str e.wd) := atI_nat (j := 0) (show (V.str e.wd :: xs)[0]? = some (V.str e.wd) from rfl)
        have lx := hxs.length
        rw [List.length_map] at lx
        have h3 := e.c3
        refine ⟨_, rfl, a, _, 0, _, rfl, rfl, SqT.of ha, at0, ?_⟩
        refine ⟨_, rfl, rfl, _, rfl, iteDN (wd_in cp) ?_⟩
        refine ⟨_, rfl, rfl, _, rfl, iteDN (wd_num cp) ?_⟩
        refine ⟨_, rfl, _, rfl, ?_⟩
        refine slN ha fun c2 H1 k1 hc2 => ?_
        have ec : cutV (V.str e.wd :: xs) (some ((1 : Nat) : Int)) none = xs := by rw [cut_from]; rfl
        rw [show (1 : Int) = ((1 : Nat) : Int) from rfl, ec] at hc2
        refine ⟨c2, rfl, ⟨_, SqT.of hc2⟩, fun D hD => lcD hD (lp_T hc2 (szLt (by omega)) (fun _ v _ => ∃ m, v = .int m) (fun _ _ _ _ _ h => h) (fun i x H2 hi hx k2 Q' q' => ?_) fun D' vs H2 _ k2 hv2 hvl hr1 eD => ?_)⟩
        · obtain ⟨d, hd1, hxd⟩ := hxs.at' hx
          rw [List.getElem?_map] at hd1
          obtain ⟨b, hb, rfl⟩ := Option.map_eq_some_iff.mp hd1
          have hbm := List.mem_of_getElem? hb
          have k02 := k1.trans k2
          exact ⟨_, rfl, _, rfl, b, x, c, ns, rfl, by have := E.cDep cp b hbm; omega, E.cOk cp ho b hbm, hxd.k k02, k02.get hc, fun m H3 k3 => q' _ H3 k3 ⟨m, rfl⟩⟩
        · cases eD
          have hall : ∃ ms : List Int, vs = ms.map V.int := by
            clear hv2 hvl q hD
            revert hr1
            induction vs with
            | nil => exact fun _ => ⟨[], rfl⟩
            | cons x r ih =>
              intro hr1
              obtain ⟨m, rfl⟩ := hr1 0 x rfl
              obtain ⟨ms, e⟩ := ih fun i v h => hr1 (i + 1) v h
              exact ⟨m :: ms, by rw [e]; rfl⟩
          obtain ⟨ms, rfl⟩ := hall
          exact ⟨D, ms, rfl, SqL.of hv2, _, _, rfl, rfl, q _ H2 (k1.trans k2)⟩
/-! ### run -/
def spDoneWith : Sp := fun vs H Q _ => ∃ (e : E) (ns : List Int) (c : Addr), vs = [.str e.wd, .ref c] ∧ e.Cp ∧ H c = some (.lst (e.prt.map fun a => V.int (a.ev ns))) ∧ Q (.int (e.ev ns)) H
theorem pk1 : ¬ V.str "pick" = V.str "add" := by decide +kernel
theorem pk2 : ¬ V.str "pick" = V.str "mul" := by decide +kernel
theorem pk3 : ¬ V.str "pick" = V.str "less" := by decide +kernel
theorem ls1 : ¬ V.str "less" = V.str "add" := by decide +kernel
theorem ls2 : ¬ V.str "less" = V.str "mul" := by decide +kernel
theorem int_ne {a b : Int} (h : ¬ a = b) : ¬ V.int a = V.int b := fun z => h (by cases z; rfl)
theorem done_with (B : Bi mg) (D : Df K mg "done_with" s_done_with ["word", "worths"]) : Fn P w K mg base CX0 1 "done_with" ["word", "worths"] spDoneWith := by
  refine D.fn sc_done_with (fun vs H Q EX h => ?_) (fun f cdv A outer s H vs Q EX hr h => ?_)
  · obtain ⟨e, ns, c, rfl, _⟩ := h
    rfl
  · obtain ⟨e, ns, c, rfl, cp, hc, q⟩ := h
    -- done_with  slots: 0 word, 1 worths
    refine ⟨_, (pss_cons (ps_if (pt_cmpR op_eq (pv 0) pe_str (nomark _))
      pss_never
      pss_nil)
    (pss_cons (ps_if (pt_cmpR op_eq (pv 0) pe_str (nomark _))
      pss_never
      pss_nil)
    (pss_cons (ps_if (pt_cmpR op_eq (pv 0) pe_str (nomark _))
      (pss_one (ps_ret (pe_intB B (pa_cons (pe_cmpR op_lt (pe_ixL K (pv 1) pe_int) (pe_ixL K (pv 1) pe_int) (nomark _)) pa_nil))))
      pss_nil)
    (pss_cons (ps_if (pt_cmpR op_ne (pe_ixL K (pv 1) pe_int) pe_int (nomark _))
      (pss_one (ps_ret (pe_ixL K (pv 1) pe_int)))
      pss_nil)
    (pss_one (ps_ret (pe_ixL K (pv 1) pe_int))))))), ?_⟩
    cases e with
    | inp i => cases cp
    | num i => cases cp
    | less a b =>
      have hc' : H c = some (.lst [.int (a.ev ns), .int (b.ev ns)]) := hc
      refine ⟨_, rfl, rfl, _, rfl, iteDN ls1 ?_⟩
      refine ⟨_, rfl, rfl, _, rfl, iteDN ls2 ?_⟩
      refine ⟨_, rfl, rfl, _, rfl, iteD rfl ?_⟩
      refine ⟨_, rfl, c, _, 0, _, rfl, rfl, SqL.of hc', rfl, _, rfl, c, _, 1, _, rfl, rfl, SqL.of hc', rfl, _, _, rfl, rfl, .inr ⟨_, rfl, ?_⟩⟩
      have e1 : (if decide (a.ev ns < b.ev ns) = true then (1 : Int) else 0) = E.ev ns (.less a b) := by
        show _ = if a.ev ns < b.ev ns then (1 : Int) else 0
        by_cases h : a.ev ns < b.ev ns
        · rw [if_pos h, if_pos (decide_eq_true h)]
        · rw [if_neg h, if_neg (by rw [decide_eq_false h]; exact Bool.false_ne_true)]
      rw [e1]
      exact q
    | pick a b d =>
      have hc' : H c = some (.lst [.int (a.ev ns), .int (b.ev ns), .int (d.ev ns)]) := hc
      refine ⟨_, rfl, rfl, _, rfl, iteDN pk1 ?_⟩
      refine ⟨_, rfl, rfl, _, rfl, iteDN pk2 ?_⟩
      refine ⟨_, rfl, rfl, _, rfl, iteDN pk3 ?_⟩
      have e1 : E.ev ns (.pick a b d) = if a.ev ns ≠ 0 then b.ev ns else d.ev ns := rfl
      rw [e1] at q
      by_cases h : a.ev ns = 0
      · rw [if_neg (fun z => z h)] at q
        refine ⟨_, rfl, c, _, 0, _, rfl, rfl, SqL.of hc', rfl, rfl, _, rfl, iteNN (by rw [h]) ?_⟩
        exact ⟨_, rfl, c, _, 2, _, rfl, rfl, SqL.of hc', rfl, q⟩
      · rw [if_pos h] at q
        refine ⟨_, rfl, c, _, 0, _, rfl, rfl, SqL.of hc', rfl, rfl, _, rfl, iteN (int_ne h) ?_⟩
        exact ⟨_, rfl, c, _, 1, _, rfl, rfl, SqL.of hc', rfl, q⟩
def spRun (n : Nat) : Sp := fun vs H Q _ => ∃ (e : E) (ns : List Int) (v : V) (c : Addr), vs = [v, .ref c] ∧ e.dep ≤ n ∧ e.Ok ns.length ∧ TD H v e.D ∧ H c = some (.tup (ns.map V.int)) ∧ ∀ H', Kp no H H' → Q (.int (e.ev ns)) H'
theorem run (B : Bi mg) (D : Df K mg "run" s_run ["expression", "numbers"]) (F_done_with : Fn P w K mg base CX0 1 "done_with" ["word", "worths"] spDoneWith) : ∀ n : Nat, Fn P w K mg base CX0 (n + 1) "run" ["expression", "numbers"] (spRun n)
  | 0 => by
    refine D.fn sc_run (fun vs H Q EX h => ?_) (fun f cdv A outer s H vs Q EX hr h => ?_)
    · obtain ⟨e, ns, v, c, rfl, _⟩ := h
      rfl
    · obtain ⟨e, ns, v, c, rfl, hd, _⟩ := h
      have := e.dep_pos
      omega
  | n + 1 => by
    have F_run := run B D F_done_with n
    refine D.fn sc_run (fun vs H Q EX h => ?_) (fun f cdv A outer s H vs Q EX hr h => ?_)
    · obtain ⟨e, ns, v, c, rfl, _⟩ := h
      rfl
    · obtain ⟨e, ns, v, c, rfl, hd, ho, hv, hc, q⟩ := h
      -- run  slots: 0 expression, 1 numbers, 2 word, 3 part
      refine ⟨_, (pss_cons (ps_set (i := 2) sc_run.nd rfl (Or.inl rfl) (pe_ixT K (pv 0) pe_int))
    (pss_cons (ps_if (pt_cmpR op_eq (pv 2) pe_str (nomark _))
      (pss_one (ps_ret (pe_ixT K (pv 1) (pe_ixT K (pv 0) pe_int))))
      pss_nil)
    (pss_cons (ps_if (pt_cmpR op_eq (pv 2) pe_str (nomark _))
      (pss_one (ps_ret (pe_ixT K (pv 0) pe_int)))
      pss_nil)
    (pss_one (ps_ret (pe_fn F_done_with (hr.mono (by omega)) (pa_cons (pv 2) (pa_cons (pe_lc (own := [("part", 3)]) (g := (gName 3)) (tt := tYes) rfl sc_run.nd (pi_tup (pe_slT K (pv 0) (po_some pe_int) po_none)) (blkOk_by (by kernel_rfl)) (fun _ _ _ _ _ => (pg_name (i := 3) sc_run.nd rfl (by first | exact Or.inl rfl | exact Or.inr rfl))) (fun _ _ _ _ _ => pts_nil) (fun _ _ _ _ _ => (pe_fn F_run (hr.mono (by omega)) (pa_cons (pv 3) (pa_cons (pv 1) pa_nil))))) pa_nil)))))))), ?_⟩
      rcases cp_or e with ⟨i, rfl⟩ | ⟨i, rfl⟩ | cp
      · obtain ⟨a, rfl, ha⟩ := exp_inp hv
        refine ⟨_, rfl, a, _, 0, _, rfl, rfl, SqT.of ha, rfl, ?_⟩
        refine ⟨_, rfl, rfl, _, rfl, iteD rfl ?_⟩
        have ho' : i < ns.length := ho
        have hci : ns[i]? = some ns[i] := List.getElem?_eq_getElem ho'
        have e1 : E.ev ns (.inp i) = ns[i] := by
          show ns.getD i 0 = _
          rw [List.getD_eq_getElem?_getD, hci]
          rfl
        refine ⟨_, rfl, _, rfl, a, _, 1, _, rfl, rfl, SqT.of ha, rfl, c, _, i, _, rfl, rfl, SqT.of hc, atI_nat (by rw [List.getElem?_map, hci, ← e1]; rfl), q H (Kp.refl H)⟩
      · obtain ⟨a, rfl, ha⟩ := exp_num hv
        refine ⟨_, rfl, a, _, 0, _, rfl, rfl, SqT.of ha, rfl, ?_⟩
        refine ⟨_, rfl, rfl, _, rfl, iteDN num_in ?_⟩
        refine ⟨_, rfl, rfl, _, rfl, iteD rfl ?_⟩
        exact ⟨_, rfl, a, _, 1, _, rfl, rfl, SqT.of ha, rfl, q H (Kp.refl H)⟩
      · obtain ⟨a, xs, rfl, ha, hxs⟩ := exp_cp cp hv
        have at0 : atI (V.str e.wd :: xs) 0 = some (V.str e.wd) := atI_nat (j := 0) (show (V.str e.wd :: xs)[0]? = some (V.str e.wd) from rfl)
        have lx := hxs.length
        rw [List.length_map] at lx
        have h3 := e.c3
        refine ⟨_, rfl, a, _, 0, _, rfl, rfl, SqT.of ha, at0, ?_⟩
        refine ⟨_, rfl, rfl, _, rfl, iteDN (wd_in cp) ?_⟩
        refine ⟨_, rfl, rfl, _, rfl, iteDN (wd_num cp) ?_⟩
        refine ⟨_, rfl, _, rfl, _, rfl, ?_⟩
        refine slN ha fun c2 H1 k1 hc2 => ?_
        have ec : cutV (V.str e.wd :: xs) (some ((1 : Nat) : Int)) none = xs := by rw [cut_from]; rfl
        rw [show (1 : Int) = ((1 : Nat) : Int) from rfl, ec] at hc2
        refine ⟨c2, rfl, ⟨_, SqT.of hc2⟩, fun D hD => lcD hD (lp_T hc2 (szLt (by omega)) (fun i v _ => ∃ b, e.prt[i]? = some b ∧ v = .int (b.ev ns)) (fun _ _ _ _ _ h => h) (fun i x H2 hi hx k2 Q' q' => ?_) fun D' vs H2 _ k2 hv2 hvl hr1 eD => ?_)⟩
        · obtain ⟨d, hd1, hxd⟩ := hxs.at' hx
          rw [List.getElem?_map] at hd1
          obtain ⟨b, hb, rfl⟩ := Option.map_eq_some_iff.mp hd1
          have hbm := List.mem_of_getElem? hb
          have k02 := k1.trans k2
          exact ⟨_, rfl, _, rfl, b, ns, x, c, rfl, by have := E.cDep cp b hbm; omega, E.cOk cp ho b hbm, hxd.k k02, k02.get hc, fun H3 k3 => q' _ H3 k3 ⟨b, hb, rfl⟩⟩
        · cases eD
          have hall : vs = e.prt.map fun a => V.int (a.ev ns) := by
            refine List.ext_getElem? fun i => ?_
            by_cases hi : i < vs.length
            · obtain ⟨b, hb, hv⟩ := hr1 i vs[i] (List.getElem?_eq_getElem hi)
              rw [List.getElem?_map, hb, List.getElem?_eq_getElem hi, hv]
              rfl
            · rw [List.getElem?_eq_none (by omega), List.getElem?_eq_none (by rw [List.length_map]; omega)]
          rw [hall] at hv2
          exact ⟨e, ns, D, rfl, cp, hv2, q H2 (k1.trans k2)⟩
end
end SW
/-! SwD10: the class Wires. -/
namespace SW
open PySem PySem.Spec PyProof.Rows L2
def two (a b : Addr) : Addr → Prop := fun c => c = a ∨ c = b
def fsW (t c : V) : List (Str × V) := putF "counts" c (putF "told" t [])
theorem fsW_told {t c : V} : (fsW t c).lookup ("told" : Str) = some t := by
  unfold fsW
  rw [lookup_putF, if_neg (by decide +kernel), lookup_putF, if_pos rfl]
theorem fsW_counts {t c : V} : (fsW t c).lookup ("counts" : Str) = some c := by
  unfold fsW
  rw [lookup_putF, if_pos rfl]
theorem fsW_no {t c : V} {f : Str} (h1 : ¬ f = "counts") (h2 : ¬ f = "told") : (fsW t c).lookup f = none := by
  unfold fsW
  rw [lookup_putF, if_neg h1, lookup_putF, if_neg h2]
  rfl
structure CW (K : PySem.W.Frag) (C : Addr) : Prop where
  c : Cls K C
  told : NoAttr K C "told"
  counts : NoAttr K C "counts"
structure WiAt (H : Hp) (x C tl cl : Addr) (es : List E) (ns : List Int) : Prop where
  ex : ∃ dx ys, H x = some (.ins C dx (fsW (.ref tl) (.ref cl))) ∧ H tl = some (.lst ys) ∧ TDs H ys (es.map E.D) ∧ H cl = some (.lst (ns.map V.int)) ∧ ns.length = es.length ∧ tl ≠ cl
theorem WiAt.k {H H' : Hp} {x C tl cl : Addr} {es : List E} {ns : List Int} (q : Kp no H H') (h : WiAt H x C tl cl es ns) : WiAt H' x C tl cl es ns := by
  obtain ⟨dx, ys, h1, h2, h3, h4, h5⟩ := h.ex
  exact ⟨dx, ys, q.get h1, q.get h2, h3.k q, q.get h4, h5⟩
theorem TDs.app {H : Hp} {ys : List V} {ds : List PyData} {p n : Nat} {m1 : List V → List V} {m2 : List PyData → List PyData} (h : TDs H ys ds) (hm : TDs H (m1 ((ys.drop p).take n)) (m2 ((ds.drop p).take n))) : TDs H (SW.app p n m1 ys) (SW.app p n m2 ds) := by
  unfold SW.app
  exact ((h.take p).append hm).append (h.drop (p + n))
section
variable {P : Program} {w : World} {K : PySem.W.Frag} {mg : Str → Option Value} {base : Heap} {C CT : Addr}
def spWiresInit (C : Addr) : Sp := fun vs H Q _ => ∃ (x dx : Addr) (n : Nat), vs = [.ref x, .int (n : Nat)] ∧ H x = some (.ins C dx []) ∧ n ≤ 8 ∧
  ∀ tl cl ns H', Kp (one x) H H' → H tl = none → H cl = none → WiAt H' x C tl cl ((List.range n).map E.inp) ns → Q .non H'
theorem Wires_init (B : Bi mg) (c : CW K C) (D : If K mg C "Wires" "Wires.__init__" s_Wires_init ["self", "many"]) : Fi P w K mg base CX0 1 C "Wires" ["self", "many"] (spWiresInit C) := by
  refine D.fi sc_Wires_init (fun vs H Q EX h => ?_) (fun f cdv A outer s H vs Q EX hr h => ?_)
  · obtain ⟨x, dx, n, rfl, _⟩ := h
    rfl
  · obtain ⟨x, dx, n, rfl, hx, h8, q⟩ := h
    -- Wires.__init__  slots: 0 self, 1 many, 2 place
    refine ⟨_, (pss_cons (ps_fld (pv 0) (pe_lc (own := [("place", 2)]) (g := (gName 2)) (tt := tYes) rfl sc_Wires_init.nd (pi_range1 (by rfl) B.range (pa_cons (pv 1) pa_nil)) (blkOk_by (by kernel_rfl)) (fun _ _ _ _ _ => (pg_name (i := 2) sc_Wires_init.nd rfl (by first | exact Or.inl rfl | exact Or.inr rfl))) (fun _ _ _ _ _ => pts_nil) (fun _ _ _ _ _ => (pe_tup (pa_cons pe_str (pa_cons (pv 2) pa_nil))))) rfl)
    (pss_one (ps_fld (pv 0) (pe_lc (own := [("place", 2)]) (g := (gName 2)) (tt := tYes) rfl sc_Wires_init.nd (pi_range1 (by rfl) B.range (pa_cons (pv 1) pa_nil)) (blkOk_by (by kernel_rfl)) (fun _ _ _ _ _ => (pg_name (i := 2) sc_Wires_init.nd rfl (by first | exact Or.inl rfl | exact Or.inr rfl))) (fun _ _ _ _ _ => pts_nil) (fun _ _ _ _ _ => pe_int)) rfl))), ?_⟩
    refine ⟨_, rfl, n, rfl, by omega, by omega, fun D hD => lcD hD (lp_R (lo := 0) (n := n) (szLt (by omega)) (RD (((List.range n).map E.inp).map E.D)) RD.kt (fun i y H2 hi hy k2 Q' q' => ?_) fun D' vs H2 _ k2 hv2 hvl hr1 eD => ?_)⟩
    · subst hy
      refine ⟨_, rfl, sz2, fun t ht => q' _ _ (Kp.new ht _) ⟨(E.inp i).D, by rw [List.getElem?_map, List.getElem?_map, List.getElem?_range hi]; rfl, TD.mk2 upd_same (.str _) (by rw [Int.zero_add]; exact .int _)⟩⟩
    · cases eD
      have hall := RD.all (H := H2) (by rw [hvl, List.length_map, List.length_map, List.length_range]) hr1
      have hx2 := k2.get hx
      refine ⟨_, rfl, x, C, dx, _, rfl, hx2, c.c, c.told, by decide, ?_⟩
      have kx := Kp.put1 (o := .ins C dx (putF "told" (.ref D) [])) (ins_tup hx2)
      have xD : x ≠ D := ne_of_none hx hD
      refine ⟨_, rfl, n, rfl, by omega, by omega, fun D2 hD2 => lcD hD2 (lp_R (lo := 0) (n := n) (szLt (by omega)) (fun _ v _ => v = .int 1) (fun _ _ _ _ _ h => h) (fun i y H3 hi hy k3 Q' q' => ?_) fun D' vs2 H3 _ k3 hv3 hvl3 hr3 eD => ?_)⟩
      · exact q' _ _ (Kp.refl H3) rfl
      · cases eD
        have e2 := rep_of hvl3 hr3
        have hx3 := k3.get (show upd H2 x (.ins C dx (putF "told" (.ref D) [])) x = _ from upd_same)
        refine ⟨_, rfl, x, C, dx, _, rfl, hx3, c.c, c.counts, putF_k (n := 1) (putF_len2 nil_len) (by decide), ?_⟩
        have ky := Kp.put1 (o := .ins C dx (fsW (.ref D) (.ref D2))) (ins_tup hx3)
        have kall : Kp (one x) H _ := (((k2.w).trans kx).trans k3.w).trans ky
        have nD2 : H D2 = none := by
          cases z : H D2 with
          | none => rfl
          | some o =>
            have z2 := k2.get z
            by_cases e : D2 = x
            · rw [e, upd_same] at hD2
              cases hD2
            · rw [upd_ne e, z2] at hD2
              cases hD2
        have hD3 := k3.get (show upd H2 x (.ins C dx (putF "told" (.ref D) [])) D = some (.lst vs) by rw [upd_ne xD.symm]; exact hv2)
        have x2 : x ≠ D2 := ne_of_none upd_same hD2
        refine q D D2 (List.replicate n 1) _ kall hD nD2 ⟨dx, vs, upd_same, by rw [upd_ne xD.symm]; exact hD3, ((hall.k kx).k k3).k ky, ?_, by rw [List.length_replicate, List.length_map, List.length_range], ?_⟩
        · show upd H3 x _ D2 = _
          rw [upd_ne x2.symm, hv3, e2, List.map_replicate]
        · have hv2' : upd H2 x (.ins C dx (putF "told" (.ref D) [])) D = some (.lst vs) := by rw [upd_ne xD.symm]; exact hv2
          exact ne_of_none hv2' hD2
def spCrossed (C : Addr) : Sp := fun vs H Q _ => ∃ (x tl cl : Addr) (es : List E) (ns : List Int) (p : Nat), vs = [.ref x, .int (p : Nat)] ∧ WiAt H x C tl cl es ns ∧ p + 2 ≤ es.length ∧ es.length ≤ 8 ∧
  ∀ H', Kp (two tl cl) H H' → WiAt H' x C tl cl (app p 2 List.reverse es) (app p 2 List.reverse ns) → Q .non H'
theorem app_two {α : Type} {l : List α} {p : Nat} {a b : α} (h0 : l[p]? = some a) (h1 : l[p + 1]? = some b) : app p 2 List.reverse l = l.take p ++ [b, a] ++ l.drop (p + 2) := by
  obtain ⟨h2, e2⟩ := List.getElem?_eq_some_iff.mp h0
  obtain ⟨h3, e3⟩ := List.getElem?_eq_some_iff.mp h1
  have e5 : (l.drop p).take 2 = [a, b] := by
    rw [List.drop_eq_getElem_cons h2, List.drop_eq_getElem_cons h3, e2, e3]
    rfl
  unfold app
  rw [e5]
  rfl
theorem Wires_crossed (B : Bi mg) (c : CW K C) (D : Mf K C "crossed" "Wires.crossed" s_Wires_crossed ["self", "place"]) : Fm P w K mg base CX0 1 C "crossed" ["self", "place"] (spCrossed C) := by
  refine D.fm sc_Wires_crossed (fun vs H Q EX h => ?_) (fun f cdv A outer s H vs Q EX hr h => ?_)
  · obtain ⟨x, tl, cl, es, ns, p, rfl, _⟩ := h
    rfl
  · obtain ⟨x, tl, cl, es, ns, p, rfl, hw, hp, h8, q⟩ := h
    obtain ⟨dx, ys, hx, htl, hys, hcl, hlen, hne⟩ := hw.ex
    have ly := hys.length
    rw [List.length_map] at ly
    -- Wires.crossed  slots: 0 self, 1 place
    refine ⟨_, (pss_cons (ps_asg (pe_lst (pa_cons (pe_ixL K (pe_fldK K (pv 0)) (pe_op op_add (pv 1) pe_int)) (pa_cons (pe_ixL K (pe_fldK K (pv 0)) (pv 1)) pa_nil))) (pg_sli (pe_fldK K (pv 0)) (pv 1) (pe_op op_add (pv 1) pe_int)))
    (pss_one (ps_asg (pe_lst (pa_cons (pe_ixL K (pe_fldK K (pv 0)) (pe_op op_add (pv 1) pe_int)) (pa_cons (pe_ixL K (pe_fldK K (pv 0)) (pv 1)) pa_nil))) (pg_sli (pe_fldK K (pv 0)) (pv 1) (pe_op op_add (pv 1) pe_int))))), ?_⟩
    have e1 : ((p : Int) + 1) = ((p + 1 : Nat) : Int) := by omega
    have e2 : ((p : Int) + 2) = ((p + 2 : Nat) : Int) := by omega
    have g0 : ys[p]? = some ys[p] := List.getElem?_eq_getElem (by omega)
    have g1 : ys[p + 1]? = some ys[p + 1] := List.getElem?_eq_getElem (by omega)
    have c0 : (ns.map V.int)[p]? = some (.int ns[p]) := by rw [List.getElem?_map, List.getElem?_eq_getElem (by omega)]; rfl
    have c1 : (ns.map V.int)[p + 1]? = some (.int ns[p + 1]) := by rw [List.getElem?_map, List.getElem?_eq_getElem (by omega)]; rfl
    refine ⟨_, rfl, x, C, dx, _, _, rfl, hx, c.c, c.told, fsW_told, _, rfl, _, _, rfl, rfl, tl, _, _, _, rfl, rfl, SqL.of htl, by rw [e1]; exact atI_nat g1, _, rfl, x, C, dx, _, _, rfl, hx, c.c, c.told, fsW_told, _, rfl, tl, _, _, _, rfl, rfl, SqL.of htl, atI_nat g0, sz2, fun b hb => ?_⟩
    have kb := Kp.new (S := no) hb (.lst [ys[p + 1], ys[p]])
    have htl1 := kb.get htl
    refine ⟨_, rfl, x, C, dx, _, _, rfl, kb.get hx, c.c, c.told, fsW_told, _, rfl, _, rfl, _, _, rfl, rfl, tl, b, ys, [ys[p + 1], ys[p]], p, _, rfl, rfl, rfl, rfl, htl1, upd_same, ne_of_none htl hb, by omega, by omega, by omega, szL (by show ys.length + 2 ≤ 100000; omega), ?_⟩
    have k1 := Kp.put1 (o := .lst (ys.take p ++ [ys[p + 1], ys[p]] ++ ys.drop (p + 2))) (lst_tup htl1)
    have et : ((p : Int) + 2).toNat = p + 2 := by omega
    rw [et, Int.toNat_natCast]
    obtain ⟨H1, eH1⟩ : ∃ H1, H1 = upd (upd H b (.lst [ys[p + 1], ys[p]])) tl (.lst (ys.take p ++ [ys[p + 1], ys[p]] ++ ys.drop (p + 2))) := ⟨_, rfl⟩
    rw [← eH1] at k1 ⊢
    have nx : ¬ one tl x := fun z => by rw [show x = tl from z, htl] at hx; cases hx
    have hx1 := k1.but _ _ nx (kb.get hx)
    have hcl1 := k1.but _ _ (fun z => hne (show cl = tl from z).symm) (kb.get hcl)
    have htl2 : H1 tl = some (.lst (ys.take p ++ [ys[p + 1], ys[p]] ++ ys.drop (p + 2))) := by rw [eH1]; exact upd_same
    refine ⟨_, rfl, x, C, dx, _, _, rfl, hx1, c.c, c.counts, fsW_counts, _, rfl, _, _, rfl, rfl, cl, _, _, _, rfl, rfl, SqL.of hcl1, by rw [e1]; exact atI_nat c1, _, rfl, x, C, dx, _, _, rfl, hx1, c.c, c.counts, fsW_counts, _, rfl, cl, _, _, _, rfl, rfl, SqL.of hcl1, atI_nat c0, sz2, fun b2 hb2 => ?_⟩
    have kb2 := Kp.new (S := no) hb2 (.lst [V.int ns[p + 1], V.int ns[p]])
    have hcl2 := kb2.get hcl1
    refine ⟨_, rfl, x, C, dx, _, _, rfl, kb2.get hx1, c.c, c.counts, fsW_counts, _, rfl, _, rfl, _, _, rfl, rfl, cl, b2, ns.map V.int, [V.int ns[p + 1], V.int ns[p]], p, _, rfl, rfl, rfl, rfl, hcl2, upd_same, ne_of_none hcl1 hb2, by omega, by omega, by rw [List.length_map]; omega, szL (by rw [List.length_map]; show ns.length + 2 ≤ 100000; omega), ?_⟩
    rw [et, Int.toNat_natCast]
    have k2 := Kp.put1 (o := .lst ((ns.map V.int).take p ++ [V.int ns[p + 1], V.int ns[p]] ++ (ns.map V.int).drop (p + 2))) (lst_tup hcl2)
    have nx2 : ¬ one cl x := fun z => by rw [show x = cl from z, hcl] at hx; cases hx
    have kall : Kp (two tl cl) H _ := (((kb.w).trans (k1.mono fun b z => .inl z)).trans kb2.w).trans (k2.mono fun b z => .inr z)
    refine q _ kall ⟨dx, _, k2.but _ _ nx2 (kb2.get hx1), k2.but _ _ (fun z => hne z) (kb2.get htl2), ?_, ?_, ?_, hne⟩
    · rw [← app_two g0 g1, app_map (f := E.D) (m2 := List.reverse) (fun x => List.map_reverse)]
      refine ((((hys.app (m1 := List.reverse) (m2 := List.reverse) ?_)).k kb).k k1 |>.k kb2).k k2
      exact ((hys.drop p).take 2).reverse
    · rw [upd_same, ← app_two c0 c1, app_map (f := V.int) (m2 := List.reverse) (fun x => List.map_reverse)]
    · rw [app_length hp, app_length (by omega), hlen, List.length_reverse, List.length_reverse, List.length_take, List.length_take, List.length_drop, List.length_drop, hlen]
theorem all_int {H : Hp} : ∀ {vs : List V}, (∀ (i : Nat) (v : V), vs[i]? = some v → ∃ m, v = .int m) → ∃ ms : List Int, vs = ms.map V.int
  | [], _ => ⟨[], rfl⟩
  | x :: r, h => by
    obtain ⟨m, rfl⟩ := h 0 x rfl
    obtain ⟨ms, e⟩ := all_int (H := H) (vs := r) fun i v q => h (i + 1) v q
    exact ⟨m :: ms, by rw [e]; rfl⟩
def spBoxed (C CT : Addr) : Sp := fun vs H Q EX => ∃ (x tl cl : Addr) (es gs : List E) (ns : List Int) (p n : Nat) (ev : V), vs = [.ref x, .int (p : Nat), .int (n : Nat), ev] ∧ WiAt H x C tl cl es ns ∧ p + n ≤ es.length ∧ es.length ≤ 8 ∧ TD H ev (.tuple (gs.map E.D)) ∧ gs.length ≤ 4 ∧ (∀ g ∈ gs, g.Ok n ∧ g.dep ≤ 3) ∧
  (∀ ms H', ms.length = gs.length → Kp (two tl cl) H H' → WiAt H' x C tl cl (app p n (fun cs => gs.map (E.sub cs)) es) (app p n (fun _ => ms) ns) → Q .non H') ∧
  ∀ m d H', Kp no H H' → H d = none → H' d = some (.xd [("number", .int m)]) → EX (.ref CT) (some d) H'
theorem Wires_boxed (B : Bi mg) (c : CW K C) (TW : Tn P w K mg base CT 1 ["self", "number"] (spTooWide CT)) (D : Mf K C "boxed" "Wires.boxed" s_Wires_boxed ["self", "place", "many", "expressions"])
    (F_put_in : Fn P w K mg base CX0 4 "put_in" ["expression", "comes"] (spPutIn 3)) (F_parts_with : Fn P w K mg base CX0 4 "parts_with" ["expression", "counts"] (spPartsWith 3)) :
    Fm P w K mg base (L2.CX P w) 5 C "boxed" ["self", "place", "many", "expressions"] (spBoxed C CT) := by
  obtain ⟨tM, hMOST_PARTS⟩ := B.parts
  refine D.fmX sc_Wires_boxed (fun vs H Q EX h => ?_) (fun f cdv A outer s H vs Q EX hr h => ?_)
  · obtain ⟨x, tl, cl, es, gs, ns, p, n, ev, rfl, _⟩ := h
    rfl
  · obtain ⟨x, tl, cl, es, gs, ns, p, n, ev, rfl, hw, hp, h8, hev, g4, hok, q1, q2⟩ := h
    obtain ⟨dx, ys, hx, htl, hys, hcl, hlen, hne⟩ := hw.ex
    obtain ⟨ea, xs, rfl, hea, hxs⟩ := hev.inv
    have ly := hys.length
    have lx := hxs.length
    rw [List.length_map] at ly lx
    -- Wires.boxed  slots: 0 self, 1 place, 2 many, 3 expressions, 4 comes, 5 counts, 6 more, 7 count, 8 expression
    refine ⟨_, (pss_cons (ps_set (i := 4) sc_Wires_boxed.nd rfl (Or.inr rfl) (pe_slL K (pe_fldK K (pv 0)) (po_some (pv 1)) (po_some (pe_op op_add (pv 1) (pv 2)))))
    (pss_cons (ps_set (i := 5) sc_Wires_boxed.nd rfl (Or.inr rfl) (pe_slL K (pe_fldK K (pv 0)) (po_some (pv 1)) (po_some (pe_op op_add (pv 1) (pv 2)))))
    (pss_cons (ps_setLc (i := 6) (own := [("expression", 8)]) (g := (gName 8)) (tt := tYes) rfl sc_Wires_boxed.nd rfl rfl (sw_true rfl rfl rfl (by decide +kernel)) (pi_tup (pv 3)) (blkOk_by (by kernel_rfl)) (fun _ _ _ _ _ => (pg_name (i := 8) sc_Wires_boxed.nd rfl (by first | exact Or.inl rfl | exact Or.inr rfl))) (fun _ _ _ _ _ => pts_nil) (fun _ _ _ _ _ => (pe_fn F_parts_with (hr.mono (by omega)) (pa_cons (pv 8) (pa_cons (pv 5) pa_nil)))))
    (pss_cons (ps_for (passes_of rfl) rfl (pi_list (pv 6)) (pg_name (i := 7) sc_Wires_boxed.nd rfl (by first | exact Or.inl rfl | exact Or.inr rfl))
      (pss_one (ps_if (pt_cmpR op_gt (pv 7) (pe_glob (v := .int 500) rfl hMOST_PARTS ⟨_, rfl⟩) (nomark _))
        (pss_one (ps_raise rfl (takes_of rfl rfl rfl rfl) (TW.pmk (hr.mono (by omega)) (pa_cons (pv 7) pa_nil))))
        pss_nil)))
    (pss_cons (ps_asg (pe_lc (own := [("expression", 8)]) (g := (gName 8)) (tt := tYes) rfl sc_Wires_boxed.nd (pi_tup (pv 3)) (blkOk_by (by kernel_rfl)) (fun _ _ _ _ _ => (pg_name (i := 8) sc_Wires_boxed.nd rfl (by first | exact Or.inl rfl | exact Or.inr rfl))) (fun _ _ _ _ _ => pts_nil) (fun _ _ _ _ _ => (pe_fn F_put_in (hr.mono (by omega)) (pa_cons (pv 8) (pa_cons (pv 4) pa_nil))))) (pg_sli (pe_fldK K (pv 0)) (pv 1) (pe_op op_add (pv 1) (pv 2))))
    (pss_one (ps_asg (pv 6) (pg_sli (pe_fldK K (pv 0)) (pv 1) (pe_op op_add (pv 1) (pv 2)))))))))), ?_⟩
    have lcs : ((es.drop p).take n).length = n := cut_length hp
    have et : ((p : Int) + (n : Nat)).toNat = p + n := by omega
    -- comes, counts
    refine ⟨_, rfl, x, C, dx, _, _, rfl, hx, c.c, c.told, fsW_told, _, rfl, _, rfl, _, rfl, _, rfl, _, _, rfl, rfl, _, rfl, tl, ys, rfl, SqL.of htl, fun b1 hb1 => ?_⟩
    rw [cut_mid (by omega)]
    have k1 := Kp.new (S := no) hb1 (.lst ((ys.drop p).take n))
    refine ⟨_, rfl, x, C, dx, _, _, rfl, k1.get hx, c.c, c.counts, fsW_counts, _, rfl, _, rfl, _, rfl, _, rfl, _, _, rfl, rfl, _, rfl, cl, _, rfl, SqL.of (k1.get hcl), fun b2 hb2 => ?_⟩
    rw [cut_mid (by rw [List.length_map]; omega), ← List.map_drop, ← List.map_take]
    have k2 := Kp.new (S := no) hb2 (.lst (((ns.drop p).take n).map V.int))
    have k12 := k1.trans k2
    obtain ⟨H2, eH2⟩ : ∃ H2, H2 = upd (upd H b1 (.lst ((ys.drop p).take n))) b2 (.lst (((ns.drop p).take n).map V.int)) := ⟨_, rfl⟩
    have hb1' : H2 b1 = some (.lst ((ys.drop p).take n)) := by rw [eH2]; exact k2.get upd_same
    have hb2' : H2 b2 = some (.lst (((ns.drop p).take n).map V.int)) := by rw [eH2]; exact upd_same
    rw [← eH2] at k12 ⊢
    -- more
    refine ⟨_, rfl, ea, rfl, ⟨_, SqT.of (k12.get hea)⟩, fun D hD => lcD hD (lp_T (k12.get hea) (szLt (by omega)) (fun _ v _ => ∃ m, v = .int m) (fun _ _ _ _ _ h => h) (fun i y H3 hi hy k3 Q' q' => ?_) fun D' vs H3 _ k3 hv3 hvl3 hr3 eD => ?_)⟩
    · obtain ⟨d, hd1, hxd⟩ := hxs.at' hy
      rw [List.getElem?_map] at hd1
      obtain ⟨g, hg, rfl⟩ := Option.map_eq_some_iff.mp hd1
      have hgm := List.mem_of_getElem? hg
      have k13 := k12.trans k3
      refine ⟨_, rfl, _, rfl, g, y, b2, (ns.drop p).take n, rfl, (hok g hgm).2, ?_, hxd.k k13, k3.get hb2', fun m H4 k4 => q' _ H4 k4 ⟨m, rfl⟩⟩
      rw [cut_length (by omega)]
      exact (hok g hgm).1
    cases eD
    obtain ⟨ms, rfl⟩ := all_int (H := H) hr3
    rw [List.length_map] at hvl3
    have k13 := k12.trans k3
    have kD : H D = none := k12.none (fun z => z) hD
    -- too many?
    refine ⟨_, rfl, D, rfl, ⟨_, SqL.of hv3⟩, for_list (K := K) (a := D) (xs := ms.map V.int) (fun j σ H4 => ∃ o7, σ = [some (.ref x), some (.int (p : Nat)), some (.int (n : Nat)), some (.ref ea), some (.ref b1), some (.ref b2), some (.ref D), o7, none] ∧ Kp no H3 H4) ⟨none, rfl, Kp.refl H3⟩ (fun j σ H4 _ ⟨_, _, z⟩ => SqL.of (z.get hv3)) ?_ ?_⟩
    · rintro j z σ H4 hj ⟨o7, rfl, k4⟩
      rw [List.getElem?_map] at hj
      obtain ⟨m, _, rfl⟩ := Option.map_eq_some_iff.mp hj
      by_cases hm : (500 : Int) < m
      · refine ⟨_, rfl, _, _, rfl, rfl, _, rfl, iteD hm ?_⟩
        refine ⟨_, rfl, tw_mk fun d hd => ?_⟩
        exact q2 m d _ ((k13.trans k4).trans (Kp.new hd _)) ((k13.trans k4).none (fun z => z) hd) upd_same
      · refine ⟨_, rfl, _, _, rfl, rfl, _, rfl, iteDN hm ?_⟩
        exact ⟨_, rfl, k4⟩
    · rintro σ H4 ⟨o7, rfl, k4⟩
      have k14 := k13.trans k4
      have k24 := k3.trans k4
      -- told
      refine ⟨_, rfl, ea, rfl, ⟨_, SqT.of (k14.get hea)⟩, fun D2 hD2 => lcD hD2 (lp_T (k14.get hea) (szLt (by omega)) (RD (gs.map fun g => (g.sub ((es.drop p).take n)).D)) RD.kt (fun i y H5 hi hy k5 Q' q' => ?_) fun D' vs H5 _ k5 hv5 hvl5 hr5 eD => ?_)⟩
      · obtain ⟨d, hd1, hxd⟩ := hxs.at' hy
        rw [List.getElem?_map] at hd1
        obtain ⟨g, hg, rfl⟩ := Option.map_eq_some_iff.mp hd1
        have hgm := List.mem_of_getElem? hg
        have k15 := k14.trans k5
        have k25 := k24.trans k5
        refine ⟨_, rfl, _, rfl, g, (es.drop p).take n, y, b1, (ys.drop p).take n, rfl, (hok g hgm).2, by rw [lcs]; exact (hok g hgm).1, hxd.k k15, k25.get hb1', ?_, fun z H6 k6 hz => q' z H6 k6 ⟨_, by rw [List.getElem?_map, hg]; rfl, hz⟩⟩
        rw [List.map_take, List.map_drop]
        exact (((hys.k k15).drop p).take n)
      cases eD
      have hall := RD.all (H := H5) (by rw [hvl5, List.length_map, lx]) hr5
      have k15 := k14.trans k5
      have htl5 := k15.get htl
      have nt : tl ≠ D2 := ne_of_none (k14.get htl) hD2
      refine ⟨_, rfl, x, C, dx, _, _, rfl, k15.get hx, c.c, c.told, fsW_told, _, rfl, _, rfl, _, rfl, _, _, rfl, rfl, tl, D2, ys, vs, p, _, rfl, rfl, rfl, rfl, htl5, hv5, nt, by omega, by omega, by omega, szL (by omega), ?_⟩
      rw [et, Int.toNat_natCast]
      have k6 := Kp.put1 (o := .lst (ys.take p ++ vs ++ ys.drop (p + n))) (lst_tup htl5)
      have hx6 := k6.but _ _ (fun z => by rw [show x = tl from z, htl] at hx; cases hx) (k15.get hx)
      have hcl6 := k6.but _ _ (fun z => hne (show cl = tl from z).symm) (k15.get hcl)
      have hD6 := k6.but _ _ (fun z => by rw [show D = tl from z, htl] at kD; cases kD) ((k4.trans k5).get hv3)
      refine ⟨_, rfl, _, rfl, x, C, dx, _, _, rfl, hx6, c.c, c.counts, fsW_counts, _, rfl, _, rfl, _, rfl, _, _, rfl, rfl, cl, D, ns.map V.int, ms.map V.int, p, _, rfl, rfl, rfl, rfl, hcl6, hD6, ne_of_none hcl kD, by omega, by omega, by rw [List.length_map]; omega, szL (by rw [List.length_map, List.length_map]; omega), ?_⟩
      rw [et, Int.toNat_natCast]
      have k7 := Kp.put1 (o := .lst ((ns.map V.int).take p ++ ms.map V.int ++ (ns.map V.int).drop (p + n))) (lst_tup hcl6)
      have kall : Kp (two tl cl) H _ := ((k15.w).trans (k6.mono fun b z => .inl z)).trans (k7.mono fun b z => .inr z)
      refine q1 ms _ (by omega) kall ⟨dx, _, k7.but _ _ (fun z => by rw [show x = cl from z, hcl] at hx; cases hx) hx6, k7.but _ _ (fun z => hne z) upd_same, ?_, ?_, ?_, hne⟩
      · have e1 : (app p n (fun cs => gs.map (E.sub cs)) es).map E.D = (es.map E.D).take p ++ (gs.map fun g => (g.sub ((es.drop p).take n)).D) ++ (es.map E.D).drop (p + n) := by
          unfold app
          rw [List.map_append, List.map_append, List.map_take, List.map_drop, List.map_map]
          rfl
        rw [e1]
        exact ((((hys.k k15).take p).append hall).append ((hys.k k15).drop (p + n)) |>.k k6).k k7
      · rw [upd_same, app_map (f := V.int) (m2 := fun _ => ms.map V.int) (fun x => rfl)]
        rfl
      · rw [app_length hp, app_length (by omega), hlen, List.length_map]
        omega
end
end SW
/-! SwD11: read_program. -/
namespace SW
open PySem PySem.Spec PyProof.Rows L2
section
variable {P : Program} {w : World} {K : PySem.W.Frag} {mg : Str → Option Value} {base : Heap} {C CT : Addr}
theorem fl_at {k : Kit} {fl : Fl} (F : FlGood k fl) {i : Nat} (hi : i < k.bx.length) : fl[i]? = some (fl.getD i []) := by
  have h : i < fl.length := by rw [F.len]; exact hi
  rw [List.getD_eq_getElem?_getD, List.getElem?_eq_getElem h]
  rfl
def spReadProgram (CT : Addr) : Sp := fun vs H Q EX => ∃ (k : Kit) (fl : Fl) (p : Pic) (v f y : V), vs = [v, f, y] ∧ KitAt H v k ∧ k.Good ∧ FlGood k fl ∧ TD H f (flD fl) ∧ TD H y (p.D k) ∧ p.Good k ∧
  (∀ z H', Kp no H H' → TD H' z (.tuple ((told k fl p p.la.length).map E.D)) → Q z H') ∧
  ∀ m d H', Kp no H H' → H d = none → H' d = some (.xd [("number", .int m)]) → EX (.ref CT) (some d) H'
theorem read_program (B : Bi mg) (c : CW K C) (D : Df K mg "read_program" s_read_program ["kit", "filling", "picture"]) (F_Wires_init : Fi P w K mg base CX0 1 C "Wires" ["self", "many"] (spWiresInit C))
    (F_Wires_crossed : Fm P w K mg base CX0 1 C "crossed" ["self", "place"] (spCrossed C)) (F_Wires_boxed : Fm P w K mg base (L2.CX P w) 5 C "boxed" ["self", "place", "many", "expressions"] (spBoxed C CT))
    (F_feet_of : Fn P w K mg base CX0 2 "feet_of" ["kit", "name"] spFeetOf) (F_box_number : Fn P w K mg base CX0 1 "box_number" ["kit", "name"] spBoxNumber) :
    Fn P w K mg base (L2.CX P w) 6 "read_program" ["kit", "filling", "picture"] (spReadProgram CT) := by
  have cWires := c.c
  refine D.fnX sc_read_program (fun vs H Q EX h => ?_) (fun f cdv A outer s H vs Q EX hr h => ?_)
  · obtain ⟨k, fl, p, v, f, y, rfl, _⟩ := h
    rfl
  · obtain ⟨k, fl, p, v, f0, y, rfl, hk, G, F, hf, hy, Gp, q1, q2⟩ := h
    obtain ⟨fa, fs, rfl, hfa, hfs⟩ := TD.inv hf
    obtain ⟨a, xw, l, ls, rfl, ha, hxw, hl, hls⟩ := pic_inv hy
    have ll := hls.length
    rw [List.length_map] at ll
    have l12 := Gp.l12
    have a6 := Gp.a6
    -- read_program  slots: 0 kit, 1 filling, 2 picture, 3 wires, 4 place, 5 step, 6 many
    refine ⟨_, (pss_cons (ps_set (i := 3) sc_read_program.nd rfl (Or.inl rfl) (pe_fi F_Wires_init (hr.mono (by omega)) (pa_cons (pe_len K B (pa_cons (pe_ixT K (pv 2) pe_int) pa_nil)) pa_nil)))
    (pss_cons (ps_for (passes_of rfl) rfl (pi_tup (pe_ixT K (pv 2) pe_int)) (pg_tup (by rfl) (pgs_cons (pg_name (i := 4) sc_read_program.nd rfl (by first | exact Or.inl rfl | exact Or.inr rfl)) (pgs_cons (pg_name (i := 5) sc_read_program.nd rfl (by first | exact Or.inl rfl | exact Or.inr rfl)) pgs_nil)))
      (pss_one (ps_if (pt_cmpR op_eq (pe_ixT K (pv 5) pe_int) pe_str (nomark _))
        (pss_one (ps_expr (pe_fm cWires F_Wires_crossed (hr.mono (by omega)) (pv 3) (pa_cons (pv 4) pa_nil))))
        (pss_cons (ps_set (i := 6) sc_read_program.nd rfl (Or.inl rfl) (pe_len K B (pa_cons (pe_ixT K (pe_fn F_feet_of (hr.mono (by omega)) (pa_cons (pv 0) (pa_cons (pe_ixT K (pv 5) pe_int) pa_nil))) pe_int) pa_nil)))
        (pss_one (ps_expr (pe_fmX cWires F_Wires_boxed (passes_call (takes_of rfl rfl rfl rfl) fun _ _ _ _ h => h) (hr.mono (by omega)) (pv 3) (pa_cons (pv 4) (pa_cons (pv 6) (pa_cons (pe_ixT K (pv 1) (pe_fn F_box_number (hr.mono (by omega)) (pa_cons (pv 0) (pa_cons (pe_ixT K (pv 5) pe_int) pa_nil)))) pa_nil))))))))))
    (pss_one (ps_ret (pe_tupOf K B (pa_cons (pe_fldK K (pv 3)) pa_nil)))))), ?_⟩
    refine ⟨_, rfl, a, _, 0, _, rfl, rfl, SqT.of ha, rfl, xw, _, rfl, .inr (SqT.of hxw), fun x dx nx ndx hne => ?_⟩
    have k2 : Kp no H (upd (upd H dx (.own x)) x (.ins C dx [])) := (Kp.new ndx _).trans (Kp.new (by rw [upd_ne hne.symm]; exact nx) _)
    refine ⟨x, dx, p.ab.length, by rw [List.length_map], upd_same, by omega, fun tl cl ns H3 k3 ntl ncl wi => ⟨rfl, ?_⟩⟩
    have k03 : Kp no H H3 := k2.shed k3 (fun b z => by rw [show b = x from z]; exact nx)
    have ntl0 := k2.none (fun z => z) ntl
    have ncl0 := k2.none (fun z => z) ncl
    refine ⟨_, rfl, a, _, 1, _, rfl, rfl, SqT.of (k03.get ha), rfl, l, rfl, ⟨_, SqT.of (k03.get hl)⟩, for_tup (K := K) (a := l) (xs := ls) (fun i σ H4 => ∃ (ns : List Int) (o4 o5 o6 : Option V), σ = [some v, some (.ref fa), some (.ref a), some (.ref x), o4, o5, o6] ∧ Kp no H H4 ∧ WiAt H4 x C tl cl (told k fl p i) ns)
      ⟨ns, _, _, _, rfl, k03, wi⟩ (fun i σ H4 _ ⟨_, _, _, _, _, z, _⟩ => SqT.of (z.get hl)) ?_ ?_⟩
    · rintro i yl σ H4 hi ⟨ns, o4, o5, o6, rfl, k4, wi⟩
      have hi2 : i < p.la.length := by
        have := (List.getElem?_eq_some_iff.mp hi).1
        omega
      have hli : p.la[i]? = some p.la[i] := List.getElem?_eq_getElem hi2
      obtain ⟨z2, hz2, hd⟩ := lay_at hls hli
      rw [hi] at hz2
      cases hz2
      have hfit := Gp.fits hli
      obtain ⟨t1, t2⟩ := told_ok F Gp i (by omega)
      have h8 := Gp.le8 i
      have hs := told_succ (k := k) (fl := fl) hli
      obtain ⟨ya, yq, rfl, hya, hyq⟩ := lay_inv hd
      obtain ⟨dx4, ys4, hx4, htl4, _, hcl4, _⟩ := wi.ex
      have shed : ∀ {H5}, Kp (two tl cl) H4 H5 → Kp no H H5 := fun kk => k4.shed kk fun b z => by
        rcases z with z | z
        · rw [z]; exact ntl0
        · rw [z]; exact ncl0
      have hq4 := hyq.k k4
      revert hfit hs hya hq4
      generalize p.la[i] = li
      obtain ⟨p0, st⟩ := li
      intro hfit hs hya hq4
      refine ⟨ya, _, rfl, SqT.of (k4.get hya), rfl, _, _, rfl, _, _, rfl, rfl, ?_⟩
      cases st with
      | cross =>
        have hc := stp_cross hq4
        have hp2 : p0 + 2 ≤ (wAt k p i).length := hfit
        refine ⟨_, rfl, yq, _, 0, _, rfl, rfl, SqT.of hc, rfl, rfl, _, rfl, iteD rfl ?_⟩
        refine ⟨_, rfl, x, dx4, _, rfl, hx4, fsW_no (by decide +kernel) (by decide +kernel), _, rfl, x, tl, cl, _, ns, p0, rfl, wi, by omega, by omega, fun H5 k5 wi5 => ?_⟩
        exact ⟨_, _, _, _, rfl, shed k5, by rw [hs]; exact wi5⟩
      | box ib =>
        have hc := stp_box hq4
        obtain ⟨hib, hle, _⟩ : ib < k.bx.length ∧ p0 + (k.at ib).ab.length ≤ (wAt k p i).length ∧ _ := hfit
        refine ⟨_, rfl, yq, _, 0, _, rfl, rfl, SqT.of hc, rfl, rfl, _, rfl, iteDN (by decide +kernel) ?_⟩
        refine ⟨_, rfl, _, rfl, yq, _, 1, _, rfl, rfl, SqT.of hc, rfl, k, v, ib, rfl, hk.k k4, G, hib, fun p' a' e' H5 k5 hp' ha' he' => ?_⟩
        refine ⟨p', _, 0, _, rfl, rfl, SqT.of hp', rfl, a', _, rfl, .inr (SqT.of ha'), ?_⟩
        have k45 := k4.trans k5
        refine ⟨_, rfl, x, dx4, _, rfl, k5.get hx4, fsW_no (by decide +kernel) (by decide +kernel), _, rfl, _, rfl, _, rfl, _, rfl, _, rfl, yq, _, 1, _, rfl, rfl, SqT.of (k5.get hc), rfl, k, v, ib, rfl, hk.k k45, G, hib, fun H6 k6 => ?_⟩
        have k46 := k45.trans k6
        obtain ⟨fv, hfv, hfd⟩ := hfs.at (i := ib) (by rw [List.getElem?_map, fl_at F hib]; rfl)
        have k456 := k5.trans k6
        refine ⟨fa, _, ib, _, rfl, rfl, SqT.of (k46.get hfa), atI_nat hfv, ?_⟩
        refine ⟨x, tl, cl, _, fl.getD ib [], ns, p0, (k.at ib).ab.length, fv, by rw [List.length_map], wi.k k456, by omega, by omega, hfd.k k46, by rw [F.out ib hib]; exact (G.be _ (Kit.at_mem hib)).1, F.ok ib hib, fun ms H7 lm k7 wi7 => ?_, fun m d H7 k7 nd hd => q2 m d H7 (k46.trans k7) (k46.none (fun z => z) nd) hd⟩
        refine ⟨_, _, _, _, rfl, k4.shed (k456.w.trans k7) (fun b z => ?_), by rw [hs]; exact wi7⟩
        rcases z with z | z
        · rw [z]; exact ntl0
        · rw [z]; exact ncl0
    · rintro σ H4 ⟨ns, o4, o5, o6, rfl, k4, wi⟩
      rw [ll] at wi
      obtain ⟨dx4, ys, hx4, htl4, hys, _⟩ := wi.ex
      refine ⟨_, rfl, x, C, dx4, _, _, rfl, hx4, c.c, c.told, fsW_told, tl, ys, rfl, .inl ⟨SqL.of htl4, fun r hr => ?_⟩⟩
      exact q1 _ _ (k4.trans (Kp.new hr _)) (TD.new hr hys)
end
end SW
/-! SwD12: the class Passing. -/
namespace SW
open PySem PySem.Spec PyProof.Rows L2
/-- a box's ends: for each worths a list of what is due -/
structure EndOk (kvs : List (List Key × V)) (H : Hp) (fl : Fl) (i : Nat) (w : List Int) : Prop where
  ex : ∃ l e, valV kvs (kW w) = some (.ref l) ∧ H l = some (.lst [.ref e]) ∧ H e = some (.tup ((due fl i w).map V.int))
def EndsAt (H : Hp) (d : Addr) (k : Kit) (fl : Fl) (i : Nat) : Prop := ∃ kvs, H d = some (.dT kvs) ∧ ∀ w ∈ W (k.at i).ab.length, EndOk kvs H fl i w
theorem EndOk.k {S : Addr → Prop} {H H' : Hp} {kvs : List (List Key × V)} {fl : Fl} {i : Nat} {w : List Int} (x : Kp S H H') (hS : ∀ b e (ns : List Int), S b → H b = some (.lst [.ref e]) → H e ≠ some (.tup (ns.map V.int))) (h : EndOk kvs H fl i w) : EndOk kvs H' fl i w := by
  obtain ⟨l, e, h1, h2, h3⟩ := h.ex
  exact ⟨l, e, h1, x.but _ _ (fun z => hS l e _ z h2 h3) h2, x.kt _ _ h3⟩
theorem EndsAt.k {S : Addr → Prop} {H H' : Hp} {d : Addr} {k : Kit} {fl : Fl} {i : Nat} (x : Kp S H H') (hS : ∀ b e (ns : List Int), S b → H b = some (.lst [.ref e]) → H e ≠ some (.tup (ns.map V.int))) (hd : ¬ S d) (h : EndsAt H d k fl i) : EndsAt H' d k fl i := by
  obtain ⟨kvs, h1, h2⟩ := h
  exact ⟨kvs, x.but _ _ hd h1, fun w hw => (h2 w hw).k x hS⟩
def fsP (v u t d : V) : List (Str × V) := putF "known_ends" d (putF "relations" t (putF "sizes" u (putF "kit" v [])))
section
variable {v u t d : V}
theorem fsP_kit : (fsP v u t d).lookup ("kit" : Str) = some v := by
  unfold fsP
  rw [lookup_putF, if_neg (by decide +kernel), lookup_putF, if_neg (by decide +kernel), lookup_putF, if_neg (by decide +kernel), lookup_putF, if_pos rfl]
theorem fsP_relations : (fsP v u t d).lookup ("relations" : Str) = some t := by
  unfold fsP
  rw [lookup_putF, if_neg (by decide +kernel), lookup_putF, if_pos rfl]
theorem fsP_ends : (fsP v u t d).lookup ("known_ends" : Str) = some d := by
  unfold fsP
  rw [lookup_putF, if_pos rfl]
theorem fsP_no {f : Str} (h1 : ¬ f = "known_ends") (h2 : ¬ f = "relations") (h3 : ¬ f = "sizes") (h4 : ¬ f = "kit") : (fsP v u t d).lookup f = none := by
  unfold fsP
  rw [lookup_putF, if_neg h1, lookup_putF, if_neg h2, lookup_putF, if_neg h3, lookup_putF, if_neg h4]
  rfl
end
structure CP (K : PySem.W.Frag) (C : Addr) : Prop where
  c : Cls K C
  kit : NoAttr K C "kit"
  sizes : NoAttr K C "sizes"
  relations : NoAttr K C "relations"
  ends : NoAttr K C "known_ends"
def relsOf (k : Kit) (fl : Fl) : PyData := .tuple ((List.range k.bx.length).map (relD k fl))
structure Pa (H : Hp) (x C dk : Addr) (k : Kit) (fl : Fl) : Prop where
  ex : ∃ dx v u t, H x = some (.ins C dx (fsP v u t (.ref dk))) ∧ KitAt H v k ∧ TD H t (relsOf k fl)
  me : Memo H dk k (fun i d => EndsAt H d k fl i)
theorem Pa.kS {S : Addr → Prop} {H H' : Hp} {x C dk : Addr} {k : Kit} {fl : Fl} (q : Kp S H H') (hx : ¬ S x) (hk : ¬ S dk) (hS : ∀ b e (ns : List Int), S b → H b = some (.lst [.ref e]) → H e ≠ some (.tup (ns.map V.int))) (hr : ∀ d i, S d → ¬ EndsAt H d k fl i) (h : Pa H x C dk k fl) : Pa H' x C dk k fl := by
  obtain ⟨dx, v, u, t, h1, h2, h4⟩ := h.ex
  exact ⟨⟨dx, v, u, t, q.but _ _ hx h1, h2.k q, h4.k q⟩, h.me.k q hk fun i d a => a.k q hS (fun z => hr d i z a)⟩
theorem Pa.k {H H' : Hp} {x C dk : Addr} {k : Kit} {fl : Fl} (q : Kp no H H') (h : Pa H x C dk k fl) : Pa H' x C dk k fl := h.kS q (fun z => z) (fun z => z) (fun _ _ _ z => z.elim) fun _ _ z => z.elim
section
variable {P : Program} {w : World} {K : PySem.W.Frag} {mg : Str → Option Value} {base : Heap} {C : Addr}
def spPassingInit (C : Addr) : Sp := fun vs H Q _ => ∃ (k : Kit) (fl : Fl) (x dx : Addr) (v u t : V), vs = [.ref x, v, u, t] ∧ H x = some (.ins C dx []) ∧ KitAt H v k ∧ TD H t (relsOf k fl) ∧
  ∀ dk H', Kp (one x) H H' → H dk = none → Pa H' x C dk k fl → Q .non H'
theorem Passing_init (c : CP K C) (D : If K mg C "Passing" "Passing.__init__" s_Passing_init ["self", "kit", "sizes", "relations"]) : Fi P w K mg base CX0 1 C "Passing" ["self", "kit", "sizes", "relations"] (spPassingInit C) := by
  refine D.fi sc_Passing_init (fun vs H Q E h => ?_) (fun f cdv A outer s H vs Q E hr h => ?_)
  · obtain ⟨k, fl, x, dx, v, u, t, rfl, _⟩ := h
    rfl
  · obtain ⟨k, fl, x, dx, v, u, t, rfl, hx, hk, ht, q⟩ := h
    -- Passing.__init__  slots: 0 self, 1 kit, 2 sizes, 3 relations
    refine ⟨_, (pss_cons (ps_fld (pv 0) (pv 1) rfl)
    (pss_cons (ps_fld (pv 0) (pv 2) rfl)
    (pss_cons (ps_fld (pv 0) (pv 3) rfl)
    (pss_one (ps_fld (pv 0) pe_dnewK rfl))))), ?_⟩
    refine ⟨_, rfl, _, rfl, x, C, dx, _, rfl, hx, c.c, c.kit, by decide, ?_⟩
    refine ⟨_, rfl, _, rfl, x, C, dx, _, rfl, upd_same, c.c, c.sizes, putF_k (n := 1) (putF_len2 nil_len) (by decide), ?_⟩
    refine ⟨_, rfl, _, rfl, x, C, dx, _, rfl, upd_same, c.c, c.relations, putF_k (n := 2) (putF_len2 (putF_len2 nil_len)) (by decide), fun dk hdk => ?_⟩
    rw [upd_upd, upd_upd] at hdk ⊢
    have k1 : Kp (one x) H (upd H x (.ins C dx (putF "relations" t (putF "sizes" u (putF "kit" v []))))) := Kp.put1 (ins_tup hx)
    have hne : x ≠ dk := ne_of_none upd_same hdk
    refine ⟨_, rfl, x, C, dx, _, rfl, by rw [upd_ne hne]; exact upd_same, c.c, c.ends, putF_k (n := 3) (putF_len2 (putF_len2 (putF_len2 nil_len))) (by decide), ?_⟩
    have k2 := Kp.new (S := one x) hdk (.dK [])
    have hx2 : (upd (upd H x (.ins C dx (putF "relations" t (putF "sizes" u (putF "kit" v []))))) dk (.dK [])) x = some (.ins C dx (putF "relations" t (putF "sizes" u (putF "kit" v [])))) := by rw [upd_ne hne]; exact upd_same
    have k3 := Kp.put1 (o := .ins C dx (fsP v u t (.ref dk))) (ins_tup hx2)
    have k13 := (k1.trans k2).trans k3
    refine q dk _ k13 (by rw [upd_ne hne.symm] at hdk; exact hdk) ⟨⟨dx, v, u, t, upd_same, hk.k k13, ht.k k13⟩, Memo.new (by rw [upd_ne hne.symm, upd_same])⟩
def spEndsOf (C : Addr) : Sp := fun vs H Q _ => ∃ (k : Kit) (fl : Fl) (x dk : Addr) (i : Nat), vs = [.ref x, .str (k.at i).nm] ∧ Pa H x C dk k fl ∧ k.Good ∧ FlGood k fl ∧ i < k.bx.length ∧
  ∀ d H', Kp (one dk) H H' → Pa H' x C dk k fl → EndsAt H' d k fl i → Q (.ref d) H'
theorem Passing_ends_of (B : Bi mg) (c : CP K C) (D : Mf K C "ends_of" "Passing.ends_of" s_Passing_ends_of ["self", "name"]) (F_box_number : Fn P w K mg base CX0 1 "box_number" ["kit", "name"] spBoxNumber) : Fm P w K mg base CX0 2 C "ends_of" ["self", "name"] (spEndsOf C) := by
  refine D.fm sc_Passing_ends_of (fun vs H Q E h => ?_) (fun f cdv A outer s H vs Q E hr h => ?_)
  · obtain ⟨k, fl, x, dk, i, rfl, _⟩ := h
    rfl
  · obtain ⟨k, fl, x, dk, i, rfl, hg, G, F, hi, q⟩ := h
    have hu := hu_of hr
    obtain ⟨dx, v, u, t, hx, hk, ht⟩ := hg.ex
    obtain ⟨kvs, l, hdk, h2, h3, h4, h5⟩ := hg.me.ex
    have hl := nodup_le h2 fun i hi => (h3 i hi).1
    have l8 := G.b8
    have ga := G.ab _ (Kit.at_mem hi)
    obtain ⟨ta, ts, rfl, hta, hts⟩ := ht.inv
    -- Passing.ends_of  slots: 0 self, 1 name, 2 found, 3 worths, 4 end
    refine ⟨_, (pss_cons (ps_if (pt_cmp (pc_dnotin hu (pv 1) (pe_fldK K (pv 0))))
      (pss_cons (ps_set (i := 2) sc_Passing_ends_of.nd rfl (Or.inl rfl) pe_dnewT)
      (pss_cons (ps_for PassesOwn.never rfl (pi_tup (pe_ixT K (pe_fldK K (pv 0)) (pe_fn F_box_number (hr.mono (by omega)) (pa_cons (pe_fldK K (pv 0)) (pa_cons (pv 1) pa_nil))))) (pg_tup (by rfl) (pgs_cons (pg_name (i := 3) sc_Passing_ends_of.nd rfl (by first | exact Or.inl rfl | exact Or.inr rfl)) (pgs_cons (pg_name (i := 4) sc_Passing_ends_of.nd rfl (by first | exact Or.inl rfl | exact Or.inr rfl)) pgs_nil)))
        (pss_one (ps_expr (pe_bmK K (r := rAppend) PySem.F.plainAttrs_list PySem.F.slot_list_append PySem.F.type_list_append mt_append (pe_dsetdT hu (pv 2) (pv 3) (pe_lst pa_nil) ⟨rfl, rfl, rfl, rfl⟩) (pa_cons (pv 4) pa_nil)))))
      (pss_one (ps_dput hu (pe_fldK K (pv 0)) (pv 1) (pv 2) rfl))))
      pss_nil)
    (pss_one (ps_ret (pe_dget hu (pe_fldK K (pv 0)) (pv 1) (fun _ _ => rfl))))), ?_⟩
    refine ⟨_, rfl, _, rfl, x, C, dx, _, _, rfl, hx, c.c, c.ends, fsP_ends, dk, _, rfl, DGet.k (k := .inr (k.at i).nm) hdk, _, rfl, ?_⟩
    cases hv : valV kvs (.inr (k.at i).nm) with
    | some y =>
      obtain ⟨d, rfl, hrow⟩ := h5 i hi y hv
      show tNext _ _ _
      refine ⟨_, rfl, x, C, dx, _, _, rfl, hx, c.c, c.ends, fsP_ends, _, rfl, dk, .ref d, rfl, ?_, q d H (Kp.refl H) hg hrow⟩
      rw [← hv]
      exact DGet.k (k := .inr (k.at i).nm) hdk
    | none =>
      obtain ⟨tv, htv, htd⟩ := hts.at (i := i) (d := relD k fl i) (by rw [List.getElem?_map, List.getElem?_range hi]; rfl)
      refine fun d hd => ?_
      have kd := Kp.new (S := no) hd (.dT [])
      refine ⟨_, rfl, x, C, dx, _, _, rfl, kd.get hx, c.c, c.relations, fsP_relations, _, rfl, x, C, dx, _, _, rfl, kd.get hx, c.c, c.kit, fsP_kit, _, rfl, k, v, i, rfl, hk.k kd, G, hi, fun H1 k1 => ?_⟩
      have kd1 := kd.trans k1
      obtain ⟨ra, rs, rfl, hra, hrs⟩ := htd.inv
      have lrs := hrs.length
      rw [List.length_map] at lrs
      have hWb := W_le (n := (k.at i).ab.length) (by omega)
      refine ⟨ta, _, i, _, rfl, rfl, SqT.of (kd1.get hta), atI_nat htv, ?_⟩
      refine ⟨ra, rfl, ⟨_, SqT.of (kd1.get hra)⟩, for_tup (K := K) (a := ra) (xs := rs) (fun j σ H2 => ∃ (kv : List (List Key × V)) (o3 o4 : Option V), σ = [some (.ref x), some (.str (k.at i).nm), some (.ref d), o3, o4] ∧ Kp no H H2 ∧ H2 d = some (.dT kv) ∧ kv.length ≤ j ∧ (∀ idx w, j ≤ idx → (W (k.at i).ab.length)[idx]? = some w → valV kv (kW w) = none) ∧
          ∀ idx w, idx < j → (W (k.at i).ab.length)[idx]? = some w → EndOk kv H2 fl i w)
        ⟨[], none, none, rfl, kd1, k1.get upd_same, Nat.le_refl _, fun idx w _ _ => rfl, fun idx w z => absurd z (Nat.not_lt_zero _)⟩ (fun j σ H2 _ ⟨_, _, _, _, z, _⟩ => SqT.of (z.get hra)) ?_ ?_⟩
      · rintro j y σ H2 hj ⟨kv, o3, o4, rfl, k2, hd2, hlen, hnew, hold⟩
        have hj2 : j < (W (k.at i).ab.length).length := by
          have := (List.getElem?_eq_some_iff.mp hj).1
          omega
        have hwj : (W (k.at i).ab.length)[j]? = some (W (k.at i).ab.length)[j] := List.getElem?_eq_getElem hj2
        revert hwj
        generalize (W (k.at i).ab.length)[j] = wj
        intro hwj
        obtain ⟨y2, hy2, hyd⟩ := hrs.at (d := prD wj (due fl i wj)) (i := j) (by rw [List.getElem?_map, hwj]; rfl)
        rw [hj] at hy2
        cases hy2
        obtain ⟨ya, y1, y3, rfl, hya, hy1, hy3⟩ := TD.i2 hyd
        obtain ⟨wa, rfl, hwa⟩ := hy1.ints_inv
        obtain ⟨ea, rfl, hea⟩ := hy3.ints_inv
        refine ⟨ya, _, rfl, SqT.of (k2.get hya), rfl, _, _, rfl, _, _, rfl, rfl, ?_⟩
        refine ⟨_, rfl, d, rfl, .inr ⟨_, .inl hd2⟩, _, rfl, sz0, fun l0 hl0 => ?_⟩
        have kl := Kp.new (S := no) hl0 (.lst [])
        have hd3 := kl.get hd2
        refine ⟨kv, kW wj, wa, hd3, rfl, by rw [kW_kV]; exact kl.get (k2.get hwa), szLt (by omega), fun v hv => ?_, fun _ => ?_⟩
        · rw [hnew j wj (Nat.le_refl _) hwj] at hv
          cases hv
        have nd : d ≠ l0 := ne_of_none hd2 hl0
        have hl1 : upd (upd H2 l0 (.lst [])) d (.dT (putK kv (kW wj) (.ref l0))) l0 = some (.lst []) := by rw [upd_ne nd.symm, upd_same]
        refine ⟨.inl ⟨rfl, _, SqL.of hl1⟩, _, rfl, l0, [], .ref ea, rfl, rfl, hl1, by decide, ?_⟩
        have k3 := (k2.trans kl)
        have n0 : H d = none := hd
        have k4 := k3.free n0 (.dT (putK kv (kW wj) (.ref l0)))
        have nl0 : H l0 = none := k2.none (fun z => z) hl0
        have k5 := k4.free nl0 (.lst ([] ++ [V.ref ea]))
        have kk : ∀ b o, b ≠ d → b ≠ l0 → H2 b = some o → upd (upd (upd H2 l0 (.lst [])) d (.dT (putK kv (kW wj) (.ref l0)))) l0 (.lst ([] ++ [V.ref ea])) b = some o := fun b o h1 h2 h3 => by
          rw [upd_ne h2, upd_ne h1, upd_ne h2]
          exact h3
        refine ⟨_, _, _, rfl, k5, by rw [upd_ne nd, upd_same], Nat.le_trans (length_putK _ _ _) (by omega), fun idx w' hidx hw' => ?_, fun idx w' hidx hw' => ?_⟩
        · rw [valV_put, if_neg (fun z => ?_)]
          · exact hnew idx w' (by omega) hw'
          · have := nd_ix (nodup_W _) hw' (by rw [kW_inj z]; exact hwj)
            omega
        · by_cases hij : idx = j
          · subst hij
            rw [hwj] at hw'
            cases hw'
            refine ⟨l0, ea, by rw [valV_put, if_pos rfl], upd_same, k5.get hea⟩
          · obtain ⟨l1, e1, a1, a2, a3⟩ := (hold idx w' (by omega) hw').ex
            refine ⟨l1, e1, ?_, kk _ _ (fun z => by rw [z, hd2] at a2; cases a2) (ne_of_none a2 hl0) a2, kk _ _ (fun z => by rw [z, hd2] at a3; cases a3) (ne_of_none a3 hl0) a3⟩
            rw [valV_put, if_neg (fun z => hij (nd_ix (nodup_W _) hw' (by rw [kW_inj z]; exact hwj))), a1]
      · rintro σ H2 ⟨kv, o3, o4, rfl, k12, hd2, hlen, hnew, hold⟩
        have hx2 := k12.get hx
        have hdk2 := k12.get hdk
        have hrow : EndsAt H2 d k fl i := ⟨kv, hd2, fun w hw => by
          obtain ⟨idx, hidx⟩ := List.mem_iff_getElem?.mp hw
          exact hold idx w (by have := (List.getElem?_eq_some_iff.mp hidx).1; omega) hidx⟩
        refine ⟨_, rfl, _, rfl, x, C, dx, _, _, rfl, hx2, c.c, c.ends, fsP_ends, _, rfl, dk, _, rfl, DPut.k (k := .inr (k.at i).nm) hdk2 (szLt (by omega)), ?_⟩
        have kp := Kp.put1 (o := .dK (putK kvs (.inr (k.at i).nm) (.ref d))) (dK_tup hdk2)
        have k13 : Kp (one dk) H _ := (k12.w).trans kp
        have xne : ¬ one dk x := fun z => by rw [show x = dk from z, hdk2] at hx2; cases hx2
        have nls : ∀ b e (ns : List Int), one dk b → H2 b = some (.lst [.ref e]) → H2 e ≠ some (.tup (ns.map V.int)) := fun b e ns z h1 => by rw [show b = dk from z, hdk2] at h1; cases h1
        have nr : ∀ d i, EndsAt H2 d k fl i → ¬ one dk d := fun d i ⟨kv, z, _⟩ e => by rw [show d = dk from e, hdk2] at z; cases z
        have rw3 : ∀ i d, EndsAt H2 d k fl i → EndsAt (upd H2 dk (.dK (putK kvs (.inr (k.at i).nm) (.ref d)))) d k fl i := fun i d a => a.k (Kp.put1 (dK_tup hdk2)) nls (nr d i a)
        have hx3 := kp.but _ _ xne hx2
        have go3 : Pa (upd H2 dk (.dK (putK kvs (.inr (k.at i).nm) (.ref d)))) x C dk k fl := ⟨⟨dx, v, u, _, hx3, hk.k k13, ht.k k13⟩, Memo.put (At := fun i d => EndsAt H d k fl i) G hi h2 h3 h4 (fun j hj y hy => by
          obtain ⟨d', e, a⟩ := h5 j hj y hy
          have a2 := a.k k12 (fun _ _ _ z => z.elim) (fun z => z)
          exact ⟨d', e, a2.k kp nls (nr d' j a2)⟩) hv (rw3 i d hrow)⟩
        refine ⟨_, rfl, x, C, dx, _, _, rfl, hx3, c.c, c.ends, fsP_ends, _, rfl, dk, .ref d, rfl, ?_, q d _ k13 go3 (rw3 i d hrow)⟩
        have e : (some (V.ref d)) = valV (putK kvs (.inr (k.at i).nm) (.ref d)) (.inr (k.at i).nm) := by rw [valV_put, if_pos rfl]
        rw [e]
        exact DGet.k (k := .inr (k.at i).nm) upd_same
end
end SW
/-! SwD13: Passing.through_box, past_wires, passed. -/
namespace SW
open PySem PySem.Spec PyProof.Rows L2
section
variable {P : Program} {w : World} {K : PySem.W.Frag} {mg : Str → Option Value} {base : Heap} {C : Addr}
def spPThroughBox (C : Addr) : Sp := fun vs H Q _ => ∃ (k : Kit) (fl : Fl) (x q dk : Addr) (i p : Nat) (ns : List Int), vs = [.ref x, .str (k.at i).nm, .ref q, .int (p : Nat)] ∧ Pa H x C dk k fl ∧ k.Good ∧ FlGood k fl ∧ i < k.bx.length ∧ H q = some (.tup (ns.map V.int)) ∧ ns.length ≤ 8 ∧ p + (k.at i).ab.length ≤ ns.length ∧ Bits ns ∧
  ∀ l e H', Kp (one dk) H H' → Pa H' x C dk k fl → H l = none → H' l = some (.lst [.ref e]) → H' e = some (.tup ((app p (k.at i).ab.length (due fl i) ns).map V.int)) → Q (.ref l) H'
theorem Passing_through_box (B : Bi mg) (c : CP K C) (D : Mf K C "through_box" "Passing.through_box" s_Passing_through_box ["self", "name", "worths", "place"]) (F_Passing_ends_of : Fm P w K mg base CX0 2 C "ends_of" ["self", "name"] (spEndsOf C))
    (F_feet_of : Fn P w K mg base CX0 2 "feet_of" ["kit", "name"] spFeetOf) : Fm P w K mg base CX0 3 C "through_box" ["self", "name", "worths", "place"] (spPThroughBox C) := by
  have cPassing := c.c
  refine D.fm sc_Passing_through_box (fun vs H Q E h => ?_) (fun f cdv A outer s H vs Q E hr h => ?_)
  · obtain ⟨k, fl, x, q, dk, i, p, ns, rfl, _⟩ := h
    rfl
  · obtain ⟨k, fl, x, q0, dk, i, p, ns, rfl, hg, G, F, hi, hq, h8, hle, hb, q⟩ := h
    have hu := hu_of hr
    obtain ⟨dx, v, u, t, hx, hk, ht⟩ := hg.ex
    have ge := G.be _ (Kit.at_mem hi)
    have lc := cut_length hle
    have hw2 : (ns.drop p).take (k.at i).ab.length ∈ W (k.at i).ab.length := mem_W.mpr ⟨lc, bits_cut hb _ _⟩
    have ld := due_length F hi ((ns.drop p).take (k.at i).ab.length)
    have e3 : ((p : Int) + ((k.at i).ab.length : Nat)) = ((p + (k.at i).ab.length : Nat) : Int) := by omega
    -- Passing.through_box  slots: 0 self, 1 name, 2 worths, 3 place, 4 many, 5 ends, 6 end
    refine ⟨_, (pss_cons (ps_set (i := 4) sc_Passing_through_box.nd rfl (Or.inr rfl) (pe_len K B (pa_cons (pe_ixT K (pe_fn F_feet_of (hr.mono (by omega)) (pa_cons (pe_fldK K (pv 0)) (pa_cons (pv 1) pa_nil))) pe_int) pa_nil)))
    (pss_cons (ps_set (i := 5) sc_Passing_through_box.nd rfl (Or.inl rfl) (pe_dget2 hu (pe_fm cPassing F_Passing_ends_of (hr.mono (by omega)) (pv 0) (pa_cons (pv 1) pa_nil)) (pe_slT K (pv 2) (po_some (pv 3)) (po_some (pe_op op_add (pv 3) (pv 4)))) (pe_lst pa_nil) ⟨rfl, rfl, rfl, rfl⟩))
    (pss_one (ps_ret (pe_lc (own := [("end", 6)]) (g := (gName 6)) (tt := tYes) rfl sc_Passing_through_box.nd (pi_list (pv 5)) (blkOk_by (by kernel_rfl)) (fun _ _ _ _ _ => (pg_name (i := 6) sc_Passing_through_box.nd rfl (by first | exact Or.inl rfl | exact Or.inr rfl))) (fun _ _ _ _ _ => pts_nil) (fun _ _ _ _ _ => (pe_catT K (pe_catT K (pe_slT K (pv 2) po_none (po_some (pv 3))) (pv 6)) (pe_slT K (pv 2) (po_some (pe_op op_add (pv 3) (pv 4))) po_none)))))))), ?_⟩
    refine ⟨_, rfl, x, C, dx, _, _, rfl, hx, c.c, c.kit, fsP_kit, _, rfl, k, v, i, rfl, hk, G, hi, fun p' a' e' H1 k1 hp' ha' he' => ?_⟩
    refine ⟨p', _, 0, _, rfl, rfl, SqT.of hp', rfl, a', _, rfl, .inr (SqT.of ha'), ?_⟩
    refine ⟨_, rfl, x, dx, _, rfl, k1.get hx, fsP_no (by decide +kernel) (by decide +kernel) (by decide +kernel) (by decide +kernel), _, rfl, k, fl, x, dk, i, rfl, hg.k k1, G, F, hi, fun d H2 k2 pa2 en2 => ?_⟩
    have k12 : Kp (one dk) H H2 := (k1.w).trans k2
    obtain ⟨kvs, hd2, hen⟩ := en2
    refine ⟨d, rfl, .inr ⟨_, .inl hd2⟩, _, rfl, _, rfl, _, rfl, _, rfl, _, rfl, _, _, rfl, rfl, _, rfl, ?_⟩
    refine slA (k12.kt _ _ hq) fun c1 H3 k3 hc1 => ?_
    rw [List.length_map, cut_mid (by rw [List.length_map]; exact hle), ← List.map_drop, ← List.map_take] at hc1
    refine ⟨sz0, fun l0 hl0 => ?_⟩
    have k4 := Kp.new (S := no) hl0 (.lst [])
    have k34 := k3.trans k4
    obtain ⟨l, e, h1, h2, h3⟩ := ((hen _ hw2).k k34 (fun _ _ _ z => z.elim)).ex
    refine ⟨some (.ref l), by rw [← h1]; exact DGet.t (k34.get hd2) (by rw [kW_kV]; exact k4.get hc1), ?_⟩
    have k14 : Kp (one dk) H _ := k12.trans k34.w
    have pa4 := pa2.k k34
    refine ⟨_, rfl, l, rfl, ⟨_, SqL.of h2⟩, lp_L (K := K) (xs := [.ref e]) (SqL.of h2) (szLt (by show 1 ≤ 100000; decide)) (RD [inD (app p (k.at i).ab.length (due fl i) ns)]) RD.kt (fun j y H5 hj hy k5 Q' q' => ?_) fun D vs H5 hD k5 hv hvl hr1 => ?_⟩
    · have hj0 : j = 0 := by
        have : j < 1 := hj
        omega
      subst hj0
      cases hy
      have k15 := k14.trans k5.w
      refine ⟨_, rfl, _, rfl, _, rfl, ?_⟩
      refine slA (k15.kt _ _ hq) fun c2 H6 k6 hc2 => ?_
      rw [cut_to] at hc2
      refine ⟨_, rfl, ?_⟩
      refine catA hc2 (k6.get (k5.get h3)) (szL ?_) fun c3 H7 k7 hc3 => ?_
      · rw [List.length_take, List.length_map, List.length_map, ld]
        omega
      refine ⟨_, rfl, _, rfl, _, rfl, _, _, rfl, rfl, _, rfl, ?_⟩
      have k67 := k6.trans k7
      refine slN (k67.get (k15.kt _ _ hq)) fun c4 H8 k8 hc4 => ?_
      rw [List.length_map, e3, cut_from] at hc4
      refine catA (k8.get hc3) hc4 (szL ?_) fun c5 H9 k9 hc5 => ?_
      · rw [List.length_append, List.length_take, List.length_drop, List.length_map, List.length_map, ld]
        omega
      refine q' _ H9 ((k67.trans k8).trans k9) ⟨_, rfl, TD.ints ?_⟩
      rw [hc5, app, List.map_append, List.map_append, List.map_take, List.map_drop]
    · have hall := RD.all (H := H5) hvl hr1
      obtain ⟨z, rfl, hz⟩ := hall.i1
      obtain ⟨e2, rfl, he2⟩ := hz.ints_inv
      refine q D e2 H5 (k14.trans k5.w) (pa4.k k5) ?_ hv he2
      cases z : H D with
      | none => rfl
      | some o =>
        by_cases hdk : D = dk
        · obtain ⟨kv, _, hk4, _⟩ := pa4.me.ex
          rw [hdk, hk4] at hD
          cases hD
        · rw [k14.but _ _ hdk z] at hD
          cases hD
def spPastWires : Sp := fun vs H Q _ => ∃ (k : Kit) (x : V) (u q : Addr) (p : Nat) (ns : List Int), vs = [x, .ref u, .ref q, .int (p : Nat)] ∧ TD H (.ref u) (Stp.D k .cross) ∧ H q = some (.tup (ns.map V.int)) ∧ ns.length ≤ 8 ∧ p + 2 ≤ ns.length ∧
  ∀ l e H', Kp no H H' → H l = none → H' l = some (.lst [.ref e]) → H' e = some (.tup ((app p 2 List.reverse ns).map V.int)) → Q (.ref l) H'
theorem Passing_past_wires (B : Bi mg) (D : Mf K C "past_wires" "Passing.past_wires" s_Passing_past_wires ["self", "step", "worths", "place"]) (F_through_wires : Fn P w K mg base CX0 1 "through_wires" ["step", "size", "worths", "place"] spThroughWires) :
    Fm P w K mg base CX0 2 C "past_wires" ["self", "step", "worths", "place"] spPastWires := by
  refine D.fm sc_Passing_past_wires (fun vs H Q E h => ?_) (fun f cdv A outer s H vs Q E hr h => ?_)
  · obtain ⟨k, x, u, q, p, ns, rfl, _⟩ := h
    rfl
  · obtain ⟨k, x, u, q0, p, ns, rfl, hu0, hq, h8, hle, q⟩ := h
    have hs := stp_cross hu0
    -- Passing.past_wires  slots: 0 self, 1 step, 2 worths, 3 place, 4 size, 5 end, 6 number
    refine ⟨_, (pss_cons (ps_set (i := 4) sc_Passing_past_wires.nd rfl (Or.inl rfl) pe_int)
    (pss_cons (ps_if (pt_cmpR op_eq (pe_ixT K (pv 1) pe_int) pe_str (nomark _))
      pss_never
      pss_nil)
    (pss_one (ps_ret (pe_lc (own := [("end", 5), ("number", 6)]) (g := (gTup K 2 (gCons (gName 5) (gCons (gName 6) gNil)))) (tt := tYes) rfl sc_Passing_past_wires.nd (pi_list (pe_fn F_through_wires (hr.mono (by omega)) (pa_cons (pv 1) (pa_cons (pv 4) (pa_cons (pv 2) (pa_cons (pv 3) pa_nil)))))) (blkOk_by (by kernel_rfl)) (fun _ _ _ _ _ => (pg_tup (by rfl) (pgs_cons (pg_name (i := 5) sc_Passing_past_wires.nd rfl (by first | exact Or.inl rfl | exact Or.inr rfl)) (pgs_cons (pg_name (i := 6) sc_Passing_past_wires.nd rfl (by first | exact Or.inl rfl | exact Or.inr rfl)) pgs_nil)))) (fun _ _ _ _ _ => pts_nil) (fun _ _ _ _ _ => (pv 5))))))), ?_⟩
    refine ⟨_, rfl, u, _, 0, _, rfl, rfl, SqT.of hs, rfl, rfl, _, rfl, iteDN cr_cup ?_⟩
    refine ⟨_, rfl, _, rfl, _, rfl, _, rfl, k, u, q0, ns, p, 0, rfl, hu0, hq, h8, hle, fun l t e H1 k1 nl hl ht he => ?_⟩
    refine ⟨l, rfl, ⟨_, SqL.of hl⟩, fun D hD => lcg_L (K := K) (a := l) (xs := [.ref t]) (fun j H4 => Kp no H1 H4 ∧ ((j = 0 ∧ H4 D = some (.lst [])) ∨ (j = 1 ∧ H4 D = some (.lst [.ref e]))))
      ⟨Kp.new hD _, .inl ⟨rfl, upd_same⟩⟩ (fun j H4 h => SqL.of (h.1.get hl)) ?_ ?_⟩
    · rintro j y H4 hj ⟨k4, hD4⟩
      have hj0 : j = 0 := by
        have := (List.getElem?_eq_some_iff.mp hj).1
        simpa using this
      subst hj0
      cases hj
      have hD5 : H4 D = some (.lst []) := by
        rcases hD4 with ⟨_, z⟩ | ⟨z, _⟩
        · exact z
        · cases z
      refine ⟨t, _, rfl, SqT.of (k4.get ht), rfl, _, _, rfl, _, _, rfl, rfl, rfl, yesI ?_⟩
      exact ⟨_, rfl, [], hD5, by decide, k4.free hD _, .inr ⟨rfl, upd_same⟩⟩
    · rintro H4 ⟨k4, ⟨z, _⟩ | ⟨_, hD4⟩⟩
      · cases z
      · exact q D e H4 (k1.trans k4) (k1.none (fun z => z) hD) hD4 (k4.get he)
def spPassed (C : Addr) : Sp := fun vs H Q _ => ∃ (k : Kit) (fl : Fl) (x y d q0 dk : Addr) (ws : List Str) (ns : List Int) (l : Lay), vs = [.ref x, .ref y, .ref d] ∧ Pa H x C dk k fl ∧ k.Good ∧ FlGood k fl ∧ TD H (.ref y) (layD k l) ∧ H d = some (.lst [.ref q0]) ∧ H q0 = some (.tup (ns.map V.int)) ∧
  Fits k ws l ∧ ns.length = ws.length ∧ ws.length ≤ 8 ∧ Bits ns ∧ ∀ p e H', Kp (one dk) H H' → Pa H' x C dk k fl → H p = none → H' p = some (.lst [.ref e]) → H' e = some (.tup ((layN k fl ns l).map V.int)) → Q (.ref p) H'
theorem Passing_passed (B : Bi mg) (c : CP K C) (D : Mf K C "passed" "Passing.passed" s_Passing_passed ["self", "layer", "known"]) (F_Passing_through_box : Fm P w K mg base CX0 3 C "through_box" ["self", "name", "worths", "place"] (spPThroughBox C))
    (F_Passing_past_wires : Fm P w K mg base CX0 2 C "past_wires" ["self", "step", "worths", "place"] spPastWires) : Fm P w K mg base CX0 4 C "passed" ["self", "layer", "known"] (spPassed C) := by
  have cPassing := c.c
  refine D.fm sc_Passing_passed (fun vs H Q E h => ?_) (fun f cdv A outer s H vs Q E hr h => ?_)
  · obtain ⟨k, fl, x, y, d, q0, dk, ws, ns, l, rfl, _⟩ := h
    rfl
  · obtain ⟨k, fl, x, y, d, q0, dk, ws, ns, l0, rfl, hg, G, F, hy, hd, hq, hf, hl, h8, hb, q⟩ := h
    have hu := hu_of hr
    obtain ⟨y', u, e, hy', hst⟩ := lay_inv hy
    cases e
    have hfo := fits_ok hf
    -- Passing.passed  slots: 0 self, 1 layer, 2 known, 3 found, 4 worths, 5 place, 6 step, 7 end, 8 more
    refine ⟨_, (pss_cons (ps_asg (pv 1) (pg_tup (by rfl) (pgs_cons (pg_name (i := 5) sc_Passing_passed.nd rfl (by first | exact Or.inl rfl | exact Or.inr rfl)) (pgs_cons (pg_name (i := 6) sc_Passing_passed.nd rfl (by first | exact Or.inl rfl | exact Or.inr rfl)) pgs_nil))))
    (pss_cons (ps_set (i := 3) sc_Passing_passed.nd rfl (Or.inl rfl) pe_dnewT)
    (pss_cons (ps_for PassesOwn.never rfl (pi_list (pv 2)) (pg_name (i := 4) sc_Passing_passed.nd rfl (by first | exact Or.inl rfl | exact Or.inr rfl))
      (pss_cons (ps_if (pt_cmpR op_eq (pe_ixT K (pv 6) pe_int) pe_str (nomark _))
        (pss_one (ps_set (i := 8) sc_Passing_passed.nd rfl (Or.inl rfl) (pe_fm cPassing F_Passing_through_box (hr.mono (by omega)) (pv 0) (pa_cons (pe_ixT K (pv 6) pe_int) (pa_cons (pv 4) (pa_cons (pv 5) pa_nil))))))
        (pss_one (ps_set (i := 8) sc_Passing_passed.nd rfl (Or.inl rfl) (pe_fm cPassing F_Passing_past_wires (hr.mono (by omega)) (pv 0) (pa_cons (pv 6) (pa_cons (pv 4) (pa_cons (pv 5) pa_nil)))))))
      (pss_one (ps_for PassesOwn.never rfl (pi_list (pv 8)) (pg_name (i := 7) sc_Passing_passed.nd rfl (by first | exact Or.inl rfl | exact Or.inr rfl))
        (pss_one (ps_dput hu (pv 3) (pv 7) pe_bl rfl))))))
    (pss_one (ps_ret (pe_callTy (call_list_dT rfl) (by rfl) B.list (by decide +kernel) (pa_cons (pv 3) pa_nil))))))), ?_⟩
    refine ⟨_, rfl, y, _, rfl, SqT.of hy', rfl, _, _, rfl, _, _, rfl, rfl, ?_⟩
    refine fun p hp => ?_
    have npH := hp
    have k1 := Kp.new (S := no) hp (.dT [])
    refine ⟨_, rfl, d, rfl, ⟨_, SqL.of (k1.get hd)⟩, for_list (K := K) (a := d) (xs := [.ref q0]) (fun i σ H5 => ∃ o4 o7 o8 : Option V, σ = [some (.ref x), some (.ref y), some (.ref d), some (.ref p), o4, some (.int (l0.1 : Int)), some (.ref u), o7, o8] ∧ Kp (one dk) H H5 ∧ Pa H5 x C dk k fl ∧ H5 d = some (.lst [.ref q0]) ∧ H5 p = some (.dT (if i = 0 then [] else [(kW (layN k fl ns l0), .bl true)])))
      ⟨_, _, _, rfl, k1.w, hg.k k1, k1.get hd, by rw [upd_same, if_pos rfl]⟩ (fun i σ H5 _ ⟨_, _, _, _, _, _, h, _⟩ => SqL.of h) ?_ ?_⟩
    · rintro i z σ H6 hi ⟨o4, o7, o8, rfl, k6, pa6, hd6, hp6⟩
      have hi0 : i = 0 := by
        have := (List.getElem?_eq_some_iff.mp hi).1
        simpa using this
      subst hi0
      cases hi
      rw [if_pos rfl] at hp6
      have hs6 : TD H6 (.ref u) (l0.2.D k) := hst.k k6
      have hq6 := k6.kt _ _ hq
      obtain ⟨dx6, v6, u6, t6, hx6, hk6, _⟩ := pa6.ex
      obtain ⟨kv6, _, hdk6, _⟩ := pa6.me.ex
      obtain ⟨p0, st⟩ := l0
      cases st with
      | box ib =>
        have hib : ib < k.bx.length := hfo.1
        have hs := stp_box hs6
        refine ⟨_, rfl, u, _, 0, _, rfl, rfl, SqT.of hs, rfl, rfl, _, rfl, iteD rfl ?_⟩
        refine ⟨_, rfl, x, dx6, _, rfl, hx6, fsP_no (by decide +kernel) (by decide +kernel) (by decide +kernel) (by decide +kernel), _, rfl, u, _, 1, _, rfl, rfl, SqT.of hs, rfl, _, rfl, _, rfl, k, fl, x, q0, dk, ib, p0, ns, rfl, pa6, G, F, hib, hq6, by omega, by rw [hl]; exact hfo.2, hb, fun l e H8 k68 pa8 nl hl he => ?_⟩
        have k8 : Kp (one dk) H H8 := k6.trans k68
        have hd8 := k68.but _ _ (fun z => by rw [show d = dk from z, hdk6] at hd6; cases hd6) hd6
        have hp8 := k68.but _ _ (fun z => by rw [show p = dk from z, hdk6] at hp6; cases hp6) hp6
        refine ⟨_, rfl, l, rfl, ⟨_, SqL.of hl⟩, for_list (K := K) (a := l) (xs := [.ref e]) (fun j σ H9 => ∃ (o7 : Option V), σ = [some (.ref x), some (.ref y), some (.ref d), some (.ref p), some (.ref q0), some (.int (p0 : Int)), some (.ref u), o7, some (.ref l)] ∧ Kp (one dk) H H9 ∧ Pa H9 x C dk k fl ∧ H9 d = some (.lst [.ref q0]) ∧ H9 l = some (.lst [.ref e]) ∧ H9 e = some (.tup ((layN k fl ns (p0, .box ib)).map V.int)) ∧ H9 p = some (.dT (if j = 0 then [] else [(kW (layN k fl ns (p0, .box ib)), .bl true)])))
          ⟨_, rfl, k8, pa8, hd8, hl, he, by rw [if_pos rfl]; exact hp8⟩ (fun j σ H9 _ ⟨_, _, _, _, _, z, _⟩ => SqL.of z) ?_ ?_⟩
        · rintro j z σ H9 hj ⟨o7, rfl, k9, pa9, hd9, hl9, he9, hp9⟩
          have hj0 : j = 0 := by
            have := (List.getElem?_eq_some_iff.mp hj).1
            simpa using this
          subst hj0
          cases hj
          rw [if_pos rfl] at hp9
          have he9' : H9 e = some (.tup ((kW (layN k fl ns (p0, .box ib))).map kV)) := by rw [kW_kV]; exact he9
          refine ⟨_, rfl, _, rfl, p, _, rfl, DPut.t hp9 he9' (by decide), ?_⟩
          have kp := Kp.put1 (o := .dT (putK [] (kW (layN k fl ns (p0, .box ib))) (.bl true))) (dT_tup hp9)
          have nls : ∀ b e (ms : List Int), one p b → H9 b = some (.lst [.ref e]) → H9 e ≠ some (.tup (ms.map V.int)) := fun b e ms z h1 => by rw [show b = p from z, hp9] at h1; cases h1
          have nr : ∀ d i, one p d → ¬ EndsAt H9 d k fl i := fun b i z a => by
            obtain ⟨kv, h1, h2⟩ := a
            rw [show b = p from z, hp9] at h1
            cases h1
            obtain ⟨w0, hw0⟩ : ∃ w0, w0 ∈ W (k.at i).ab.length := ⟨_, List.getElem_mem (W_pos _)⟩
            obtain ⟨_, _, z2, _⟩ := (h2 w0 hw0).ex
            cases z2
          obtain ⟨dx9, v9, u9, t9, hx9, _⟩ := pa9.ex
          obtain ⟨kv9, _, hk9, _⟩ := pa9.me.ex
          have nx : ¬ one p x := fun z => by rw [show x = p from z, hp9] at hx9; cases hx9
          have nk : ¬ one p dk := fun z => by rw [show dk = p from z, hp9] at hk9; cases hk9
          refine ⟨_, rfl, k9.free npH _, pa9.kS kp nx nk nls nr, kp.but _ _ (fun z => by rw [show d = p from z, hp9] at hd9; cases hd9) hd9, kp.but _ _ (fun z => by rw [show l = p from z, hp9] at hl9; cases hl9) hl9, kp.kt _ _ he9, ?_⟩
          rw [upd_same, if_neg (by omega)]
          rfl
        · rintro σ H9 ⟨o7, rfl, k9, pa9, hd9, hl9, he9, hp9⟩
          exact ⟨_, _, _, rfl, k9, pa9, hd9, hp9⟩
      | cross =>
        have hs := stp_cross hs6
        refine ⟨_, rfl, u, _, 0, _, rfl, rfl, SqT.of hs, rfl, rfl, _, rfl, iteDN cr_box ?_⟩
        refine ⟨_, rfl, x, dx6, _, rfl, hx6, fsP_no (by decide +kernel) (by decide +kernel) (by decide +kernel) (by decide +kernel), _, rfl, _, rfl, _, rfl, k, .ref x, u, q0, p0, ns, rfl, hs6, hq6, by omega, by rw [hl]; exact hfo.2, fun l e H8 k8' nl hl he => ?_⟩
        have k8 : Kp (one dk) H H8 := k6.trans k8'.w
        have pa8 := pa6.k k8'
        have hd8 := k8'.get hd6
        have hp8 := k8'.get hp6
        refine ⟨_, rfl, l, rfl, ⟨_, SqL.of hl⟩, for_list (K := K) (a := l) (xs := [.ref e]) (fun j σ H9 => ∃ (o7 : Option V), σ = [some (.ref x), some (.ref y), some (.ref d), some (.ref p), some (.ref q0), some (.int (p0 : Int)), some (.ref u), o7, some (.ref l)] ∧ Kp (one dk) H H9 ∧ Pa H9 x C dk k fl ∧ H9 d = some (.lst [.ref q0]) ∧ H9 l = some (.lst [.ref e]) ∧ H9 e = some (.tup ((layN k fl ns (p0, .cross)).map V.int)) ∧ H9 p = some (.dT (if j = 0 then [] else [(kW (layN k fl ns (p0, .cross)), .bl true)])))
          ⟨_, rfl, k8, pa8, hd8, hl, he, by rw [if_pos rfl]; exact hp8⟩ (fun j σ H9 _ ⟨_, _, _, _, _, z, _⟩ => SqL.of z) ?_ ?_⟩
        · rintro j z σ H9 hj ⟨o7, rfl, k9, pa9, hd9, hl9, he9, hp9⟩
          have hj0 : j = 0 := by
            have := (List.getElem?_eq_some_iff.mp hj).1
            simpa using this
          subst hj0
          cases hj
          rw [if_pos rfl] at hp9
          have he9' : H9 e = some (.tup ((kW (layN k fl ns (p0, .cross))).map kV)) := by rw [kW_kV]; exact he9
          refine ⟨_, rfl, _, rfl, p, _, rfl, DPut.t hp9 he9' (by decide), ?_⟩
          have kp := Kp.put1 (o := .dT (putK [] (kW (layN k fl ns (p0, .cross))) (.bl true))) (dT_tup hp9)
          have nls : ∀ b e (ms : List Int), one p b → H9 b = some (.lst [.ref e]) → H9 e ≠ some (.tup (ms.map V.int)) := fun b e ms z h1 => by rw [show b = p from z, hp9] at h1; cases h1
          have nr : ∀ d i, one p d → ¬ EndsAt H9 d k fl i := fun b i z a => by
            obtain ⟨kv, h1, h2⟩ := a
            rw [show b = p from z, hp9] at h1
            cases h1
            obtain ⟨w0, hw0⟩ : ∃ w0, w0 ∈ W (k.at i).ab.length := ⟨_, List.getElem_mem (W_pos _)⟩
            obtain ⟨_, _, z2, _⟩ := (h2 w0 hw0).ex
            cases z2
          obtain ⟨dx9, v9, u9, t9, hx9, _⟩ := pa9.ex
          obtain ⟨kv9, _, hk9, _⟩ := pa9.me.ex
          have nx : ¬ one p x := fun z => by rw [show x = p from z, hp9] at hx9; cases hx9
          have nk : ¬ one p dk := fun z => by rw [show dk = p from z, hp9] at hk9; cases hk9
          refine ⟨_, rfl, k9.free npH _, pa9.kS kp nx nk nls nr, kp.but _ _ (fun z => by rw [show d = p from z, hp9] at hd9; cases hd9) hd9, kp.but _ _ (fun z => by rw [show l = p from z, hp9] at hl9; cases hl9) hl9, kp.kt _ _ he9, ?_⟩
          rw [upd_same, if_neg (by omega)]
          rfl
        · rintro σ H9 ⟨o7, rfl, k9, pa9, hd9, hl9, he9, hp9⟩
          exact ⟨_, _, _, rfl, k9, pa9, hd9, hp9⟩
    · rintro σ H5 ⟨o4, o7, o8, rfl, k5, pa5, hd5, hp5⟩
      refine ⟨_, rfl, p, _, rfl, .inl hp5, fun r bs hr hbs => ?_⟩
      have hbs' : IsKeys H5 [(kW (layN k fl ns l0), .bl true)] bs := hbs
      cases hbs' with
      | cons h1 h2 =>
        cases h2
        rw [kW_kV] at h1
        refine q r _ _ (k5.trans (Kp.new hr _)) (pa5.k (Kp.new hr _)) ?_ upd_same (by rw [upd_ne (ne_of_none h1 hr)]; exact h1)
        cases z : H r with
        | none => rfl
        | some o =>
          by_cases hdk : r = dk
          · obtain ⟨kv, _, hk4, _⟩ := pa5.me.ex
            rw [hdk, hk4] at hr
            cases hr
          · rw [k5.but _ _ hdk z] at hr
            cases hr
end
end SW
/-! SwD14: read_relation. -/
namespace SW
open PySem PySem.Spec PyProof.Rows L2
section
variable {P : Program} {w : World} {K : PySem.W.Frag} {mg : Str → Option Value} {base : Heap} {C CT : Addr}
def spReadRelation (CT : Addr) : Sp := fun vs H Q E => ∃ (k : Kit) (fl : Fl) (p : Pic) (v f y : V), vs = [v, f, y] ∧ KitAt H v k ∧ k.Good ∧ FlGood k fl ∧ TD H f (relsD k fl) ∧ TD H y (p.D k) ∧ p.Good k ∧
  ((∀ n, n ≤ p.la.length → (wAt k p n).length ≤ 6) → ∀ z H', Kp no H H' → TD H' z (relOut k fl p) → Q z H') ∧
  (∀ n, n ≤ p.la.length → 6 < (wAt k p n).length → (∀ m, m < n → (wAt k p m).length ≤ 6) → ∀ d H', Kp no H H' → H d = none → H' d = some (.xd [("number", .int (2 ^ (wAt k p n).length))]) → E (.ref CT) (some d) H')
theorem read_relation (B : Bi mg) (c : CP K C) (D : Df K mg "read_relation" s_read_relation ["kit", "filling", "picture"]) (F_check_width : Fn P w K mg base (L2.CX P w) 6 "check_width" ["kit", "sizes", "picture"] (spCheckWidth CT))
    (F_Passing_init : Fi P w K mg base CX0 1 C "Passing" ["self", "kit", "sizes", "relations"] (spPassingInit C)) (F_Passing_passed : Fm P w K mg base CX0 4 C "passed" ["self", "layer", "known"] (spPassed C))
    (F_sizes_of : Fn P w K mg base CX0 1 "sizes_of" ["kit", "sizes", "wires"] spSizesOf) (F_worths_of : Fn P w K mg base CX0 1 "worths_of" ["sizes"] spWorthsOf) :
    Fn P w K mg base (L2.CX P w) 7 "read_relation" ["kit", "filling", "picture"] (spReadRelation CT) := by
  have cPassing := c.c
  refine D.fnX sc_read_relation (fun vs H Q E h => ?_) (fun f cdv A outer s H vs Q E hr h => ?_)
  · obtain ⟨k, fl, p, v, f, y, rfl, _⟩ := h
    rfl
  · obtain ⟨k, fl, p, v, f0, y, rfl, hk, G, F, hf, hy, Gp, q1, q2⟩ := h
    have hu := hu_of hr
    obtain ⟨fa, u, t, rfl, hfa, hsz, ht⟩ := TD.i2 hf
    obtain ⟨a, xw, l, ls, rfl, ha, hxw, hl, hls⟩ := pic_inv hy
    have ll := hls.length
    rw [List.length_map] at ll
    have l12 := Gp.l12
    have hWn := W_le (n := p.ab.length) (Nat.le_trans Gp.a6 (by decide))
    -- read_relation  slots: 0 kit, 1 filling, 2 picture, 3 passing, 4 found, 5 worths, 6 sizes, 7 relations, 8 known, 9 layer, 10 end
    refine ⟨_, (pss_cons (ps_asg (pv 1) (pg_tup (by rfl) (pgs_cons (pg_name (i := 6) sc_read_relation.nd rfl (by first | exact Or.inl rfl | exact Or.inr rfl)) (pgs_cons (pg_name (i := 7) sc_read_relation.nd rfl (by first | exact Or.inl rfl | exact Or.inr rfl)) pgs_nil))))
    (pss_cons (ps_expr (pe_fnX F_check_width (passes_call (takes_of rfl rfl rfl rfl) fun _ _ _ _ h => h) (hr.mono (by omega)) (pa_cons (pv 0) (pa_cons (pv 6) (pa_cons (pv 2) pa_nil)))))
    (pss_cons (ps_set (i := 3) sc_read_relation.nd rfl (Or.inl rfl) (pe_fi F_Passing_init (hr.mono (by omega)) (pa_cons (pv 0) (pa_cons (pv 6) (pa_cons (pv 7) pa_nil)))))
    (pss_cons (ps_set (i := 4) sc_read_relation.nd rfl (Or.inl rfl) (pe_lst pa_nil))
    (pss_cons (ps_for (passes_of rfl) rfl (pi_list (pe_fn F_worths_of (hr.mono (by omega)) (pa_cons (pe_fn F_sizes_of (hr.mono (by omega)) (pa_cons (pv 0) (pa_cons (pv 6) (pa_cons (pe_ixT K (pv 2) pe_int) pa_nil)))) pa_nil))) (pg_name (i := 5) sc_read_relation.nd rfl (by first | exact Or.inl rfl | exact Or.inr rfl))
      (pss_cons (ps_set (i := 8) sc_read_relation.nd rfl (Or.inl rfl) (pe_lst (pa_cons (pv 5) pa_nil)))
      (pss_cons (ps_for (passes_of rfl) rfl (pi_tup (pe_ixT K (pv 2) pe_int)) (pg_name (i := 9) sc_read_relation.nd rfl (by first | exact Or.inl rfl | exact Or.inr rfl))
        (pss_one (ps_set (i := 8) sc_read_relation.nd rfl (Or.inl rfl) (pe_fm cPassing F_Passing_passed (hr.mono (by omega)) (pv 3) (pa_cons (pv 9) (pa_cons (pv 8) pa_nil))))))
      (pss_one (ps_expr (pe_bmK K (r := rExtend) PySem.F.plainAttrs_list PySem.F.slot_list_extend PySem.F.type_list_extend mt_extend (pv 4) (pa_cons (pe_lc (own := [("end", 10)]) (g := (gName 10)) (tt := tYes) rfl sc_read_relation.nd (pi_list (pe_sorted1 K B (pa_cons (pv 8) pa_nil))) (blkOk_by (by kernel_rfl)) (fun _ _ _ _ _ => (pg_name (i := 10) sc_read_relation.nd rfl (by first | exact Or.inl rfl | exact Or.inr rfl))) (fun _ _ _ _ _ => pts_nil) (fun _ _ _ _ _ => (pe_tup (pa_cons (pv 5) (pa_cons (pv 10) pa_nil))))) pa_nil)))))))
    (pss_one (ps_ret (pe_tupOf K B (pa_cons (pv 4) pa_nil))))))))), ?_⟩
    refine ⟨_, rfl, fa, _, rfl, SqT.of hfa, rfl, _, _, rfl, _, _, rfl, rfl, ?_⟩
    refine ⟨_, rfl, _, rfl, _, rfl, k, p, v, u, .ref a, rfl, hk, G, hsz, hy, Gp, fun h6 H1 k1 => ?_, q2⟩
    refine ⟨_, rfl, _, rfl, _, rfl, fun x dx nx ndx hne => ?_⟩
    have k2 : Kp no H1 (upd (upd H1 dx (.own x)) x (.ins C dx [])) := (Kp.new ndx _).trans (Kp.new (by rw [upd_ne hne.symm]; exact nx) _)
    have k02 := k1.trans k2
    refine ⟨k, fl, x, dx, v, u, t, rfl, upd_same, hk.k k02, ht.k k02, fun dk H3 k3 ndk go3 => ⟨rfl, ?_⟩⟩
    have k13 : Kp no H1 H3 := k2.shed k3 (fun b z => by rw [show b = x from z]; exact nx)
    have k03 := k1.trans k13
    have ndk0 : H dk = none := k02.none (fun z => z) ndk
    refine ⟨sz0, fun fo hfo => ?_⟩
    have k67 := Kp.new (S := no) hfo (.lst [])
    have k07 := k03.trans k67
    have nfo : H fo = none := k03.none (fun z => z) hfo
    refine ⟨_, rfl, _, rfl, _, rfl, a, _, 0, _, rfl, rfl, SqT.of (k07.get ha), rfl, k, v, u, xw, p.ab, rfl, hk.k k07, G, hsz.k k07, k07.get hxw, Gp.so, Nat.le_trans Gp.a6 (by decide), fun s2 H8 k8 _ hs2 => ?_⟩
    refine ⟨s2, _, rfl, hs2, Nat.le_trans Gp.a6 (by decide), fun p3 vs H9 k9 n9 hp3 hvs => ?_⟩
    have k79 := k8.trans k9
    have k09 := k07.trans k79
    have k69 := k67.trans k79
    have go9 := go3.k k69
    have lvs := hvs.length
    rw [List.length_map] at lvs
    refine ⟨p3, rfl, ⟨_, SqL.of hp3⟩, for_list (K := K) (a := p3) (xs := vs) (fun j σ H' => ∃ (o5 o8 o9 : Option V) (ys : List V), σ = [some v, some (.ref fa), some (.ref a), some (.ref x), some (.ref fo), o5, some u, some t, o8, o9, none] ∧ Kp no H H' ∧ Pa H' x C dk k fl ∧ H' p3 = some (.lst vs) ∧ TDs H' vs ((W p.ab.length).map inD) ∧ H' fo = some (.lst ys) ∧
        TDs H' ys (((W p.ab.length).take j).map fun w => prD w (fin k fl p w)))
      ⟨_, _, _, [], rfl, k09, go9, hp3, hvs, k79.get upd_same, .nil⟩ (fun j σ H' _ ⟨_, _, _, _, _, _, _, z, _⟩ => SqL.of z) ?_ ?_⟩
    · rintro j z σ H' hj ⟨o5, o8, o9, ys, rfl, k', go', hp3', hvs', hfo', hys'⟩
      have hj2 : j < (W p.ab.length).length := by
        have := (List.getElem?_eq_some_iff.mp hj).1
        omega
      have hwj : (W p.ab.length)[j]? = some (W p.ab.length)[j] := List.getElem?_eq_getElem hj2
      have hwm : (W p.ab.length)[j] ∈ W p.ab.length := List.getElem_mem hj2
      revert hwj hwm
      generalize (W p.ab.length)[j] = wj
      intro hwj hwm
      obtain ⟨hwl, hwb⟩ := mem_W.mp hwm
      obtain ⟨z2, hz2, hzd⟩ := hvs'.at (d := inD wj) (i := j) (by rw [List.getElem?_map, hwj]; rfl)
      rw [hj] at hz2
      cases hz2
      obtain ⟨za, rfl, hza⟩ := hzd.ints_inv
      refine ⟨_, rfl, sz1, fun kn hkn => ?_⟩
      have k1' : Kp (one dk) H' (upd H' kn (.lst [.ref za])) := Kp.new hkn _
      have go1 := go'.k (Kp.new hkn (.lst [.ref za]))
      refine ⟨_, rfl, a, _, 1, _, rfl, rfl, SqT.of (k1'.kt _ _ (k'.get ha)), rfl, l, rfl, ⟨_, SqT.of (k1'.kt _ _ (k'.get hl))⟩, for_tup (K := K) (a := l) (xs := ls) (fun i σ H'' => ∃ (kn e : Addr) (o9 : Option V), σ = [some v, some (.ref fa), some (.ref a), some (.ref x), some (.ref fo), some (.ref za), some u, some t, some (.ref kn), o9, none] ∧ Kp (one dk) H' H'' ∧ Pa H'' x C dk k fl ∧ H'' kn = some (.lst [.ref e]) ∧ H'' e = some (.tup ((nAt k fl p wj i).map V.int)))
        ⟨kn, za, _, rfl, k1', go1, upd_same, k1'.kt _ _ hza⟩ (fun i σ H'' _ ⟨_, _, _, _, q, _⟩ => SqT.of (q.kt _ _ (k'.get hl))) ?_ ?_⟩
      · rintro i yl σ H'' hi ⟨kn, e, o9, rfl, k'', go'', hkn'', he''⟩
        have hi2 : i < p.la.length := by
          have := (List.getElem?_eq_some_iff.mp hi).1
          omega
        have hli : p.la[i]? = some p.la[i] := List.getElem?_eq_getElem hi2
        obtain ⟨z2, hz2, hd⟩ := lay_at hls hli
        rw [hi] at hz2
        cases hz2
        obtain ⟨ya, yq, rfl, _⟩ := lay_inv hd
        obtain ⟨dx6, _, _, _, hx6, _⟩ := go''.ex
        obtain ⟨n1, n2⟩ := nAt_ok F Gp hwl hwb i (by omega)
        refine ⟨_, rfl, x, dx6, _, rfl, hx6, fsP_no (by decide +kernel) (by decide +kernel) (by decide +kernel) (by decide +kernel), _, rfl, _, rfl, k, fl, x, ya, kn, e, dk, wAt k p i, nAt k fl p wj i, p.la[i], rfl, go'', G, F, (hd.k k').k k'', hkn'', he'', Gp.fits hli, n1, Gp.le8 i, n2, fun p4 e4 H7 k7 go7 n7 hp4 he4 => ?_⟩
        exact ⟨p4, e4, _, rfl, k''.trans k7, go7, hp4, by rw [nAt_succ hli]; exact he4⟩
      · rintro σ H'' ⟨kn, e, o9, rfl, k'', go'', hkn'', he''⟩
        rw [ll, nAt_end] at he''
        obtain ⟨kvs0, _, hdk', _⟩ := go'.me.ex
        have gl : ∀ {b ys}, H' b = some (.lst ys) → H'' b = some (.lst ys) := fun {b ys} h => k''.but _ _ (fun z => by rw [show b = dk from z, hdk'] at h; cases h) h
        have hfo'' := gl hfo'
        have hza'' := k''.kt _ _ hza
        refine ⟨_, rfl, .inl ⟨rfl, _, SqL.of hfo''⟩, _, rfl, kn, _, rfl, SqL.of hkn'', Nat.le_refl 1, fun sp hsp => ?_⟩
        have ks := Kp.new (S := no) hsp (.lst [V.ref e])
        refine ⟨sp, rfl, ⟨_, SqL.of upd_same⟩, fun D hD => lcD hD (lp_L (K := K) (xs := [.ref e]) (SqL.of upd_same) (szLt (by show 1 ≤ 100000; decide)) (RD [prD wj (fin k fl p wj)]) RD.kt (fun i x1 Hc hi hx1 kc Q' q' => ?_) fun D' vs Hc _ kc hv hvl hr1 eD => ?_)⟩
        · have hi0 : i = 0 := by
            have : i < 1 := hi
            omega
          subst hi0
          cases hx1
          have ksc := ks.trans kc
          refine ⟨_, rfl, _, rfl, sz2, fun t ht => q' _ _ (Kp.new ht _) ⟨_, rfl, ?_⟩⟩
          have kt := Kp.new (S := no) ht (.tup [V.ref za, V.ref e])
          exact TD.mk2 upd_same (TD.ints (kt.get (ksc.get hza''))) (TD.ints (kt.get (ksc.get he'')))
        · cases eD
          have hvs2 := RD.all (H := Hc) hvl hr1
          have kct := ks.trans kc
          have hfoT := kct.get hfo''
          have lys := hys'.length
          rw [List.length_map, List.length_take] at lys
          have hvl' : vs.length = 1 := hvl
          refine ⟨fo, D, ys, vs, rfl, rfl, hfoT, hv, szL (by omega), ?_⟩
          have kp := Kp.put1 (o := .lst (ys ++ vs)) (lst_tup hfoT)
          have kH := (k'.shed (k''.trans kct.w) (fun b z => by rw [show b = dk from z]; exact ndk0)).free nfo (.lst (ys ++ vs))
          have k4t := k''.trans kct.w
          have goc := go''.k kct
          obtain ⟨dxc, _, _, _, hxc, _⟩ := goc.ex
          obtain ⟨kvc, _, hdc, _⟩ := goc.me.ex
          have hp3T := kct.get (gl hp3')
          have n3 : p3 ≠ fo := fun z => by
            have e1 := k8.get (show upd H3 fo (.lst []) fo = some (.lst []) from upd_same)
            rw [← z, n9] at e1
            cases e1
          have hysT := (hys'.k k4t)
          have nls : ∀ b e (ns : List Int), one fo b → Hc b = some (.lst [.ref e]) → Hc e ≠ some (.tup (ns.map V.int)) := fun b e ns z h1 h2 => by
            rw [show b = fo from z, hfoT] at h1
            cases h1
            obtain ⟨d0, hd0, htd⟩ := hysT.at' (i := 0) (v := .ref e) rfl
            obtain ⟨w0, _, rfl⟩ := List.mem_map.mp (List.mem_of_getElem? hd0)
            obtain ⟨t', x1, x2, e1, h3, h4, h5⟩ := TD.i2 htd
            cases e1
            rw [h2] at h3
            obtain ⟨wa, rfl, _⟩ := h4.ints_inv
            cases ns with
            | nil => cases h3
            | cons n r => cases h3
          have goT := goc.kS kp (fun z => by rw [show x = fo from z, hfoT] at hxc; cases hxc) (fun z => by rw [show dk = fo from z, hfoT] at hdc; cases hdc) nls fun b i z a => by
            obtain ⟨kv, h1, _⟩ := a
            rw [show b = fo from z, hfoT] at h1
            cases h1
          refine ⟨_, _, _, _, rfl, kH, goT, kp.but _ _ n3 hp3T, (hvs'.k k4t).k kp, upd_same, ?_⟩
          rw [take_snoc hwj, List.map_append]
          exact (hysT.k kp).append (hvs2.k kp)
    · rintro σ H' ⟨o5, o8, o9, ys, rfl, k', go', hp3', hvs', hfo', hys'⟩
      rw [lvs, List.take_length] at hys'
      refine ⟨_, rfl, fo, ys, rfl, .inl ⟨SqL.of hfo', fun r hr => ?_⟩⟩
      exact q1 h6 _ _ (k'.trans (Kp.new hr _)) (TD.new hr hys')
end
end SW
/-! SwL1: the law's cells, decks and draws; feet. -/
namespace SW
open PySem PySem.Spec PyProof.Rows L2
/-- a deck, drawn from at most m times -/
def DkAt (H : Hp) (d : Addr) (m : Nat) : Prop := ∃ a b c : Int, H d = some (.lst [.int a, .int b, .int c]) ∧ 0 ≤ b ∧ b ≤ m
theorem DkAt.k {S : Addr → Prop} {H H' : Hp} {d : Addr} {m : Nat} (x : Kp S H H') (n : ¬ S d) (h : DkAt H d m) : DkAt H' d m := by
  obtain ⟨a, b, c, h1, h2⟩ := h
  exact ⟨a, b, c, x.but _ _ n h1, h2⟩
theorem DkAt.mono {H : Hp} {d : Addr} {m n : Nat} (h : DkAt H d m) (hm : m ≤ n) : DkAt H d n := by
  obtain ⟨a, b, c, h1, h2, h3⟩ := h
  exact ⟨a, b, c, h1, h2, by omega⟩
theorem DkAt.ne {H : Hp} {d p : Addr} {m : Nat} (h : DkAt H d m) (n : H p = none) : d ≠ p := by
  obtain ⟨a, b, c, h1, _⟩ := h
  exact ne_of_none h1 n
section
variable {P : Program} {w : World} {K : PySem.W.Frag} {mg : Str → Option Value} {base : Heap}
def spCellAt : Sp := fun vs H Q _ => ∃ (a : Addr) (ns : List Int) (j : Nat), vs = [.ref a, .int (j : Nat)] ∧ SqL K H a (ns.map V.int) ∧ ∀ c, Q (.int c) H
theorem l_cell_at (B : Bi mg) (D : Df K mg "_law_cell_at" s_l_cell_at ["_law_script", "_law_k"]) : Fn P w K mg base CX0 1 "_law_cell_at" ["_law_script", "_law_k"] (spCellAt (K := K)) := by
  refine D.fn sc_l_cell_at (fun vs H Q E h => ?_) (fun f cdv A outer s H vs Q E hr h => ?_)
  · obtain ⟨a, ns, j, rfl, _⟩ := h
    rfl
  · obtain ⟨a, ns, j, rfl, ha, q⟩ := h
    -- _law_cell_at  slots: 0 _law_script, 1 _law_k
    refine ⟨_, (pss_cons (ps_if (pt_cmpR op_lt (pv 1) (pe_len K B (pa_cons (pv 0) pa_nil)) (nomark _))
      (pss_one (ps_ret (pe_ixL K (pv 0) (pv 1))))
      pss_nil)
    (pss_one (ps_ret pe_int))), ?_⟩
    by_cases hj : j < ns.length
    · refine ⟨_, rfl, _, rfl, a, _, rfl, .inl ha, _, _, rfl, rfl, _, rfl, iteD (by rw [List.length_map]; omega) ?_⟩
      exact ⟨_, rfl, _, rfl, a, _, j, _, rfl, rfl, ha, atI_nat (by rw [List.getElem?_map, List.getElem?_eq_getElem hj]; rfl), q _⟩
    · refine ⟨_, rfl, _, rfl, a, _, rfl, .inl ha, _, _, rfl, rfl, _, rfl, iteDN (by rw [List.length_map]; omega) ?_⟩
      exact q _
def spDeck : Sp := fun vs H Q _ => ∃ (c : Int), vs = [.int c] ∧ ∀ d H', Kp no H H' → H d = none → DkAt H' d 0 → Q (.ref d) H'
theorem l_deck (B : Bi mg) (D : Df K mg "_law_deck" s_l_deck ["_law_cell"]) : Fn P w K mg base CX0 1 "_law_deck" ["_law_cell"] spDeck := by
  refine D.fn sc_l_deck (fun vs H Q E h => ?_) (fun f cdv A outer s H vs Q E hr h => ?_)
  · obtain ⟨c, rfl, _⟩ := h
    rfl
  · obtain ⟨c, rfl, q⟩ := h
    -- _law_deck  slots: 0 _law_cell
    refine ⟨_, (pss_cons (ps_if (pt_cmpR op_lt (pv 0) (pe_op op_pow pe_int pe_int) (nomark _))
      (pss_one (ps_ret (pe_lst (pa_cons pe_int (pa_cons pe_int (pa_cons (pe_op op_modN (pv 0) pe_int) pa_nil))))))
      pss_nil)
    (pss_one (ps_ret (pe_lst (pa_cons (pv 0) (pa_cons pe_int (pa_cons (pe_op op_modN (pv 0) pe_int) pa_nil))))))), ?_⟩
    by_cases hc : c < (10 : Int) ^ (18 : Int).toNat
    · refine ⟨_, rfl, _, _, rfl, rfl, ⟨by decide, by decide, by decide⟩, _, _, rfl, rfl, _, rfl, iteD hc ?_⟩
      exact ⟨_, rfl, _, _, rfl, rfl, (by decide : (2147483647 : Int) ≠ 0), sz3, fun d hd => q d _ (Kp.new hd _) hd ⟨_, _, _, upd_same, Int.le_refl _, Int.le_refl _⟩⟩
    · refine ⟨_, rfl, _, _, rfl, rfl, ⟨by decide, by decide, by decide⟩, _, _, rfl, rfl, _, rfl, iteDN hc ?_⟩
      exact ⟨_, rfl, _, rfl, _, _, rfl, rfl, (by decide : (2147483647 : Int) ≠ 0), sz3, fun d hd => q d _ (Kp.new hd _) hd ⟨_, _, _, upd_same, Int.le_refl _, Int.le_refl _⟩⟩
def spDraw : Sp := fun vs H Q _ => ∃ (d : Addr) (k m : Nat), vs = [.ref d, .int (k : Nat)] ∧ DkAt H d m ∧ m ≤ 1000000 ∧ 0 < k ∧ k ≤ 1000 ∧ ∀ (r : Nat) H', Kp (one d) H H' → DkAt H' d (m + 1) → r < k → Q (.int (r : Nat)) H'
theorem fmod_nat {i : Int} {k : Nat} (hk : 0 < k) : ∃ r : Nat, i.fmod (k : Int) = (r : Int) ∧ r < k := by
  rw [Int.fmod_eq_emod_of_nonneg _ (by omega)]
  have h1 := Int.emod_nonneg i (show (k : Int) ≠ 0 by omega)
  have h2 := Int.emod_lt_of_pos i (show (0 : Int) < k by omega)
  exact ⟨(i % (k : Int)).toNat, by omega, by omega⟩
theorem modK {i : Int} {k : Nat} {H : Hp} {Q : VK} (hk : 0 < k) (q : ∀ r : Nat, r < k → Q (.int (r : Nat)) H) : rI (fun _ j => j ≠ 0) (fun i j => .int (i.fmod j)) (.int i) (.int (k : Nat)) H Q := by
  refine ⟨i, k, rfl, rfl, by show (k : Int) ≠ 0; omega, ?_⟩
  obtain ⟨r, er, hr⟩ := fmod_nat (i := i) hk
  show Q (.int (i.fmod k)) H
  rw [er]
  exact q r hr
theorem modJ {i j : Int} {H : Hp} {Q : VK} (hj : 0 < j) (q : ∀ r : Nat, (r : Int) < j → Q (.int (r : Nat)) H) : rI (fun _ j => j ≠ 0) (fun i j => .int (i.fmod j)) (.int i) (.int j) H Q := by
  refine ⟨i, j, rfl, rfl, by show j ≠ 0; omega, ?_⟩
  obtain ⟨r, er, hr⟩ := fmod_nat (i := i) (k := j.toNat) (by omega)
  have e : ((j.toNat : Nat) : Int) = j := by omega
  rw [e] at er
  show Q (.int (i.fmod j)) H
  rw [er]
  exact q r (by omega)
theorem modC {i j : Int} {σ : L2.St} {H : Hp} {Q : VK} (hj : 0 < j) (q : ∀ r : Nat, (r : Int) < j → Q (.int (r : Nat)) H) : tC (.int j) σ H fun y H2 => rI (fun _ j => j ≠ 0) (fun i j => .int (i.fmod j)) (.int i) y H2 Q := modJ hj q
theorem l_draw (B : Bi mg) (D : Df K mg "_law_draw" s_l_draw ["_law_deck_here", "_law_most"]) : Fn P w K mg base CX0 1 "_law_draw" ["_law_deck_here", "_law_most"] spDraw := by
  refine D.fn sc_l_draw (fun vs H Q E h => ?_) (fun f cdv A outer s H vs Q E hr h => ?_)
  · obtain ⟨d, k, m, rfl, _⟩ := h
    rfl
  · obtain ⟨d, k, m, rfl, ⟨a, b, c, hd, hb0, hbm⟩, hm, hk0, hk, q⟩ := h
    -- _law_draw  slots: 0 _law_deck_here, 1 _law_most, 2 _law_mixed, 3 _law_found
    refine ⟨_, (pss_cons (ps_if (pt_cmpR op_gt (pe_ixL K (pv 0) pe_int) pe_int (nomark _))
      (pss_cons (ps_set (i := 3) sc_l_draw.nd rfl (Or.inl rfl) (pe_op op_modN (pe_ixL K (pv 0) pe_int) (pv 1)))
      (pss_cons (ps_asg (pe_op op_fdivN (pe_ixL K (pv 0) pe_int) (pv 1)) (pg_sub (pv 0) pe_int set_list))
      (pss_one (ps_ret (pv 3)))))
      pss_nil)
    (pss_cons (ps_asg (pe_op op_add (pe_ixL K (pv 0) pe_int) pe_int) (pg_sub (pv 0) pe_int set_list))
    (pss_cons (ps_set (i := 2) sc_l_draw.nd rfl (Or.inl rfl) (pe_op op_modN (pe_op op_mul (pe_op op_add (pe_ixL K (pv 0) pe_int) (pe_op op_mul (pe_op op_mul pe_int (pe_ixL K (pv 0) pe_int)) (pe_ixL K (pv 0) pe_int))) pe_int) pe_int))
    (pss_one (ps_ret (pe_op op_modN (pe_op op_fdivN (pe_op op_modN (pe_op op_mul (pv 2) (pe_op op_add (pv 2) pe_int)) pe_int) pe_int) (pv 1))))))), ?_⟩
    by_cases ha : 0 < a
    · refine ⟨_, rfl, d, _, 0, _, rfl, rfl, SqL.of hd, rfl, _, _, rfl, rfl, _, rfl, iteD ha ?_⟩
      refine ⟨_, rfl, d, _, 0, _, rfl, rfl, SqL.of hd, rfl, _, rfl, modK hk0 fun r hrk => ?_⟩
      refine ⟨_, rfl, d, _, 0, _, rfl, rfl, SqL.of hd, rfl, _, rfl, _, _, rfl, rfl, ⟨by omega, by omega⟩, ?_⟩
      refine ⟨_, rfl, d, _, 0, 0, rfl, rfl, hd, rfl, ?_⟩
      exact ⟨_, rfl, q r _ (Kp.put1 (lst_tup hd)) ⟨_, _, _, upd_same, hb0, by omega⟩ hrk⟩
    · refine ⟨_, rfl, d, _, 0, _, rfl, rfl, SqL.of hd, rfl, _, _, rfl, rfl, _, rfl, iteDN ha ?_⟩
      refine ⟨_, rfl, d, _, 1, _, rfl, rfl, SqL.of hd, rfl, _, _, rfl, rfl, ?_⟩
      refine ⟨_, rfl, d, _, 1, 1, rfl, rfl, hd, rfl, ?_⟩
      have kd := Kp.put1 (o := .lst [.int a, .int (b + 1), .int c]) (lst_tup hd)
      have hd2 : upd H d (.lst [.int a, .int (b + 1), .int c]) d = some (.lst [.int a, .int (b + 1), .int c]) := upd_same
      show tSeq _ _ _ _ (upd H d (.lst [.int a, .int (b + 1), .int c]))
      refine ⟨_, rfl, d, _, 2, _, rfl, rfl, SqL.of hd2, rfl, _, rfl, d, _, 1, _, rfl, rfl, SqL.of hd2, rfl, _, _, rfl, rfl, .inl ⟨by decide, by decide⟩, _, rfl, d, _, 1, _, rfl, rfl, SqL.of hd2, rfl, _, _, rfl, rfl, .inr ⟨by omega, by omega⟩, _, _, rfl, rfl, _, _, rfl, rfl, .inr ⟨by decide, by decide⟩, ?_⟩
      refine modC (j := 2147483647) (by decide) fun x hx => ?_
      refine ⟨_, rfl, _, rfl, _, _, rfl, rfl, _, _, rfl, rfl, .inl ⟨by omega, by omega⟩, ?_⟩
      refine modC (j := 2147483629) (by decide) fun y hy => ?_
      refine ⟨_, _, rfl, rfl, ⟨by decide, by decide⟩, _, rfl, modK hk0 fun r hrk => ?_⟩
      exact q r _ kd ⟨_, _, _, hd2, by omega, by omega⟩ hrk
end
end SW
/-! SwL2: the law's feet and kits. -/
namespace SW
open PySem PySem.Spec PyProof.Rows L2
theorem atI_lit {l : List Nat} {b r : Nat} (h : r < l.length) (hb : ∀ x ∈ l, x ≤ b) : ∃ n : Nat, atI (l.map fun x => V.int ((x : Nat) : Int)) ((r : Nat) : Int) = some (.int (n : Nat)) ∧ n ≤ b ∧ n ∈ l :=
  ⟨l[r], atI_nat (by rw [List.getElem?_map, List.getElem?_eq_getElem h]; rfl), hb _ (List.getElem_mem h), List.getElem_mem h⟩
theorem lst_len {xs ys : List V} (h : some (HO.lst xs) = some (HO.lst ys)) : xs.length = ys.length := by cases h; rfl
theorem bit_nat (b : Bool) : ∃ g : Nat, (if b = true then (1 : Int) else 0) = (g : Nat) ∧ g ≤ 1 := by
  cases b
  · exact ⟨0, rfl, by decide⟩
  · exact ⟨1, rfl, by decide⟩
theorem DkAt.upd {H : Hp} {d D : Addr} {m : Nat} {o : HO} (h : DkAt H d m) (n : ¬ one d D) : DkAt (upd H D o) d m := by
  obtain ⟨a, b, c, h1, h2⟩ := h
  exact ⟨a, b, c, by rw [upd_ne (fun z => n (show D = d from z.symm))]; exact h1, h2⟩
theorem DkAt.some {H : Hp} {d : Addr} {m : Nat} (h : DkAt H d m) : ∀ D, one d D → H D ≠ none := fun D z => by
  obtain ⟨a, b, c, h1, _⟩ := h
  rw [show D = d from z, h1]
  exact fun z => nomatch z
/-- sorts that stand as a tuple of their own -/
def SoAt (H : Hp) (s : Addr) (S : List Str) : Prop := ∃ o, H s = some (.frz o (.tup (S.map V.str))) ∧ o.cls = .type "tuple" ∧ o.dict = none
theorem SoAt.k {T : Addr → Prop} {H H' : Hp} {s : Addr} {S : List Str} (x : Kp T H H') (h : SoAt H s S) : SoAt H' s S := by
  obtain ⟨o, h1, h2⟩ := h
  exact ⟨o, x.fz _ _ _ h1, h2⟩
theorem SoAt.sq {K : PySem.W.Frag} {H : Hp} {s : Addr} {S : List Str} (h : SoAt H s S) : SqT K H s (S.map V.str) := by
  obtain ⟨o, h1, _⟩ := h
  exact .inl (.inr ⟨o, h1⟩)
theorem all_str {S : List Str} : ∀ {vs : List V}, (∀ (i : Nat) (v : V), vs[i]? = some v → ∃ s, s ∈ S ∧ v = .str s) → ∃ ws : List Str, vs = ws.map V.str ∧ ∀ s ∈ ws, s ∈ S
  | [], _ => ⟨[], rfl, fun s h => (by cases h)⟩
  | x :: r, h => by
    obtain ⟨s, hs, rfl⟩ := h 0 x rfl
    obtain ⟨ws, e, hw⟩ := all_str (S := S) (vs := r) fun i v q => h (i + 1) v q
    refine ⟨s :: ws, by rw [e]; rfl, fun y hy => ?_⟩
    rcases List.mem_cons.mp hy with q | q
    · rw [q]; exact hs
    · exact hw y q
section
variable {P : Program} {w : World} {K : PySem.W.Frag} {mg : Str → Option Value} {base : Heap}
def spFeet : Sp := fun vs H Q _ => ∃ (d s : Addr) (S : List Str) (g m : Nat), vs = [.ref d, .ref s, .int (g : Nat)] ∧ DkAt H d m ∧ m ≤ 100000 ∧ SoAt H s S ∧ 1 ≤ S.length ∧ S.length ≤ 4 ∧ g ≤ 1 ∧
  ∀ x (ws : List Str) H', Kp (one d) H H' → DkAt H' d (m + 5) → H' x = some (.tup (ws.map V.str)) → ws.length ≤ 4 → (∀ s ∈ ws, s ∈ S) → Q (.ref x) H'
theorem l_feet (B : Bi mg) (D : Df K mg "_law_feet" s_l_feet ["_law_deck_here", "_law_sorts", "_law_great"]) (F_l_draw : Fn P w K mg base CX0 1 "_law_draw" ["_law_deck_here", "_law_most"] spDraw) :
    Fn P w K mg base CX0 2 "_law_feet" ["_law_deck_here", "_law_sorts", "_law_great"] spFeet := by
  refine D.fn sc_l_feet (fun vs H Q E h => ?_) (fun f cdv A outer s H vs Q E hr h => ?_)
  · obtain ⟨d, s, S, g, m, rfl, _⟩ := h
    rfl
  · obtain ⟨d, so, S, g, m, rfl, hd, hm, hso, h1, h4, hg, q⟩ := h
    -- _law_feet  slots: 0 _law_deck_here, 1 _law_sorts, 2 _law_great, 3 _law_many, 4 _law_k
    refine ⟨_, (pss_cons (ps_set (i := 3) sc_l_feet.nd rfl (Or.inl rfl) (pe_ixL K (pe_lst (pa_cons pe_int (pa_cons pe_int (pa_cons pe_int (pa_cons pe_int (pa_cons pe_int (pa_cons pe_int (pa_cons pe_int (pa_cons pe_int pa_nil))))))))) (pe_fn F_l_draw (hr.mono (by omega)) (pa_cons (pv 0) (pa_cons (pe_op op_add pe_int (pe_op op_mul pe_int (pv 2))) pa_nil)))))
    (pss_one (ps_ret (pe_tupOf K B (pa_cons (pe_lc (own := [("_law_k", 4)]) (g := (gName 4)) (tt := tYes) rfl sc_l_feet.nd (pi_range1 (by rfl) B.range (pa_cons (pv 3) pa_nil)) (blkOk_by (by kernel_rfl)) (fun _ _ _ _ _ => (pg_name (i := 4) sc_l_feet.nd rfl (by first | exact Or.inl rfl | exact Or.inr rfl))) (fun _ _ _ _ _ => pts_nil) (fun _ _ _ _ _ => (pe_ixT K (pv 1) (pe_fn F_l_draw (hr.mono (by omega)) (pa_cons (pv 0) (pa_cons (pe_len K B (pa_cons (pv 1) pa_nil)) pa_nil)))))) pa_nil))))), ?_⟩
    refine ⟨szL (by show 8 ≤ 100000; decide), fun l hl => ?_⟩
    have kl := Kp.new (S := one d) hl (.lst [V.int 0, V.int 1, V.int 1, V.int 2, V.int 2, V.int 1, V.int 3, V.int 4])
    have nl := hd.ne hl
    have hd1 := hd.upd (o := .lst [V.int 0, V.int 1, V.int 1, V.int 2, V.int 2, V.int 1, V.int 3, V.int 4]) (show ¬ one d l from fun z => nl z.symm)
    refine ⟨_, rfl, _, rfl, _, _, rfl, rfl, .inl ⟨by decide, by decide⟩, _, _, rfl, rfl, d, 6 + 2 * g, m, by show [V.ref d, V.int (6 + 2 * (g : Int))] = _; rw [show (6 + 2 * (g : Int)) = ((6 + 2 * g : Nat) : Int) from by omega], hd1, by omega, by omega, by omega, fun r H1 k1 hd2 hr => ?_⟩
    have hl1 := k1.but _ _ (fun z => nl z.symm) (show upd H l (.lst [V.int 0, V.int 1, V.int 1, V.int 2, V.int 2, V.int 1, V.int 3, V.int 4]) l = some (.lst [V.int 0, V.int 1, V.int 1, V.int 2, V.int 2, V.int 1, V.int 3, V.int 4]) from upd_same)
    obtain ⟨n, hn, hn4, _⟩ := atI_lit (l := [0, 1, 1, 2, 2, 1, 3, 4]) (b := 4) (r := r) (by show r < 8; omega) (by decide)
    have k01 := kl.trans k1
    refine ⟨l, _, r, _, rfl, rfl, SqL.of hl1, hn, ?_⟩
    refine ⟨_, rfl, n, rfl, by omega, by omega, fun D hD => lcD hD (lc_R (S := one d) (lo := 0) (n := n) (szLt (by omega)) (fun i H => DkAt H d (m + 1 + i)) (fun _ v _ => ∃ s, s ∈ S ∧ v = .str s) hd2 hd2.some (fun i H D xs ys nS _ ok => ok.upd nS) (fun _ _ _ _ _ h => h) (fun i y H2 hi hy k2 ok Q' q' => ?_) fun D' vs H2 _ k2 ok hv hvl hr1 eD => ?_)⟩
    · have hso2 := (hso.k k01).k k2
      refine ⟨_, rfl, _, rfl, _, rfl, so, _, rfl, .inr hso2.sq, d, S.length, _, by rw [List.length_map], ok, by omega, h1, by omega, fun r2 H3 k3 ok3 hr2 => ?_⟩
      have hso3 := hso2.k k3
      exact ⟨so, _, r2, _, rfl, rfl, hso3.sq, atI_nat (by rw [List.getElem?_map, List.getElem?_eq_getElem hr2]; rfl), q' _ H3 k3 ok3 ⟨_, List.getElem_mem hr2, rfl⟩⟩
    · cases eD
      obtain ⟨ws, rfl, hws⟩ := all_str hr1
      rw [List.length_map] at hvl
      refine ⟨D, _, rfl, .inl ⟨SqL.of hv, fun x hx => ?_⟩⟩
      exact q x ws _ ((k01.trans k2).trans (Kp.new hx _)) ((ok.upd (fun z => ok.ne hx (show x = d from z).symm)).mono (by omega)) upd_same (by omega) hws
def nmL : List Str := ["a", "ab", "b", "boxa"]
def wdL : List Str := ["f", "fa", "cupy", "g", "crossed", "sort", "overs", "h"]
theorem nmL_ok : ∀ s ∈ nmL, PyData.strOk s = true := by decide +kernel
theorem wdL_ok : ∀ s ∈ wdL, PyData.strOk s = true := by decide +kernel
theorem wdL_nd : wdL.Nodup := by decide +kernel
theorem rot_mem {α : Type} {l : List α} {t c : Nat} {x : α} (h : x ∈ (l.drop t ++ l.take t).take c) : x ∈ l := by
  rcases List.mem_append.mp (List.mem_of_mem_take h) with q | q
  · exact List.mem_of_mem_drop q
  · exact List.mem_of_mem_take q
theorem rot_nd {α : Type} {l : List α} {t c : Nat} (h : l.Nodup) : ((l.drop t ++ l.take t).take c).Nodup := by
  have e : (l.take t ++ l.drop t).Perm (l.drop t ++ l.take t) := List.perm_append_comm
  rw [List.take_append_drop] at e
  exact ((e.nodup_iff).mp h).sublist (List.take_sublist _ _)
theorem lo_br : ¬ V.str "loose" = V.str "braid" := by decide +kernel
def spKit : Sp := fun vs H Q _ => ∃ (d : Addr), vs = [.ref d, .str "loose"] ∧ DkAt H d 0 ∧ ∀ v k H', Kp (one d) H H' → KitAt H' v k → k.Good → Q v H'
theorem l_kit (B : Bi mg) (D : Df K mg "_law_kit" s_l_kit ["_law_deck_here", "_law_manner"]) (F_l_draw : Fn P w K mg base CX0 1 "_law_draw" ["_law_deck_here", "_law_most"] spDraw)
    (F_l_feet : Fn P w K mg base CX0 2 "_law_feet" ["_law_deck_here", "_law_sorts", "_law_great"] spFeet) : Fn P w K mg base CX0 3 "_law_kit" ["_law_deck_here", "_law_manner"] spKit := by
  refine D.fn sc_l_kit (fun vs H Q E h => ?_) (fun f cdv A outer s H vs Q E hr h => ?_)
  · obtain ⟨d, rfl, _⟩ := h
    rfl
  · obtain ⟨d, rfl, hd, q⟩ := h
    -- _law_kit  slots: 0 _law_deck_here, 1 _law_manner, 2 _law_great, 3 _law_turn, 4 _law_names, 5 _law_sorts, 6 _law_words, 7 _law_boxes, 8 _law_name
    refine ⟨_, (pss_cons (ps_set (i := 2) sc_l_kit.nd rfl (Or.inl rfl) (pe_intB B (pa_cons (pe_cmpR op_eq (pe_fn F_l_draw (hr.mono (by omega)) (pa_cons (pv 0) (pa_cons pe_int pa_nil))) pe_int (nomark _)) pa_nil)))
    (pss_cons (ps_set (i := 3) sc_l_kit.nd rfl (Or.inl rfl) (pe_fn F_l_draw (hr.mono (by omega)) (pa_cons (pv 0) (pa_cons pe_int pa_nil))))
    (pss_cons (ps_set (i := 4) sc_l_kit.nd rfl (Or.inl rfl) (pe_lst (pa_cons pe_str (pa_cons pe_str (pa_cons pe_str (pa_cons pe_str pa_nil))))))
    (pss_cons (ps_set (i := 5) sc_l_kit.nd rfl (Or.inl rfl) (pe_tupOfF K B (pa_cons (pe_slL K (pe_op op_cat (pe_slL K (pv 4) (po_some (pv 3)) po_none) (pe_slL K (pv 4) po_none (po_some (pv 3)))) po_none (po_some (pe_ixL K (pe_lst (pa_cons pe_int (pa_cons pe_int (pa_cons pe_int (pa_cons pe_int (pa_cons pe_int (pa_cons pe_int pa_nil))))))) (pe_fn F_l_draw (hr.mono (by omega)) (pa_cons (pv 0) (pa_cons (pe_op op_add pe_int (pv 2)) pa_nil)))))) pa_nil)))
    (pss_cons (ps_set (i := 6) sc_l_kit.nd rfl (Or.inl rfl) (pe_lst (pa_cons pe_str (pa_cons pe_str (pa_cons pe_str (pa_cons pe_str (pa_cons pe_str (pa_cons pe_str (pa_cons pe_str (pa_cons pe_str pa_nil))))))))))
    (pss_cons (ps_set (i := 3) sc_l_kit.nd rfl (Or.inl rfl) (pe_fn F_l_draw (hr.mono (by omega)) (pa_cons (pv 0) (pa_cons pe_int pa_nil))))
    (pss_cons (ps_set (i := 7) sc_l_kit.nd rfl (Or.inl rfl) (pe_lst pa_nil))
    (pss_cons (ps_if (pt_cmpR op_ne (pv 1) pe_str (nomark _))
      (pss_one (ps_for PassesOwn.never rfl (pi_list (pe_slL K (pe_op op_cat (pe_slL K (pv 6) (po_some (pv 3)) po_none) (pe_slL K (pv 6) po_none (po_some (pv 3)))) po_none (po_some (pe_op op_add pe_int (pe_fn F_l_draw (hr.mono (by omega)) (pa_cons (pv 0) (pa_cons (pe_op op_add pe_int (pe_op op_mul pe_int (pv 2))) pa_nil))))))) (pg_name (i := 8) sc_l_kit.nd rfl (by first | exact Or.inl rfl | exact Or.inr rfl))
        (pss_one (ps_expr (pe_bmK K (r := rAppend) PySem.F.plainAttrs_list PySem.F.slot_list_append PySem.F.type_list_append mt_append (pv 7) (pa_cons (pe_tup (pa_cons (pv 8) (pa_cons (pe_fn F_l_feet (hr.mono (by omega)) (pa_cons (pv 0) (pa_cons (pv 5) (pa_cons (pv 2) pa_nil)))) (pa_cons (pe_fn F_l_feet (hr.mono (by omega)) (pa_cons (pv 0) (pa_cons (pv 5) (pa_cons (pv 2) pa_nil)))) pa_nil)))) pa_nil))))))
      pss_nil)
    (pss_one (ps_ret (pe_tup (pa_cons (pv 1) (pa_cons (pv 5) (pa_cons (pe_tupOf K B (pa_cons (pv 7) pa_nil)) pa_nil)))))))))))))), ?_⟩
    refine ⟨_, rfl, d, 8, 0, rfl, hd, by decide, by decide, by decide, fun r0 H1 k1 hd1 hr0 => ⟨rfl, .inr ⟨_, rfl, ?_⟩⟩⟩
    obtain ⟨g, hg, hg1⟩ := bit_nat (decide (V.int (r0 : Nat) = V.int 5))
    rw [hg]
    refine ⟨_, rfl, d, 4, 1, rfl, hd1, by decide, by decide, by decide, fun t H2 k2 hd2 ht => ?_⟩
    have k02 := k1.trans k2
    refine ⟨sz4, fun ln hln => ?_⟩
    obtain ⟨H3, eH3⟩ : ∃ H3, H3 = upd H2 ln (.lst [V.str "a", V.str "ab", V.str "b", V.str "boxa"]) := ⟨_, rfl⟩
    rw [← eH3]
    have k3 : Kp no H2 H3 := by rw [eH3]; exact Kp.new hln _
    have hln3 : H3 ln = some (.lst (nmL.map V.str)) := by rw [eH3]; exact upd_same
    have hd3 : DkAt H3 d 2 := hd2.k k3 (fun z => z)
    refine ⟨_, rfl, _, rfl, _, rfl, ln, _, rfl, SqL.of hln3, fun p1 hp1 => ?_⟩
    rw [cut_from]
    have k4 := Kp.new (S := no) hp1 (.lst ((nmL.map V.str).drop t))
    refine ⟨_, rfl, _, rfl, _, rfl, ln, _, rfl, SqL.of (k4.get hln3), fun p2 hp2 => ?_⟩
    rw [cut_to]
    have k5 := Kp.new (S := no) hp2 (.lst ((nmL.map V.str).take t))
    refine ⟨p1, p2, _, _, rfl, rfl, k5.get upd_same, upd_same, szL (by rw [List.length_drop, List.length_take, List.length_map]; show 4 - t + min t 4 ≤ 100000; omega), fun p3 hp3 => ?_⟩
    have k6 := Kp.new (S := no) hp3 (.lst ((nmL.map V.str).drop t ++ (nmL.map V.str).take t))
    refine ⟨szL (by show 6 ≤ 100000; decide), fun l6 hl6 => ?_⟩
    have k7 := Kp.new (S := no) hl6 (.lst [V.int 1, V.int 1, V.int 2, V.int 2, V.int 3, V.int 4])
    have k37 := ((k4.trans k5).trans k6).trans k7
    have hd7 := hd3.k k37 (fun z => z)
    obtain ⟨H7, eH7⟩ : ∃ H7, H7 = upd (upd (upd (upd H3 p1 (.lst ((nmL.map V.str).drop t))) p2 (.lst ((nmL.map V.str).take t))) p3 (.lst ((nmL.map V.str).drop t ++ (nmL.map V.str).take t))) l6 (.lst [V.int 1, V.int 1, V.int 2, V.int 2, V.int 3, V.int 4]) := ⟨_, rfl⟩
    have hl67 : H7 l6 = some (.lst [V.int 1, V.int 1, V.int 2, V.int 2, V.int 3, V.int 4]) := by rw [eH7]; exact upd_same
    have hp37 : H7 p3 = some (.lst ((nmL.map V.str).drop t ++ (nmL.map V.str).take t)) := by rw [eH7]; exact k7.get upd_same
    rw [← eH7] at k37 hd7 ⊢
    have ne6 : ¬ one d l6 := fun z => by
      obtain ⟨_, _, _, z2, _⟩ := hd7
      rw [← show l6 = d from z, hl67] at z2
      cases z2
    have nm3 : d ≠ p3 := (hd3.k (k4.trans k5) (fun z => z)).ne hp3
    refine ⟨_, rfl, _, rfl, _, _, rfl, rfl, d, 5 + g, 2, by show [V.ref d, V.int (5 + (g : Int))] = _; rw [show (5 + (g : Int)) = ((5 + g : Nat) : Int) from by omega], hd7, by decide, by omega, by omega, fun r H8 k8 hd8 hr => ?_⟩
    obtain ⟨n, hn, hn4, hnm⟩ := atI_lit (l := [1, 1, 2, 2, 3, 4]) (b := 4) (r := r) (by show r < 6; omega) (by decide)
    have hn1 : 1 ≤ n := (by decide : ∀ x ∈ [1, 1, 2, 2, 3, 4], 1 ≤ x) n hnm
    refine ⟨l6, _, r, _, rfl, rfl, SqL.of (k8.but _ _ ne6 hl67), hn, _, rfl, p3, _, rfl, SqL.of (k8.but _ _ (fun z => nm3 z.symm) hp37), fun p4 hp4 => ?_⟩
    rw [cut_to]
    have k9 := Kp.new (S := no) hp4 (.lst (((nmL.map V.str).drop t ++ (nmL.map V.str).take t).take n))
    refine ⟨p4, _, rfl, SqL.of upd_same, fun so ob hso hoc hod => ?_⟩
    have k10 := Kp.new (S := no) hso (.frz ob (.tup (((nmL.map V.str).drop t ++ (nmL.map V.str).take t).take n)))
    obtain ⟨S, eS⟩ : ∃ S, S = (nmL.drop t ++ nmL.take t).take n := ⟨_, rfl⟩
    have eSm : ((nmL.map V.str).drop t ++ (nmL.map V.str).take t).take n = S.map V.str := by rw [eS, List.map_take, List.map_append, List.map_drop, List.map_take]
    rw [eSm] at k9 k10 ⊢
    have hSl : S.length = n := by
      rw [eS, List.length_take, List.length_append, List.length_drop, List.length_take]
      show min n (4 - t + min t 4) = n
      omega
    have hSn : ∀ s ∈ S, s ∈ nmL := fun s hs => by rw [eS] at hs; exact rot_mem hs
    obtain ⟨H10, eH10⟩ : ∃ H10, H10 = upd (upd H8 p4 (.lst (S.map V.str))) so (.frz ob (.tup (S.map V.str))) := ⟨_, rfl⟩
    rw [← eH10] at k10 ⊢
    have k810 : Kp no H8 H10 := k9.trans k10
    have so10 : SoAt H10 so S := ⟨ob, by rw [eH10]; exact upd_same, hoc, hod⟩
    have hd10 := hd8.k k810 (fun z => z)
    have k010 : Kp (one d) H H10 := (((k02.trans k3.w).trans k37.w).trans k8).trans k810.w
    refine ⟨szL (by show 8 ≤ 100000; decide), fun lw hlw => ?_⟩
    obtain ⟨H11, eH11⟩ : ∃ H11, H11 = upd H10 lw (.lst [V.str "f", V.str "fa", V.str "cupy", V.str "g", V.str "crossed", V.str "sort", V.str "overs", V.str "h"]) := ⟨_, rfl⟩
    rw [← eH11]
    have k11 : Kp no H10 H11 := by rw [eH11]; exact Kp.new hlw _
    have hlw11 : H11 lw = some (.lst (wdL.map V.str)) := by rw [eH11]; exact upd_same
    have hd11 := hd10.k k11 (fun z => z)
    refine ⟨_, rfl, d, 8, 3, rfl, hd11, by decide, by decide, by decide, fun t2 H12 k12 hd12 ht2 => ?_⟩
    have nlw : ¬ one d lw := fun z => by
      obtain ⟨_, _, _, z2, _⟩ := hd11
      rw [← show lw = d from z, hlw11] at z2
      have h1 := lst_len z2
      have h2 : wdL.length = 3 := by rw [List.length_map] at h1; exact h1
      exact absurd h2 (by decide)
    have hlw12 := k12.but _ _ nlw hlw11
    have so12 := (so10.k k11).k k12
    refine ⟨sz0, fun lb hlb => ?_⟩
    have k13 := Kp.new (S := no) hlb (.lst [])
    obtain ⟨H13, eH13⟩ : ∃ H13, H13 = upd H12 lb (.lst []) := ⟨_, rfl⟩
    rw [← eH13] at k13 ⊢
    have hlb13 : H13 lb = some (.lst []) := by rw [eH13]; exact upd_same
    have hd13 := hd12.k k13 (fun z => z)
    have k013 : Kp (one d) H H13 := ((k010.trans k11.w).trans k12).trans k13.w
    refine ⟨_, rfl, rfl, _, rfl, iteN lo_br ?_⟩
    refine ⟨_, rfl, _, rfl, _, rfl, lw, _, rfl, SqL.of (k13.get hlw12), fun q1 hq1 => ?_⟩
    rw [cut_from]
    have k14 := Kp.new (S := no) hq1 (.lst ((wdL.map V.str).drop t2))
    refine ⟨_, rfl, _, rfl, _, rfl, lw, _, rfl, SqL.of (k14.get (k13.get hlw12)), fun q2 hq2 => ?_⟩
    rw [cut_to]
    have k15 := Kp.new (S := no) hq2 (.lst ((wdL.map V.str).take t2))
    refine ⟨q1, q2, _, _, rfl, rfl, k15.get upd_same, upd_same, szL (by rw [List.length_drop, List.length_take, List.length_map]; show 8 - t2 + min t2 8 ≤ 100000; omega), fun q3 hq3 => ?_⟩
    have k16 := Kp.new (S := no) hq3 (.lst ((wdL.map V.str).drop t2 ++ (wdL.map V.str).take t2))
    have k1316 := (k14.trans k15).trans k16
    obtain ⟨H16, eH16⟩ : ∃ H16, H16 = upd (upd (upd H13 q1 (.lst ((wdL.map V.str).drop t2))) q2 (.lst ((wdL.map V.str).take t2))) q3 (.lst ((wdL.map V.str).drop t2 ++ (wdL.map V.str).take t2)) := ⟨_, rfl⟩
    have hq316 : H16 q3 = some (.lst ((wdL.map V.str).drop t2 ++ (wdL.map V.str).take t2)) := by rw [eH16]; exact upd_same
    rw [← eH16] at k1316 ⊢
    have hd16 := hd13.k k1316 (fun z => z)
    refine ⟨_, rfl, _, rfl, _, _, rfl, rfl, .inl ⟨by decide, by decide⟩, _, _, rfl, rfl, d, 4 + 4 * g, 4, by show [V.ref d, V.int (4 + 4 * (g : Int))] = _; rw [show (4 + 4 * (g : Int)) = ((4 + 4 * g : Nat) : Int) from by omega], hd16, by decide, by omega, by omega, fun r2 H17 k17 hd17 hr2 => ?_⟩
    have nq3 : ¬ one d q3 := fun z => by
      obtain ⟨_, _, _, z2, _⟩ := hd16
      rw [← show q3 = d from z, hq316] at z2
      have h1 : ((wdL.map V.str).drop t2 ++ (wdL.map V.str).take t2).length = 3 := lst_len z2
      rw [List.length_append, List.length_drop, List.length_take, List.length_map] at h1
      have h2 : 8 - t2 + min t2 8 = 3 := h1
      omega
    refine ⟨_, _, rfl, rfl, _, rfl, q3, _, rfl, SqL.of (k17.but _ _ nq3 hq316), fun q4 hq4 => ?_⟩
    rw [show (1 + (r2 : Int)) = ((1 + r2 : Nat) : Int) from by omega, cut_to]
    obtain ⟨N, eN⟩ : ∃ N, N = (wdL.drop t2 ++ wdL.take t2).take (1 + r2) := ⟨_, rfl⟩
    have eNm : ((wdL.map V.str).drop t2 ++ (wdL.map V.str).take t2).take (1 + r2) = N.map V.str := by rw [eN, List.map_take, List.map_append, List.map_drop, List.map_take]
    rw [eNm]
    have hNn : ∀ s ∈ N, s ∈ wdL := fun s hs => by rw [eN] at hs; exact rot_mem hs
    have hNd : N.Nodup := by rw [eN]; exact rot_nd wdL_nd
    have hNl : N.length ≤ 8 := by
      rw [eN, List.length_take, List.length_append, List.length_drop, List.length_take]
      show min (1 + r2) (8 - t2 + min t2 8) ≤ 8
      omega
    have k18 := Kp.new (S := no) hq4 (.lst (N.map V.str))
    have k1318 : Kp (one d) H13 _ := (k1316.w.trans k17).trans k18.w
    have k018 := k013.trans k1318
    have nlb0 : H lb = none := by
      cases z : H lb with
      | none => rfl
      | some o =>
        have hdl : ¬ one d lb := fun z2 => by
          obtain ⟨_, _, _, z3, _⟩ := hd12
          rw [← show lb = d from z2, hlb] at z3
          cases z3
        have z4 := k12.but _ _ hdl (k11.get (k010.but _ _ hdl z))
        rw [hlb] at z4
        cases z4
    have dlb : lb ≠ d := fun z => by
      obtain ⟨_, _, _, z3, _⟩ := hd
      rw [← z, nlb0] at z3
      cases z3
    have q4lb : q4 ≠ lb := fun z => by
      have z2 := k17.but _ _ (fun z3 => dlb z3) (k1316.get hlb13)
      rw [← z, hq4] at z2
      cases z2
    refine ⟨q4, rfl, ⟨_, SqL.of upd_same⟩, for_list (K := K) (a := q4) (xs := N.map V.str) (fun j σ H' => ∃ (o8 : Option V) (bs : List V) (bx : List Bx), σ = [some (.ref d), some (.str "loose"), some (.int (g : Nat)), some (.int (t2 : Nat)), some (.ref ln), some (.ref so), some (.ref lw), some (.ref lb), o8] ∧ Kp (one d) H H' ∧ DkAt H' d (5 + 10 * j) ∧ SoAt H' so S ∧ H' q4 = some (.lst (N.map V.str)) ∧ H' lb = some (.lst bs) ∧ TDs H' bs (bx.map Bx.D) ∧ bx.map Bx.nm = N.take j ∧
        ∀ b ∈ bx, (b.ab.length ≤ 4 ∧ ∀ s ∈ b.ab, s ∈ S) ∧ (b.be.length ≤ 4 ∧ ∀ s ∈ b.be, s ∈ S))
      ⟨_, [], [], rfl, k018, (hd17.k k18 (fun z => z)), so12.k (k13.w.trans k1318), upd_same, k1318.but _ _ (fun z => dlb z) hlb13, .nil, rfl, fun b hb => (by cases hb)⟩ (fun j σ H' _ ⟨_, _, _, _, _, _, _, z, _⟩ => SqL.of z) ?_ ?_⟩
    · rintro j z σ H' hj ⟨o8, bs, bx, rfl, k', hd', so', hq4', hlb', hbs', hnm', hbx'⟩
      have hj8 : j < N.length := by
        have := (List.getElem?_eq_some_iff.mp hj).1
        rwa [List.length_map] at this
      rw [List.getElem?_map, List.getElem?_eq_getElem hj8] at hj
      cases hj
      have lbx := hbs'.length
      rw [List.length_map] at lbx
      have lbx2 := congrArg List.length hnm'
      rw [List.length_map, List.length_take] at lbx2
      have nd' : ∀ {b : Addr} {xs : List V} {HH : Hp} {m}, DkAt HH d m → HH b = some (.lst xs) → b ≠ d → ¬ one d b := fun _ _ h z => h z
      refine ⟨_, rfl, .inl ⟨rfl, _, SqL.of hlb'⟩, _, rfl, _, rfl, _, rfl, _, rfl, d, so, S, g, _, rfl, hd', by omega, so', by omega, by omega, hg1, fun x ws1 H4 k4' hd4 hx hl1 hs1 => ?_⟩
      refine ⟨_, rfl, _, rfl, _, rfl, d, so, S, g, _, rfl, hd4, by omega, so'.k k4', by omega, by omega, hg1, fun y ws2 H5 k5' hd5 hy hl2 hs2 => ?_⟩
      refine ⟨sz3, fun tt htt => ?_⟩
      have kt := Kp.new (S := no) htt (.tup [V.str N[j], V.ref x, V.ref y])
      have kall : Kp (one d) H' _ := (k4'.trans k5').trans kt.w
      have hlb5 := kall.but _ _ (fun z => dlb z) hlb'
      refine ⟨lb, bs, .ref tt, rfl, rfl, hlb5, szLt (by omega), ?_⟩
      have kp := Kp.put1 (o := .lst (bs ++ [.ref tt])) (lst_tup hlb5)
      have nfr := (k'.trans kall).free nlb0 (.lst (bs ++ [.ref tt]))
      have q4k : ∀ {o}, H' q4 = some o → _ := fun {o} h => kp.but q4 o (fun z => q4lb z) (kall.but _ _ (fun z => by
        obtain ⟨_, _, _, z3, _⟩ := hd'
        have hq4d : q4 = d := z
        have hdd : H d ≠ none := fun z4 => by
          obtain ⟨_, _, _, z5, _⟩ := hd
          rw [z4] at z5
          cases z5
        have : H17 q4 = none := hq4
        obtain ⟨_, _, _, z6, _⟩ := hd17
        rw [hq4d, z6] at this
        cases this) h)
      refine ⟨_, _, bx ++ [⟨N[j], ws1, ws2⟩], rfl, nfr, ?_, (so'.k kall).k kp, q4k hq4', upd_same, ?_, ?_, ?_⟩
      · obtain ⟨a, b, c, h1, h2, h3⟩ := hd5
        exact ⟨a, b, c, kp.but _ _ (fun z => dlb (show d = lb from z).symm) (kt.get h1), h2, by omega⟩
      · rw [List.map_append]
        refine ((hbs'.k kall).k kp).append (.cons ?_ .nil)
        exact (TD.mk3 (kt.get (k5'.kt _ _ hx) |> fun _ => upd_same) (.str _) (TD.strs (kt.get (k5'.kt _ _ hx))) (TD.strs (kt.get hy))).k kp
      · rw [List.map_append, hnm', take_snoc (List.getElem?_eq_getElem hj8)]
        rfl
      · intro b hb
        rcases List.mem_append.mp hb with z | z
        · exact hbx' b z
        · rw [List.mem_singleton.mp z]
          exact ⟨⟨hl1, hs1⟩, ⟨hl2, hs2⟩⟩
    · rintro σ H' ⟨o8, bs, bx, rfl, k', hd', ⟨ob', hso', hc', hdn'⟩, hq4', hlb', hbs', hnm', hbx'⟩
      rw [List.length_map, List.take_length] at hnm'
      have lbx2 := congrArg List.length hnm'
      rw [List.length_map] at lbx2
      refine ⟨_, rfl, _, rfl, _, rfl, lb, bs, rfl, .inl ⟨SqL.of hlb', fun tb htb => ⟨sz3, fun tk htk => ?_⟩⟩⟩
      have kb := Kp.new (S := no) htb (.tup bs)
      have kk := Kp.new (S := no) htk (.tup [V.str "loose", V.ref so, V.ref tb])
      have kbk := kb.trans kk
      refine q (.ref tk) ⟨S, bx⟩ _ ((k'.trans kb.w).trans kk.w) ⟨tk, so, tb, bs, ob', rfl, upd_same, kbk.get hso', hc', hdn', kk.get upd_same, hbs'.k kbk⟩ ⟨by show 1 ≤ S.length; omega, by show S.length ≤ 4; omega, fun s hs => nmL_ok s (hSn s hs), by show (bx.map Bx.nm).Nodup; rw [hnm']; exact hNd, by show bx.length ≤ 8; omega, fun b hb => (hbx' b hb).1, fun b hb => (hbx' b hb).2, fun b hb => wdL_ok _ (hNn _ (by rw [← hnm']; exact List.mem_map_of_mem hb))⟩
end
end SW
/-! SwL3: the law's takes, after, wires. -/
namespace SW
open PySem PySem.Spec PyProof.Rows L2
section
variable {P : Program} {w : World} {K : PySem.W.Frag} {mg : Str → Option Value} {base : Heap}
theorem bs_at {k : Kit} {H : Hp} {bs : List V} (hbs : TDs H bs (k.bx.map Bx.D)) {j : Nat} {x : V} (hx : bs[j]? = some x) : j < k.bx.length ∧ ∃ q a e, x = .ref q ∧ H q = some (.tup [.str (k.at j).nm, .ref a, .ref e]) ∧ H a = some (.tup ((k.at j).ab.map V.str)) ∧ H e = some (.tup ((k.at j).be.map V.str)) := by
  have lb := hbs.length
  rw [List.length_map] at lb
  have hj : j < k.bx.length := by
    have := (List.getElem?_eq_some_iff.mp hx).1
    omega
  obtain ⟨q, a, e, h1, h2⟩ := box_at hbs hj
  rw [hx] at h1
  cases h1
  exact ⟨hj, q, a, e, rfl, h2⟩
theorem str_ne {a b : Str} (h : ¬ a = b) : ¬ V.str a = V.str b := fun z => h (by cases z; rfl)
def spLTakes : Sp := fun vs H Q _ => ∃ (k : Kit) (v : V) (u : Addr) (st : Stp), vs = [v, .ref u] ∧ KitAt H v k ∧ k.Good ∧ TD H (.ref u) (st.D k) ∧ StOk k st ∧ ∀ H', Kp no H H' → Q (.int (takes k st : Nat)) H'
theorem l_takes (B : Bi mg) (D : Df K mg "_law_takes" s_l_takes ["_law_kit_here", "_law_step"]) : Fn P w K mg base CX0 1 "_law_takes" ["_law_kit_here", "_law_step"] spLTakes := by
  refine D.fn sc_l_takes (fun vs H Q E h => ?_) (fun f cdv A outer s H vs Q E hr h => ?_)
  · obtain ⟨k, v, u, st, rfl, _⟩ := h
    rfl
  · obtain ⟨k, v, u, st, rfl, hk, G, hu, ho, q⟩ := h
    obtain ⟨a, so, b, bs, rfl, ha, hso, hb, hbs⟩ := kit_inv hk
    have lb := hbs.length
    rw [List.length_map] at lb
    -- _law_takes  slots: 0 _law_kit_here, 1 _law_step, 2 _law_name, 3 _law_above, 4 _law_below
    refine ⟨_, (pss_cons (ps_if (pt_cmpR op_eq (pe_ixT K (pv 1) pe_int) pe_str (nomark _))
      (pss_one (ps_ret (pe_ixL K (pe_lc (own := [("_law_name", 2), ("_law_above", 3), ("_law_below", 4)]) (g := (gTup K 3 (gCons (gName 2) (gCons (gName 3) (gCons (gName 4) gNil))))) rfl sc_l_takes.nd (pi_tup (pe_ixT K (pv 0) pe_int)) (blkOk_by (by kernel_rfl)) (fun _ _ _ _ _ => (pg_tup (by rfl) (pgs_cons (pg_name (i := 2) sc_l_takes.nd rfl (by first | exact Or.inl rfl | exact Or.inr rfl)) (pgs_cons (pg_name (i := 3) sc_l_takes.nd rfl (by first | exact Or.inl rfl | exact Or.inr rfl)) (pgs_cons (pg_name (i := 4) sc_l_takes.nd rfl (by first | exact Or.inl rfl | exact Or.inr rfl)) pgs_nil))))) (fun _ _ _ _ _ => (pts_one (pt_cmpR op_eq (pv 2) (pe_ixT K (pv 1) pe_int) (nomark _)))) (fun _ _ _ _ _ => (pe_len K B (pa_cons (pv 3) pa_nil)))) pe_int)))
      pss_nil)
    (pss_one (ps_ret (pe_op op_mul pe_int (pe_intB B (pa_cons (pe_cmpR op_ne (pe_ixT K (pv 1) pe_int) pe_str (nomark _)) pa_nil)))))), ?_⟩
    cases st with
    | box i =>
      have hs := stp_box hu
      have hi : i < k.bx.length := ho
      refine ⟨_, rfl, u, _, 0, _, rfl, rfl, SqT.of hs, rfl, rfl, _, rfl, iteD rfl ?_⟩
      refine ⟨_, rfl, a, _, 2, _, rfl, rfl, SqT.of ha, rfl, b, rfl, ⟨bs, SqT.of hb⟩, fun D hD => lcg_T (K := K) (a := b) (xs := bs) (fun j H' => Kp no H H' ∧ ((j ≤ i ∧ H' D = some (.lst [])) ∨ (i < j ∧ H' D = some (.lst [.int ((k.at i).ab.length : Nat)]))))
        ⟨Kp.new hD _, .inl ⟨Nat.zero_le _, upd_same⟩⟩ (fun j H' h => SqT.of (h.1.get hb)) ?_ ?_⟩
      · rintro j x H' hx ⟨k', hD'⟩
        obtain ⟨hj, q0, a0, e0, rfl, hq0, ha0, he0⟩ := bs_at hbs hx
        refine ⟨q0, _, rfl, SqT.of (k'.get hq0), rfl, _, _, rfl, _, _, rfl, _, _, rfl, rfl, rfl, ?_⟩
        by_cases hij : j = i
        · subst hij
          refine ⟨_, rfl, _, rfl, u, _, 1, _, rfl, rfl, SqT.of (k'.get hs), rfl, rfl, _, rfl, iteD rfl ?_⟩
          have hD2 : H' D = some (.lst []) := by
            rcases hD' with ⟨_, z⟩ | ⟨z, _⟩
            · exact z
            · exact absurd z (Nat.lt_irrefl _)
          refine ⟨_, rfl, a0, _, rfl, .inr (SqT.of (k'.get ha0)), [], hD2, by decide, k'.free hD _, .inr ⟨Nat.lt_succ_self _, ?_⟩⟩
          rw [upd_same, List.length_map]
          rfl
        · refine ⟨_, rfl, _, rfl, u, _, 1, _, rfl, rfl, SqT.of (k'.get hs), rfl, rfl, _, rfl, iteDN (str_ne fun z => hij (nm_inj G hj hi z)) ?_⟩
          refine ⟨k', ?_⟩
          rcases hD' with ⟨z, hz⟩ | ⟨z, hz⟩
          · exact .inl ⟨by omega, hz⟩
          · exact .inr ⟨by omega, hz⟩
      · rintro H' ⟨k', ⟨z, _⟩ | ⟨_, hD'⟩⟩
        · omega
        · exact ⟨D, _, 0, _, rfl, rfl, SqL.of hD', rfl, q H' k'⟩
    | cross =>
      have hs := stp_cross hu
      refine ⟨_, rfl, u, _, 0, _, rfl, rfl, SqT.of hs, rfl, rfl, _, rfl, iteDN cr_box ?_⟩
      refine ⟨_, rfl, u, _, 0, _, rfl, rfl, SqT.of hs, rfl, rfl, .inr ⟨_, rfl, ?_⟩⟩
      refine ⟨2, 1, rfl, ?_, .inl ⟨by decide, by decide⟩, q H (Kp.refl H)⟩
      rw [decide_eq_false cr_cup]
      rfl
def spLAfter : Sp := fun vs H Q _ => ∃ (k : Kit) (v : V) (x y : Addr) (ws : List Str) (l : Lay), vs = [v, .ref x, .ref y] ∧ KitAt H v k ∧ k.Good ∧ H x = some (.tup (ws.map V.str)) ∧ TD H (.ref y) (layD k l) ∧ Fits k ws l ∧ ws.length ≤ 8 ∧
  ∀ p H', Kp no H H' → H' p = some (.tup ((layW k ws l).map V.str)) → Q (.ref p) H'
theorem l_after (B : Bi mg) (D : Df K mg "_law_after" s_l_after ["_law_kit_here", "_law_wires_here", "_law_layer"]) (F_l_takes : Fn P w K mg base CX0 1 "_law_takes" ["_law_kit_here", "_law_step"] spLTakes) :
    Fn P w K mg base CX0 2 "_law_after" ["_law_kit_here", "_law_wires_here", "_law_layer"] spLAfter := by
  refine D.fn sc_l_after (fun vs H Q E h => ?_) (fun f cdv A outer s H vs Q E hr h => ?_)
  · obtain ⟨k, v, x, y, ws, l, rfl, _⟩ := h
    rfl
  · obtain ⟨k, v, x, y, ws, l, rfl, hk, G, hx, hy, hf, h8, q⟩ := h
    obtain ⟨p, st⟩ := l
    obtain ⟨y', u, e, hy', hu⟩ := lay_inv hy
    cases e
    obtain ⟨ho, hle⟩ := fits_ok hf
    have hle' : p + takes k st ≤ ws.length := hle
    have ht4 := takes_le G ho
    obtain ⟨a, so, b, bs, rfl, ha, hso, hb, hbs⟩ := kit_inv hk
    have lb := hbs.length
    rw [List.length_map] at lb
    -- _law_after  slots: 0 _law_kit_here, 1 _law_wires_here, 2 _law_layer, 3 _law_taken, 4 _law_given, 5 _law_place, 6 _law_step, 7 _law_name, 8 _law_above, 9 _law_below
    refine ⟨_, (pss_cons (ps_asg (pv 2) (pg_tup (by rfl) (pgs_cons (pg_name (i := 5) sc_l_after.nd rfl (by first | exact Or.inl rfl | exact Or.inr rfl)) (pgs_cons (pg_name (i := 6) sc_l_after.nd rfl (by first | exact Or.inl rfl | exact Or.inr rfl)) pgs_nil))))
    (pss_cons (ps_set (i := 3) sc_l_after.nd rfl (Or.inl rfl) (pe_slT K (pv 1) (po_some (pv 5)) (po_some (pe_op op_add (pv 5) (pe_fn F_l_takes (hr.mono (by omega)) (pa_cons (pv 0) (pa_cons (pv 6) pa_nil)))))))
    (pss_cons (ps_set (i := 4) sc_l_after.nd rfl (Or.inl rfl) (pe_revT (pv 3)))
    (pss_cons (ps_if (pt_cmpR op_eq (pe_ixT K (pv 6) pe_int) pe_str (nomark _))
      (pss_one (ps_set (i := 4) sc_l_after.nd rfl (Or.inl rfl) (pe_ixL K (pe_lc (own := [("_law_name", 7), ("_law_above", 8), ("_law_below", 9)]) (g := (gTup K 3 (gCons (gName 7) (gCons (gName 8) (gCons (gName 9) gNil))))) rfl sc_l_after.nd (pi_tup (pe_ixT K (pv 0) pe_int)) (blkOk_by (by kernel_rfl)) (fun _ _ _ _ _ => (pg_tup (by rfl) (pgs_cons (pg_name (i := 7) sc_l_after.nd rfl (by first | exact Or.inl rfl | exact Or.inr rfl)) (pgs_cons (pg_name (i := 8) sc_l_after.nd rfl (by first | exact Or.inl rfl | exact Or.inr rfl)) (pgs_cons (pg_name (i := 9) sc_l_after.nd rfl (by first | exact Or.inl rfl | exact Or.inr rfl)) pgs_nil))))) (fun _ _ _ _ _ => (pts_one (pt_cmpR op_eq (pv 7) (pe_ixT K (pv 6) pe_int) (nomark _)))) (fun _ _ _ _ _ => (pv 9))) pe_int)))
      (pss_one (ps_if (pt_cmpR op_eq (pe_ixT K (pv 6) pe_int) pe_str (nomark _))
        pss_never
        (pss_one (ps_if (pt_cmpR op_eq (pe_ixT K (pv 6) pe_int) pe_str (nomark _))
          pss_never
          pss_nil)))))
    (pss_one (ps_ret (pe_catT K (pe_catT K (pe_slT K (pv 1) po_none (po_some (pv 5))) (pv 4)) (pe_slT K (pv 1) (po_some (pe_op op_add (pv 5) (pe_len K B (pa_cons (pv 3) pa_nil)))) po_none)))))))), ?_⟩
    refine ⟨_, rfl, y, _, rfl, SqT.of hy', rfl, _, _, rfl, _, _, rfl, rfl, ?_⟩
    refine ⟨_, rfl, _, rfl, _, rfl, _, rfl, _, rfl, _, rfl, k, .ref a, u, st, rfl, hk, G, hu, ho, fun H1 k1 => ⟨_, _, rfl, rfl, _, rfl, ?_⟩⟩
    refine slA (k1.get hx) fun c H2 k2 hc => ?_
    have k12 := k1.trans k2
    rw [cut_mid (by rw [List.length_map]; exact hle), map_cut] at hc
    have lcut : ((ws.drop p).take (takes k st)).length = takes k st := cut_length hle
    refine ⟨_, rfl, c, _, rfl, hc, fun rv hrv => ?_⟩
    have k3 := Kp.new (S := no) hrv (.tup (((ws.drop p).take (takes k st)).map V.str).reverse)
    obtain ⟨H3, eH3⟩ : ∃ H3, H3 = upd H2 rv (.tup (((ws.drop p).take (takes k st)).map V.str).reverse) := ⟨_, rfl⟩
    have hrv3 : H3 rv = some (.tup (((ws.drop p).take (takes k st)).map V.str).reverse) := by rw [eH3]; exact upd_same
    rw [← eH3] at k3 ⊢
    have k13 := k12.trans k3
    have fin : ∀ (g : Addr) (H4 : Hp), Kp no H3 H4 → H4 g = some (.tup ((gives k ((ws.drop p).take (takes k st)) st).map V.str)) →
        tRet (tOp (rCatA K) (tOp (rCatA K) (tSl (rSlA K) (tVar 1) tNoPart (tPart (tVar 5))) (tVar 4)) (tSl (rSlA K) (tVar 1) (tPart (tOp (rI0 fun i j => V.int (i + j)) (tVar 5) (tCB (rLenQ K) (tCons (tVar 3) tNil)))) tNoPart)) { nx := fun _ H' => Q .non H', rt := Q }
          [some (.ref a), some (.ref x), some (.ref y), some (.ref c), some (.ref g), some (.int (p : Nat)), some (.ref u), none, none, none] H4 := fun g H4 k4 hg => by
      have k34 := k13.trans k4
      have lgv : (gives k ((ws.drop p).take (takes k st)) st).length ≤ 8 := by
        cases st with
        | box i => exact Nat.le_trans (G.be _ (Kit.at_mem ho)).1 (by decide)
        | cross =>
          show (((ws.drop p).take 2).reverse).length ≤ 8
          rw [List.length_reverse, List.length_take]
          omega
      refine ⟨_, rfl, _, rfl, _, rfl, ?_⟩
      refine slA (k34.get hx) fun c2 H5 k5 hc2 => ?_
      rw [cut_to] at hc2
      refine ⟨_, rfl, ?_⟩
      refine catA hc2 (k5.get hg) (szL ?_) fun c3 H6 k6 hc3 => ?_
      · rw [List.length_map, List.length_take, List.length_map]
        omega
      have k36 := (k4.trans k5).trans k6
      refine ⟨_, rfl, _, rfl, _, rfl, c, _, rfl, .inr (SqT.of ((k3.trans k36).get hc)), _, _, rfl, rfl, _, rfl, ?_⟩
      refine slN ((k13.trans k36).get hx) fun c4 H7 k7 hc4 => ?_
      rw [List.length_map, lcut, show ((p : Int) + (takes k st : Nat)) = ((p + takes k st : Nat) : Int) from by omega, cut_from] at hc4
      refine catA (k7.get hc3) hc4 (szL ?_) fun c5 H8 k8 hc5 => q c5 H8 (((k13.trans k36).trans k7).trans k8) ?_
      · simp only [List.length_append, List.length_take, List.length_drop, List.length_map]
        omega
      · rw [hc5, layW_eq hf, List.map_append, List.map_append, List.map_take, List.map_drop]
    cases st with
    | box i =>
      have hs := stp_box hu
      have hi : i < k.bx.length := ho
      have hs3 := k13.get hs
      refine ⟨_, rfl, u, _, 0, _, rfl, rfl, SqT.of hs3, rfl, rfl, _, rfl, iteD rfl ?_⟩
      refine ⟨_, rfl, a, _, 2, _, rfl, rfl, SqT.of (k13.get ha), rfl, b, rfl, ⟨bs, SqT.of (k13.get hb)⟩, fun D hD => lcg_T (K := K) (a := b) (xs := bs) (fun j H' => Kp no H3 H' ∧ ((j ≤ i ∧ H' D = some (.lst [])) ∨ (i < j ∧ ∃ g, H' D = some (.lst [.ref g]) ∧ H' g = some (.tup ((k.at i).be.map V.str)))))
        ⟨Kp.new hD _, .inl ⟨Nat.zero_le _, upd_same⟩⟩ (fun j H' h => SqT.of (h.1.get (k13.get hb))) ?_ ?_⟩
      · rintro j z H' hz ⟨k', hD'⟩
        obtain ⟨hj, q0, a0, e0, rfl, hq0, ha0, he0⟩ := bs_at hbs hz
        have k1' := k13.trans k'
        refine ⟨q0, _, rfl, SqT.of (k1'.get hq0), rfl, _, _, rfl, _, _, rfl, _, _, rfl, rfl, rfl, ?_⟩
        by_cases hij : j = i
        · subst hij
          refine ⟨_, rfl, _, rfl, u, _, 1, _, rfl, rfl, SqT.of (k1'.get hs), rfl, rfl, _, rfl, iteD rfl ?_⟩
          have hD2 : H' D = some (.lst []) := by
            rcases hD' with ⟨_, z⟩ | ⟨z, _⟩
            · exact z
            · exact absurd z (Nat.lt_irrefl _)
          refine ⟨_, rfl, [], hD2, by decide, k'.free hD _, .inr ⟨Nat.lt_succ_self _, e0, upd_same, ?_⟩⟩
          have h1 := k1'.get he0
          rw [upd_ne (ne_of h1 hD2 (fun z => by cases z)), h1]
        · refine ⟨_, rfl, _, rfl, u, _, 1, _, rfl, rfl, SqT.of (k1'.get hs), rfl, rfl, _, rfl, iteDN (str_ne fun z => hij (nm_inj G hj hi z)) ?_⟩
          refine ⟨k', ?_⟩
          rcases hD' with ⟨z, hz⟩ | ⟨z, hz⟩
          · exact .inl ⟨by omega, hz⟩
          · exact .inr ⟨by omega, hz⟩
      · rintro H' ⟨k', ⟨z, _⟩ | ⟨_, g, hD', hg⟩⟩
        · omega
        · exact ⟨D, _, 0, _, rfl, rfl, SqL.of hD', rfl, fin g H' k' hg⟩
    | cross =>
      have hs := stp_cross hu
      have hs3 := k13.get hs
      refine ⟨_, rfl, u, _, 0, _, rfl, rfl, SqT.of hs3, rfl, rfl, _, rfl, iteDN cr_box ?_⟩
      refine ⟨_, rfl, u, _, 0, _, rfl, rfl, SqT.of hs3, rfl, rfl, _, rfl, iteDN cr_cup ?_⟩
      refine ⟨_, rfl, u, _, 0, _, rfl, rfl, SqT.of hs3, rfl, rfl, _, rfl, iteDN cr_cap ?_⟩
      refine fin rv H3 (Kp.refl H3) ?_
      rw [hrv3, ← List.map_reverse]
      rfl
def spLWires : Sp := fun vs H Q _ => ∃ (k : Kit) (p : Pic) (v u : V) (n : Nat), vs = [v, u, .int (n : Nat)] ∧ KitAt H v k ∧ k.Good ∧ TD H u (p.D k) ∧ p.Good k ∧ n ≤ p.la.length ∧
  ∀ x H', Kp no H H' → H' x = some (.tup ((wAt k p n).map V.str)) → Q (.ref x) H'
theorem l_wires (B : Bi mg) (D : Df K mg "_law_wires" s_l_wires ["_law_kit_here", "_law_picture_here", "_law_at"]) (F_l_after : Fn P w K mg base CX0 2 "_law_after" ["_law_kit_here", "_law_wires_here", "_law_layer"] spLAfter) :
    Fn P w K mg base CX0 3 "_law_wires" ["_law_kit_here", "_law_picture_here", "_law_at"] spLWires := by
  refine D.fn sc_l_wires (fun vs H Q E h => ?_) (fun f cdv A outer s H vs Q E hr h => ?_)
  · obtain ⟨k, p, v, u, n, rfl, _⟩ := h
    rfl
  · obtain ⟨k, p, v, u, n, rfl, hk, G, hu, Gp, hn, q⟩ := h
    obtain ⟨a, x, l, ls, rfl, ha, hx, hl, hls⟩ := pic_inv hu
    have ll := hls.length
    rw [List.length_map] at ll
    -- _law_wires  slots: 0 _law_kit_here, 1 _law_picture_here, 2 _law_at, 3 _law_wires_here, 4 _law_layer
    refine ⟨_, (pss_cons (ps_set (i := 3) sc_l_wires.nd rfl (Or.inl rfl) (pe_ixT K (pv 1) pe_int))
    (pss_cons (ps_for PassesOwn.never rfl (pi_tup (pe_slT K (pe_ixT K (pv 1) pe_int) po_none (po_some (pv 2)))) (pg_name (i := 4) sc_l_wires.nd rfl (by first | exact Or.inl rfl | exact Or.inr rfl))
      (pss_one (ps_set (i := 3) sc_l_wires.nd rfl (Or.inl rfl) (pe_fn F_l_after (hr.mono (by omega)) (pa_cons (pv 0) (pa_cons (pv 3) (pa_cons (pv 4) pa_nil)))))))
    (pss_one (ps_ret (pv 3))))), ?_⟩
    refine ⟨_, rfl, a, _, 0, _, rfl, rfl, SqT.of ha, rfl, ?_⟩
    refine ⟨_, rfl, a, _, 1, _, rfl, rfl, SqT.of ha, rfl, _, rfl, _, rfl, ?_⟩
    refine slA hl fun c H1 k1 hc => ?_
    rw [cut_to] at hc
    have lt : (ls.take n).length = n := by rw [List.length_take]; omega
    refine ⟨c, rfl, ⟨_, SqT.of hc⟩, for_tup (K := K) (a := c) (xs := ls.take n) (fun i σ H2 => ∃ (y : Addr) (o : Option V), σ = [some v, some (.ref a), some (.int (n : Nat)), some (.ref y), o] ∧ Kp no H H2 ∧ H2 c = some (.tup (ls.take n)) ∧ H2 y = some (.tup ((wAt k p i).map V.str)))
      ⟨x, none, rfl, k1, hc, k1.get hx⟩ (fun i σ H2 _ ⟨_, _, _, _, h2, _⟩ => SqT.of h2) ?_ ?_⟩
    · rintro i z σ H2 hi ⟨y, o, rfl, k2, hc2, hy⟩
      have hi2 : i < n := by
        have := (List.getElem?_eq_some_iff.mp hi).1
        omega
      rw [List.getElem?_take_of_lt hi2] at hi
      have hli : p.la[i]? = some p.la[i] := List.getElem?_eq_getElem (by omega)
      obtain ⟨z2, hz2, hd⟩ := lay_at hls hli
      rw [hi] at hz2
      cases hz2
      obtain ⟨ya, yq, rfl, _⟩ := lay_inv hd
      refine ⟨_, rfl, _, rfl, _, rfl, k, v, y, ya, _, _, rfl, hk.k k2, G, hy, hd.k k2, Gp.fits hli, Gp.le8 i, fun g H3 k3 hg => ?_⟩
      refine ⟨g, _, rfl, k2.trans k3, k3.get hc2, ?_⟩
      rw [hg, wAt_succ hli]
    · rintro σ H2 ⟨y, o, rfl, k2, hc2, hy⟩
      rw [lt] at hy
      exact ⟨_, rfl, q y H2 k2 hy⟩
end
end SW
/-! SwL4: the law's layers that fit. -/
namespace SW
open PySem PySem.Spec PyProof.Rows L2
/-! ### data that may be compared -/
structure Lays (d : PyData) (n : Nat) : Prop where
  can : d.canLay0 = true
  dep : d.depth ≤ n
theorem Lays.mono {d : PyData} {m n : Nat} (h : Lays d m) (hm : m ≤ n) : Lays d n := ⟨h.can, Nat.le_trans h.dep hm⟩
theorem canAll : ∀ {ds : List PyData}, (∀ d ∈ ds, d.canLay0 = true) → PyData.canLayAll0 ds = true
  | [], _ => by simp [PyData.canLayAll0]
  | d :: r, h => by
    simp only [PyData.canLayAll0]
    rw [h d List.mem_cons_self, canAll fun x hx => h x (List.mem_cons_of_mem _ hx)]
    rfl
theorem depAll {n : Nat} : ∀ {ds : List PyData}, (∀ d ∈ ds, d.depth ≤ n) → PyData.depthAll ds ≤ n
  | [], _ => by simp [PyData.depthAll]
  | d :: r, h => by
    have h1 := h d List.mem_cons_self
    have h2 := depAll (ds := r) fun x hx => h x (List.mem_cons_of_mem _ hx)
    simp only [PyData.depthAll]
    omega
theorem Lays.tup {ds : List PyData} {n : Nat} (h : ∀ d ∈ ds, Lays d n) : Lays (.tuple ds) (n + 1) := ⟨by simp only [PyData.canLay0]; exact canAll fun d hd => (h d hd).can, by
  have := depAll fun d hd => (h d hd).dep
  simp only [PyData.depth]
  omega⟩
theorem Lays.lst {ds : List PyData} {n : Nat} (h : ∀ d ∈ ds, Lays d n) : Lays (.list ds) (n + 1) := ⟨by simp only [PyData.canLay0]; exact canAll fun d hd => (h d hd).can, by
  have := depAll fun d hd => (h d hd).dep
  simp only [PyData.depth]
  omega⟩
theorem Lays.int {i : Int} : Lays (.int i) 0 := ⟨by simp [PyData.canLay0], by simp [PyData.depth]⟩
theorem Lays.str {s : Str} (h : PyData.strOk s = true) : Lays (.str s) 0 := ⟨by simp [PyData.canLay0, h], by simp [PyData.depth]⟩
theorem Lays.sh {d : PyData} {n : Nat} (h : Lays d n) (hn : n ≤ 64) : SeqAt.shaped d = true := by
  unfold SeqAt.shaped
  rw [h.can, decide_eq_true (Nat.le_trans h.dep hn)]
  rfl
theorem Lays.cons {d : PyData} {ds : List PyData} {n : Nat} (h : Lays d n) (q : ∀ x ∈ ds, Lays x n) : ∀ x ∈ d :: ds, Lays x n := fun x hx => by
  rcases List.mem_cons.mp hx with e | e
  · rw [e]; exact h
  · exact q x e
theorem Lays.nil {n : Nat} : ∀ x ∈ ([] : List PyData), Lays x n := fun x hx => by cases hx
theorem Lays.map {α : Type} {f : α → PyData} {n : Nat} {l : List α} (h : ∀ a ∈ l, Lays (f a) n) : ∀ x ∈ l.map f, Lays x n := fun x hx => by
  obtain ⟨a, ha, rfl⟩ := List.mem_map.mp hx
  exact h a ha
theorem ok_box : PyData.strOk "box" = true := by decide +kernel
theorem ok_cross : PyData.strOk "cross" = true := by decide +kernel
theorem lays_lay {k : Kit} (G : k.Good) {l : Lay} (h : StOk k l.2) : Lays (layD k l) 2 := by
  obtain ⟨p, st⟩ := l
  cases st with
  | box i => exact .tup (Lays.cons (Lays.int.mono (by decide)) (Lays.cons (.tup (Lays.cons (.str ok_box) (Lays.cons (.str (G.nok _ (Kit.at_mem h))) .nil))) .nil))
  | cross => exact .tup (Lays.cons (Lays.int.mono (by decide)) (Lays.cons (.tup (Lays.cons (.str ok_cross) .nil)) .nil))
section
variable {P : Program} {w : World} {K : PySem.W.Frag} {mg : Str → Option Value} {base : Heap}
/-- layers that fit on wires, as a new list -/
def LfAt (H : Hp) (p : Addr) (k : Kit) (ws : List Str) (fs : List Lay) : Prop := ∃ vs, H p = some (.lst vs) ∧ TDs H vs (fs.map (layD k)) ∧ (∀ l ∈ fs, Fits k ws l ∧ (layW k ws l).length ≤ 8) ∧ fs.length ≤ 1000
def spLFit : Sp := fun vs H Q _ => ∃ (k : Kit) (v : V) (x : Addr) (ws : List Str), vs = [v, .ref x] ∧ KitAt H v k ∧ k.Good ∧ H x = some (.tup (ws.map V.str)) ∧ ws.length ≤ 8 ∧ (∀ s ∈ ws, s ∈ k.so) ∧
  ∀ p fs H', Kp no H H' → H p = none → LfAt H' p k ws fs → Q (.ref p) H'
theorem lo_be : ¬ V.str "loose" = V.str "bent" := by decide +kernel
theorem l_wires_that_fit (B : Bi mg) (D : Df K mg "_law_wires_that_fit" s_l_wires_that_fit ["_law_kit_here", "_law_wires_here"]) : Fn P w K mg base CX0 1 "_law_wires_that_fit" ["_law_kit_here", "_law_wires_here"] spLFit := by
  refine D.fn sc_l_wires_that_fit (fun vs H Q E h => ?_) (fun f cdv A outer s H vs Q E hr h => ?_)
  · obtain ⟨k, v, x, ws, rfl, _⟩ := h
    rfl
  · obtain ⟨k, v, x, ws, rfl, hk, G, hx, h8, hws, q⟩ := h
    obtain ⟨a, so, b, bs, rfl, ha, hso, hb, hbs⟩ := kit_inv hk
    -- _law_wires_that_fit  slots: 0 _law_kit_here, 1 _law_wires_here, 2 _law_found, 3 _law_sort, 4 _law_place, 5 _law_step
    refine ⟨_, (pss_cons (ps_setLc (i := 2) (own := [("_law_place", 4)]) (g := (gName 4)) (tt := tYes) rfl sc_l_wires_that_fit.nd rfl rfl (sw_true rfl rfl rfl (by decide +kernel)) (pi_range1 (by rfl) B.range (pa_cons (pe_op op_sub (pe_len K B (pa_cons (pv 1) pa_nil)) pe_int) pa_nil)) (blkOk_by (by kernel_rfl)) (fun _ _ _ _ _ => (pg_name (i := 4) sc_l_wires_that_fit.nd rfl (by first | exact Or.inl rfl | exact Or.inr rfl))) (fun _ _ _ _ _ => pts_nil) (fun _ _ _ _ _ => (pe_tup (pa_cons (pv 4) (pa_cons (pe_tup (pa_cons pe_str pa_nil)) pa_nil)))))
    (pss_cons (ps_if (pt_cmpR op_eq (pe_ixT K (pv 0) pe_int) pe_str (nomark _))
      pss_never
      pss_nil)
    (pss_one (ps_ret (pv 2))))), ?_⟩
    refine ⟨_, rfl, x, _, rfl, .inr (SqT.of hx), _, _, rfl, rfl, _, rfl, by rw [List.length_map]; omega, by rw [List.length_map]; omega, ?_⟩
    rw [List.length_map]
    obtain ⟨n, en⟩ : ∃ n, n = ((ws.length : Int) - 1).toNat := ⟨_, rfl⟩
    have hn : n ≤ ws.length - 1 := by omega
    rw [← en]
    refine fun D hD => lcD hD (lp_R (lo := 0) (n := n) (szLt (by omega)) (RD (((List.range n).map fun i => ((i, Stp.cross) : Lay)).map (layD k))) RD.kt (fun i y H2 hi hy k2 Q' q' => ?_) fun D' vs H2 _ k2 hv hvl hr1 eD => ?_)
    · subst hy
      refine ⟨_, rfl, sz1, fun t1 ht1 => ⟨sz2, fun t2 ht2 => ?_⟩⟩
      have kt1 := Kp.new (S := no) ht1 (.tup [V.str "cross"])
      have kt2 := Kp.new (S := no) ht2 (.tup [V.int (0 + (i : Int)), V.ref t1])
      refine q' _ _ (kt1.trans kt2) ⟨layD k (i, .cross), by rw [List.getElem?_map, List.getElem?_map, List.getElem?_range hi]; rfl, TD.mk2 upd_same (by rw [Int.zero_add]; exact .int _) (TD.mk1 (kt2.get upd_same) (.str _))⟩
    · cases eD
      have hall := RD.all (H := H2) (by rw [hvl, List.length_map, List.length_map, List.length_range]) hr1
      refine ⟨_, rfl, a, _, 0, _, rfl, rfl, SqT.of (k2.get ha), rfl, rfl, _, rfl, iteDN lo_be ?_⟩
      refine ⟨_, rfl, q D _ H2 k2 hD ⟨vs, hv, hall, fun l hl => ?_, by rw [List.length_map, List.length_range]; omega⟩⟩
      obtain ⟨i, hi, rfl⟩ := List.mem_map.mp hl
      have hi2 := List.mem_range.mp hi
      have hf : i + 2 ≤ ws.length := by omega
      refine ⟨hf, ?_⟩
      show (app i 2 List.reverse ws).length ≤ 8
      rw [app_length hf, List.length_reverse, List.length_take, List.length_drop]
      omega
theorem l_boxes_that_fit (B : Bi mg) (D : Df K mg "_law_boxes_that_fit" s_l_boxes_that_fit ["_law_kit_here", "_law_wires_here"]) : Fn P w K mg base CX0 1 "_law_boxes_that_fit" ["_law_kit_here", "_law_wires_here"] spLFit := by
  refine D.fn sc_l_boxes_that_fit (fun vs H Q E h => ?_) (fun f cdv A outer s H vs Q E hr h => ?_)
  · obtain ⟨k, v, x, ws, rfl, _⟩ := h
    rfl
  · obtain ⟨k, v, x, ws, rfl, hk, G, hx, h8, hws, q⟩ := h
    obtain ⟨a, so, b, bs, rfl, ha, hso, hb, hbs⟩ := kit_inv hk
    have lb := hbs.length
    rw [List.length_map] at lb
    have b8 := G.b8
    -- _law_boxes_that_fit  slots: 0 _law_kit_here, 1 _law_wires_here, 2 _law_found, 3 _law_name, 4 _law_above, 5 _law_below, 6 _law_place
    refine ⟨_, (pss_cons (ps_set (i := 2) sc_l_boxes_that_fit.nd rfl (Or.inl rfl) (pe_lst pa_nil))
    (pss_cons (ps_for PassesOwn.never rfl (pi_tup (pe_ixT K (pv 0) pe_int)) (pg_tup (by rfl) (pgs_cons (pg_name (i := 3) sc_l_boxes_that_fit.nd rfl (by first | exact Or.inl rfl | exact Or.inr rfl)) (pgs_cons (pg_name (i := 4) sc_l_boxes_that_fit.nd rfl (by first | exact Or.inl rfl | exact Or.inr rfl)) (pgs_cons (pg_name (i := 5) sc_l_boxes_that_fit.nd rfl (by first | exact Or.inl rfl | exact Or.inr rfl)) pgs_nil))))
      (pss_one (ps_for PassesOwn.never rfl (pi_range1 (by rfl) B.range (pa_cons (pe_op op_add (pe_op op_sub (pe_len K B (pa_cons (pv 1) pa_nil)) (pe_len K B (pa_cons (pv 4) pa_nil))) pe_int) pa_nil)) (pg_name (i := 6) sc_l_boxes_that_fit.nd rfl (by first | exact Or.inl rfl | exact Or.inr rfl))
        (pss_one (ps_if (PW.pt (pw_and (pt_eqD K hr.units (pe_slT K (pv 1) (po_some (pv 6)) (po_some (pe_op op_add (pv 6) (pe_len K B (pa_cons (pv 4) pa_nil))))) (pv 4)) (pw_and1 (pt_cmpR op_lt (pe_op op_add (pe_op op_sub (pe_len K B (pa_cons (pv 1) pa_nil)) (pe_len K B (pa_cons (pv 4) pa_nil))) (pe_len K B (pa_cons (pv 5) pa_nil))) pe_int (nomark _)))))
          (pss_one (ps_expr (pe_bmK K (r := rAppend) PySem.F.plainAttrs_list PySem.F.slot_list_append PySem.F.type_list_append mt_append (pv 2) (pa_cons (pe_tup (pa_cons (pv 6) (pa_cons (pe_tup (pa_cons pe_str (pa_cons (pv 3) pa_nil))) pa_nil))) pa_nil))))
          pss_nil)))))
    (pss_one (ps_ret (pv 2))))), ?_⟩
    refine ⟨sz0, fun fo hfo => ?_⟩
    have k0 := Kp.new (S := no) hfo (.lst [])
    refine ⟨_, rfl, a, _, 2, _, rfl, rfl, SqT.of (k0.get ha), rfl, b, rfl, ⟨_, SqT.of (k0.get hb)⟩, for_tup (K := K) (a := b) (xs := bs) (fun j σ H2 => ∃ (o3 o4 o5 o6 : Option V) (fs : List Lay) (vs : List V), σ = [some (.ref a), some (.ref x), some (.ref fo), o3, o4, o5, o6] ∧ Kp no H H2 ∧ H2 fo = some (.lst vs) ∧ TDs H2 vs (fs.map (layD k)) ∧ (∀ l ∈ fs, Fits k ws l ∧ (layW k ws l).length ≤ 8) ∧ fs.length ≤ 9 * j)
      ⟨_, _, _, _, [], [], rfl, k0, upd_same, .nil, fun l hl => (by cases hl), Nat.le_refl _⟩ (fun j σ H2 _ ⟨_, _, _, _, _, _, _, z, _⟩ => SqT.of (z.get hb)) ?_ ?_⟩
    · rintro j z σ H2 hj ⟨o3, o4, o5, o6, fs, vs, rfl, k2, hfo2, hvs2, hfs, hfl⟩
      obtain ⟨hjb, q0, a0, e0, rfl, hq0, ha0, he0⟩ := bs_at hbs hj
      have ga := G.ab _ (Kit.at_mem hjb)
      have ge := G.be _ (Kit.at_mem hjb)
      refine ⟨q0, _, rfl, SqT.of (k2.get hq0), rfl, _, _, rfl, _, _, rfl, _, _, rfl, rfl, ?_⟩
      refine ⟨_, rfl, x, _, rfl, .inr (SqT.of (k2.get hx)), _, rfl, a0, _, rfl, .inr (SqT.of (k2.get ha0)), _, _, rfl, rfl, _, _, rfl, rfl, _, rfl, by rw [List.length_map, List.length_map]; omega, by rw [List.length_map, List.length_map]; omega, ?_⟩
      rw [List.length_map, List.length_map]
      obtain ⟨n, en⟩ : ∃ n, n = ((ws.length : Int) - ((k.at j).ab.length : Nat) + 1).toNat := ⟨_, rfl⟩
      rw [← en]
      refine for_range (lo := 0) (n := n) (fun i σ H3 => ∃ (o6 : Option V) (fs : List Lay) (vs : List V), σ = [some (.ref a), some (.ref x), some (.ref fo), some (.str (k.at j).nm), some (.ref a0), some (.ref e0), o6] ∧ Kp no H H3 ∧ H3 fo = some (.lst vs) ∧ TDs H3 vs (fs.map (layD k)) ∧ (∀ l ∈ fs, Fits k ws l ∧ (layW k ws l).length ≤ 8) ∧ fs.length ≤ 9 * j + i)
        ⟨_, fs, vs, rfl, k2, hfo2, hvs2, hfs, by omega⟩ ?_ ?_
      · rintro i σ H3 hi ⟨o6, fs, vs, rfl, k3, hfo3, hvs3, hfs, hfl⟩
        have hle : i + (k.at j).ab.length ≤ ws.length := by omega
        refine ⟨_, rfl, _, rfl, _, rfl, _, rfl, _, rfl, a0, _, rfl, .inr (SqT.of (k3.get ha0)), _, _, rfl, rfl, _, rfl, ?_⟩
        refine slA (k3.get hx) fun c H4 k4 hc => ?_
        rw [List.length_map, Int.zero_add, cut_mid (by rw [List.length_map]; exact hle), map_cut] at hc
        have k34 := k3.trans k4
        refine ⟨_, rfl, txD ((ws.drop i).take (k.at j).ab.length), txD (k.at j).ab, (TD.strs hc).dp, (TD.strs (k34.get ha0)).dp, shaped_tx (fun s hs => G.sok s (hws s (List.mem_of_mem_drop (List.mem_of_mem_take hs)))), shaped_tx (G.okA hjb), _, rfl, ?_⟩
        rw [eqv_tx]
        by_cases heq : (ws.drop i).take (k.at j).ab.length = (k.at j).ab
        · refine iteD heq ?_
          by_cases hlt : ws.length - (k.at j).ab.length + (k.at j).be.length < 9
          · refine ⟨_, rfl, x, _, rfl, .inr (SqT.of (k34.get hx)), _, rfl, a0, _, rfl, .inr (SqT.of (k34.get ha0)), _, _, rfl, rfl, _, rfl, e0, _, rfl, .inr (SqT.of (k34.get he0)), _, _, rfl, rfl, _, _, rfl, rfl, _, rfl, iteD (by rw [List.length_map, List.length_map, List.length_map]; omega) ?_⟩
            have hfo4 := k4.get hfo3
            have lv := hvs3.length
            rw [List.length_map] at lv
            refine ⟨_, rfl, .inl ⟨rfl, _, SqL.of hfo4⟩, _, rfl, _, rfl, sz2, fun t1 ht1 => ⟨sz2, fun t2 ht2 => ?_⟩⟩
            have kt1 := Kp.new (S := no) ht1 (.tup [V.str "box", V.str (k.at j).nm])
            have kt2 := Kp.new (S := no) ht2 (.tup [V.int (0 + (i : Int)), V.ref t1])
            have kt := kt1.trans kt2
            have hfo5 := kt.get hfo4
            refine ⟨fo, vs, .ref t2, rfl, rfl, hfo5, szLt (by omega), ?_⟩
            have kp := Kp.put1 (o := .lst (vs ++ [.ref t2])) (lst_tup hfo5)
            refine ⟨_, fs ++ [(i, .box j)], _, rfl, (k34.trans kt).free hfo _, upd_same, ?_, fun l hl => ?_, by rw [List.length_append]; show fs.length + 1 ≤ _; omega⟩
            · rw [List.map_append]
              refine (((hvs3.k k4).k kt).k kp).append (.cons ?_ .nil)
              exact (TD.mk2 upd_same (by rw [Int.zero_add]; exact .int _) (TD.mk2 (kt2.get upd_same) (.str _) (.str _))).k kp
            · rcases List.mem_append.mp hl with z | z
              · exact hfs l z
              · rw [List.mem_singleton.mp z]
                refine ⟨⟨hjb, hle, heq⟩, ?_⟩
                show (app i (k.at j).ab.length (fun _ => (k.at j).be) ws).length ≤ 8
                rw [app_length hle]
                omega
          · refine ⟨_, rfl, x, _, rfl, .inr (SqT.of (k34.get hx)), _, rfl, a0, _, rfl, .inr (SqT.of (k34.get ha0)), _, _, rfl, rfl, _, rfl, e0, _, rfl, .inr (SqT.of (k34.get he0)), _, _, rfl, rfl, _, _, rfl, rfl, _, rfl, iteDN (by rw [List.length_map, List.length_map, List.length_map]; omega) ?_⟩
            exact ⟨_, fs, vs, rfl, k34, k4.get hfo3, hvs3.k k4, hfs, by omega⟩
        · refine iteDN heq ?_
          exact ⟨_, fs, vs, rfl, k34, k4.get hfo3, hvs3.k k4, hfs, by omega⟩
      · rintro σ H3 ⟨o6, fs, vs, rfl, k3, hfo3, hvs3, hfs, hfl⟩
        exact ⟨_, _, _, _, fs, vs, rfl, k3, hfo3, hvs3, hfs, by omega⟩
    · rintro σ H2 ⟨o3, o4, o5, o6, fs, vs, rfl, k2, hfo2, hvs2, hfs, hfl⟩
      exact ⟨_, rfl, q fo fs H2 k2 hfo ⟨vs, hfo2, hvs2, hfs, by omega⟩⟩
end
end SW
/-! SwL5: the law's pictures. -/
namespace SW
open PySem PySem.Spec PyProof.Rows L2
section
variable {P : Program} {w : World} {K : PySem.W.Frag} {mg : Str → Option Value} {base : Heap}
def spPicture : Sp := fun vs H Q _ => ∃ (k : Kit) (v : V) (d : Addr), vs = [.ref d, v, .int 12] ∧ KitAt H v k ∧ k.Good ∧ DkAt H d 0 ∧ ∀ y (p : Pic) H', Kp (one d) H H' → TD H' y (p.D k) → p.Good k → Q y H'
theorem LfAt.k {H H' : Hp} {p : Addr} {k : Kit} {ws : List Str} {fs : List Lay} (x : Kp no H H') (h : LfAt H p k ws fs) : LfAt H' p k ws fs := by
  obtain ⟨vs, h1, h2, h3⟩ := h
  exact ⟨vs, x.get h1, h2.k x, h3⟩
theorem iteBT {A B : Prop} (a : A) : if (!false) = true then A else B := a
theorem iteBF {A B : Prop} (b : B) : if (!true) = true then A else B := b
/-- a picture as far as it has come -/
def PicSt (H0 : Hp) (k : Kit) (a d ab lr : Addr) (mny : V) (abw : List Str) (m i : Nat) (σ : L2.St) (H : Hp) : Prop := ∃ (x : Addr) (la : List Lay) (lv : List V) (nb : Int) (o8 o9 o10 : Option V),
  σ = [some (.ref d), some (.ref a), some (.int 12), some mny, some (.ref x), some (.ref ab), some (.ref lr), some (.int nb), o8, o9, o10] ∧ Kp (one d) H0 H ∧ DkAt H d m ∧ H x = some (.tup ((la.foldl (layW k) abw).map V.str)) ∧ H lr = some (.lst lv) ∧ TDs H lv (la.map (layD k)) ∧ FitAll k abw la ∧
  (la.foldl (layW k) abw).length ≤ 8 ∧ (∀ s ∈ la.foldl (layW k) abw, s ∈ k.so) ∧ la.length ≤ i
def rInt1 : List V → Hp → VK → Prop := fun xs H Q => (∃ i, xs = [V.int i] ∧ Q (V.int i) H) ∨ ∃ k, xs = [V.bl k] ∧ Q (V.int (if k = true then 1 else 0)) H
def tLast (K : PySem.W.Frag) : TE := tOp (rIxL K) (tVar 6) (tUn (rU fun i => V.int (-i)) (tC (V.int 1)))
def picTail (K : PySem.W.Frag) : TS := tIfS (tTest (tOp (rNeD K) (tVar 9) (tLst tNil)))
  (tSeq (tDrop (tBM K "list" rAppend (tVar 6) (tCons (tOp (rIxL K) (tVar 9) (tFn spDraw E0 (tCons (tVar 0) (tCons (tCB (rLenQ K) (tCons (tVar 9) tNil)) tNil)))) tNil)))
    (tSeq (tAsg (tOp (rI0 fun i j => V.int (i + j)) (tVar 7) (tCB rInt1 (tCons (tOp rEq (tOp (rIxT K) (tOp (rIxT K) (tLast K) (tC (V.int 1))) (tC (V.int 0))) (tC (V.str "box"))) tNil))) (gName 7))
      (tAsg (tFn spLAfter E0 (tCons (tVar 1) (tCons (tVar 4) (tCons (tLast K) tNil)))) (gName 4)))) tNext
theorem PicSt.mono {H0 : Hp} {k : Kit} {a d ab lr : Addr} {mny : V} {abw : List Str} {m m' i : Nat} {σ : L2.St} {H : Hp} (h : PicSt H0 k a d ab lr mny abw m i σ H) (hm : m ≤ m') : PicSt H0 k a d ab lr mny abw m' i σ H := by
  obtain ⟨x, la, lv, nb, o8, o9, o10, h1, h2, h3, h4⟩ := h
  exact ⟨x, la, lv, nb, o8, o9, o10, h1, h2, h3.mono hm, h4⟩
theorem LfAt.k1 {H H' : Hp} {p d : Addr} {k : Kit} {ws : List Str} {fs : List Lay} (x : Kp (one d) H H') (n : p ≠ d) (h : LfAt H p k ws fs) : LfAt H' p k ws fs := by
  obtain ⟨vs, h1, h2, h3⟩ := h
  exact ⟨vs, x.but _ _ (fun z => n z) h1, h2.k x, h3⟩
theorem pic_tail {k : Kit} (G : k.Good) {H0 H : Hp} {a d ab lr x p9 : Addr} {mny : V} {abw : List Str} {m i : Nat} {la : List Lay} {lv : List V} {nb : Int} {o8 o10 : Option V} {fs : List Lay} {D : Ends} (hk : KitAt H (.ref a) k) (k0 : Kp (one d) H0 H) (hd : DkAt H d m) (hm : m ≤ 10000) (hx : H x = some (.tup ((la.foldl (layW k) abw).map V.str)))
    (hlr : H lr = some (.lst lv)) (nlr : H0 lr = none) (ndl : lr ≠ d) (hlv : TDs H lv (la.map (layD k))) (hfa : FitAll k abw la) (h8 : (la.foldl (layW k) abw).length ≤ 8) (hso : ∀ s ∈ la.foldl (layW k) abw, s ∈ k.so) (hla : la.length ≤ i) (hi : i ≤ 100) (hfs : LfAt H p9 k (la.foldl (layW k) abw) fs) (np9 : p9 ≠ d)
    (post : ∀ σ' H', PicSt H0 k a d ab lr mny abw (m + 1) (i + 1) σ' H' → D.nx σ' H') :
    picTail K D [some (.ref d), some (.ref a), some (.int 12), some mny, some (.ref x), some (.ref ab), some (.ref lr), some (.int nb), o8, some (.ref p9), o10] H := by
  obtain ⟨vs9, hp9, hvs9, hff, hfl⟩ := hfs
  have l9 := hvs9.length
  rw [List.length_map] at l9
  refine ⟨_, rfl, sz0, fun e0 he0 => ?_⟩
  have ke := Kp.new (S := no) he0 (.lst [])
  have hsh : SeqAt.shaped (.list (fs.map (layD k))) = true := (Lays.lst (n := 2) (Lays.map fun l hl => lays_lay G (fits_ok (hff l hl).1).1)).sh (by decide)
  refine ⟨.list (fs.map (layD k)), .list [], .lst (SqL.of (ke.get hp9)) (TDs.dp _ _ (hvs9.k ke)), .lst (SqL.of upd_same) .nil, hsh, (Lays.lst (n := 0) Lays.nil).sh (by decide), _, rfl, ?_⟩
  rw [eqv_lnil]
  cases fs with
  | nil =>
    refine iteBF ?_
    exact post _ _ ⟨x, la, lv, nb, o8, _, _, rfl, k0.trans ke.w, (hd.k ke (fun z => z)).mono (by omega), ke.get hx, ke.get hlr, hlv.k ke, hfa, h8, hso, by omega⟩
  | cons l0 fr =>
    refine iteBT ?_
    obtain ⟨H1, eH1⟩ : ∃ H1, H1 = upd H e0 (.lst []) := ⟨_, rfl⟩
    rw [← eH1] at ke ⊢
    have hd1 := hd.k ke (fun z => z)
    have hlr1 := ke.get hlr
    have lb := hlv.length
    rw [List.length_map] at lb
    have lfs : vs9.length = fr.length + 1 := l9
    refine ⟨_, rfl, .inl ⟨rfl, _, SqL.of hlr1⟩, _, rfl, _, rfl, _, rfl, p9, _, rfl, .inl (SqL.of (ke.get hp9)), d, vs9.length, m, rfl, hd1, by omega, by omega, by rw [lfs]; exact hfl, fun r H2 k2 hd2 hr => ?_⟩
    have hr2 : r < (l0 :: fr).length := by rw [← l9]; exact hr
    have hlr2 : (l0 :: fr)[r]? = some (l0 :: fr)[r] := List.getElem?_eq_getElem hr2
    have hfit := hff _ (List.getElem_mem hr2)
    revert hlr2 hfit
    generalize (l0 :: fr)[r] = l
    intro hlr2 hfit
    obtain ⟨yv, hyv, hyd⟩ := hvs9.at (i := r) (d := layD k l) (by rw [List.getElem?_map, hlr2]; rfl)
    have k02 := ke.w.trans k2
    obtain ⟨ya, yq, rfl, hya, hyq⟩ := lay_inv (hyd.k k02)
    have hlr2' := k2.but _ _ (fun z => ndl z) hlr1
    refine ⟨p9, vs9, r, .ref ya, rfl, rfl, SqL.of (k2.but _ _ (fun z => np9 z) (ke.get hp9)), atI_nat hyv, lr, lv, .ref ya, rfl, rfl, hlr2', szLt (by omega), ?_⟩
    have kp := Kp.put1 (o := .lst (lv ++ [.ref ya])) (lst_tup hlr2')
    obtain ⟨H3, eH3⟩ : ∃ H3, H3 = upd H2 lr (.lst (lv ++ [.ref ya])) := ⟨_, rfl⟩
    have hlr3 : H3 lr = some (.lst (lv ++ [.ref ya])) := by rw [eH3]; exact upd_same
    have k03 : Kp (one d) H0 H3 := by rw [eH3]; exact (k0.trans k02).free nlr _
    rw [← eH3] at kp ⊢
    have hya3 := kp.kt _ _ hya
    have hyq3 := hyq.k kp
    obtain ⟨z, hz⟩ : ∃ z : Int, ∃ xs : List V, ∃ s : Str, H3 yq = some (.tup (.str s :: xs)) := by
      obtain ⟨p0, st⟩ := l
      cases st with
      | box ib => exact ⟨0, _, _, stp_box hyq3⟩
      | cross => exact ⟨0, _, _, stp_cross hyq3⟩
    obtain ⟨xs, s, hyq4⟩ := hz
    have at0 : atI (V.str s :: xs) 0 = some (V.str s) := atI_nat (j := 0) (show (V.str s :: xs)[0]? = some (V.str s) from rfl)
    refine ⟨_, rfl, _, rfl, _, rfl, lr, _, -1, _, rfl, rfl, SqL.of hlr3, atI_last _ _, ya, _, 1, _, rfl, rfl, SqT.of hya3, rfl, yq, _, 0, _, rfl, rfl, SqT.of hyq4, at0, rfl, .inr ⟨_, rfl, _, _, rfl, rfl, ?_⟩⟩
    refine ⟨_, rfl, _, rfl, _, rfl, _, rfl, lr, _, -1, _, rfl, rfl, SqL.of hlr3, atI_last _ _, k, .ref a, x, ya, _, l, rfl, (hk.k k02).k kp, G, kp.kt _ _ (k02.kt _ _ hx), (hyd.k k02).k kp, hfit.1, h8, fun p' H4 k4 hp' => ?_⟩
    have efold : (la ++ [l]).foldl (layW k) abw = layW k (la.foldl (layW k) abw) l := by rw [List.foldl_append]; rfl
    refine post _ _ ⟨p', la ++ [l], lv ++ [.ref ya], _, _, _, _, rfl, k03.trans k4.w, (DkAt.k k4 (fun z => z) ?_), by rw [efold]; exact hp', k4.get hlr3, ?_, hfa.snoc hfit.1 hfit.2, by rw [efold]; exact hfit.2, by rw [efold]; exact layW_so G hfit.1 hso, by rw [List.length_append]; show la.length + 1 ≤ i + 1; omega⟩
    · exact hd2.k kp (fun z => ndl (show d = lr from z).symm)
    · rw [List.map_append]
      exact (((hlv.k k02).k kp).k k4).append (.cons (((hyd.k k02).k kp).k k4) .nil)
theorem l_picture (B : Bi mg) (D : Df K mg "_law_picture" s_l_picture ["_law_deck_here", "_law_kit_here", "_law_most"]) (F_l_draw : Fn P w K mg base CX0 1 "_law_draw" ["_law_deck_here", "_law_most"] spDraw)
    (F_l_wires_that_fit : Fn P w K mg base CX0 1 "_law_wires_that_fit" ["_law_kit_here", "_law_wires_here"] spLFit) (F_l_boxes_that_fit : Fn P w K mg base CX0 1 "_law_boxes_that_fit" ["_law_kit_here", "_law_wires_here"] spLFit)
    (F_l_after : Fn P w K mg base CX0 2 "_law_after" ["_law_kit_here", "_law_wires_here", "_law_layer"] spLAfter) :
    Fn P w K mg base CX0 3 "_law_picture" ["_law_deck_here", "_law_kit_here", "_law_most"] spPicture := by
  refine D.fn sc_l_picture (fun vs H Q E h => ?_) (fun f cdv A outer s H vs Q E hr h => ?_)
  · obtain ⟨k, v, d, rfl, _⟩ := h
    rfl
  · obtain ⟨k, v, d, rfl, hk, G, hd, q⟩ := h
    obtain ⟨a, so, b, bs, rfl, ha, ⟨ob, hso, hoc, hod⟩, hb, hbs⟩ := kit_inv hk
    have soat : SoAt H so k.so := ⟨ob, hso, hoc, hod⟩
    have so1 := G.so1
    have so4 := G.so4
    -- _law_picture  slots: 0 _law_deck_here, 1 _law_kit_here, 2 _law_most, 3 _law_many, 4 _law_wires_here, 5 _law_above, 6 _law_layers, 7 _law_boxes, 8 _law_k, 9 _law_some, 10 _law_more
    refine ⟨_, (pss_cons (ps_set (i := 3) sc_l_picture.nd rfl (Or.inl rfl) (pe_ixL K (pe_lst (pa_cons pe_int (pa_cons pe_int (pa_cons pe_int (pa_cons pe_int (pa_cons pe_int (pa_cons pe_int (pa_cons pe_int (pa_cons pe_int pa_nil))))))))) (pe_fn F_l_draw (hr.mono (by omega)) (pa_cons (pv 0) (pa_cons (pe_op op_add pe_int (pe_op op_mul pe_int (pe_intB B (pa_cons (pe_cmpR op_gt (pv 2) pe_int (nomark _)) pa_nil)))) pa_nil)))))
    (pss_cons (ps_set (i := 4) sc_l_picture.nd rfl (Or.inl rfl) (pe_tupOf K B (pa_cons (pe_lc (own := [("_law_k", 8)]) (g := (gName 8)) (tt := tYes) rfl sc_l_picture.nd (pi_range1 (by rfl) B.range (pa_cons (pv 3) pa_nil)) (blkOk_by (by kernel_rfl)) (fun _ _ _ _ _ => (pg_name (i := 8) sc_l_picture.nd rfl (by first | exact Or.inl rfl | exact Or.inr rfl))) (fun _ _ _ _ _ => pts_nil) (fun _ _ _ _ _ => (pe_ixT K (pe_ixT K (pv 1) pe_int) (pe_fn F_l_draw (hr.mono (by omega)) (pa_cons (pv 0) (pa_cons (pe_len K B (pa_cons (pe_ixT K (pv 1) pe_int) pa_nil)) pa_nil)))))) pa_nil)))
    (pss_cons (ps_set (i := 5) sc_l_picture.nd rfl (Or.inl rfl) (pv 4))
    (pss_cons (ps_set (i := 6) sc_l_picture.nd rfl (Or.inl rfl) (pe_lst pa_nil))
    (pss_cons (ps_set (i := 7) sc_l_picture.nd rfl (Or.inl rfl) pe_int)
    (pss_cons (ps_for PassesOwn.never rfl (pi_range1 (by rfl) B.range (pa_cons (pe_fn F_l_draw (hr.mono (by omega)) (pa_cons (pv 0) (pa_cons (pe_op op_add (pv 2) pe_int) pa_nil))) pa_nil)) (pg_name (i := 8) sc_l_picture.nd rfl (by first | exact Or.inl rfl | exact Or.inr rfl))
      (pss_cons (ps_set (i := 9) sc_l_picture.nd rfl (Or.inl rfl) (pe_fn F_l_wires_that_fit (hr.mono (by omega)) (pa_cons (pv 1) (pa_cons (pv 4) pa_nil))))
      (pss_cons (ps_if (PW.pt (pw_and (pt_cmpR op_gt (pe_fn F_l_draw (hr.mono (by omega)) (pa_cons (pv 0) (pa_cons pe_int pa_nil))) pe_int (nomark _)) (pw_and1 (pt_cmpR op_lt (pv 7) (pe_ixL K (pe_lst (pa_cons pe_int (pa_cons pe_int pa_nil))) (pe_intB B (pa_cons (pe_cmpR op_gt (pv 2) pe_int (nomark _)) pa_nil))) (nomark _)))))
        (pss_cons (ps_set (i := 10) sc_l_picture.nd rfl (Or.inl rfl) (pe_fn F_l_boxes_that_fit (hr.mono (by omega)) (pa_cons (pv 1) (pa_cons (pv 4) pa_nil))))
        (pss_one (ps_set (i := 9) sc_l_picture.nd rfl (Or.inl rfl) (pe_ixL K (pe_lst (pa_cons (pv 9) (pa_cons (pv 10) pa_nil))) (pe_intB B (pa_cons (pe_neD K hr.units (pv 10) (pe_lst pa_nil)) pa_nil))))))
        pss_nil)
      (pss_one (ps_if (pt_neD K hr.units (pv 9) (pe_lst pa_nil))
        (pss_cons (ps_expr (pe_bmK K (r := rAppend) PySem.F.plainAttrs_list PySem.F.slot_list_append PySem.F.type_list_append mt_append (pv 6) (pa_cons (pe_ixL K (pv 9) (pe_fn F_l_draw (hr.mono (by omega)) (pa_cons (pv 0) (pa_cons (pe_len K B (pa_cons (pv 9) pa_nil)) pa_nil)))) pa_nil)))
        (pss_cons (ps_set (i := 7) sc_l_picture.nd rfl (Or.inl rfl) (pe_op op_add (pv 7) (pe_intB B (pa_cons (pe_cmpR op_eq (pe_ixT K (pe_ixT K (pe_ixL K (pv 6) (pe_un un_neg pe_int)) pe_int) pe_int) pe_str (nomark _)) pa_nil))))
        (pss_one (ps_set (i := 4) sc_l_picture.nd rfl (Or.inl rfl) (pe_fn F_l_after (hr.mono (by omega)) (pa_cons (pv 1) (pa_cons (pv 4) (pa_cons (pe_ixL K (pv 6) (pe_un un_neg pe_int)) pa_nil))))))))
        pss_nil)))))
    (pss_one (ps_ret (pe_tup (pa_cons (pv 5) (pa_cons (pe_tupOf K B (pa_cons (pv 6) pa_nil)) pa_nil))))))))))), ?_⟩
    -- the wires above
    refine ⟨szL (by show 8 ≤ 100000; decide), fun l hl => ?_⟩
    have nl := hd.ne hl
    obtain ⟨H1, eH1⟩ : ∃ H1, H1 = upd H l (.lst [V.int 2, V.int 1, V.int 3, V.int 0, V.int 4, V.int 2, V.int 6, V.int 5]) := ⟨_, rfl⟩
    have hl1 : H1 l = some (.lst [V.int 2, V.int 1, V.int 3, V.int 0, V.int 4, V.int 2, V.int 6, V.int 5]) := by rw [eH1]; exact upd_same
    have k1 : Kp no H H1 := by rw [eH1]; exact Kp.new hl _
    rw [← eH1]
    have hd1 := hd.k k1 (fun z => z)
    refine ⟨_, rfl, _, rfl, _, _, rfl, rfl, .inr ⟨_, rfl, _, _, rfl, rfl, .inl ⟨by decide, by decide⟩, _, _, rfl, rfl, d, 8, 0, rfl, hd1, by decide, by decide, by decide, fun r H2 k2 hd2 hr => ?_⟩⟩
    obtain ⟨n, hn, hn6, _⟩ := atI_lit (l := [2, 1, 3, 0, 4, 2, 6, 5]) (b := 6) (r := r) (by show r < 8; omega) (by decide)
    have k02 : Kp (one d) H H2 := k1.w.trans k2
    refine ⟨l, _, r, _, rfl, rfl, SqL.of (k2.but _ _ (fun z => nl z.symm) hl1), hn, ?_⟩
    refine ⟨_, rfl, n, rfl, by omega, by omega, fun D hD => lcD hD (lc_R (S := one d) (lo := 0) (n := n) (szLt (by omega)) (fun i H => DkAt H d (1 + i)) (fun _ v _ => ∃ s, s ∈ k.so ∧ v = .str s) hd2 hd2.some (fun i H D xs ys nS _ ok => ok.upd nS) (fun _ _ _ _ _ h => h) (fun i y H3 hi hy k3 ok Q' q' => ?_) fun D' vs H3 _ k3 ok hv hvl hr1 eD => ?_)⟩
    · have k03 := k02.trans k3
      have so3 := soat.k k03
      have ha3 := k03.kt _ _ ha
      refine ⟨_, rfl, a, _, 1, _, rfl, rfl, SqT.of ha3, rfl, _, rfl, _, rfl, a, _, 1, _, rfl, rfl, SqT.of ha3, rfl, so, _, rfl, .inr so3.sq, d, k.so.length, _, by rw [List.length_map], ok, by omega, so1, by omega, fun r2 H4 k4 ok4 hr2 => ?_⟩
      exact ⟨so, _, r2, _, rfl, rfl, (so3.k k4).sq, atI_nat (by rw [List.getElem?_map, List.getElem?_eq_getElem hr2]; rfl), q' _ H4 k4 (ok4.mono (by omega)) ⟨_, List.getElem_mem hr2, rfl⟩⟩
    cases eD
    obtain ⟨abw, rfl, habw⟩ := all_str hr1
    rw [List.length_map] at hvl
    refine ⟨D, _, rfl, .inl ⟨SqL.of hv, fun x0 hx0 => ?_⟩⟩
    obtain ⟨H4, eH4⟩ : ∃ H4, H4 = upd H3 x0 (.tup (abw.map V.str)) := ⟨_, rfl⟩
    have hx04 : H4 x0 = some (.tup (abw.map V.str)) := by rw [eH4]; exact upd_same
    have k4 : Kp no H3 H4 := by rw [eH4]; exact Kp.new hx0 _
    rw [← eH4]
    have k04 : Kp (one d) H H4 := (k02.trans k3).trans k4.w
    have hd4 := ok.k k4 (fun z => z)
    -- the layers
    refine ⟨_, rfl, sz0, fun lr hlr => ?_⟩
    have k5 := Kp.new (S := no) hlr (.lst [])
    have ndl : lr ≠ d := (hd4.ne hlr).symm
    obtain ⟨H5, eH5⟩ : ∃ H5, H5 = upd H4 lr (.lst []) := ⟨_, rfl⟩
    have hlr5 : H5 lr = some (.lst []) := by rw [eH5]; exact upd_same
    rw [← eH5] at k5 ⊢
    have hd5 := hd4.k k5 (fun z => z)
    refine ⟨_, rfl, _, rfl, _, _, rfl, rfl, d, 13, 1 + n, rfl, hd5, by omega, by decide, by decide, fun rn H6 k6 hd6 hrn => ⟨rn, rfl, by omega, by omega, ?_⟩⟩
    have hk4 := hk.k k04
    refine for_range (lo := 0) (n := rn) (fun i σ H' => PicSt H4 k a d x0 lr (.int (n : Nat)) abw (10 + 5 * i) i σ H')
      ⟨x0, [], [], 0, _, _, _, rfl, k5.w.trans k6, hd6.mono (by omega), (k5.w.trans k6).kt _ _ hx04, k6.but _ _ (fun z => ndl z) hlr5, .nil, True.intro, by show abw.length ≤ 8; omega, habw, Nat.le_refl 0⟩ ?_ ?_
    · rintro i σ H7 hi ⟨x, la, lv, nb, o8, o9, o10, rfl, k7, hd7, hx7, hlr7, hlv7, hfa, h8, hso7, hla⟩
      have hk7 := hk4.k k7
      refine ⟨_, rfl, _, rfl, k, .ref a, x, _, rfl, hk7, G, hx7, h8, hso7, fun p9 fs H8 k8 np9 lf9 => ?_⟩
      have hd8 := hd7.k k8 (fun z => z)
      have dp9 : p9 ≠ d := (hd7.ne np9).symm
      refine ⟨_, rfl, d, 3, _, rfl, hd8, by omega, by decide, by decide, fun r3 H9 k9 hd9 hr3 => ⟨_, _, rfl, rfl, _, rfl, ?_⟩⟩
      have k49 : Kp (one d) H4 H9 := (k7.trans k8.w).trans k9
      have hk9 := hk4.k k49
      have k79 : Kp (one d) H7 H9 := k8.w.trans k9
      have hx9 := k79.kt _ _ hx7
      have hlr9 := k79.but _ _ (fun z => ndl z) hlr7
      have hlv9 := hlv7.k k79
      have lf9' := lf9.k1 k9 dp9
      by_cases h3 : (0 : Int) < (r3 : Nat)
      · refine iteD h3 ?_
        refine ⟨_, rfl, sz2, fun l4 hl4 => ⟨_, rfl, _, _, rfl, rfl, .inr ⟨_, rfl, l4, _, _, _, rfl, rfl, SqL.of upd_same, rfl, _, _, rfl, rfl, _, rfl, ?_⟩⟩⟩
        have k10 := Kp.new (S := no) hl4 (.lst [V.int 4, V.int 6])
        obtain ⟨H10, eH10⟩ : ∃ H10, H10 = upd H9 l4 (.lst [V.int 4, V.int 6]) := ⟨_, rfl⟩
        rw [← eH10] at k10 ⊢
        have lf10 := lf9'.k k10
        by_cases h6 : nb < 6
        · refine iteD h6 ?_
          refine ⟨_, rfl, _, rfl, k, .ref a, x, _, rfl, hk9.k k10, G, k10.get hx9, h8, hso7, fun p10 fs10 H11 k11 np10 lf11 => ?_⟩
          have d10 : p10 ≠ d := ((hd9.k k10 (fun z => z)).ne np10).symm
          refine ⟨_, rfl, _, rfl, sz2, fun lq hlq => ⟨_, rfl, sz0, fun e0 he0 => ?_⟩⟩
          have kq := Kp.new (S := no) hlq (.lst [V.ref p9, V.ref p10])
          have ke := Kp.new (S := no) he0 (.lst [])
          have kqe := kq.trans ke
          obtain ⟨H12, eH12⟩ : ∃ H12, H12 = upd (upd H11 lq (.lst [V.ref p9, V.ref p10])) e0 (.lst []) := ⟨_, rfl⟩
          have hlq12 : H12 lq = some (.lst [V.ref p9, V.ref p10]) := by rw [eH12]; exact ke.get upd_same
          have he12 : H12 e0 = some (.lst []) := by rw [eH12]; exact upd_same
          rw [← eH12] at kqe ⊢
          have k912 : Kp no H9 H12 := (k10.trans k11).trans kqe
          have lf12 := lf11.k kqe
          have lf912 := (lf10.k k11).k kqe
          obtain ⟨vs10, hp10, hvs10, hff10, hfl10⟩ := id lf12
          have hsh : SeqAt.shaped (.list (fs10.map (layD k))) = true := (Lays.lst (n := 2) (Lays.map fun l hl => lays_lay G (fits_ok (hff10 l hl).1).1)).sh (by decide)
          refine ⟨.list (fs10.map (layD k)), .list [], .lst (SqL.of hp10) (TDs.dp _ _ hvs10), .lst (SqL.of he12) .nil, hsh, (Lays.lst (n := 0) Lays.nil).sh (by decide), .inr ⟨_, rfl, ?_⟩⟩
          rw [eqv_lnil]
          cases fs10 with
          | nil =>
            refine ⟨lq, _, _, .ref p9, rfl, rfl, SqL.of hlq12, rfl, ?_⟩
            exact pic_tail G (i := i) (hk9.k k912) (k49.trans k912.w) (hd9.k k912 (fun z => z)) (by omega) (k912.get hx9) (k912.get hlr9) hlr ndl (hlv9.k k912) hfa h8 hso7 hla (by omega) lf912 dp9 (fun σ' H' h => h.mono (by omega))
          | cons l0 fr =>
            refine ⟨lq, _, _, .ref p10, rfl, rfl, SqL.of hlq12, rfl, ?_⟩
            exact pic_tail G (i := i) (hk9.k k912) (k49.trans k912.w) (hd9.k k912 (fun z => z)) (by omega) (k912.get hx9) (k912.get hlr9) hlr ndl (hlv9.k k912) hfa h8 hso7 hla (by omega) lf12 d10 (fun σ' H' h => h.mono (by omega))
        · refine iteDN h6 ?_
          exact pic_tail G (i := i) (hk9.k k10) (k49.trans k10.w) (hd9.k k10 (fun z => z)) (by omega) (k10.get hx9) (k10.get hlr9) hlr ndl (hlv9.k k10) hfa h8 hso7 hla (by omega) lf10 dp9 (fun σ' H' h => h.mono (by omega))
      · refine iteDN h3 ?_
        exact pic_tail G (i := i) hk9 k49 hd9 (by omega) hx9 hlr9 hlr ndl hlv9 hfa h8 hso7 hla (by omega) lf9' dp9 (fun σ' H' h => h.mono (by omega))
    · rintro σ H7 ⟨x, la, lv, nb, o8, o9, o10, rfl, k7, hd7, hx7, hlr7, hlv7, hfa, h8, hso7, hla⟩
      refine ⟨_, rfl, _, rfl, lr, lv, rfl, .inl ⟨SqL.of hlr7, fun tb htb => ⟨sz2, fun ty hty => ?_⟩⟩⟩
      have kb := Kp.new (S := no) htb (.tup lv)
      have ky := Kp.new (S := no) hty (.tup [V.ref x0, V.ref tb])
      have kby := kb.trans ky
      refine q (.ref ty) ⟨abw, la⟩ _ ((k04.trans k7).trans kby.w) (TD.mk2 upd_same (TD.strs (kby.get (k7.kt _ _ hx04))) (.tup (ky.get upd_same) (hlv7.k kby))) ⟨habw, by show abw.length ≤ 6; omega, by show la.length ≤ 12; omega, hfa⟩
end
end SW
/-! SwL6: the law's small expressions, worths, what an expression comes to. -/
namespace SW
open PySem PySem.Spec PyProof.Rows L2
def sm : Nat → Nat
  | 0 => 3
  | n + 1 => 3 + 3 * sm n
def smBase : TS := tSeq (tIfS (tAnd (tTest (tOp (rI0 fun i j => V.bl (decide (j < i))) (tVar 1) (tC (V.int 0)))) (tTest (tOp (rI0 fun i j => V.bl (decide (j < i))) (tFn spDraw E0 (tCons (tVar 0) (tCons (tC (V.int 5)) tNil))) (tC (V.int 0)))))
    (tRet (tTup (tCons (tC (V.str "in")) (tCons (tFn spDraw E0 (tCons (tVar 0) (tCons (tVar 1) tNil))) tNil)))) tNext)
  (tRet (tTup (tCons (tC (V.str "num")) (tCons (tFn spDraw E0 (tCons (tVar 0) (tCons (tC (V.int 2)) tNil))) tNil))))
theorem sm_num {D : Ends} {H0 H : Hp} {d : Addr} {many m : Nat} {σ : L2.St} (hσ : σ[0]? = some (some (.ref d))) (k0 : Kp (one d) H0 H) (hd : DkAt H d m) (hm : m ≤ 100000) (q : ∀ x e H', Kp (one d) H0 H' → DkAt H' d (m + 1) → TD H' x (E.D e) → E.Ok many e → e.dep ≤ 1 → D.rt x H') :
    tRet (tTup (tCons (tC (V.str "num")) (tCons (tFn spDraw E0 (tCons (tVar 0) (tCons (tC (V.int 2)) tNil))) tNil))) D σ H := by
  refine ⟨_, hσ, d, 2, m, rfl, hd, by omega, by decide, by decide, fun r H1 k1 hd1 hr => ⟨sz2, fun t ht => ?_⟩⟩
  have kt := Kp.new (S := no) ht (.tup [V.str "num", V.int (r : Nat)])
  refine q (.ref t) (.num (r : Nat)) _ ((k0.trans k1).trans kt.w) (hd1.k kt (fun z => z)) (TD.mk2 upd_same (.str _) (.int _)) ?_ (Nat.le_refl 1)
  show ((r : Nat) : Int) = 0 ∨ ((r : Nat) : Int) = 1
  omega
theorem sm_base {D : Ends} {H0 H : Hp} {d : Addr} {many m : Nat} {deep way : Int} (k0 : Kp (one d) H0 H) (hd : DkAt H d m) (hm : m ≤ 50000) (h4 : many ≤ 1000) (q : ∀ x e H', Kp (one d) H0 H' → DkAt H' d (m + 2) → TD H' x (E.D e) → E.Ok many e → e.dep ≤ 1 → D.rt x H') :
    smBase D [some (.ref d), some (.int (many : Nat)), some (.int deep), some (.int way), none, none] H := by
  by_cases hp : (0 : Int) < (many : Nat)
  · refine ⟨_, rfl, _, _, rfl, rfl, _, rfl, iteD hp ?_⟩
    refine ⟨_, rfl, d, 5, m, rfl, hd, by omega, by decide, by decide, fun r H1 k1 hd1 hr => ⟨_, _, rfl, rfl, _, rfl, ?_⟩⟩
    by_cases hr0 : (0 : Int) < (r : Nat)
    · refine iteD hr0 ?_
      refine ⟨_, rfl, _, rfl, d, many, m + 1, rfl, hd1, by omega, by omega, h4, fun i H2 k2 hd2 hi => ⟨sz2, fun t ht => ?_⟩⟩
      have kt := Kp.new (S := no) ht (.tup [V.str "in", V.int (i : Nat)])
      exact q (.ref t) (.inp i) _ (((k0.trans k1).trans k2).trans kt.w) (hd2.k kt (fun z => z)) (TD.mk2 upd_same (.str _) (.int _)) hi (Nat.le_refl 1)
    · refine iteDN hr0 ?_
      exact sm_num (many := many) rfl (k0.trans k1) hd1 (by omega) q
  · refine ⟨_, rfl, _, _, rfl, rfl, _, rfl, iteDN hp ?_⟩
    exact sm_num (many := many) rfl k0 hd (by omega) fun x e H' a b => q x e H' a (b.mono (by omega))
section
variable {P : Program} {w : World} {K : PySem.W.Frag} {mg : Str → Option Value} {base : Heap}
def spSmall (n : Nat) : Sp := fun vs H Q _ => ∃ (d : Addr) (many deep m : Nat), vs = [.ref d, .int (many : Nat), .int (deep : Nat)] ∧ deep < n ∧ deep ≤ 5 ∧ DkAt H d m ∧ m + sm deep ≤ 40000 ∧ many ≤ 4 ∧
  ∀ x e H', Kp (one d) H H' → DkAt H' d (m + sm deep) → TD H' x (E.D e) → E.Ok many e → e.dep ≤ deep + 1 → Q x H'
def REx (many n : Nat) : Nat → V → Hp → Prop := fun _ v H => ∃ e : E, TD H v e.D ∧ e.Ok many ∧ e.dep ≤ n
theorem l_small (B : Bi mg) (D : Df K mg "_law_small" s_l_small ["_law_deck_here", "_law_many", "_law_deep"]) (F_l_draw : Fn P w K mg base CX0 1 "_law_draw" ["_law_deck_here", "_law_most"] spDraw) :
    ∀ n : Nat, Fn P w K mg base CX0 (n + 2) "_law_small" ["_law_deck_here", "_law_many", "_law_deep"] (spSmall n)
  | 0 => by
    refine D.fn sc_l_small (fun vs H Q EX h => ?_) (fun f cdv A outer s H vs Q EX hr h => ?_)
    · obtain ⟨d, many, deep, m, rfl, _⟩ := h
      rfl
    · obtain ⟨d, many, deep, m, rfl, hd, _⟩ := h
      omega
  | n + 1 => by
    have F_l_small := l_small B D F_l_draw n
    refine D.fn sc_l_small (fun vs H Q EX h => ?_) (fun f cdv A outer s H vs Q EX hr h => ?_)
    · obtain ⟨d, many, deep, m, rfl, _⟩ := h
      rfl
    · obtain ⟨d, many, deep, m, rfl, hdn, h5, hd, hm, h4, q⟩ := h
      -- _law_small  slots: 0 _law_deck_here, 1 _law_many, 2 _law_deep, 3 _law_way, 4 _law_some, 5 _law_k
      refine ⟨_, (pss_cons (ps_set (i := 3) sc_l_small.nd rfl (Or.inl rfl) (pe_fn F_l_draw (hr.mono (by omega)) (pa_cons (pv 0) (pa_cons pe_int pa_nil))))
    (pss_cons (ps_if (PW.pt (pw_or (pt_cmpR op_eq (pv 2) pe_int (nomark _)) (pw_or1 (pt_cmpR op_eq (pv 3) pe_int (nomark _)))))
      (pss_cons (ps_if (PW.pt (pw_and (pt_cmpR op_gt (pv 1) pe_int (nomark _)) (pw_and1 (pt_cmpR op_gt (pe_fn F_l_draw (hr.mono (by omega)) (pa_cons (pv 0) (pa_cons pe_int pa_nil))) pe_int (nomark _)))))
        (pss_one (ps_ret (pe_tup (pa_cons pe_str (pa_cons (pe_fn F_l_draw (hr.mono (by omega)) (pa_cons (pv 0) (pa_cons (pv 1) pa_nil))) pa_nil)))))
        pss_nil)
      (pss_one (ps_ret (pe_tup (pa_cons pe_str (pa_cons (pe_fn F_l_draw (hr.mono (by omega)) (pa_cons (pv 0) (pa_cons pe_int pa_nil))) pa_nil))))))
      pss_nil)
    (pss_cons (ps_setLc (i := 4) (own := [("_law_k", 5)]) (g := (gName 5)) (tt := tYes) rfl sc_l_small.nd rfl rfl (sw_true rfl rfl rfl (by decide +kernel)) (pi_range1 (by rfl) B.range (pa_cons pe_int pa_nil)) (blkOk_by (by kernel_rfl)) (fun _ _ _ _ _ => (pg_name (i := 5) sc_l_small.nd rfl (by first | exact Or.inl rfl | exact Or.inr rfl))) (fun _ _ _ _ _ => pts_nil) (fun _ _ _ _ _ => (pe_fn F_l_small (hr.mono (by omega)) (pa_cons (pv 0) (pa_cons (pv 1) (pa_cons (pe_op op_sub (pv 2) pe_int) pa_nil))))))
    (pss_cons (ps_if (pt_cmpR op_lt (pv 3) pe_int (nomark _))
      (pss_one (ps_ret (pe_tup (pa_cons pe_str (pa_cons (pe_ixL K (pv 4) pe_int) (pa_cons (pe_ixL K (pv 4) pe_int) pa_nil))))))
      pss_nil)
    (pss_one (ps_ret (pe_catT K (pe_tup (pa_cons pe_str pa_nil)) (pe_tupOf K B (pa_cons (pv 4) pa_nil))))))))), ?_⟩
      refine ⟨_, rfl, d, 5, m, rfl, hd, by omega, by decide, by decide, fun way H1 k1 hd1 hway => ?_⟩
      have sm3 : 3 ≤ sm deep := by cases deep with
        | zero => exact Nat.le_refl 3
        | succ n => show 3 ≤ 3 + 3 * sm n; omega
      by_cases hz : deep = 0
      · subst hz
        refine ⟨_, rfl, rfl, _, rfl, iteD rfl ?_⟩
        exact sm_base k1 hd1 (by omega) (by omega) fun x e H' a b c d e' => q x e H' a (b.mono (by omega)) c d (by omega)
      · refine ⟨_, rfl, rfl, _, rfl, iteDN (int_ne (by omega)) ?_⟩
        by_cases hw : way = 0
        · subst hw
          refine ⟨_, rfl, rfl, _, rfl, iteD rfl ?_⟩
          exact sm_base k1 hd1 (by omega) (by omega) fun x e H' a b c d e' => q x e H' a (b.mono (by omega)) c d (by omega)
        · refine ⟨_, rfl, rfl, _, rfl, iteDN (int_ne (by omega)) ?_⟩
          obtain ⟨deep', rfl⟩ : ∃ deep', deep = deep' + 1 := ⟨deep - 1, by omega⟩
          have esm : sm (deep' + 1) = 3 + 3 * sm deep' := rfl
          refine ⟨3, rfl, by decide, by decide, fun D hD => lcD hD (lc_R (S := one d) (lo := 0) (n := 3) (szLt (by decide)) (fun i H => DkAt H d (m + 1 + i * sm deep')) (REx many (deep' + 1)) (hd1.mono (by omega)) hd1.some (fun i H D xs ys nS _ ok => ok.upd nS) (fun i v H H' kt h => ?_) (fun i y H2 hi hy k2 ok Q' q' => ?_) fun D' vs H2 _ k2 ok hv hvl hr1 eD => ?_)⟩
          · obtain ⟨e, h1, h2⟩ := h
            exact ⟨e, TD.kt kt _ _ h1, h2⟩
          · have hi2 : i * sm deep' ≤ 2 * sm deep' := Nat.mul_le_mul_right _ (by omega)
            refine ⟨_, rfl, _, rfl, _, rfl, _, _, rfl, rfl, d, many, deep', m + 1 + i * sm deep', ?_, by omega, by omega, ok, by omega, h4, fun x e H3 k3 hd3 hx ho he => q' x H3 k3 (hd3.mono (by rw [Nat.succ_mul]; omega)) ⟨e, hx, ho, by omega⟩⟩
            show [V.ref d, V.int (many : Nat), V.int (((deep' + 1 : Nat) : Int) - 1)] = _
            rw [show (((deep' + 1 : Nat) : Int) - 1) = (deep' : Nat) from by omega]
          · cases eD
            match vs, hvl with
            | [v0, v1, v2], _ =>
              obtain ⟨e0, ht0, ho0, hd0⟩ := hr1 0 v0 rfl
              obtain ⟨e1, ht1, ho1, hd1'⟩ := hr1 1 v1 rfl
              obtain ⟨e2, ht2, ho2, hd2'⟩ := hr1 2 v2 rfl
              have k02 := k1.trans k2
              by_cases hw3 : ((way : Nat) : Int) < 3
              · refine ⟨_, rfl, _, _, rfl, rfl, _, rfl, iteD hw3 ?_⟩
                refine ⟨_, rfl, D, _, 0, _, rfl, rfl, SqL.of hv, rfl, _, rfl, D, _, 1, _, rfl, rfl, SqL.of hv, rfl, sz3, fun t ht => ?_⟩
                have kt := Kp.new (S := no) ht (.tup [V.str "less", v0, v1])
                exact q (.ref t) (.less e0 e1) _ (k02.trans kt.w) ((ok.k kt (fun z => z)).mono (by omega)) (TD.mk3 upd_same (.str _) (ht0.k kt) (ht1.k kt)) ⟨ho0, ho1⟩ (by simp only [E.dep]; omega)
              · refine ⟨_, rfl, _, _, rfl, rfl, _, rfl, iteDN hw3 ?_⟩
                refine ⟨sz1, fun t ht => ?_⟩
                have kt := Kp.new (S := no) ht (.tup [V.str "pick"])
                refine ⟨_, rfl, D, _, rfl, .inl ⟨SqL.of (kt.get hv), fun t2 ht2' => ?_⟩⟩
                have kt2 := Kp.new (S := no) ht2' (.tup [v0, v1, v2])
                refine catA (kt2.get upd_same) upd_same (szL (by show 1 + 3 ≤ 100000; decide)) fun c H3 k3 hc => ?_
                have kt3 := (kt.trans kt2).trans k3
                exact q (.ref c) (.pick e0 e1 e2) H3 (k02.trans kt3.w) ((ok.k kt3 (fun z => z)).mono (by omega)) (.tup hc (.cons (.str _) (.cons (ht0.k kt3) (.cons (ht1.k kt3) (.cons (ht2.k kt3) .nil))))) ⟨ho0, ho1, ho2⟩ (by simp only [E.dep]; omega)
def spLWorths : Sp := fun vs H Q _ => ∃ (n : Nat), vs = [.int (n : Nat)] ∧ n ≤ 8 ∧ ∀ p us H', Kp no H H' → H p = none → H' p = some (.lst us) → TDs H' us ((W n).map inD) → Q (.ref p) H'
theorem l_worths (B : Bi mg) (D : Df K mg "_law_worths" s_l_worths ["_law_many"]) : Fn P w K mg base CX0 1 "_law_worths" ["_law_many"] spLWorths := by
  refine D.fn sc_l_worths (fun vs H Q E h => ?_) (fun f cdv A outer s H vs Q E hr h => ?_)
  · obtain ⟨n, rfl, _⟩ := h
    rfl
  · obtain ⟨n, rfl, h8, q⟩ := h
    -- _law_worths  slots: 0 _law_many, 1 _law_number, 2 _law_k
    refine ⟨_, (pss_one (ps_ret (pe_lc (own := [("_law_number", 1)]) (g := (gName 1)) (tt := tYes) rfl sc_l_worths.nd (pi_range1 (by rfl) B.range (pa_cons (pe_op op_shl pe_int (pv 0)) pa_nil)) (blkOk_by (by kernel_rfl)) (fun _ _ _ _ _ => (pg_name (i := 1) sc_l_worths.nd rfl (by first | exact Or.inl rfl | exact Or.inr rfl))) (fun _ _ _ _ _ => pts_nil) (fun _ _ _ _ _ => (pe_tupOf K B (pa_cons (pe_lc (own := [("_law_k", 2)]) (g := (gName 2)) (tt := tYes) rfl sc_l_worths.nd (pi_range3 (by rfl) B.range (pa_cons (pe_op op_sub (pv 0) pe_int) (pa_cons (pe_un un_neg pe_int) (pa_cons (pe_un un_neg pe_int) pa_nil)))) (blkOk_by (by kernel_rfl)) (fun _ _ _ _ _ => (pg_name (i := 2) sc_l_worths.nd rfl (by first | exact Or.inl rfl | exact Or.inr rfl))) (fun _ _ _ _ _ => pts_nil) (fun _ _ _ _ _ => (pe_op op_andM (pe_op op_shr (pv 1) (pv 2)) pe_int))) pa_nil)))))), ?_⟩
    have h2 : 2 ^ n ≤ 256 := Nat.pow_le_pow_right (by decide) h8
    have ep : (1 : Int) * 2 ^ ((n : Int)).toNat = ((2 ^ n : Nat) : Int) := by
      rw [Int.one_mul, Int.toNat_natCast]
      exact (Int.natCast_pow 2 n).symm
    have b1 : -(2 ^ 62) ≤ ((2 ^ n : Nat) : Int) := Int.le_trans (by decide) (Int.natCast_nonneg _)
    have b2 : ((2 ^ n : Nat) : Int) < 2 ^ 62 := Int.lt_of_le_of_lt (Int.ofNat_le.mpr h2) (by decide)
    refine ⟨_, rfl, _, _, rfl, rfl, ⟨by omega, by omega, by decide⟩, _, rfl, by rw [ep]; exact b1, by rw [ep]; exact b2, ?_⟩
    rw [ep]
    refine lp_R (lo := 0) (n := 2 ^ n) (szLt (by omega)) (RD ((W n).map inD)) RD.kt (fun i y H2 hi hy k2 Q' q' => ?_) fun D vs H2 hD k2 hv hvl hr1 => ?_
    · subst hy
      refine ⟨_, rfl, _, _, rfl, rfl, _, rfl, _, rfl, _, _, _, _, rfl, RgC.neg (by omega) (by omega) (by decide) (by decide), ?_⟩
      rw [show ((n : Int) - 1 - -1).toNat = n from by omega]
      refine fun D hD => lcD hD (lp_C (lo := (n : Int) - 1) (c := -1) (n := n) (szLt (by omega)) (fun j v _ => v = .int ((i / 2 ^ (n - 1 - j) % 2 : Nat) : Int)) (fun _ _ _ _ _ h => h) (fun j z H3 hj hz k3 Q2 q2 => ?_) fun D' vs H3 _ k3 hv3 hvl3 hr3 eD => ?_)
      · subst hz
        have ej : ((n : Int) - 1 + (j : Nat) * -1) = ((n - 1 - j : Nat) : Int) := by omega
        refine ⟨_, rfl, _, rfl, _, _, rfl, rfl, by show (0 : Int) ≤ (n : Int) - 1 + (j : Nat) * -1; omega, _, 1, rfl, rfl, q2 _ H3 (Kp.refl H3) ?_⟩
        show V.int ((0 + (i : Int)) / 2 ^ ((n : Int) - 1 + (j : Nat) * -1).toNat % 2 ^ 1) = _
        rw [ej, Int.toNat_natCast, Int.zero_add]
        congr 1
      · cases eD
        have e2 : vs = (lawRow n i).map V.int := by
          unfold lawRow
          rw [List.map_map]
          refine List.ext_getElem? fun j => ?_
          by_cases hj : j < n
          · rw [List.getElem?_map, List.getElem?_range hj, List.getElem?_eq_getElem (by omega)]
            exact congrArg some (hr3 j _ (List.getElem?_eq_getElem (by omega)))
          · rw [List.getElem?_eq_none (by omega), List.getElem?_eq_none (by rw [List.length_map, List.length_range]; omega)]
        refine ⟨D, vs, rfl, .inl ⟨SqL.of hv3, fun t ht => q' _ _ (k3.trans (Kp.new ht _)) ⟨inD (lawRow n i), ?_, TD.ints (by rw [upd_same, e2])⟩⟩⟩
        rw [← LW_eq]
        unfold LW
        rw [List.getElem?_map, List.getElem?_map, List.getElem?_range hi]
        rfl
    · exact q D vs H2 k2 hD hv (RD.all (by rw [hvl, List.length_map, length_W]) hr1)
end
end SW
/-! SwL7: what an expression comes to, by the law's own hand. -/
namespace SW
open PySem PySem.Spec PyProof.Rows L2
section
variable {P : Program} {w : World} {K : PySem.W.Frag} {mg : Str → Option Value} {base : Heap}
theorem less_in : ¬ V.str "less" = V.str "in" := by decide +kernel
def spComesTo (n : Nat) : Sp := fun vs H Q _ => ∃ (e : E) (ns : List Int) (v : V) (c : Addr), vs = [v, .ref c] ∧ e.dep ≤ n ∧ e.Ok ns.length ∧ Bits ns ∧ TD H v e.D ∧ H c = some (.tup (ns.map V.int)) ∧ ∀ H', Kp no H H' → Q (.int (e.ev ns)) H'
theorem bit_less {a b : Int} (ha : a = 0 ∨ a = 1) (hb : b = 0 ∨ b = 1) : (if decide ([a, b] = [0, 1]) = true then (1 : Int) else 0) = if a < b then 1 else 0 := by
  rcases ha with rfl | rfl <;> rcases hb with rfl | rfl <;> decide
theorem l_comes_to (B : Bi mg) (D : Df K mg "_law_comes_to" s_l_comes_to ["_law_expression", "_law_numbers"]) : ∀ n : Nat, Fn P w K mg base CX0 (n + 1) "_law_comes_to" ["_law_expression", "_law_numbers"] (spComesTo n)
  | 0 => by
    refine D.fn sc_l_comes_to (fun vs H Q EX h => ?_) (fun f cdv A outer s H vs Q EX hr h => ?_)
    · obtain ⟨e, ns, v, c, rfl, _⟩ := h
      rfl
    · obtain ⟨e, ns, v, c, rfl, hd, _⟩ := h
      have := e.dep_pos
      omega
  | n + 1 => by
    have F_l_comes_to := l_comes_to B D n
    refine D.fn sc_l_comes_to (fun vs H Q EX h => ?_) (fun f cdv A outer s H vs Q EX hr h => ?_)
    · obtain ⟨e, ns, v, c, rfl, _⟩ := h
      rfl
    · obtain ⟨e, ns, v, c, rfl, hd, ho, hbit, hv, hc, q⟩ := h
      -- _law_comes_to  slots: 0 _law_expression, 1 _law_numbers, 2 _law_some, 3 _law_part
      refine ⟨_, (pss_cons (ps_if (pt_cmpR op_eq (pe_ixT K (pv 0) pe_int) pe_str (nomark _))
      (pss_one (ps_ret (pe_ixT K (pv 1) (pe_ixT K (pv 0) pe_int))))
      pss_nil)
    (pss_cons (ps_if (pt_cmpR op_eq (pe_ixT K (pv 0) pe_int) pe_str (nomark _))
      (pss_one (ps_ret (pe_ixT K (pv 0) pe_int)))
      pss_nil)
    (pss_cons (ps_setLc (i := 2) (own := [("_law_part", 3)]) (g := (gName 3)) (tt := tYes) rfl sc_l_comes_to.nd rfl rfl (sw_true rfl rfl rfl (by decide +kernel)) (pi_tup (pe_slT K (pv 0) (po_some pe_int) po_none)) (blkOk_by (by kernel_rfl)) (fun _ _ _ _ _ => (pg_name (i := 3) sc_l_comes_to.nd rfl (by first | exact Or.inl rfl | exact Or.inr rfl))) (fun _ _ _ _ _ => pts_nil) (fun _ _ _ _ _ => (pe_fn F_l_comes_to (hr.mono (by omega)) (pa_cons (pv 3) (pa_cons (pv 1) pa_nil)))))
    (pss_cons (ps_if (pt_cmpR op_eq (pe_ixT K (pv 0) pe_int) pe_str (nomark _))
      (pss_one (ps_ret (pe_intB B (pa_cons (pe_eqD K hr.units (pv 2) (pe_lst (pa_cons pe_int (pa_cons pe_int pa_nil)))) pa_nil))))
      pss_nil)
    (pss_one (ps_ret (pe_ixL K (pe_lst (pa_cons (pe_ixL K (pv 2) pe_int) (pa_cons (pe_ixL K (pv 2) pe_int) pa_nil))) (pe_ixL K (pv 2) pe_int)))))))), ?_⟩
      rcases cp_or e with ⟨i, rfl⟩ | ⟨i, rfl⟩ | cp
      · obtain ⟨a, rfl, ha⟩ := exp_inp hv
        refine ⟨_, rfl, a, _, 0, _, rfl, rfl, SqT.of ha, rfl, rfl, _, rfl, iteD rfl ?_⟩
        have ho' : i < ns.length := ho
        have hci : ns[i]? = some ns[i] := List.getElem?_eq_getElem ho'
        have e1 : E.ev ns (.inp i) = ns[i] := by
          show ns.getD i 0 = _
          rw [List.getD_eq_getElem?_getD, hci]
          rfl
        refine ⟨_, rfl, _, rfl, a, _, 1, _, rfl, rfl, SqT.of ha, rfl, c, _, i, _, rfl, rfl, SqT.of hc, atI_nat (by rw [List.getElem?_map, hci, ← e1]; rfl), q H (Kp.refl H)⟩
      · obtain ⟨a, rfl, ha⟩ := exp_num hv
        refine ⟨_, rfl, a, _, 0, _, rfl, rfl, SqT.of ha, rfl, rfl, _, rfl, iteDN num_in ?_⟩
        refine ⟨_, rfl, a, _, 0, _, rfl, rfl, SqT.of ha, rfl, rfl, _, rfl, iteD rfl ?_⟩
        exact ⟨_, rfl, a, _, 1, _, rfl, rfl, SqT.of ha, rfl, q H (Kp.refl H)⟩
      · obtain ⟨a, xs, rfl, ha, hxs⟩ := exp_cp cp hv
        have at0 : atI (V.str e.wd :: xs) 0 = some (V.str e.wd) := atI_nat (j := 0) (show (V.str e.wd :: xs)[0]? = some (V.str e.wd) from rfl)
        have lx := hxs.length
        rw [List.length_map] at lx
        have h3 := e.c3
        refine ⟨_, rfl, a, _, 0, _, rfl, rfl, SqT.of ha, at0, rfl, _, rfl, iteDN (wd_in cp) ?_⟩
        refine ⟨_, rfl, a, _, 0, _, rfl, rfl, SqT.of ha, at0, rfl, _, rfl, iteDN (wd_num cp) ?_⟩
        refine ⟨_, rfl, _, rfl, ?_⟩
        refine slN ha fun c2 H1 k1 hc2 => ?_
        have ec : cutV (V.str e.wd :: xs) (some ((1 : Nat) : Int)) none = xs := by rw [cut_from]; rfl
        rw [show (1 : Int) = ((1 : Nat) : Int) from rfl, ec] at hc2
        refine ⟨c2, rfl, ⟨_, SqT.of hc2⟩, fun D hD => lcD hD (lp_T hc2 (szLt (by omega)) (fun i v _ => ∃ b, e.prt[i]? = some b ∧ v = .int (b.ev ns)) (fun _ _ _ _ _ h => h) (fun i x H2 hi hx k2 Q' q' => ?_) fun D' vs H2 _ k2 hv2 hvl hr1 eD => ?_)⟩
        · obtain ⟨d, hd1, hxd⟩ := hxs.at' hx
          rw [List.getElem?_map] at hd1
          obtain ⟨b, hb, rfl⟩ := Option.map_eq_some_iff.mp hd1
          have hbm := List.mem_of_getElem? hb
          have k02 := k1.trans k2
          exact ⟨_, rfl, _, rfl, b, ns, x, c, rfl, by have := E.cDep cp b hbm; omega, E.cOk cp ho b hbm, hbit, hxd.k k02, k02.get hc, fun H3 k3 => q' _ H3 k3 ⟨b, hb, rfl⟩⟩
        · cases eD
          have hall : vs = e.prt.map fun a => V.int (a.ev ns) := by
            refine List.ext_getElem? fun i => ?_
            by_cases hi : i < vs.length
            · obtain ⟨b, hb, hv⟩ := hr1 i vs[i] (List.getElem?_eq_getElem hi)
              rw [List.getElem?_map, hb, List.getElem?_eq_getElem hi, hv]
              rfl
            · rw [List.getElem?_eq_none (by omega), List.getElem?_eq_none (by rw [List.length_map]; omega)]
          rw [hall] at hv2
          have k02 := k1.trans k2
          have ha2 := k02.get ha
          cases e with
          | inp i => cases cp
          | num i => cases cp
          | less x y =>
            have hv3 : H2 D = some (.lst ([x.ev ns, y.ev ns].map V.int)) := hv2
            have bx := E.ev_bit hbit x ho.1
            have by_ := E.ev_bit hbit y ho.2
            refine ⟨_, rfl, a, _, 0, _, rfl, rfl, SqT.of ha2, at0, rfl, _, rfl, iteD rfl ?_⟩
            refine ⟨_, rfl, sz2, fun l hl => ?_⟩
            have kl := Kp.new (S := no) hl (.lst [V.int 0, V.int 1])
            refine ⟨.list ([x.ev ns, y.ev ns].map .int), .list (([0, 1] : List Int).map .int), .lst (SqL.of (kl.get hv3)) (TDs.dp _ _ (TDs.ints _)), .lst (SqL.of upd_same) (TDs.dp _ _ (TDs.ints [0, 1])), (Lays.lst (n := 0) (Lays.map fun i _ => .int)).sh (by decide), (Lays.lst (n := 0) (Lays.map fun i _ => .int)).sh (by decide), .inr ⟨_, rfl, ?_⟩⟩
            rw [eqv_lin, bit_less bx by_]
            exact q _ (k02.trans kl)
          | pick x y z =>
            have hv3 : H2 D = some (.lst [.int (x.ev ns), .int (y.ev ns), .int (z.ev ns)]) := hv2
            have bx := E.ev_bit hbit x ho.1
            refine ⟨_, rfl, a, _, 0, _, rfl, rfl, SqT.of ha2, at0, rfl, _, rfl, iteDN pk3 ?_⟩
            refine ⟨_, rfl, D, _, 2, _, rfl, rfl, SqL.of hv3, rfl, _, rfl, D, _, 1, _, rfl, rfl, SqL.of hv3, rfl, sz2, fun l hl => ?_⟩
            have kl := Kp.new (S := no) hl (.lst [V.int (z.ev ns), V.int (y.ev ns)])
            refine ⟨_, rfl, D, _, 0, _, rfl, rfl, SqL.of (kl.get hv3), rfl, ?_⟩
            have qq := q _ (k02.trans kl)
            have ee : E.ev ns (.pick x y z) = if x.ev ns ≠ 0 then y.ev ns else z.ev ns := rfl
            rw [ee] at qq
            rcases bx with h0 | h1
            · rw [h0, if_neg (fun z => z rfl)] at qq
              rw [h0]
              exact ⟨l, _, 0, _, rfl, rfl, SqL.of upd_same, rfl, qq⟩
            · rw [h1, if_pos (by decide)] at qq
              rw [h1]
              exact ⟨l, _, 1, _, rfl, rfl, SqL.of upd_same, rfl, qq⟩
end
end SW
/-! SwL8: the law's fillings. -/
namespace SW
open PySem PySem.Spec PyProof.Rows L2
theorem all_ex {many n : Nat} {H : Hp} : ∀ {vs : List V}, (∀ (i : Nat) (v : V), vs[i]? = some v → REx many n i v H) → ∃ es : List E, TDs H vs (es.map E.D) ∧ es.length = vs.length ∧ ∀ e ∈ es, e.Ok many ∧ e.dep ≤ n
  | [], _ => ⟨[], .nil, rfl, fun e h => (by cases h)⟩
  | v :: r, h => by
    obtain ⟨e, h1, h2⟩ := h 0 v rfl
    obtain ⟨es, h3, h4, h5⟩ := all_ex (vs := r) fun i v q => h (i + 1) v q
    refine ⟨e :: es, .cons h1 h3, by rw [List.length_cons, List.length_cons, h4], fun x hx => ?_⟩
    rcases List.mem_cons.mp hx with z | z
    · rw [z]; exact h2
    · exact h5 x z
theorem getD_old {fl : Fl} {es : List E} {i : Nat} (h : i < fl.length) : (fl ++ [es]).getD i [] = fl.getD i [] := by
  rw [List.getD_eq_getElem?_getD, List.getD_eq_getElem?_getD, List.getElem?_append_left h]
theorem getD_last {fl : Fl} {es : List E} : (fl ++ [es]).getD fl.length [] = es := by
  rw [List.getD_eq_getElem?_getD, List.getElem?_append_right (Nat.le_refl _), Nat.sub_self]
  rfl
theorem due_old {fl : Fl} {es : List E} {i : Nat} (h : i < fl.length) (w : List Int) : due (fl ++ [es]) i w = due fl i w := by
  unfold due
  rw [getD_old h]
theorem due_last {fl : Fl} {es : List E} (w : List Int) : due (fl ++ [es]) fl.length w = es.map (E.ev w) := by
  unfold due
  rw [getD_last]
theorem tab_old {k : Kit} {fl : Fl} {es : List E} : (List.range fl.length).map (tabD k (fl ++ [es])) = (List.range fl.length).map (tabD k fl) := by
  refine List.map_congr_left fun i hi => ?_
  have h := List.mem_range.mp hi
  unfold tabD
  congr 1
  refine List.map_congr_left fun w _ => ?_
  rw [due_old h]
theorem rel_old {k : Kit} {fl : Fl} {es : List E} : (List.range fl.length).map (relD k (fl ++ [es])) = (List.range fl.length).map (relD k fl) := by
  refine List.map_congr_left fun i hi => ?_
  have h := List.mem_range.mp hi
  unfold relD
  congr 1
  refine List.map_congr_left fun w _ => ?_
  rw [due_old h]
theorem lays_in {w : List Int} : Lays (inD w) 1 := .tup (Lays.map fun i _ => .int)
theorem if_dec {c : Prop} [Decidable c] : (if decide c = true then (1 : Int) else 0) = if c then 1 else 0 := by
  by_cases h : c
  · rw [if_pos h, if_pos (decide_eq_true h)]
  · rw [if_neg h, if_neg (by rw [decide_eq_false h]; exact Bool.false_ne_true)]
section
variable {P : Program} {w : World} {K : PySem.W.Frag} {mg : Str → Option Value} {base : Heap}
def spFillings : Sp := fun vs H Q _ => ∃ (k : Kit) (v : V) (d : Addr), vs = [.ref d, v] ∧ KitAt H v k ∧ k.Good ∧ DkAt H d 0 ∧ ∀ y fl H', Kp (one d) H H' → FlGood k fl → TD H' y (.tuple [flD fl, tabsD k fl, relsD k fl]) → Q y H'
theorem l_fillings (B : Bi mg) (D : Df K mg "_law_fillings" s_l_fillings ["_law_deck_here", "_law_kit_here"]) (F_l_small : Fn P w K mg base CX0 5 "_law_small" ["_law_deck_here", "_law_many", "_law_deep"] (spSmall 3))
    (F_l_worths : Fn P w K mg base CX0 1 "_law_worths" ["_law_many"] spLWorths) (F_l_comes_to : Fn P w K mg base CX0 4 "_law_comes_to" ["_law_expression", "_law_numbers"] (spComesTo 3)) :
    Fn P w K mg base CX0 6 "_law_fillings" ["_law_deck_here", "_law_kit_here"] spFillings := by
  refine D.fn sc_l_fillings (fun vs H Q EX h => ?_) (fun f cdv A outer s H vs Q EX hr h => ?_)
  · obtain ⟨k, v, d, rfl, _⟩ := h
    rfl
  · obtain ⟨k, v, d, rfl, hk, G, hd, q⟩ := h
    obtain ⟨a, so, b, bs, rfl, ha, ⟨ob, hso, hoc, hod⟩, hb, hbs⟩ := kit_inv hk
    have soat : SoAt H so k.so := ⟨ob, hso, hoc, hod⟩
    have so1 := G.so1
    have so4 := G.so4
    have b8 := G.b8
    have lb := hbs.length
    rw [List.length_map] at lb
    -- _law_fillings  slots: 0 _law_deck_here, 1 _law_kit_here, 2 _law_programs, 3 _law_tables, 4 _law_relations, 5 _law_sizes, 6 _law_name, 7 _law_above, 8 _law_below, 9 _law_rows, 10 _law_pairs, 11 _law_worths_here, 12 _law_due, 13 _law_sort, 14 _law_expression, 15 _law_end
    refine ⟨_, (pss_cons (ps_set (i := 2) sc_l_fillings.nd rfl (Or.inl rfl) (pe_lst pa_nil))
    (pss_cons (ps_set (i := 3) sc_l_fillings.nd rfl (Or.inl rfl) (pe_lst pa_nil))
    (pss_cons (ps_set (i := 4) sc_l_fillings.nd rfl (Or.inl rfl) (pe_lst pa_nil))
    (pss_cons (ps_for PassesOwn.never rfl (pi_tup (pe_ixT K (pv 1) pe_int)) (pg_tup (by rfl) (pgs_cons (pg_name (i := 6) sc_l_fillings.nd rfl (by first | exact Or.inl rfl | exact Or.inr rfl)) (pgs_cons (pg_name (i := 7) sc_l_fillings.nd rfl (by first | exact Or.inl rfl | exact Or.inr rfl)) (pgs_cons (pg_name (i := 8) sc_l_fillings.nd rfl (by first | exact Or.inl rfl | exact Or.inr rfl)) pgs_nil))))
      (pss_cons (ps_expr (pe_bmK K (r := rAppend) PySem.F.plainAttrs_list PySem.F.slot_list_append PySem.F.type_list_append mt_append (pv 2) (pa_cons (pe_tupOf K B (pa_cons (pe_lc (own := [("_law_sort", 13)]) (g := (gName 13)) (tt := tYes) rfl sc_l_fillings.nd (pi_tup (pv 8)) (blkOk_by (by kernel_rfl)) (fun _ _ _ _ _ => (pg_name (i := 13) sc_l_fillings.nd rfl (by first | exact Or.inl rfl | exact Or.inr rfl))) (fun _ _ _ _ _ => pts_nil) (fun _ _ _ _ _ => (pe_fn F_l_small (hr.mono (by omega)) (pa_cons (pv 0) (pa_cons (pe_len K B (pa_cons (pv 7) pa_nil)) (pa_cons pe_int pa_nil)))))) pa_nil)) pa_nil)))
      (pss_cons (ps_set (i := 9) sc_l_fillings.nd rfl (Or.inl rfl) (pe_lst pa_nil))
      (pss_cons (ps_set (i := 10) sc_l_fillings.nd rfl (Or.inl rfl) (pe_lst pa_nil))
      (pss_cons (ps_for PassesOwn.never rfl (pi_list (pe_fn F_l_worths (hr.mono (by omega)) (pa_cons (pe_len K B (pa_cons (pv 7) pa_nil)) pa_nil))) (pg_name (i := 11) sc_l_fillings.nd rfl (by first | exact Or.inl rfl | exact Or.inr rfl))
        (pss_cons (ps_set (i := 12) sc_l_fillings.nd rfl (Or.inr rfl) (pe_tupOf K B (pa_cons (pe_lc (own := [("_law_expression", 14)]) (g := (gName 14)) (tt := tYes) rfl sc_l_fillings.nd (pi_tup (pe_ixL K (pv 2) (pe_un un_neg pe_int))) (blkOk_by (by kernel_rfl)) (fun _ _ _ _ _ => (pg_name (i := 14) sc_l_fillings.nd rfl (by first | exact Or.inl rfl | exact Or.inr rfl))) (fun _ _ _ _ _ => pts_nil) (fun _ _ _ _ _ => (pe_fn F_l_comes_to (hr.mono (by omega)) (pa_cons (pv 14) (pa_cons (pv 11) pa_nil))))) pa_nil)))
        (pss_cons (ps_expr (pe_bmK K (r := rAppend) PySem.F.plainAttrs_list PySem.F.slot_list_append PySem.F.type_list_append mt_append (pv 9) (pa_cons (pe_tupOf K B (pa_cons (pe_lc (own := [("_law_end", 15)]) (g := (gName 15)) (tt := tYes) rfl sc_l_fillings.nd (pi_list (pe_fn F_l_worths (hr.mono (by omega)) (pa_cons (pe_len K B (pa_cons (pv 8) pa_nil)) pa_nil))) (blkOk_by (by kernel_rfl)) (fun _ _ _ _ _ => (pg_name (i := 15) sc_l_fillings.nd rfl (by first | exact Or.inl rfl | exact Or.inr rfl))) (fun _ _ _ _ _ => pts_nil) (fun _ _ _ _ _ => (pe_intB B (pa_cons (pe_eqD K hr.units (pv 15) (pv 12)) pa_nil)))) pa_nil)) pa_nil)))
        (pss_one (ps_expr (pe_bmK K (r := rAppend) PySem.F.plainAttrs_list PySem.F.slot_list_append PySem.F.type_list_append mt_append (pv 10) (pa_cons (pe_tup (pa_cons (pv 11) (pa_cons (pv 12) pa_nil))) pa_nil)))))))
      (pss_cons (ps_expr (pe_bmK K (r := rAppend) PySem.F.plainAttrs_list PySem.F.slot_list_append PySem.F.type_list_append mt_append (pv 3) (pa_cons (pe_tupOf K B (pa_cons (pv 9) pa_nil)) pa_nil)))
      (pss_one (ps_expr (pe_bmK K (r := rAppend) PySem.F.plainAttrs_list PySem.F.slot_list_append PySem.F.type_list_append mt_append (pv 4) (pa_cons (pe_tupOf K B (pa_cons (pv 10) pa_nil)) pa_nil))))))))))
    (pss_cons (ps_set (i := 5) sc_l_fillings.nd rfl (Or.inl rfl) (pe_repT K (pe_tup (pa_cons pe_int pa_nil)) (pe_len K B (pa_cons (pe_ixT K (pv 1) pe_int) pa_nil))))
    (pss_one (ps_ret (pe_tup (pa_cons (pe_tupOf K B (pa_cons (pv 2) pa_nil)) (pa_cons (pe_tup (pa_cons (pv 5) (pa_cons (pe_tupOf K B (pa_cons (pv 3) pa_nil)) pa_nil))) (pa_cons (pe_tup (pa_cons (pv 5) (pa_cons (pe_tupOf K B (pa_cons (pv 4) pa_nil)) pa_nil))) pa_nil))))))))))), ?_⟩
    refine ⟨sz0, fun lp hlp => ⟨sz0, fun lt hlt => ⟨sz0, fun lr hlr => ?_⟩⟩⟩
    have kp := Kp.new (S := no) hlp (.lst [])
    have kt := Kp.new (S := no) hlt (.lst [])
    have kr := Kp.new (S := no) hlr (.lst [])
    obtain ⟨H1, eH1⟩ : ∃ H1, H1 = upd (upd (upd H lp (.lst [])) lt (.lst [])) lr (.lst []) := ⟨_, rfl⟩
    have k01 : Kp no H H1 := by rw [eH1]; exact (kp.trans kt).trans kr
    have hlp1 : H1 lp = some (.lst []) := by rw [eH1]; exact (kt.trans kr).get upd_same
    have hlt1 : H1 lt = some (.lst []) := by rw [eH1]; exact kr.get upd_same
    have hlr1 : H1 lr = some (.lst []) := by rw [eH1]; exact upd_same
    have nlt : H lt = none := kp.none (fun z => z) hlt
    have nlr : H lr = none := (kp.trans kt).none (fun z => z) hlr
    have npt : lp ≠ lt := ne_of_none upd_same hlt
    have npr : lp ≠ lr := ne_of_none (kt.get upd_same) hlr
    have ntr : lt ≠ lr := ne_of_none upd_same hlr
    have ndp : lp ≠ d := (hd.ne hlp).symm
    have ndt : lt ≠ d := (hd.ne nlt).symm
    have ndr : lr ≠ d := (hd.ne nlr).symm
    rw [← eH1]
    refine ⟨_, rfl, a, _, 2, _, rfl, rfl, SqT.of (k01.get ha), rfl, b, rfl, ⟨_, SqT.of (k01.get hb)⟩, for_tup (K := K) (a := b) (xs := bs) (fun j σ H' => ∃ (fl : Fl) (pv tv rv : List V) (o6 o7 o8 o9 o10 o11 o12 : Option V), σ = [some (.ref d), some (.ref a), some (.ref lp), some (.ref lt), some (.ref lr), none, o6, o7, o8, o9, o10, o11, o12, none, none, none] ∧ Kp (one d) H H' ∧ DkAt H' d (160 * j) ∧ H' lp = some (.lst pv) ∧ H' lt = some (.lst tv) ∧ H' lr = some (.lst rv) ∧
        TDs H' pv (fl.map fun es => .tuple (es.map E.D)) ∧ TDs H' tv ((List.range fl.length).map (tabD k fl)) ∧ TDs H' rv ((List.range fl.length).map (relD k fl)) ∧ fl.length = j ∧ (∀ i, i < j → (fl.getD i []).length = (k.at i).be.length ∧ ∀ e ∈ fl.getD i [], e.Ok (k.at i).ab.length ∧ e.dep ≤ 3))
      ⟨[], [], [], [], _, _, _, _, _, _, _, rfl, k01.w, hd.k k01 (fun z => z), hlp1, hlt1, hlr1, .nil, .nil, .nil, rfl, fun i hi => absurd hi (Nat.not_lt_zero _)⟩ (fun j σ H' _ ⟨_, _, _, _, _, _, _, _, _, _, _, _, z, _⟩ => SqT.of (z.kt _ _ hb)) ?_ ?_⟩
    · rintro j z σ H2 hj ⟨fl, pv, tv, rv, o6, o7, o8, o9, o10, o11, o12, rfl, k2, hd2, hlp2, hlt2, hlr2, hpv, htv, hrv, hfl, hok⟩
      obtain ⟨hjb, q0, a0, e0, rfl, hq0, ha0, he0⟩ := bs_at hbs hj
      have ga := G.ab _ (Kit.at_mem hjb)
      have ge := G.be _ (Kit.at_mem hjb)
      refine ⟨q0, _, rfl, SqT.of (k2.kt _ _ hq0), rfl, _, _, rfl, _, _, rfl, _, _, rfl, rfl, ?_⟩
      -- the program
      refine ⟨_, rfl, .inl ⟨rfl, _, SqL.of hlp2⟩, _, rfl, e0, rfl, ⟨_, SqT.of (k2.kt _ _ he0)⟩, fun D hD => lcD hD (lc_T (S := one d) (k2.kt _ _ he0) (szLt (by rw [List.length_map]; omega)) (fun i H => DkAt H d (160 * j + 39 * i)) (REx (k.at j).ab.length 3) hd2 hd2.some (fun i H D xs ys nS _ ok => ok.upd nS) (fun i v H H' kt h => ?_) (fun i y H3 hi hy k3 ok Q' q' => ?_) fun D' vs H3 _ k3 ok hv hvl hr1 eD => ?_)⟩
      · obtain ⟨e, h1, h2⟩ := h
        exact ⟨e, TD.kt kt _ _ h1, h2⟩
      · rw [List.length_map] at hi
        have e39 : sm 2 = 39 := rfl
        refine ⟨_, rfl, _, rfl, a0, _, rfl, .inr (SqT.of (k3.kt _ _ (k2.kt _ _ ha0))), d, (k.at j).ab.length, 2, 160 * j + 39 * i, by rw [List.length_map]; rfl, by decide, by decide, ok, by rw [e39]; omega, ga.1, fun x e H4 k4 hd4 hx ho he => q' x H4 k4 (hd4.mono (by rw [e39]; omega)) ⟨e, hx, ho, he⟩⟩
      cases eD
      obtain ⟨es, hes, les, hesok⟩ := all_ex hr1
      rw [hvl, List.length_map] at les
      refine ⟨D, vs, rfl, .inl ⟨SqL.of hv, fun tp htp => ?_⟩⟩
      have ktp := Kp.new (S := no) htp (.tup vs)
      have k23 : Kp (one d) H2 _ := k3.trans ktp.w
      have hlp3 := k23.but _ _ (fun z => ndp z) hlp2
      have lpv := hpv.length
      rw [List.length_map] at lpv
      refine ⟨lp, pv, .ref tp, rfl, rfl, hlp3, szLt (by omega), ?_⟩
      have kpp := Kp.put1 (o := .lst (pv ++ [.ref tp])) (lst_tup hlp3)
      obtain ⟨H4, eH4⟩ : ∃ H4, H4 = upd (upd H3 tp (.tup vs)) lp (.lst (pv ++ [.ref tp])) := ⟨_, rfl⟩
      have hlp4 : H4 lp = some (.lst (pv ++ [.ref tp])) := by rw [eH4]; exact upd_same
      have k04 : Kp (one d) H H4 := by rw [eH4]; exact (k2.trans k23).free hlp _
      have hlt3 := k23.but _ _ (fun z => ndt z) hlt2
      have hlr3 := k23.but _ _ (fun z => ndr z) hlr2
      rw [← eH4] at kpp ⊢
      have hlt4 := kpp.but _ _ (fun z => npt (show lt = lp from z).symm) hlt3
      have hlr4 := kpp.but _ _ (fun z => npr (show lr = lp from z).symm) hlr3
      have hd4 : DkAt H4 d (160 * (j + 1)) := ((ok.k ktp (fun z => z)).k kpp (fun z => ndp (show d = lp from z).symm)).mono (by rw [List.length_map]; omega)
      have htp4 : H4 tp = some (.tup vs) := kpp.kt _ _ upd_same
      have hes4 := (hes.k ktp).k kpp
      have hpv4 := (hpv.k k23).k kpp
      have htv4 := (htv.k k23).k kpp
      have hrv4 := (hrv.k k23).k kpp
      subst hfl
      have hdue : ∀ w, due (fl ++ [es]) fl.length w = es.map (E.ev w) := due_last
      have ha4 := k04.kt _ _ ha0
      have he4 := k04.kt _ _ he0
      -- rows, pairs
      refine ⟨sz0, fun ro hro => ⟨sz0, fun pa hpa => ?_⟩⟩
      have kro := Kp.new (S := no) hro (.lst [])
      have kpa := Kp.new (S := no) hpa (.lst [])
      obtain ⟨H5, eH5⟩ : ∃ H5, H5 = upd (upd H4 ro (.lst [])) pa (.lst []) := ⟨_, rfl⟩
      have k45 : Kp no H4 H5 := by rw [eH5]; exact kro.trans kpa
      have hro5 : H5 ro = some (.lst []) := by rw [eH5]; exact kpa.get upd_same
      have hpa5 : H5 pa = some (.lst []) := by rw [eH5]; exact upd_same
      have npa : H4 pa = none := kro.none (fun z => z) hpa
      have nrp : ro ≠ pa := ne_of_none upd_same hpa
      rw [← eH5]
      have hWn := W_le (n := (k.at fl.length).ab.length) (by omega)
      have hWm := W_le (n := (k.at fl.length).be.length) (by omega)
      refine ⟨_, rfl, a0, _, rfl, .inr (SqT.of (k45.get ha4)), (k.at fl.length).ab.length, by rw [List.length_map], by omega, fun pw us H6 k6 npw hpw hus => ?_⟩
      have k46 := k45.trans k6
      have lus := hus.length
      rw [List.length_map] at lus
      have hro6 := k6.get hro5
      have hpa6 := k6.get hpa5
      have nwr : pw ≠ ro := fun z => by rw [z, hro5] at npw; cases npw
      have nwp : pw ≠ pa := fun z => by rw [z, hpa5] at npw; cases npw
      refine ⟨pw, rfl, ⟨_, SqL.of hpw⟩, for_list (K := K) (a := pw) (xs := us) (fun l σ H' => ∃ (rws prs : List V) (o11 o12 : Option V), σ = [some (.ref d), some (.ref a), some (.ref lp), some (.ref lt), some (.ref lr), none, some (.str (k.at fl.length).nm), some (.ref a0), some (.ref e0), some (.ref ro), some (.ref pa), o11, o12, none, none, none] ∧ Kp no H4 H' ∧ H' pw = some (.lst us) ∧ TDs H' us ((W (k.at fl.length).ab.length).map inD) ∧ H' ro = some (.lst rws) ∧ H' pa = some (.lst prs) ∧
          TDs H' rws (((W (k.at fl.length).ab.length).take l).map fun w => onD (W (k.at fl.length).be.length) (due (fl ++ [es]) fl.length w)) ∧ TDs H' prs (((W (k.at fl.length).ab.length).take l).map fun w => prD w (due (fl ++ [es]) fl.length w)))
        ⟨[], [], _, _, rfl, k46, hpw, hus, hro6, hpa6, .nil, .nil⟩ (fun l σ H' _ ⟨_, _, _, _, _, _, z, _⟩ => SqL.of z) ?_ ?_⟩
      · rintro l z σ H7 hl ⟨rws, prs, o11, o12, rfl, k7, hpw7, hus7, hro7, hpa7, hrws, hprs⟩
        have hl2 : l < (W (k.at fl.length).ab.length).length := by
          have := (List.getElem?_eq_some_iff.mp hl).1
          omega
        have hwl : (W (k.at fl.length).ab.length)[l]? = some (W (k.at fl.length).ab.length)[l] := List.getElem?_eq_getElem hl2
        have hwm : (W (k.at fl.length).ab.length)[l] ∈ W (k.at fl.length).ab.length := List.getElem_mem hl2
        revert hwl hwm
        generalize (W (k.at fl.length).ab.length)[l] = wl
        intro hwl hwm
        obtain ⟨hwlen, hwb⟩ := mem_W.mp hwm
        obtain ⟨z2, hz2, hzd⟩ := hus7.at (d := inD wl) (i := l) (by rw [List.getElem?_map, hwl]; rfl)
        rw [hl] at hz2
        cases hz2
        obtain ⟨za, rfl, hza⟩ := hzd.ints_inv
        have htp7 := k7.get htp4
        -- what is due
        refine ⟨_, rfl, _, rfl, lp, _, -1, _, rfl, rfl, SqL.of (k7.get hlp4), atI_last _ _, tp, rfl, ⟨_, SqT.of htp7⟩, fun D2 hD2 => lcD hD2 (lp_T htp7 (szLt (by rw [hvl, List.length_map]; omega)) (fun i v _ => ∃ e, es[i]? = some e ∧ v = .int (e.ev wl)) (fun _ _ _ _ _ h => h) (fun i x H8 hi hx k8 Q' q' => ?_) fun D' vs2 H8 _ k8 hv2 hvl2 hr2 eD => ?_)⟩
        · have hes7 := (hes4.k k7).k k8
          obtain ⟨dd, hd1, hxd⟩ := hes7.at' hx
          rw [List.getElem?_map] at hd1
          obtain ⟨e, he, rfl⟩ := Option.map_eq_some_iff.mp hd1
          have hem := hesok e (List.mem_of_getElem? he)
          exact ⟨_, rfl, _, rfl, e, wl, x, za, rfl, hem.2, by rw [hwlen]; exact hem.1, hwb, hxd, k8.get hza, fun H9 k9 => q' _ H9 k9 ⟨e, he, rfl⟩⟩
        cases eD
        have hall : vs2 = (due (fl ++ [es]) fl.length wl).map V.int := by
          rw [hdue, List.map_map]
          have hvl4 : vs2.length = es.length := by rw [hvl2, hvl, List.length_map, les]
          refine List.ext_getElem? fun i => ?_
          by_cases hi : i < vs2.length
          · obtain ⟨e, he, hv⟩ := hr2 i vs2[i] (List.getElem?_eq_getElem hi)
            rw [List.getElem?_map, he, List.getElem?_eq_getElem hi, hv]
            rfl
          · rw [List.getElem?_eq_none (by omega), List.getElem?_eq_none (by rw [List.length_map]; omega)]
        refine ⟨D2, vs2, rfl, .inl ⟨SqL.of hv2, fun du hdu => ?_⟩⟩
        have kdu := Kp.new (S := no) hdu (.tup vs2)
        have k79 := k8.trans kdu
        obtain ⟨H9, eH9⟩ : ∃ H9, H9 = upd H8 du (.tup vs2) := ⟨_, rfl⟩
        have hdu9 : H9 du = some (.tup ((due (fl ++ [es]) fl.length wl).map V.int)) := by rw [eH9, ← hall]; exact upd_same
        rw [← eH9] at k79 ⊢
        have k49 := k7.trans k79
        -- the row
        refine ⟨_, rfl, .inl ⟨rfl, _, SqL.of (k79.get hro7)⟩, _, rfl, e0, _, rfl, .inr (SqT.of (k49.get he4)), (k.at fl.length).be.length, by rw [List.length_map], by omega, fun pe ue H10 k10 npe hpe hue => ?_⟩
        have lue := hue.length
        rw [List.length_map] at lue
        refine ⟨pe, rfl, ⟨_, SqL.of hpe⟩, fun D3 hD3 => lcD hD3 (lp_L (K := K) (xs := ue) (SqL.of hpe) (szLt (by omega)) (RD ((W (k.at fl.length).be.length).map fun e => .int (if e = due (fl ++ [es]) fl.length wl then 1 else 0))) RD.kt (fun i x H11 hi hx k11 Q' q' => ?_) fun D' vs3 H11 _ k11 hv3 hvl3 hr3 eD => ?_)⟩
        · have hi2 : i < (W (k.at fl.length).be.length).length := by omega
          have hei : (W (k.at fl.length).be.length)[i]? = some (W (k.at fl.length).be.length)[i] := List.getElem?_eq_getElem hi2
          obtain ⟨z2, hz2, hzd2⟩ := (hue.k k11).at (d := inD (W (k.at fl.length).be.length)[i]) (i := i) (by rw [List.getElem?_map, hei]; rfl)
          rw [hx] at hz2
          cases hz2
          refine ⟨_, rfl, _, rfl, inD (W (k.at fl.length).be.length)[i], inD (due (fl ++ [es]) fl.length wl), hzd2.dp, (TD.ints (k11.get (k10.get hdu9))).dp, lays_in.sh (by decide), lays_in.sh (by decide), .inr ⟨_, rfl, ?_⟩⟩
          rw [eqv_in, if_dec]
          exact q' _ H11 (Kp.refl H11) ⟨_, by rw [List.getElem?_map, hei]; rfl, .int _⟩
        cases eD
        have hrow := RD.all (H := H11) (by rw [hvl3, List.length_map, lue]) hr3
        have k911 := k10.trans k11
        refine ⟨D3, vs3, rfl, .inl ⟨SqL.of hv3, fun tr htr => ?_⟩⟩
        have ktr := Kp.new (S := no) htr (.tup vs3)
        have k712 := (k79.trans k911).trans ktr
        have hro12 := k712.get hro7
        have lrw := hrws.length
        rw [List.length_map, List.length_take] at lrw
        have lpr := hprs.length
        rw [List.length_map, List.length_take] at lpr
        refine ⟨ro, rws, .ref tr, rfl, rfl, hro12, szLt (by omega), ?_⟩
        have kr1 := Kp.put1 (o := .lst (rws ++ [.ref tr])) (lst_tup hro12)
        obtain ⟨H13, eH13⟩ : ∃ H13, H13 = upd (upd H11 tr (.tup vs3)) ro (.lst (rws ++ [.ref tr])) := ⟨_, rfl⟩
        have hro13 : H13 ro = some (.lst (rws ++ [.ref tr])) := by rw [eH13]; exact upd_same
        have k413 : Kp no H4 H13 := by rw [eH13]; exact (k7.trans k712).free hro _
        rw [← eH13] at kr1 ⊢
        have hpa13 := kr1.but _ _ (fun z => nrp (show pa = ro from z).symm) (k712.get hpa7)
        have hza13 := kr1.kt _ _ (k712.get hza)
        have hdu13 := kr1.kt _ _ ((k911.trans ktr).get hdu9)
        -- the pair
        refine ⟨_, rfl, .inl ⟨rfl, _, SqL.of hpa13⟩, _, rfl, _, rfl, sz2, fun t ht => ?_⟩
        have kt2 := Kp.new (S := no) ht (.tup [V.ref za, V.ref du])
        have hpa14 := kt2.get hpa13
        refine ⟨pa, prs, .ref t, rfl, rfl, hpa14, szLt (by omega), ?_⟩
        have kp1 := Kp.put1 (o := .lst (prs ++ [.ref t])) (lst_tup hpa14)
        have kch : ∀ {ys ds}, TDs H7 ys ds → TDs (upd (upd H13 t (.tup [V.ref za, V.ref du])) pa (.lst (prs ++ [.ref t]))) ys ds := fun {ys ds} h => (((h.k k712).k kr1).k kt2).k kp1
        refine ⟨_, _, _, _, rfl, (k413.trans kt2).free npa _, kp1.but _ _ (fun z => nwp z) (kt2.get (kr1.but _ _ (fun z => nwr z) (k712.get hpw7))), kch hus7, kp1.but _ _ (fun z => nrp z) (kt2.get hro13), upd_same, ?_, ?_⟩
        · rw [take_snoc hwl, List.map_append]
          refine (kch hrws).append (.cons ?_ .nil)
          exact (((TD.tup (upd_same (H := H11) (a := tr)) (hrow.k ktr)).k kr1).k kt2).k kp1
        · rw [take_snoc hwl, List.map_append]
          refine (kch hprs).append (.cons ?_ .nil)
          exact (TD.mk2 upd_same (TD.ints (kt2.get hza13)) (TD.ints (kt2.get hdu13))).k kp1
      · rintro σ H7 ⟨rws, prs, o11, o12, rfl, k7, hpw7, hus7, hro7, hpa7, hrws, hprs⟩
        rw [lus, List.take_length] at hrws hprs
        refine ⟨_, rfl, .inl ⟨rfl, _, SqL.of (k7.get hlt4)⟩, _, rfl, ro, rws, rfl, .inl ⟨SqL.of hro7, fun t1 ht1 => ?_⟩⟩
        have kt1 := Kp.new (S := no) ht1 (.tup rws)
        have hlt8 := (k7.trans kt1).get hlt4
        have ltv := htv.length
        rw [List.length_map, List.length_range] at ltv
        have lrv := hrv.length
        rw [List.length_map, List.length_range] at lrv
        refine ⟨lt, tv, .ref t1, rfl, rfl, hlt8, szLt (by omega), ?_⟩
        have kl1 := Kp.put1 (o := .lst (tv ++ [.ref t1])) (lst_tup hlt8)
        obtain ⟨H9, eH9⟩ : ∃ H9, H9 = upd (upd H7 t1 (.tup rws)) lt (.lst (tv ++ [.ref t1])) := ⟨_, rfl⟩
        have hlt9 : H9 lt = some (.lst (tv ++ [.ref t1])) := by rw [eH9]; exact upd_same
        have k09 : Kp (one d) H H9 := by rw [eH9]; exact (k04.trans (k7.trans kt1).w).free nlt _
        rw [← eH9] at kl1 ⊢
        have npa9 : pa ≠ lt := fun z => by rw [z, hlt4] at npa; cases npa
        have hpa9 := kl1.but _ _ (fun z => npa9 z) (kt1.get hpa7)
        have hlr9 := kl1.but _ _ (fun z => ntr (show lr = lt from z).symm) ((k7.trans kt1).get hlr4)
        have hlp9 := kl1.but _ _ (fun z => npt z) ((k7.trans kt1).get hlp4)
        refine ⟨_, rfl, .inl ⟨rfl, _, SqL.of hlr9⟩, _, rfl, pa, prs, rfl, .inl ⟨SqL.of hpa9, fun t2 ht2 => ?_⟩⟩
        have kt2 := Kp.new (S := no) ht2 (.tup prs)
        have hlr10 := kt2.get hlr9
        refine ⟨lr, rv, .ref t2, rfl, rfl, hlr10, szLt (by omega), ?_⟩
        have kl2 := Kp.put1 (o := .lst (rv ++ [.ref t2])) (lst_tup hlr10)
        have kch : ∀ {ys ds}, TDs H4 ys ds → TDs (upd (upd H9 t2 (.tup prs)) lr (.lst (rv ++ [.ref t2]))) ys ds := fun {ys ds} h => ((((h.k k7).k kt1).k kl1).k kt2).k kl2
        have kch7 : ∀ {ys ds}, TDs H7 ys ds → TDs (upd (upd H9 t2 (.tup prs)) lr (.lst (rv ++ [.ref t2]))) ys ds := fun {ys ds} h => (((h.k kt1).k kl1).k kt2).k kl2
        have hd9 : DkAt _ d (160 * (fl.length + 1)) := ((((hd4.k (k7.trans kt1) (fun z => z)).k kl1 (fun z => ndt (show d = lt from z).symm)).k kt2 (fun z => z)).k kl2 (fun z => ndr (show d = lr from z).symm))
        refine ⟨fl ++ [es], _, _, _, _, _, _, _, _, _, _, rfl, (k09.trans kt2.w).free nlr _, hd9, kl2.but _ _ (fun z => npr z) (kt2.get hlp9), kl2.but _ _ (fun z => ntr z) (kt2.get hlt9), upd_same, ?_, ?_, ?_, by rw [List.length_append]; rfl, fun i hi => ?_⟩
        · rw [List.map_append]
          exact (kch hpv4).append (.cons (.tup (kl2.kt _ _ (kt2.get (kl1.kt _ _ ((k7.trans kt1).get htp4)))) (kch hes4)) .nil)
        · rw [List.length_append, show [es].length = 1 from rfl, List.range_succ, List.map_append, tab_old]
          exact (kch htv4).append (.cons (.tup (kl2.kt _ _ (kt2.get (kl1.kt _ _ upd_same))) (kch7 hrws)) .nil)
        · rw [List.length_append, show [es].length = 1 from rfl, List.range_succ, List.map_append, rel_old]
          exact (kch hrv4).append (.cons (.tup (kl2.kt _ _ upd_same) (kch7 hprs)) .nil)
        · by_cases hi2 : i < fl.length
          · rw [getD_old hi2]
            exact hok i hi2
          · have e : i = fl.length := by omega
            subst e
            rw [getD_last]
            exact ⟨les, hesok⟩
    · rintro σ H2 ⟨fl, pv, tv, rv, o6, o7, o8, o9, o10, o11, o12, rfl, k2, hd2, hlp2, hlt2, hlr2, hpv, htv, hrv, hfl, hok⟩
      have F : FlGood k fl := ⟨by omega, fun i hi => (hok i (by omega)).1, fun i hi => (hok i (by omega)).2⟩
      have so2 := soat.k k2
      have fin : ∀ (sz : Addr) (H3 : Hp), Kp no H2 H3 → H3 sz = some (.tup (k.so.map fun _ => V.int 2)) →
          tRet (tTup (tCons (tCB (rTupQ K) (tCons (tVar 2) tNil)) (tCons (tTup (tCons (tVar 5) (tCons (tCB (rTupQ K) (tCons (tVar 3) tNil)) tNil))) (tCons (tTup (tCons (tVar 5) (tCons (tCB (rTupQ K) (tCons (tVar 4) tNil)) tNil))) tNil)))) { nx := fun _ H' => Q .non H', rt := Q }
            [some (.ref d), some (.ref a), some (.ref lp), some (.ref lt), some (.ref lr), some (.ref sz), o6, o7, o8, o9, o10, o11, o12, none, none, none] H3 := fun sz H3 k3 hsz => by
        have hszd : TD H3 (.ref sz) (szD k) := by
          refine .tup hsz ?_
          have e1 : (k.so.map fun _ => V.int 2) = (k.so.map fun _ => (2 : Int)).map V.int := by rw [List.map_map]; rfl
          have e2 : (k.so.map fun _ => PyData.int 2) = (k.so.map fun _ => (2 : Int)).map PyData.int := by rw [List.map_map]; rfl
          rw [e1, e2]
          exact TDs.ints _
        refine ⟨_, rfl, lp, pv, rfl, .inl ⟨SqL.of (k3.get hlp2), fun t1 ht1 => ?_⟩⟩
        have k4 := Kp.new (S := no) ht1 (.tup pv)
        have k34 := k3.trans k4
        refine ⟨_, rfl, _, rfl, lt, tv, rfl, .inl ⟨SqL.of (k34.get hlt2), fun t2 ht2 => ⟨sz2, fun t3 ht3 => ?_⟩⟩⟩
        have k5 := Kp.new (S := no) ht2 (.tup tv)
        have k6 := Kp.new (S := no) ht3 (.tup [V.ref sz, V.ref t2])
        have k36 := (k34.trans k5).trans k6
        refine ⟨_, rfl, _, rfl, lr, rv, rfl, .inl ⟨SqL.of (k36.get hlr2), fun t4 ht4 => ⟨sz2, fun t5 ht5 => ⟨sz3, fun t6 ht6 => ?_⟩⟩⟩⟩
        have k7 := Kp.new (S := no) ht4 (.tup rv)
        have k8 := Kp.new (S := no) ht5 (.tup [V.ref sz, V.ref t4])
        have k9 := Kp.new (S := no) ht6 (.tup [V.ref t1, V.ref t3, V.ref t5])
        have k79 := (k7.trans k8).trans k9
        have kall := k36.trans k79
        have k59 := (k5.trans k6).trans k79
        have k49 := k4.trans k59
        refine q (.ref t6) fl _ (k2.trans kall.w) F ?_
        have efl : fl.length = k.bx.length := by omega
        have htv2 := htv.k kall
        have hrv2 := hrv.k kall
        rw [efl] at htv2 hrv2
        refine TD.mk3 upd_same (.tup (k59.get upd_same) (hpv.k kall)) (TD.mk2 (k79.get upd_same) ((hszd.k k49)) (.tup ((k6.trans k79).get upd_same) htv2)) (TD.mk2 (k9.get upd_same) (hszd.k k49) (.tup ((k8.trans k9).get upd_same) hrv2))
      refine ⟨sz1, fun tw htw => ?_⟩
      have ktw := Kp.new (S := no) htw (.tup [V.int 2])
      refine ⟨_, rfl, a, _, 1, _, rfl, rfl, SqT.of (ktw.get (k2.kt _ _ ha)), rfl, so, _, rfl, .inr (so2.k ktw).sq, ?_⟩
      rw [List.length_map]
      by_cases h1 : k.so.length = 1
      · refine .inl ⟨tw, _, rfl, by rw [h1]; rfl, SqT.of upd_same, ?_⟩
        refine fin tw _ ktw ?_
        rw [upd_same]
        match k.so, h1 with
        | [s], _ => rfl
      · refine .inr ⟨tw, _, _, rfl, rfl, SqT.of upd_same, by decide, by omega, by omega, by show 1 ≤ 1000; decide, fun p hp => ?_⟩
        refine fin p _ (ktw.trans (Kp.new hp _)) ?_
        rw [upd_same, Int.toNat_natCast]
        have e3 : ∀ l : List Str, (List.replicate l.length [V.int 2]).flatten = l.map fun _ => V.int 2 := by
          intro l
          induction l with
          | nil => rfl
          | cons x r ih => rw [List.length_cons, List.replicate_succ, List.flatten_cons, ih]; rfl
        rw [e3]
end
end SW
/-! SwL9: the law's three tellings, the widest. -/
namespace SW
open PySem PySem.Spec PyProof.Rows L2
/-- the class TooWide, as a clause and a field's reader want it -/
structure TwC (K : PySem.W.Frag) (mg : Str → Option Value) (CT : Addr) : Prop where
  hm : mg "TooWide" = some (.ref CT)
  xf : XfC K CT
  no : PySem.W.findIn K (.ref CT) "number" = some none
  te : PySem.W.exmOne K (.ref CT) (.ref CT) = some true
/-- all narrow: A | the first too wide: its number -/
structure WideR (k : Kit) (p : Pic) (A : Prop) (z : V) : Prop where
  yes : (∀ n, n ≤ p.la.length → (wAt k p n).length ≤ 6) → A
  no : ∀ n, n ≤ p.la.length → 6 < (wAt k p n).length → (∀ m, m < n → (wAt k p m).length ≤ 6) → z = .int (2 ^ (wAt k p n).length)
theorem WideR.of_yes {k : Kit} {p : Pic} {A : Prop} {z : V} (h : ∀ n, n ≤ p.la.length → (wAt k p n).length ≤ 6) (a : A) : WideR k p A z := ⟨fun _ => a, fun n hn h6 _ => absurd (h n hn) (by omega)⟩
theorem WideR.of_no {k : Kit} {p : Pic} {A : Prop} {n : Nat} (hn : n ≤ p.la.length) (h6 : 6 < (wAt k p n).length) (hm : ∀ m, m < n → (wAt k p m).length ≤ 6) : WideR k p A (.int (2 ^ (wAt k p n).length)) := ⟨fun h => absurd (h n hn) (by omega), fun n' hn' h6' hm' => by
  have e : n' = n := by
    rcases Nat.lt_trichotomy n' n with z | z | z
    · exact absurd (hm n' z) (by omega)
    · exact z
    · exact absurd (hm' n z) (by omega)
  rw [e]⟩
theorem WideR.mono {k : Kit} {p : Pic} {A A' : Prop} {z : V} (h : WideR k p A z) (f : A → A') : WideR k p A' z := ⟨fun q => f (h.yes q), h.no⟩
/-- what the way-th telling is -/
def Told (k : Kit) (fl : Fl) (p : Pic) (way : Nat) (z : V) (H : Hp) : Prop := match way with
  | 0 => TD H z (.tuple ((told k fl p p.la.length).map E.D)) ∨ ∃ m, z = .int m
  | 1 => WideR k p (TD H z (tabOut k fl p)) z
  | _ => WideR k p (TD H z (relOut k fl p)) z
theorem Told.kt {k : Kit} {fl : Fl} {p : Pic} {way : Nat} {z : V} {H H' : Hp} (x : KT H H') (h : Told k fl p way z H) : Told k fl p way z H' := by
  unfold Told at h ⊢
  split at h
  · rcases h with h | h
    · exact .inl (TD.kt x _ _ h)
    · exact .inr h
  · exact WideR.mono h fun q => TD.kt x _ _ q
  · exact WideR.mono h fun q => TD.kt x _ _ q
section
variable {P : Program} {w : World} {K : PySem.W.Frag} {mg : Str → Option Value} {base : Heap} {CT : Addr}
def spTold : Sp := fun vs H Q _ => ∃ (k : Kit) (fl : Fl) (p : Pic) (v f y : V) (way : Nat), vs = [.int (way : Nat), v, f, y] ∧ KitAt H v k ∧ k.Good ∧ FlGood k fl ∧ TD H y (p.D k) ∧ p.Good k ∧ (way = 0 → TD H f (flD fl)) ∧ (way = 1 → TD H f (tabsD k fl)) ∧ (way = 2 → TD H f (relsD k fl)) ∧ way < 3 ∧
  ∀ z H', Kp no H H' → Told k fl p way z H' → Q z H'
theorem l_told (T : TwC K mg CT) (D : Df K mg "_law_told" s_l_told ["_law_way", "_law_kit_here", "_law_filling", "_law_picture_here"]) (F_read_program : Fn P w K mg base (L2.CX P w) 6 "read_program" ["kit", "filling", "picture"] (spReadProgram CT))
    (F_read_table : Fn P w K mg base (L2.CX P w) 7 "read_table" ["kit", "filling", "picture"] (spReadTable CT)) (F_read_relation : Fn P w K mg base (L2.CX P w) 7 "read_relation" ["kit", "filling", "picture"] (spReadRelation CT)) :
    Fn P w K mg base CX0 8 "_law_told" ["_law_way", "_law_kit_here", "_law_filling", "_law_picture_here"] spTold := by
  have hT := T.hm
  refine D.fn sc_l_told (fun vs H Q E h => ?_) (fun f cdv A outer s H vs Q E hr h => ?_)
  · obtain ⟨k, fl, p, v, f, y, way, rfl, _⟩ := h
    rfl
  · obtain ⟨k, fl, p, v, f0, y, way, rfl, hk, G, F, hy, Gp, hf0, hf1, hf2, hw, q⟩ := h
    refine ⟨_, (pss_cons (ps_set (i := 4) sc_l_told.nd rfl (Or.inl rfl) pe_non)
      (pss_cons (ps_try_as (i := 5) (c := .ref CT) (tb := fun W => tIfS (tTest (tOp rEq (tVar 0) (tC (.int 0)))) (tAsg (tCallS (spReadProgram CT) (WE W) (tCons (tVar 1) (tCons (tVar 2) (tCons (tVar 3) tNil)))) (gName 4))
          (tIfS (tTest (tOp rEq (tVar 0) (tC (.int 1)))) (tAsg (tCallS (spReadTable CT) (WE W) (tCons (tVar 1) (tCons (tVar 2) (tCons (tVar 3) tNil)))) (gName 4)) (tAsg (tCallS (spReadRelation CT) (WE W) (tCons (tVar 1) (tCons (tVar 2) (tCons (tVar 3) tNil)))) (gName 4))))
        (ts := fun a cls d => tAsg (tXf a cls d CT "number" (tVar 5)) (gName 4)) (Wout := fun _ _ _ _ => False) rfl rfl sc_l_told.nd rfl rfl ⟨rfl, by decide, Or.inl hT⟩ takes0
        (fun W pn xe tk _ => pss_one (ps_if (pt_cmpR op_eq (pv 0) pe_int (nomark _))
          (pss_one (ps_set (i := 4) sc_l_told.nd rfl (Or.inl rfl) (by exact (pe_fnS F_read_program tk (hr.mono (by omega)) (by exact (pa_cons (pv 1) (pa_cons (pv 2) (pa_cons (pv 3) pa_nil))))))))
          (pss_one (ps_if (pt_cmpR op_eq (pv 0) pe_int (nomark _))
            (pss_one (ps_set (i := 4) sc_l_told.nd rfl (Or.inl rfl) (by exact (pe_fnS F_read_table tk (hr.mono (by omega)) (by exact (pa_cons (pv 1) (pa_cons (pv 2) (pa_cons (pv 3) pa_nil))))))))
            (pss_one (ps_set (i := 4) sc_l_told.nd rfl (Or.inl rfl) (by exact (pe_fnS F_read_relation tk (hr.mono (by omega)) (by exact (pa_cons (pv 1) (pa_cons (pv 2) (pa_cons (pv 3) pa_nil))))))))))))
        (fun a oe cls d pn hz hf => pss_one (ps_set (i := 4) sc_l_told.nd rfl (Or.inl rfl) (by exact (pe_xf T.xf T.no hz hf (pv 5))))))
      (pss_one (ps_ret (pv 4))))), ?_⟩
    have way3 : way = 0 ∨ way = 1 ∨ way = 2 := by omega
    rcases way3 with rfl | rfl | rfl
    · refine ⟨_, rfl, rfl, _, rfl, iteD rfl ?_⟩
      refine ⟨_, rfl, _, rfl, _, rfl, k, fl, p, v, f0, y, rfl, hk, G, F, hf0 rfl, hy, Gp, fun z H' k' hz => ?_, fun m d H' k' nd hd => ?_⟩
      · exact ⟨_, rfl, q z H' k' (.inl hz)⟩
      · refine ⟨true, T.te, fun _ a0 _ => ?_, fun q => Bool.noConfusion q⟩
        exact ⟨_, rfl, rfl, rfl, d, _, .int m, rfl, hd, rfl, _, rfl, q _ H' k' (.inr ⟨m, rfl⟩)⟩
    · refine ⟨_, rfl, rfl, _, rfl, iteDN (int_ne (by decide)) ?_⟩
      refine ⟨_, rfl, rfl, _, rfl, iteD rfl ?_⟩
      refine ⟨_, rfl, _, rfl, _, rfl, k, fl, p, v, f0, y, rfl, hk, G, F, hf1 rfl, hy, Gp, fun h6 z H' k' hz => ?_, fun n hn h6 hm d H' k' nd hd => ?_⟩
      · exact ⟨_, rfl, q z H' k' (.of_yes h6 hz)⟩
      · refine ⟨true, T.te, fun _ a0 _ => ?_, fun q => Bool.noConfusion q⟩
        exact ⟨_, rfl, rfl, rfl, d, _, _, rfl, hd, rfl, _, rfl, q _ H' k' (.of_no hn h6 hm)⟩
    · refine ⟨_, rfl, rfl, _, rfl, iteDN (int_ne (by decide)) ?_⟩
      refine ⟨_, rfl, rfl, _, rfl, iteDN (int_ne (by decide)) ?_⟩
      refine ⟨_, rfl, _, rfl, _, rfl, k, fl, p, v, f0, y, rfl, hk, G, F, hf2 rfl, hy, Gp, fun h6 z H' k' hz => ?_, fun n hn h6 hm d H' k' nd hd => ?_⟩
      · exact ⟨_, rfl, q z H' k' (.of_yes h6 hz)⟩
      · refine ⟨true, T.te, fun _ a0 _ => ?_, fun q => Bool.noConfusion q⟩
        exact ⟨_, rfl, rfl, rfl, d, _, _, rfl, hd, rfl, _, rfl, q _ H' k' (.of_no hn h6 hm)⟩
def spWidest : Sp := fun vs H Q _ => ∃ (k : Kit) (p : Pic) (v y : V), vs = [v, y] ∧ KitAt H v k ∧ k.Good ∧ TD H y (p.D k) ∧ p.Good k ∧
  ∀ z H', Kp no H H' → ((z = .non ∧ ∀ n, n ≤ p.la.length → (wAt k p n).length ≤ 6) ∨ ∃ n, n ≤ p.la.length ∧ 6 < (wAt k p n).length ∧ (∀ m, m < n → (wAt k p m).length ≤ 6) ∧ z = .int (2 ^ (wAt k p n).length)) → Q z H'
theorem l_widest (B : Bi mg) (D : Df K mg "_law_widest" s_l_widest ["_law_kit_here", "_law_picture_here"]) (F_l_wires : Fn P w K mg base CX0 3 "_law_wires" ["_law_kit_here", "_law_picture_here", "_law_at"] spLWires) :
    Fn P w K mg base CX0 4 "_law_widest" ["_law_kit_here", "_law_picture_here"] spWidest := by
  refine D.fn sc_l_widest (fun vs H Q E h => ?_) (fun f cdv A outer s H vs Q E hr h => ?_)
  · obtain ⟨k, p, v, y, rfl, _⟩ := h
    rfl
  · obtain ⟨k, p, v, y, rfl, hk, G, hy, Gp, q⟩ := h
    obtain ⟨a, x, l, ls, rfl, ha, hx, hl, hls⟩ := pic_inv hy
    have ll := hls.length
    rw [List.length_map] at ll
    have l12 := Gp.l12
    -- _law_widest  slots: 0 _law_kit_here, 1 _law_picture_here, 2 _law_at, 3 _law_many
    refine ⟨_, (pss_cons (ps_for PassesOwn.never rfl (pi_range1 (by rfl) B.range (pa_cons (pe_op op_add (pe_len K B (pa_cons (pe_ixT K (pv 1) pe_int) pa_nil)) pe_int) pa_nil)) (pg_name (i := 2) sc_l_widest.nd rfl (by first | exact Or.inl rfl | exact Or.inr rfl))
      (pss_cons (ps_set (i := 3) sc_l_widest.nd rfl (Or.inl rfl) (pe_len K B (pa_cons (pe_fn F_l_wires (hr.mono (by omega)) (pa_cons (pv 0) (pa_cons (pv 1) (pa_cons (pv 2) pa_nil)))) pa_nil)))
      (pss_one (ps_if (pt_cmpR op_gt (pv 3) pe_int (nomark _))
        (pss_one (ps_ret (pe_op op_shl pe_int (pv 3))))
        pss_nil))))
    (pss_one (ps_ret pe_non))), ?_⟩
    refine ⟨_, rfl, a, _, 1, _, rfl, rfl, SqT.of ha, rfl, l, _, rfl, .inr (SqT.of hl), _, _, rfl, rfl, _, rfl, by omega, by omega, ?_⟩
    have e1 : ((ls.length : Int) + 1).toNat = p.la.length + 1 := by omega
    rw [e1]
    refine for_range (fun i σ H2 => ∃ o2 o3 : Option V, σ = [some v, some (.ref a), o2, o3] ∧ Kp no H H2 ∧ ∀ m, m < i → (wAt k p m).length ≤ 6) ⟨none, none, rfl, Kp.refl H, fun m hm => absurd hm (Nat.not_lt_zero m)⟩ ?_ ?_
    · rintro i σ H2 hi ⟨o2, o3, rfl, k2, h6⟩
      have h8 := Gp.le8 i
      refine ⟨_, rfl, _, rfl, _, rfl, k, p, v, .ref a, i, by rw [Int.zero_add], hk.k k2, G, hy.k k2, Gp, by omega, fun c H3 k3 hc => ?_⟩
      refine ⟨c, _, rfl, .inr (SqT.of hc), ?_⟩
      rw [List.length_map]
      by_cases hw : (wAt k p i).length ≤ 6
      · refine ⟨_, rfl, _, _, rfl, rfl, _, rfl, iteDN (by omega) ?_⟩
        refine ⟨_, _, rfl, k2.trans k3, fun m hm => ?_⟩
        by_cases e : m = i
        · rw [e]
          exact hw
        · exact h6 m (by omega)
      · refine ⟨_, rfl, _, _, rfl, rfl, _, rfl, iteD (by omega) ?_⟩
        refine ⟨_, rfl, _, _, rfl, rfl, ⟨by omega, by omega, by decide⟩, ?_⟩
        refine q _ H3 (k2.trans k3) (.inr ⟨i, by omega, by omega, h6, ?_⟩)
        show V.int ((1 : Int) * 2 ^ (((wAt k p i).length : Nat) : Int).toNat) = _
        rw [Int.one_mul, Int.toNat_natCast]
    · rintro σ H2 ⟨o2, o3, rfl, k2, h6⟩
      exact q _ H2 k2 (.inl ⟨rfl, fun n hn => h6 n (by omega)⟩)
end
end SW
/-! SwL10: the law's judgement, the law. -/
namespace SW
open PySem PySem.Spec PyProof.Rows L2
theorem ifTT {A B : Prop} (a : A) : if true = true then A else B := a
theorem lays_on {ends : List (List Int)} {w : List Int} : Lays (onD ends w) 1 := .tup (Lays.map fun i _ => .int)
theorem lays_pr {w u : List Int} : Lays (prD w u) 2 := .tup (Lays.cons lays_in (Lays.cons lays_in Lays.nil))
theorem lays_tab {k : Kit} {fl : Fl} {p : Pic} : Lays (tabOut k fl p) 2 := .tup (Lays.map fun i _ => lays_on)
theorem lays_rel {k : Kit} {fl : Fl} {p : Pic} : Lays (relOut k fl p) 3 := .tup (Lays.map fun i _ => lays_pr)
theorem TD.isTup {K : PySem.W.Frag} {H : Hp} {z : V} {ds : List PyData} (h : TD H z (.tuple ds)) : TyX K H z (.type "tuple") := by
  obtain ⟨a, xs, rfl, ha, _⟩ := h.inv
  exact .base (.tup ha)
section
variable {P : Program} {w : World} {K : PySem.W.Frag} {mg : Str → Option Value} {base : Heap}
def spRight : Sp := fun vs H Q _ => ∃ (k : Kit) (fl : Fl) (p : Pic) (v f y : V), vs = [v, f, y] ∧ KitAt H v k ∧ k.Good ∧ FlGood k fl ∧ TD H f (.tuple [flD fl, tabsD k fl, relsD k fl]) ∧ TD H y (p.D k) ∧ p.Good k ∧ ∀ H', Kp no H H' → Q (.bl true) H'
theorem l_right (B : Bi mg) (D : Df K mg "_law_right" s_l_right ["_law_kit_here", "_law_fillings_here", "_law_picture_here"]) (F_l_told : Fn P w K mg base CX0 8 "_law_told" ["_law_way", "_law_kit_here", "_law_filling", "_law_picture_here"] spTold)
    (F_l_widest : Fn P w K mg base CX0 4 "_law_widest" ["_law_kit_here", "_law_picture_here"] spWidest) (F_l_worths : Fn P w K mg base CX0 1 "_law_worths" ["_law_many"] spLWorths) (F_run : Fn P w K mg base CX0 38 "run" ["expression", "numbers"] (spRun 37)) :
    Fn P w K mg base CX0 39 "_law_right" ["_law_kit_here", "_law_fillings_here", "_law_picture_here"] spRight := by
  refine D.fn sc_l_right (fun vs H Q EX h => ?_) (fun f cdv A outer s H vs Q EX hr h => ?_)
  · obtain ⟨k, fl, p, v, f, y, rfl, _⟩ := h
    rfl
  · obtain ⟨k, fl, p, v, f0, y, rfl, hk, G, F, hf, hy, Gp, q⟩ := h
    obtain ⟨fa, fp, ft, fr, rfl, hfa, hfp, hft, hfr⟩ := TD.i3 hf
    obtain ⟨a, xw, l, ls, rfl, ha, hxw, hl, hls⟩ := pic_inv hy
    have l12 := Gp.l12
    have a6 := Gp.a6
    -- _law_right  slots: 0 _law_kit_here, 1 _law_fillings_here, 2 _law_picture_here, 3 _law_told_here, 4 _law_wide, 5 _law_rows, 6 _law_pairs, 7 _law_worths_here, 8 _law_due, 9 _law_way, 10 _law_expression, 11 _law_end
    refine ⟨_, (pss_cons (ps_setLc (i := 3) (own := [("_law_way", 9)]) (g := (gName 9)) (tt := tYes) rfl sc_l_right.nd rfl rfl (sw_true rfl rfl rfl (by decide +kernel)) (pi_range1 (by rfl) B.range (pa_cons pe_int pa_nil)) (blkOk_by (by kernel_rfl)) (fun _ _ _ _ _ => (pg_name (i := 9) sc_l_right.nd rfl (by first | exact Or.inl rfl | exact Or.inr rfl))) (fun _ _ _ _ _ => pts_nil) (fun _ _ _ _ _ => (pe_fn F_l_told (hr.mono (by omega)) (pa_cons (pv 9) (pa_cons (pv 0) (pa_cons (pe_ixT K (pv 1) (pv 9)) (pa_cons (pv 2) pa_nil)))))))
    (pss_cons (ps_set (i := 4) sc_l_right.nd rfl (Or.inl rfl) (pe_fn F_l_widest (hr.mono (by omega)) (pa_cons (pv 0) (pa_cons (pv 2) pa_nil))))
    (pss_cons (ps_if (pt_cmpR op_notN (pv 4) pe_non (nomark _))
      (pss_one (ps_ret (pe_and (pe_cmpR op_eq (pe_ixL K (pv 3) pe_int) (pv 4) (nomark _)) (pe_one (pe_cmpR op_eq (pe_ixL K (pv 3) pe_int) (pv 4) (nomark _))))))
      pss_nil)
    (pss_cons (ps_if (pt_not (pt_val (pe_callB call_isi (by rfl) B.isinstance (by decide +kernel) (pa_cons (pe_ixL K (pv 3) pe_int) (pa_cons (pe_bltn (v := .ty "tuple") (by rfl) B.tuple (by decide +kernel) rfl) pa_nil)))))
      (pss_one (ps_ret (pe_and (pe_callB call_isi (by rfl) B.isinstance (by decide +kernel) (pa_cons (pe_ixL K (pv 3) pe_int) (pa_cons (pe_bltn (v := .ty "tuple") (by rfl) B.tuple (by decide +kernel) rfl) pa_nil))) (pe_one (pe_callB call_isi (by rfl) B.isinstance (by decide +kernel) (pa_cons (pe_ixL K (pv 3) pe_int) (pa_cons (pe_bltn (v := .ty "tuple") (by rfl) B.tuple (by decide +kernel) rfl) pa_nil)))))))
      pss_nil)
    (pss_cons (ps_set (i := 5) sc_l_right.nd rfl (Or.inl rfl) (pe_lst pa_nil))
    (pss_cons (ps_set (i := 6) sc_l_right.nd rfl (Or.inl rfl) (pe_lst pa_nil))
    (pss_cons (ps_for PassesOwn.never rfl (pi_list (pe_fn F_l_worths (hr.mono (by omega)) (pa_cons (pe_len K B (pa_cons (pe_ixT K (pv 2) pe_int) pa_nil)) pa_nil))) (pg_name (i := 7) sc_l_right.nd rfl (by first | exact Or.inl rfl | exact Or.inr rfl))
      (pss_cons (ps_set (i := 8) sc_l_right.nd rfl (Or.inr rfl) (pe_tupOf K B (pa_cons (pe_lc (own := [("_law_expression", 10)]) (g := (gName 10)) (tt := tYes) rfl sc_l_right.nd (pi_tup (pe_ixL K (pv 3) pe_int)) (blkOk_by (by kernel_rfl)) (fun _ _ _ _ _ => (pg_name (i := 10) sc_l_right.nd rfl (by first | exact Or.inl rfl | exact Or.inr rfl))) (fun _ _ _ _ _ => pts_nil) (fun _ _ _ _ _ => (pe_fn F_run (hr.mono (by omega)) (pa_cons (pv 10) (pa_cons (pv 7) pa_nil))))) pa_nil)))
      (pss_cons (ps_expr (pe_bmK K (r := rAppend) PySem.F.plainAttrs_list PySem.F.slot_list_append PySem.F.type_list_append mt_append (pv 5) (pa_cons (pe_tupOf K B (pa_cons (pe_lc (own := [("_law_end", 11)]) (g := (gName 11)) (tt := tYes) rfl sc_l_right.nd (pi_list (pe_fn F_l_worths (hr.mono (by omega)) (pa_cons (pe_len K B (pa_cons (pv 8) pa_nil)) pa_nil))) (blkOk_by (by kernel_rfl)) (fun _ _ _ _ _ => (pg_name (i := 11) sc_l_right.nd rfl (by first | exact Or.inl rfl | exact Or.inr rfl))) (fun _ _ _ _ _ => pts_nil) (fun _ _ _ _ _ => (pe_intB B (pa_cons (pe_eqD K hr.units (pv 11) (pv 8)) pa_nil)))) pa_nil)) pa_nil)))
      (pss_one (ps_expr (pe_bmK K (r := rAppend) PySem.F.plainAttrs_list PySem.F.slot_list_append PySem.F.type_list_append mt_append (pv 6) (pa_cons (pe_tup (pa_cons (pv 7) (pa_cons (pv 8) pa_nil))) pa_nil)))))))
    (pss_one (ps_ret (pe_and (pe_eqD K hr.units (pe_ixL K (pv 3) pe_int) (pe_tupOf K B (pa_cons (pv 5) pa_nil))) (pe_one (pe_eqD K hr.units (pe_ixL K (pv 3) pe_int) (pe_tupOf K B (pa_cons (pv 6) pa_nil)))))))))))))), ?_⟩
    refine ⟨3, rfl, by decide, by decide, fun D hD => lcD hD (lp_R (lo := 0) (n := 3) (szLt (by decide)) (fun i v H => Told k fl p i v H) (fun i v H H' kt h => h.kt kt) (fun i z H1 hi hz k1 Q' q' => ?_) fun D' vs H1 _ k1 hv hvl hr1 eD => ?_)⟩
    · subst hz
      have i3 : i = 0 ∨ i = 1 ∨ i = 2 := by omega
      rcases i3 with rfl | rfl | rfl
      · exact ⟨_, rfl, _, rfl, _, rfl, _, rfl, fa, _, _, fp, rfl, rfl, SqT.of (k1.get hfa), rfl, _, rfl, k, fl, p, v, fp, .ref a, 0, rfl, hk.k k1, G, F, hy.k k1, Gp, fun _ => hfp.k k1, fun z => (by cases z), fun z => (by cases z), by decide, fun z H2 k2 hz => q' z H2 k2 hz⟩
      · exact ⟨_, rfl, _, rfl, _, rfl, _, rfl, fa, _, _, ft, rfl, rfl, SqT.of (k1.get hfa), rfl, _, rfl, k, fl, p, v, ft, .ref a, 1, rfl, hk.k k1, G, F, hy.k k1, Gp, fun z => (by cases z), fun _ => hft.k k1, fun z => (by cases z), by decide, fun z H2 k2 hz => q' z H2 k2 hz⟩
      · exact ⟨_, rfl, _, rfl, _, rfl, _, rfl, fa, _, _, fr, rfl, rfl, SqT.of (k1.get hfa), rfl, _, rfl, k, fl, p, v, fr, .ref a, 2, rfl, hk.k k1, G, F, hy.k k1, Gp, fun z => (by cases z), fun z => (by cases z), fun _ => hfr.k k1, by decide, fun z H2 k2 hz => q' z H2 k2 hz⟩
    cases eD
    match vs, hvl with
    | [z0, z1, z2], _ =>
      have t0 : TD H1 z0 (.tuple ((told k fl p p.la.length).map E.D)) ∨ ∃ m, z0 = .int m := hr1 0 z0 rfl
      have t1 : WideR k p (TD H1 z1 (tabOut k fl p)) z1 := hr1 1 z1 rfl
      have t2 : WideR k p (TD H1 z2 (relOut k fl p)) z2 := hr1 2 z2 rfl
      refine ⟨_, rfl, _, rfl, k, p, v, .ref a, rfl, hk.k k1, G, hy.k k1, Gp, fun zw H2 k2 hw => ?_⟩
      have k12 := k1.trans k2
      have hD2 := k2.get hv
      rcases hw with ⟨rfl, h6⟩ | ⟨n, hn, hn6, hnm, rfl⟩
      · -- all narrow
        have d1 := (t1.yes h6).k k2
        have d2 := (t2.yes h6).k k2
        refine ⟨_, rfl, rfl, _, rfl, iteNN rfl ?_⟩
        rcases t0 with t0 | ⟨m, rfl⟩
        · have d0 := t0.k k2
          refine ⟨_, rfl, D, _, 0, _, rfl, rfl, SqL.of hD2, rfl, z0, .ty "tuple", .type "tuple", .type "tuple", true, rfl, .ty "tuple", d0.isTup, kit_ty (by decide +kernel), true, rfl, iteBF ?_⟩
          obtain ⟨ea, exs, rfl, hea, hexs⟩ := d0.inv
          have tok := told_ok F Gp p.la.length (Nat.le_refl _)
          have lbw : (wAt k p p.la.length).length ≤ 8 := Gp.le8 _
          have lex := hexs.length
          rw [List.length_map] at lex
          refine ⟨sz0, fun ro hro => ⟨sz0, fun pa hpa => ?_⟩⟩
          have kro := Kp.new (S := no) hro (.lst [])
          have kpa := Kp.new (S := no) hpa (.lst [])
          obtain ⟨H3, eH3⟩ : ∃ H3, H3 = upd (upd H2 ro (.lst [])) pa (.lst []) := ⟨_, rfl⟩
          have k23 : Kp no H2 H3 := by rw [eH3]; exact kro.trans kpa
          have hro3 : H3 ro = some (.lst []) := by rw [eH3]; exact kpa.get upd_same
          have hpa3 : H3 pa = some (.lst []) := by rw [eH3]; exact upd_same
          have npa : H2 pa = none := kro.none (fun z => z) hpa
          have nrp : ro ≠ pa := ne_of_none upd_same hpa
          rw [← eH3]
          have k13 := k12.trans k23
          have hWn := W_le (n := p.ab.length) (by omega)
          have hWm := W_le (n := (p.below k).length) (Gp.le8 _)
          refine ⟨_, rfl, a, _, 0, _, rfl, rfl, SqT.of (k13.get ha), rfl, xw, _, rfl, .inr (SqT.of (k13.get hxw)), p.ab.length, by rw [List.length_map], by omega, fun pw us H4 k4 npw hpw hus => ?_⟩
          have k24 := k23.trans k4
          have lus := hus.length
          rw [List.length_map] at lus
          have nwr : pw ≠ ro := fun z => by rw [z, hro3] at npw; cases npw
          have nwp : pw ≠ pa := fun z => by rw [z, hpa3] at npw; cases npw
          refine ⟨pw, rfl, ⟨_, SqL.of hpw⟩, for_list (K := K) (a := pw) (xs := us) (fun j σ H' => ∃ (rws prs : List V) (o7 o8 : Option V), σ = [some v, some (.ref fa), some (.ref a), some (.ref D), some .non, some (.ref ro), some (.ref pa), o7, o8, none, none, none] ∧ Kp no H2 H' ∧ H' pw = some (.lst us) ∧ TDs H' us ((W p.ab.length).map inD) ∧ H' ro = some (.lst rws) ∧ H' pa = some (.lst prs) ∧
              TDs H' rws (((W p.ab.length).take j).map fun w => onD (W (p.below k).length) (fin k fl p w)) ∧ TDs H' prs (((W p.ab.length).take j).map fun w => prD w (fin k fl p w)))
            ⟨[], [], _, _, rfl, k24, hpw, hus, k4.get hro3, k4.get hpa3, .nil, .nil⟩ (fun j σ H' _ ⟨_, _, _, _, _, _, z, _⟩ => SqL.of z) ?_ ?_⟩
          · rintro j z σ H7 hj ⟨rws, prs, o7, o8, rfl, k7, hpw7, hus7, hro7, hpa7, hrws, hprs⟩
            have hj2 : j < (W p.ab.length).length := by
              have := (List.getElem?_eq_some_iff.mp hj).1
              omega
            have hwl : (W p.ab.length)[j]? = some (W p.ab.length)[j] := List.getElem?_eq_getElem hj2
            have hwm : (W p.ab.length)[j] ∈ W p.ab.length := List.getElem_mem hj2
            revert hwl hwm
            generalize (W p.ab.length)[j] = wl
            intro hwl hwm
            obtain ⟨hwlen, hwb⟩ := mem_W.mp hwm
            have hfin := fin_mem F Gp hwm
            have hfl : (fin k fl p wl).length = (p.below k).length := (mem_W.mp hfin).1
            obtain ⟨zz, hz2, hzd⟩ := hus7.at (d := inD wl) (i := j) (by rw [List.getElem?_map, hwl]; rfl)
            rw [hj] at hz2
            cases hz2
            obtain ⟨za, rfl, hza⟩ := hzd.ints_inv
            have hea7 := k7.get hea
            -- what is due
            refine ⟨_, rfl, D, _, 0, _, rfl, rfl, SqL.of (k7.get hD2), rfl, ea, rfl, ⟨_, SqT.of hea7⟩, fun D2 hD2' => lcD hD2' (lp_T hea7 (szLt (by rw [lex, tok.1]; omega)) (fun i v _ => ∃ e, (told k fl p p.la.length)[i]? = some e ∧ v = .int (e.ev wl)) (fun _ _ _ _ _ h => h) (fun i x H8 hi hx k8 Q' q' => ?_) fun D' vs2 H8 _ k8 hv2 hvl2 hr2 eD => ?_)⟩
            · obtain ⟨dd, hd1, hxd⟩ := ((hexs.k k7).k k8).at' hx
              rw [List.getElem?_map] at hd1
              obtain ⟨e, he, rfl⟩ := Option.map_eq_some_iff.mp hd1
              have hem := tok.2 e (List.mem_of_getElem? he)
              exact ⟨_, rfl, _, rfl, e, wl, x, za, rfl, by have := hem.2; omega, by rw [hwlen]; exact hem.1, hxd, k8.get hza, fun H9 k9 => q' _ H9 k9 ⟨e, he, rfl⟩⟩
            cases eD
            have hall : vs2 = (fin k fl p wl).map V.int := by
              rw [← told_fin k fl p hwlen, List.map_map]
              refine List.ext_getElem? fun i => ?_
              by_cases hi : i < vs2.length
              · obtain ⟨e, he, hv⟩ := hr2 i vs2[i] (List.getElem?_eq_getElem hi)
                rw [List.getElem?_map, he, List.getElem?_eq_getElem hi, hv]
                rfl
              · rw [List.getElem?_eq_none (by omega), List.getElem?_eq_none (by rw [List.length_map]; omega)]
            refine ⟨D2, vs2, rfl, .inl ⟨SqL.of hv2, fun du hdu => ?_⟩⟩
            have kdu := Kp.new (S := no) hdu (.tup vs2)
            have k79 := k8.trans kdu
            obtain ⟨H9, eH9⟩ : ∃ H9, H9 = upd H8 du (.tup vs2) := ⟨_, rfl⟩
            have hdu9 : H9 du = some (.tup ((fin k fl p wl).map V.int)) := by rw [eH9, ← hall]; exact upd_same
            rw [← eH9] at k79 ⊢
            have k29 := k7.trans k79
            -- the row
            refine ⟨_, rfl, .inl ⟨rfl, _, SqL.of (k79.get hro7)⟩, _, rfl, du, _, rfl, .inr (SqT.of hdu9), (p.below k).length, by rw [List.length_map, hfl], Gp.le8 _, fun pe ue H10 k10 npe hpe hue => ?_⟩
            have lue := hue.length
            rw [List.length_map] at lue
            refine ⟨pe, rfl, ⟨_, SqL.of hpe⟩, fun D3 hD3 => lcD hD3 (lp_L (K := K) (xs := ue) (SqL.of hpe) (szLt (by omega)) (RD ((W (p.below k).length).map fun e => .int (if e = fin k fl p wl then 1 else 0))) RD.kt (fun i x H11 hi hx k11 Q' q' => ?_) fun D' vs3 H11 _ k11 hv3 hvl3 hr3 eD => ?_)⟩
            · have hi2 : i < (W (p.below k).length).length := by omega
              have hei : (W (p.below k).length)[i]? = some (W (p.below k).length)[i] := List.getElem?_eq_getElem hi2
              obtain ⟨zz, hz2, hzd2⟩ := (hue.k k11).at (d := inD (W (p.below k).length)[i]) (i := i) (by rw [List.getElem?_map, hei]; rfl)
              rw [hx] at hz2
              cases hz2
              refine ⟨_, rfl, _, rfl, inD (W (p.below k).length)[i], inD (fin k fl p wl), hzd2.dp, (TD.ints (k11.get (k10.get hdu9))).dp, lays_in.sh (by decide), lays_in.sh (by decide), .inr ⟨_, rfl, ?_⟩⟩
              rw [eqv_in, if_dec]
              exact q' _ H11 (Kp.refl H11) ⟨_, by rw [List.getElem?_map, hei]; rfl, .int _⟩
            cases eD
            have hrow := RD.all (H := H11) (by rw [hvl3, List.length_map, lue]) hr3
            have k911 := k10.trans k11
            refine ⟨D3, vs3, rfl, .inl ⟨SqL.of hv3, fun tr htr => ?_⟩⟩
            have ktr := Kp.new (S := no) htr (.tup vs3)
            have k712 := (k79.trans k911).trans ktr
            have hro12 := k712.get hro7
            have lrw := hrws.length
            rw [List.length_map, List.length_take] at lrw
            have lpr := hprs.length
            rw [List.length_map, List.length_take] at lpr
            refine ⟨ro, rws, .ref tr, rfl, rfl, hro12, szLt (by omega), ?_⟩
            have kr1 := Kp.put1 (o := .lst (rws ++ [.ref tr])) (lst_tup hro12)
            obtain ⟨H13, eH13⟩ : ∃ H13, H13 = upd (upd H11 tr (.tup vs3)) ro (.lst (rws ++ [.ref tr])) := ⟨_, rfl⟩
            have hro13 : H13 ro = some (.lst (rws ++ [.ref tr])) := by rw [eH13]; exact upd_same
            have k213 : Kp no H2 H13 := by rw [eH13]; exact (k7.trans k712).free hro _
            rw [← eH13] at kr1 ⊢
            have hpa13 := kr1.but _ _ (fun z => nrp (show pa = ro from z).symm) (k712.get hpa7)
            have hza13 := kr1.kt _ _ (k712.get hza)
            have hdu13 := kr1.kt _ _ ((k911.trans ktr).get hdu9)
            -- the pair
            refine ⟨_, rfl, .inl ⟨rfl, _, SqL.of hpa13⟩, _, rfl, _, rfl, sz2, fun t ht => ?_⟩
            have kt2 := Kp.new (S := no) ht (.tup [V.ref za, V.ref du])
            have hpa14 := kt2.get hpa13
            refine ⟨pa, prs, .ref t, rfl, rfl, hpa14, szLt (by omega), ?_⟩
            have kp1 := Kp.put1 (o := .lst (prs ++ [.ref t])) (lst_tup hpa14)
            have kch : ∀ {ys ds}, TDs H7 ys ds → TDs (upd (upd H13 t (.tup [V.ref za, V.ref du])) pa (.lst (prs ++ [.ref t]))) ys ds := fun {ys ds} h => (((h.k k712).k kr1).k kt2).k kp1
            refine ⟨_, _, _, _, rfl, (k213.trans kt2).free npa _, kp1.but _ _ (fun z => nwp z) (kt2.get (kr1.but _ _ (fun z => nwr z) (k712.get hpw7))), kch hus7, kp1.but _ _ (fun z => nrp z) (kt2.get hro13), upd_same, ?_, ?_⟩
            · rw [take_snoc hwl, List.map_append]
              refine (kch hrws).append (.cons ?_ .nil)
              exact (((TD.tup (upd_same (H := H11) (a := tr)) (hrow.k ktr)).k kr1).k kt2).k kp1
            · rw [take_snoc hwl, List.map_append]
              refine (kch hprs).append (.cons ?_ .nil)
              exact (TD.mk2 upd_same (TD.ints (kt2.get hza13)) (TD.ints (kt2.get hdu13))).k kp1
          · rintro σ H7 ⟨rws, prs, o7, o8, rfl, k7, hpw7, hus7, hro7, hpa7, hrws, hprs⟩
            rw [lus, List.take_length] at hrws hprs
            refine ⟨_, rfl, D, _, 1, _, rfl, rfl, SqL.of (k7.get hD2), rfl, _, rfl, ro, rws, rfl, .inl ⟨SqL.of hro7, fun tr htr => ?_⟩⟩
            have ktr := Kp.new (S := no) htr (.tup rws)
            have k78 := k7.trans ktr
            refine ⟨tabOut k fl p, tabOut k fl p, (d1.k k78).dp, (TD.new htr hrws : TD _ _ (tabOut k fl p)).dp, lays_tab.sh (by decide), lays_tab.sh (by decide), _, rfl, ?_⟩
            rw [PySem.SeqAt.eqv_refl _ lays_tab.can]
            refine ifTT ?_
            refine ⟨_, rfl, D, _, 2, _, rfl, rfl, SqL.of (k78.get hD2), rfl, _, rfl, pa, prs, rfl, .inl ⟨SqL.of (ktr.get hpa7), fun tq htq => ?_⟩⟩
            have ktq := Kp.new (S := no) htq (.tup prs)
            have k79 := k78.trans ktq
            refine ⟨relOut k fl p, relOut k fl p, (d2.k k79).dp, (TD.new htq (hprs.k ktr) : TD _ _ (relOut k fl p)).dp, lays_rel.sh (by decide), lays_rel.sh (by decide), ?_⟩
            rw [PySem.SeqAt.eqv_refl _ lays_rel.can]
            exact q _ (k12.trans k79)
        · -- the program was refused
          refine ⟨_, rfl, D, _, 0, _, rfl, rfl, SqL.of hD2, rfl, .int m, .ty "tuple", .type "int", .type "tuple", false, rfl, .ty "tuple", .base (.int m), kit_ty (by decide +kernel), false, rfl, iteBT ?_⟩
          refine ⟨_, rfl, D, _, 1, _, rfl, rfl, SqL.of hD2, rfl, z1, .ty "tuple", .type "tuple", .type "tuple", true, rfl, .ty "tuple", d1.isTup, kit_ty (by decide +kernel), true, rfl, ifTT ?_⟩
          exact ⟨_, rfl, D, _, 2, _, rfl, rfl, SqL.of hD2, rfl, z2, .ty "tuple", .type "tuple", .type "tuple", true, rfl, .ty "tuple", d2.isTup, kit_ty (by decide +kernel), q H2 k12⟩
      · -- too wide
        have e1 := t1.no n hn hn6 hnm
        have e2 := t2.no n hn hn6 hnm
        subst e1
        subst e2
        refine ⟨_, rfl, rfl, _, rfl, iteN (fun z => by cases z) ?_⟩
        refine ⟨_, rfl, D, _, 1, _, rfl, rfl, SqL.of hD2, rfl, _, rfl, rfl, _, rfl, iteD rfl ?_⟩
        refine ⟨_, rfl, D, _, 2, _, rfl, rfl, SqL.of hD2, rfl, _, rfl, rfl, ?_⟩
        rw [decide_eq_true rfl]
        exact q H2 k12
def spLaw : Sp := fun vs H Q _ => ∃ (a : Addr) (ns : List Int), vs = [.ref a] ∧ SqL K H a (ns.map V.int) ∧ ∀ H', Kp no H H' → Q (.bl true) H'
theorem law {f : Addr} {fd : FuncData} (B : Bi mg) (F : Fun K "law" "law" s_law f fd) (F_l_cell_at : Fn P w K mg base CX0 1 "_law_cell_at" ["_law_script", "_law_k"] (spCellAt (K := K))) (F_l_deck : Fn P w K mg base CX0 1 "_law_deck" ["_law_cell"] spDeck)
    (F_l_kit : Fn P w K mg base CX0 3 "_law_kit" ["_law_deck_here", "_law_manner"] spKit) (F_l_fillings : Fn P w K mg base CX0 6 "_law_fillings" ["_law_deck_here", "_law_kit_here"] spFillings)
    (F_l_picture : Fn P w K mg base CX0 3 "_law_picture" ["_law_deck_here", "_law_kit_here", "_law_most"] spPicture) (F_l_right : Fn P w K mg base CX0 39 "_law_right" ["_law_kit_here", "_law_fillings_here", "_law_picture_here"] spRight) :
    FnOk P w K mg base CX0 40 f fd ["_law_script"] (spLaw (K := K)) := by
  refine F.ok sc_law (fun vs H Q EX h => ?_) (fun cdv A outer s H vs Q EX hr h => ?_)
  · obtain ⟨a, ns, rfl, _⟩ := h
    rfl
  · obtain ⟨a, ns, rfl, ha, q⟩ := h
    -- law  slots: 0 _law_script, 1 _law_kit_here, 2 _law_fillings_here, 3 _law_k, 4 _law_picture_here
    refine ⟨_, (pss_cons (ps_set (i := 1) sc_law.nd rfl (Or.inl rfl) (pe_fn F_l_kit (hr.mono (by omega)) (pa_cons (pe_fn F_l_deck (hr.mono (by omega)) (pa_cons (pe_fn F_l_cell_at (hr.mono (by omega)) (pa_cons (pv 0) (pa_cons pe_int pa_nil))) pa_nil)) (pa_cons pe_str pa_nil))))
    (pss_cons (ps_set (i := 2) sc_law.nd rfl (Or.inl rfl) (pe_fn F_l_fillings (hr.mono (by omega)) (pa_cons (pe_fn F_l_deck (hr.mono (by omega)) (pa_cons (pe_fn F_l_cell_at (hr.mono (by omega)) (pa_cons (pv 0) (pa_cons pe_int pa_nil))) pa_nil)) (pa_cons (pv 1) pa_nil))))
    (pss_cons (ps_for PassesOwn.never rfl (pi_range1 (by rfl) B.range (pa_cons pe_int pa_nil)) (pg_name (i := 3) sc_law.nd rfl (by first | exact Or.inl rfl | exact Or.inr rfl))
      (pss_cons (ps_set (i := 4) sc_law.nd rfl (Or.inl rfl) (pe_fn F_l_picture (hr.mono (by omega)) (pa_cons (pe_fn F_l_deck (hr.mono (by omega)) (pa_cons (pe_op op_add (pe_fn F_l_cell_at (hr.mono (by omega)) (pa_cons (pv 0) (pa_cons (pe_op op_add pe_int (pv 3)) pa_nil))) (pv 3)) pa_nil)) (pa_cons (pv 1) (pa_cons pe_int pa_nil)))))
      (pss_one (ps_if (pt_not (pt_val (pe_fn F_l_right (hr.mono (by omega)) (pa_cons (pv 1) (pa_cons (pv 2) (pa_cons (pv 4) pa_nil))))))
        (pss_one (ps_ret pe_bl))
        pss_nil))))
    (pss_one (ps_ret pe_bl))))), ?_⟩
    refine ⟨_, rfl, a, ns, 0, rfl, ha, fun c0 => ⟨c0, rfl, fun d1 H1 k1 nd1 hd1 => ⟨d1, rfl, hd1, fun v k H2 k2 hk G => ?_⟩⟩⟩
    have k02 : Kp no H H2 := k1.shed k2 (fun b z => by rw [show b = d1 from z]; exact nd1)
    refine ⟨_, rfl, a, ns, 1, rfl, k02.sql (fun z => z) ha, fun c1 => ⟨c1, rfl, fun d2 H3 k3 nd2 hd2 => ⟨_, rfl, k, v, d2, rfl, hk.k k3, G, hd2, fun fv fl H4 k4 FG hf => ?_⟩⟩⟩
    have k24 : Kp no H2 H4 := k3.shed k4 (fun b z => by rw [show b = d2 from z]; exact nd2)
    have k04 := k02.trans k24
    have hk4 := hk.k k24
    refine ⟨3, rfl, by decide, by decide, for_range (lo := 0) (n := 3) (fun i σ H' => ∃ o3 o4 : Option V, σ = [some (.ref a), some v, some fv, o3, o4] ∧ Kp no H4 H') ⟨none, none, rfl, Kp.refl H4⟩ ?_ ?_⟩
    · rintro i σ H5 hi ⟨o3, o4, rfl, k5⟩
      refine ⟨_, rfl, _, rfl, _, _, rfl, rfl, a, ns, 2 + i, ?_, (k04.trans k5).sql (fun z => z) ha, fun c2 => ⟨_, rfl, _, _, rfl, rfl, _, rfl, fun d3 H6 k6 nd3 hd3 => ⟨_, rfl, k, v, d3, rfl, (hk4.k k5).k k6, G, hd3, fun y p H7 k7 hy Gp => ?_⟩⟩⟩
      · show [V.ref a, V.int (2 + (0 + (i : Int)))] = _
        rw [Int.zero_add, show (2 + (i : Int)) = ((2 + i : Nat) : Int) from by omega]
      have k57 : Kp no H5 H7 := k6.shed k7 (fun b z => by rw [show b = d3 from z]; exact nd3)
      have k47 := k5.trans k57
      refine ⟨_, rfl, _, rfl, _, rfl, k, fl, p, v, fv, y, rfl, hk4.k k47, G, FG, hf.k k47, hy, Gp, fun H8 k8 => ⟨true, rfl, iteBF ?_⟩⟩
      exact ⟨_, _, rfl, k47.trans k8⟩
    · rintro σ H5 ⟨o3, o4, rfl, k5⟩
      exact q H5 (k04.trans k5)
end
end SW
/-! SwEnd: all of it put together. -/
namespace SW
open PySem PySem.Spec PyProof.Rows L2
/-- an error of the class at S is what the clause that names S catches -/
theorem exm_self {K : PySem.W.Frag} {S : Addr} (h1 : PySem.W.subIn K (.ref S) (.type "BaseException") = some true) (h2 : PySem.W.isClsIn K S = true) (h3 : PySem.W.typeIn K (.ref S) = some (.type "type")) (h4 : PySem.W.subIn K (.ref S) (.ref S) = some true) :
    PySem.W.exmOne K (.ref S) (.ref S) = some true := by
  have e1 : (PySem.W.subIn K (.ref S) (.type "BaseException") == some true) = true := by rw [h1] <;> rfl
  have e2 : ((PySem.W.clsIn K S).isSome && PySem.W.typeIn K (.ref S) == some (.type "type")) = true := by
    have h2' : (PySem.W.clsIn K S).isSome = true := h2
    rw [h2', h3] <;> rfl
  show (if (PySem.W.subIn K (.ref S) (.type "BaseException") == some true) = true then (if ((PySem.W.clsIn K S).isSome && PySem.W.typeIn K (.ref S) == some (.type "type")) = true then PySem.W.subIn K (.ref S) (.ref S) else none) else none) = some true
  rw [if_pos e1, if_pos e2]
  exact h4
/-- what the top has written, put together -/
theorem all_mk {l : PySem.W.OpenLaw} {w : World} {K : PySem.W.Frag} {h : Heap} {mg : Str → Option Value} (X : K.In h) (G : h.Ns mainGlobals mg)
    {fa f_TooWide_init f_box_names f_feet_of f_feet_taken f_given_for f_wires_behind f_wires_at f_below_of f_sizes_of f_worths_of f_check_width f_box_number f_rows_told f_through_box f_through_wires f_Going_init f_Going_rows_of f_Going_size_of f_Going_through f_read_table f_put_in f_parts_with f_Wires_init f_Wires_crossed f_Wires_boxed f_read_program f_done_with f_run f_Passing_init f_Passing_ends_of f_Passing_through_box f_Passing_past_wires f_Passing_passed f_read_relation f_l_cell_at f_l_deck f_l_draw f_l_feet f_l_kit f_l_takes f_l_after f_l_wires f_l_boxes_that_fit f_l_wires_that_fit f_l_picture f_l_small f_l_worths f_l_comes_to f_l_fillings f_l_told f_l_widest f_l_right f_law CG_ CW_ CP_ CT C0 : Addr} (hfa : mg "law" = some (.ref fa))
    {oc_TooWide_init kV_TooWide_init dc_TooWide_init pm_TooWide_init cd_TooWide_init ct_TooWide_init : Value} {od_TooWide_init an_TooWide_init : Option Addr} {sl_TooWide_init : Array (Option Value)}
    {oc_box_names kV_box_names dc_box_names pm_box_names cd_box_names ct_box_names : Value} {od_box_names an_box_names : Option Addr} {sl_box_names : Array (Option Value)}
    {oc_feet_of kV_feet_of dc_feet_of pm_feet_of cd_feet_of ct_feet_of : Value} {od_feet_of an_feet_of : Option Addr} {sl_feet_of : Array (Option Value)}
    {oc_feet_taken kV_feet_taken dc_feet_taken pm_feet_taken cd_feet_taken ct_feet_taken : Value} {od_feet_taken an_feet_taken : Option Addr} {sl_feet_taken : Array (Option Value)}
    {oc_given_for kV_given_for dc_given_for pm_given_for cd_given_for ct_given_for : Value} {od_given_for an_given_for : Option Addr} {sl_given_for : Array (Option Value)}
    {oc_wires_behind kV_wires_behind dc_wires_behind pm_wires_behind cd_wires_behind ct_wires_behind : Value} {od_wires_behind an_wires_behind : Option Addr} {sl_wires_behind : Array (Option Value)}
    {oc_wires_at kV_wires_at dc_wires_at pm_wires_at cd_wires_at ct_wires_at : Value} {od_wires_at an_wires_at : Option Addr} {sl_wires_at : Array (Option Value)}
    {oc_below_of kV_below_of dc_below_of pm_below_of cd_below_of ct_below_of : Value} {od_below_of an_below_of : Option Addr} {sl_below_of : Array (Option Value)}
    {oc_sizes_of kV_sizes_of dc_sizes_of pm_sizes_of cd_sizes_of ct_sizes_of : Value} {od_sizes_of an_sizes_of : Option Addr} {sl_sizes_of : Array (Option Value)}
    {oc_worths_of kV_worths_of dc_worths_of pm_worths_of cd_worths_of ct_worths_of : Value} {od_worths_of an_worths_of : Option Addr} {sl_worths_of : Array (Option Value)}
    {oc_check_width kV_check_width dc_check_width pm_check_width cd_check_width ct_check_width : Value} {od_check_width an_check_width : Option Addr} {sl_check_width : Array (Option Value)}
    {oc_box_number kV_box_number dc_box_number pm_box_number cd_box_number ct_box_number : Value} {od_box_number an_box_number : Option Addr} {sl_box_number : Array (Option Value)}
    {oc_rows_told kV_rows_told dc_rows_told pm_rows_told cd_rows_told ct_rows_told : Value} {od_rows_told an_rows_told : Option Addr} {sl_rows_told : Array (Option Value)}
    {oc_through_box kV_through_box dc_through_box pm_through_box cd_through_box ct_through_box : Value} {od_through_box an_through_box : Option Addr} {sl_through_box : Array (Option Value)}
    {oc_through_wires kV_through_wires dc_through_wires pm_through_wires cd_through_wires ct_through_wires : Value} {od_through_wires an_through_wires : Option Addr} {sl_through_wires : Array (Option Value)}
    {oc_Going_init kV_Going_init dc_Going_init pm_Going_init cd_Going_init ct_Going_init : Value} {od_Going_init an_Going_init : Option Addr} {sl_Going_init : Array (Option Value)}
    {oc_Going_rows_of kV_Going_rows_of dc_Going_rows_of pm_Going_rows_of cd_Going_rows_of ct_Going_rows_of : Value} {od_Going_rows_of an_Going_rows_of : Option Addr} {sl_Going_rows_of : Array (Option Value)}
    {oc_Going_size_of kV_Going_size_of dc_Going_size_of pm_Going_size_of cd_Going_size_of ct_Going_size_of : Value} {od_Going_size_of an_Going_size_of : Option Addr} {sl_Going_size_of : Array (Option Value)}
    {oc_Going_through kV_Going_through dc_Going_through pm_Going_through cd_Going_through ct_Going_through : Value} {od_Going_through an_Going_through : Option Addr} {sl_Going_through : Array (Option Value)}
    {oc_read_table kV_read_table dc_read_table pm_read_table cd_read_table ct_read_table : Value} {od_read_table an_read_table : Option Addr} {sl_read_table : Array (Option Value)}
    {oc_put_in kV_put_in dc_put_in pm_put_in cd_put_in ct_put_in : Value} {od_put_in an_put_in : Option Addr} {sl_put_in : Array (Option Value)}
    {oc_parts_with kV_parts_with dc_parts_with pm_parts_with cd_parts_with ct_parts_with : Value} {od_parts_with an_parts_with : Option Addr} {sl_parts_with : Array (Option Value)}
    {oc_Wires_init kV_Wires_init dc_Wires_init pm_Wires_init cd_Wires_init ct_Wires_init : Value} {od_Wires_init an_Wires_init : Option Addr} {sl_Wires_init : Array (Option Value)}
    {oc_Wires_crossed kV_Wires_crossed dc_Wires_crossed pm_Wires_crossed cd_Wires_crossed ct_Wires_crossed : Value} {od_Wires_crossed an_Wires_crossed : Option Addr} {sl_Wires_crossed : Array (Option Value)}
    {oc_Wires_boxed kV_Wires_boxed dc_Wires_boxed pm_Wires_boxed cd_Wires_boxed ct_Wires_boxed : Value} {od_Wires_boxed an_Wires_boxed : Option Addr} {sl_Wires_boxed : Array (Option Value)}
    {oc_read_program kV_read_program dc_read_program pm_read_program cd_read_program ct_read_program : Value} {od_read_program an_read_program : Option Addr} {sl_read_program : Array (Option Value)}
    {oc_done_with kV_done_with dc_done_with pm_done_with cd_done_with ct_done_with : Value} {od_done_with an_done_with : Option Addr} {sl_done_with : Array (Option Value)}
    {oc_run kV_run dc_run pm_run cd_run ct_run : Value} {od_run an_run : Option Addr} {sl_run : Array (Option Value)}
    {oc_Passing_init kV_Passing_init dc_Passing_init pm_Passing_init cd_Passing_init ct_Passing_init : Value} {od_Passing_init an_Passing_init : Option Addr} {sl_Passing_init : Array (Option Value)}
    {oc_Passing_ends_of kV_Passing_ends_of dc_Passing_ends_of pm_Passing_ends_of cd_Passing_ends_of ct_Passing_ends_of : Value} {od_Passing_ends_of an_Passing_ends_of : Option Addr} {sl_Passing_ends_of : Array (Option Value)}
    {oc_Passing_through_box kV_Passing_through_box dc_Passing_through_box pm_Passing_through_box cd_Passing_through_box ct_Passing_through_box : Value} {od_Passing_through_box an_Passing_through_box : Option Addr} {sl_Passing_through_box : Array (Option Value)}
    {oc_Passing_past_wires kV_Passing_past_wires dc_Passing_past_wires pm_Passing_past_wires cd_Passing_past_wires ct_Passing_past_wires : Value} {od_Passing_past_wires an_Passing_past_wires : Option Addr} {sl_Passing_past_wires : Array (Option Value)}
    {oc_Passing_passed kV_Passing_passed dc_Passing_passed pm_Passing_passed cd_Passing_passed ct_Passing_passed : Value} {od_Passing_passed an_Passing_passed : Option Addr} {sl_Passing_passed : Array (Option Value)}
    {oc_read_relation kV_read_relation dc_read_relation pm_read_relation cd_read_relation ct_read_relation : Value} {od_read_relation an_read_relation : Option Addr} {sl_read_relation : Array (Option Value)}
    {oc_l_cell_at kV_l_cell_at dc_l_cell_at pm_l_cell_at cd_l_cell_at ct_l_cell_at : Value} {od_l_cell_at an_l_cell_at : Option Addr} {sl_l_cell_at : Array (Option Value)}
    {oc_l_deck kV_l_deck dc_l_deck pm_l_deck cd_l_deck ct_l_deck : Value} {od_l_deck an_l_deck : Option Addr} {sl_l_deck : Array (Option Value)}
    {oc_l_draw kV_l_draw dc_l_draw pm_l_draw cd_l_draw ct_l_draw : Value} {od_l_draw an_l_draw : Option Addr} {sl_l_draw : Array (Option Value)}
    {oc_l_feet kV_l_feet dc_l_feet pm_l_feet cd_l_feet ct_l_feet : Value} {od_l_feet an_l_feet : Option Addr} {sl_l_feet : Array (Option Value)}
    {oc_l_kit kV_l_kit dc_l_kit pm_l_kit cd_l_kit ct_l_kit : Value} {od_l_kit an_l_kit : Option Addr} {sl_l_kit : Array (Option Value)}
    {oc_l_takes kV_l_takes dc_l_takes pm_l_takes cd_l_takes ct_l_takes : Value} {od_l_takes an_l_takes : Option Addr} {sl_l_takes : Array (Option Value)}
    {oc_l_after kV_l_after dc_l_after pm_l_after cd_l_after ct_l_after : Value} {od_l_after an_l_after : Option Addr} {sl_l_after : Array (Option Value)}
    {oc_l_wires kV_l_wires dc_l_wires pm_l_wires cd_l_wires ct_l_wires : Value} {od_l_wires an_l_wires : Option Addr} {sl_l_wires : Array (Option Value)}
    {oc_l_boxes_that_fit kV_l_boxes_that_fit dc_l_boxes_that_fit pm_l_boxes_that_fit cd_l_boxes_that_fit ct_l_boxes_that_fit : Value} {od_l_boxes_that_fit an_l_boxes_that_fit : Option Addr} {sl_l_boxes_that_fit : Array (Option Value)}
    {oc_l_wires_that_fit kV_l_wires_that_fit dc_l_wires_that_fit pm_l_wires_that_fit cd_l_wires_that_fit ct_l_wires_that_fit : Value} {od_l_wires_that_fit an_l_wires_that_fit : Option Addr} {sl_l_wires_that_fit : Array (Option Value)}
    {oc_l_picture kV_l_picture dc_l_picture pm_l_picture cd_l_picture ct_l_picture : Value} {od_l_picture an_l_picture : Option Addr} {sl_l_picture : Array (Option Value)}
    {oc_l_small kV_l_small dc_l_small pm_l_small cd_l_small ct_l_small : Value} {od_l_small an_l_small : Option Addr} {sl_l_small : Array (Option Value)}
    {oc_l_worths kV_l_worths dc_l_worths pm_l_worths cd_l_worths ct_l_worths : Value} {od_l_worths an_l_worths : Option Addr} {sl_l_worths : Array (Option Value)}
    {oc_l_comes_to kV_l_comes_to dc_l_comes_to pm_l_comes_to cd_l_comes_to ct_l_comes_to : Value} {od_l_comes_to an_l_comes_to : Option Addr} {sl_l_comes_to : Array (Option Value)}
    {oc_l_fillings kV_l_fillings dc_l_fillings pm_l_fillings cd_l_fillings ct_l_fillings : Value} {od_l_fillings an_l_fillings : Option Addr} {sl_l_fillings : Array (Option Value)}
    {oc_l_told kV_l_told dc_l_told pm_l_told cd_l_told ct_l_told : Value} {od_l_told an_l_told : Option Addr} {sl_l_told : Array (Option Value)}
    {oc_l_widest kV_l_widest dc_l_widest pm_l_widest cd_l_widest ct_l_widest : Value} {od_l_widest an_l_widest : Option Addr} {sl_l_widest : Array (Option Value)}
    {oc_l_right kV_l_right dc_l_right pm_l_right cd_l_right ct_l_right : Value} {od_l_right an_l_right : Option Addr} {sl_l_right : Array (Option Value)}
    {oc_law kV_law dc_law pm_law cd_law ct_law : Value} {od_law an_law : Option Addr} {sl_law : Array (Option Value)}
    {nm_T q_T : Str} {N_T : Addr} {bs_T sub_T : List Value} {sn_T : List Str} {ab_T : Bool} {col_T : Option Bool} {dd_T : Option Addr} {m0 m1 m2 m3 m5 : Option Value}
    {tM tP : Tok}
    (a_TooWide : PySem.W.nsIn K mainGlobals "TooWide" = some (some (.ref CT)))
    (a_WireError : PySem.W.nsIn K mainGlobals "WireError" = some (some (.ref C0)))
    (a_Passing : PySem.W.nsIn K mainGlobals "Passing" = some (some (.ref CP_)))
    (a_Wires : PySem.W.nsIn K mainGlobals "Wires" = some (some (.ref CW_)))
    (a_Going : PySem.W.nsIn K mainGlobals "Going" = some (some (.ref CG_)))
    (a_TooWide_init : PySem.W.findIn K (.ref CT) "__init__" = some (some (.ref f_TooWide_init)))
    (t_TooWide_init : PySem.W.typeIn K (.ref f_TooWide_init) = some (.type "function"))
    (l_TooWide_init_ : K.lookup f_TooWide_init = some ⟨oc_TooWide_init, od_TooWide_init, .func (PySem.W.fnOf "__init__" "TooWide.__init__" (defArgs s_TooWide_init) (defBody s_TooWide_init) (defScope s_TooWide_init) .none kV_TooWide_init dc_TooWide_init pm_TooWide_init an_TooWide_init cd_TooWide_init ct_TooWide_init), sl_TooWide_init⟩)
    (c_TooWide_init : PySem.W.codeIn K cd_TooWide_init "TooWide.__init__" = true)
    (k_TooWide_init : PySem.W.keepIn K (.ref f_TooWide_init) = true)
    (a_box_names : PySem.W.nsIn K mainGlobals "box_names" = some (some (.ref f_box_names)))
    (l_box_names_ : K.lookup f_box_names = some ⟨oc_box_names, od_box_names, .func (PySem.W.fnOf "box_names" "box_names" (defArgs s_box_names) (defBody s_box_names) (defScope s_box_names) .none kV_box_names dc_box_names pm_box_names an_box_names cd_box_names ct_box_names), sl_box_names⟩)
    (c_box_names : PySem.W.codeIn K cd_box_names "box_names" = true)
    (k_box_names : PySem.W.keepIn K (.ref f_box_names) = true)
    (a_feet_of : PySem.W.nsIn K mainGlobals "feet_of" = some (some (.ref f_feet_of)))
    (l_feet_of_ : K.lookup f_feet_of = some ⟨oc_feet_of, od_feet_of, .func (PySem.W.fnOf "feet_of" "feet_of" (defArgs s_feet_of) (defBody s_feet_of) (defScope s_feet_of) .none kV_feet_of dc_feet_of pm_feet_of an_feet_of cd_feet_of ct_feet_of), sl_feet_of⟩)
    (c_feet_of : PySem.W.codeIn K cd_feet_of "feet_of" = true)
    (k_feet_of : PySem.W.keepIn K (.ref f_feet_of) = true)
    (a_feet_taken : PySem.W.nsIn K mainGlobals "feet_taken" = some (some (.ref f_feet_taken)))
    (l_feet_taken_ : K.lookup f_feet_taken = some ⟨oc_feet_taken, od_feet_taken, .func (PySem.W.fnOf "feet_taken" "feet_taken" (defArgs s_feet_taken) (defBody s_feet_taken) (defScope s_feet_taken) .none kV_feet_taken dc_feet_taken pm_feet_taken an_feet_taken cd_feet_taken ct_feet_taken), sl_feet_taken⟩)
    (c_feet_taken : PySem.W.codeIn K cd_feet_taken "feet_taken" = true)
    (k_feet_taken : PySem.W.keepIn K (.ref f_feet_taken) = true)
    (a_given_for : PySem.W.nsIn K mainGlobals "given_for" = some (some (.ref f_given_for)))
    (l_given_for_ : K.lookup f_given_for = some ⟨oc_given_for, od_given_for, .func (PySem.W.fnOf "given_for" "given_for" (defArgs s_given_for) (defBody s_given_for) (defScope s_given_for) .none kV_given_for dc_given_for pm_given_for an_given_for cd_given_for ct_given_for), sl_given_for⟩)
    (c_given_for : PySem.W.codeIn K cd_given_for "given_for" = true)
    (k_given_for : PySem.W.keepIn K (.ref f_given_for) = true)
    (a_wires_behind : PySem.W.nsIn K mainGlobals "wires_behind" = some (some (.ref f_wires_behind)))
    (l_wires_behind_ : K.lookup f_wires_behind = some ⟨oc_wires_behind, od_wires_behind, .func (PySem.W.fnOf "wires_behind" "wires_behind" (defArgs s_wires_behind) (defBody s_wires_behind) (defScope s_wires_behind) .none kV_wires_behind dc_wires_behind pm_wires_behind an_wires_behind cd_wires_behind ct_wires_behind), sl_wires_behind⟩)
    (c_wires_behind : PySem.W.codeIn K cd_wires_behind "wires_behind" = true)
    (k_wires_behind : PySem.W.keepIn K (.ref f_wires_behind) = true)
    (a_wires_at : PySem.W.nsIn K mainGlobals "wires_at" = some (some (.ref f_wires_at)))
    (l_wires_at_ : K.lookup f_wires_at = some ⟨oc_wires_at, od_wires_at, .func (PySem.W.fnOf "wires_at" "wires_at" (defArgs s_wires_at) (defBody s_wires_at) (defScope s_wires_at) .none kV_wires_at dc_wires_at pm_wires_at an_wires_at cd_wires_at ct_wires_at), sl_wires_at⟩)
    (c_wires_at : PySem.W.codeIn K cd_wires_at "wires_at" = true)
    (k_wires_at : PySem.W.keepIn K (.ref f_wires_at) = true)
    (a_below_of : PySem.W.nsIn K mainGlobals "below_of" = some (some (.ref f_below_of)))
    (l_below_of_ : K.lookup f_below_of = some ⟨oc_below_of, od_below_of, .func (PySem.W.fnOf "below_of" "below_of" (defArgs s_below_of) (defBody s_below_of) (defScope s_below_of) .none kV_below_of dc_below_of pm_below_of an_below_of cd_below_of ct_below_of), sl_below_of⟩)
    (c_below_of : PySem.W.codeIn K cd_below_of "below_of" = true)
    (k_below_of : PySem.W.keepIn K (.ref f_below_of) = true)
    (a_sizes_of : PySem.W.nsIn K mainGlobals "sizes_of" = some (some (.ref f_sizes_of)))
    (l_sizes_of_ : K.lookup f_sizes_of = some ⟨oc_sizes_of, od_sizes_of, .func (PySem.W.fnOf "sizes_of" "sizes_of" (defArgs s_sizes_of) (defBody s_sizes_of) (defScope s_sizes_of) .none kV_sizes_of dc_sizes_of pm_sizes_of an_sizes_of cd_sizes_of ct_sizes_of), sl_sizes_of⟩)
    (c_sizes_of : PySem.W.codeIn K cd_sizes_of "sizes_of" = true)
    (k_sizes_of : PySem.W.keepIn K (.ref f_sizes_of) = true)
    (a_worths_of : PySem.W.nsIn K mainGlobals "worths_of" = some (some (.ref f_worths_of)))
    (l_worths_of_ : K.lookup f_worths_of = some ⟨oc_worths_of, od_worths_of, .func (PySem.W.fnOf "worths_of" "worths_of" (defArgs s_worths_of) (defBody s_worths_of) (defScope s_worths_of) .none kV_worths_of dc_worths_of pm_worths_of an_worths_of cd_worths_of ct_worths_of), sl_worths_of⟩)
    (c_worths_of : PySem.W.codeIn K cd_worths_of "worths_of" = true)
    (k_worths_of : PySem.W.keepIn K (.ref f_worths_of) = true)
    (a_check_width : PySem.W.nsIn K mainGlobals "check_width" = some (some (.ref f_check_width)))
    (l_check_width_ : K.lookup f_check_width = some ⟨oc_check_width, od_check_width, .func (PySem.W.fnOf "check_width" "check_width" (defArgs s_check_width) (defBody s_check_width) (defScope s_check_width) .none kV_check_width dc_check_width pm_check_width an_check_width cd_check_width ct_check_width), sl_check_width⟩)
    (c_check_width : PySem.W.codeIn K cd_check_width "check_width" = true)
    (k_check_width : PySem.W.keepIn K (.ref f_check_width) = true)
    (a_box_number : PySem.W.nsIn K mainGlobals "box_number" = some (some (.ref f_box_number)))
    (l_box_number_ : K.lookup f_box_number = some ⟨oc_box_number, od_box_number, .func (PySem.W.fnOf "box_number" "box_number" (defArgs s_box_number) (defBody s_box_number) (defScope s_box_number) .none kV_box_number dc_box_number pm_box_number an_box_number cd_box_number ct_box_number), sl_box_number⟩)
    (c_box_number : PySem.W.codeIn K cd_box_number "box_number" = true)
    (k_box_number : PySem.W.keepIn K (.ref f_box_number) = true)
    (a_rows_told : PySem.W.nsIn K mainGlobals "rows_told" = some (some (.ref f_rows_told)))
    (l_rows_told_ : K.lookup f_rows_told = some ⟨oc_rows_told, od_rows_told, .func (PySem.W.fnOf "rows_told" "rows_told" (defArgs s_rows_told) (defBody s_rows_told) (defScope s_rows_told) .none kV_rows_told dc_rows_told pm_rows_told an_rows_told cd_rows_told ct_rows_told), sl_rows_told⟩)
    (c_rows_told : PySem.W.codeIn K cd_rows_told "rows_told" = true)
    (k_rows_told : PySem.W.keepIn K (.ref f_rows_told) = true)
    (a_through_box : PySem.W.nsIn K mainGlobals "through_box" = some (some (.ref f_through_box)))
    (l_through_box_ : K.lookup f_through_box = some ⟨oc_through_box, od_through_box, .func (PySem.W.fnOf "through_box" "through_box" (defArgs s_through_box) (defBody s_through_box) (defScope s_through_box) .none kV_through_box dc_through_box pm_through_box an_through_box cd_through_box ct_through_box), sl_through_box⟩)
    (c_through_box : PySem.W.codeIn K cd_through_box "through_box" = true)
    (k_through_box : PySem.W.keepIn K (.ref f_through_box) = true)
    (a_through_wires : PySem.W.nsIn K mainGlobals "through_wires" = some (some (.ref f_through_wires)))
    (l_through_wires_ : K.lookup f_through_wires = some ⟨oc_through_wires, od_through_wires, .func (PySem.W.fnOf "through_wires" "through_wires" (defArgs s_through_wires) (defBody s_through_wires) (defScope s_through_wires) .none kV_through_wires dc_through_wires pm_through_wires an_through_wires cd_through_wires ct_through_wires), sl_through_wires⟩)
    (c_through_wires : PySem.W.codeIn K cd_through_wires "through_wires" = true)
    (k_through_wires : PySem.W.keepIn K (.ref f_through_wires) = true)
    (a_Going_init : PySem.W.findIn K (.ref CG_) "__init__" = some (some (.ref f_Going_init)))
    (i_Going_init : PySem.W.isFn K (.ref f_Going_init) = true)
    (l_Going_init_ : K.lookup f_Going_init = some ⟨oc_Going_init, od_Going_init, .func (PySem.W.fnOf "__init__" "Going.__init__" (defArgs s_Going_init) (defBody s_Going_init) (defScope s_Going_init) .none kV_Going_init dc_Going_init pm_Going_init an_Going_init cd_Going_init ct_Going_init), sl_Going_init⟩)
    (c_Going_init : PySem.W.codeIn K cd_Going_init "Going.__init__" = true)
    (k_Going_init : PySem.W.keepIn K (.ref f_Going_init) = true)
    (a_Going_rows_of : PySem.W.findIn K (.ref CG_) "rows_of" = some (some (.ref f_Going_rows_of)))
    (i_Going_rows_of : PySem.W.isFn K (.ref f_Going_rows_of) = true)
    (l_Going_rows_of_ : K.lookup f_Going_rows_of = some ⟨oc_Going_rows_of, od_Going_rows_of, .func (PySem.W.fnOf "rows_of" "Going.rows_of" (defArgs s_Going_rows_of) (defBody s_Going_rows_of) (defScope s_Going_rows_of) .none kV_Going_rows_of dc_Going_rows_of pm_Going_rows_of an_Going_rows_of cd_Going_rows_of ct_Going_rows_of), sl_Going_rows_of⟩)
    (c_Going_rows_of : PySem.W.codeIn K cd_Going_rows_of "Going.rows_of" = true)
    (k_Going_rows_of : PySem.W.keepIn K (.ref f_Going_rows_of) = true)
    (a_Going_size_of : PySem.W.findIn K (.ref CG_) "size_of" = some (some (.ref f_Going_size_of)))
    (i_Going_size_of : PySem.W.isFn K (.ref f_Going_size_of) = true)
    (l_Going_size_of_ : K.lookup f_Going_size_of = some ⟨oc_Going_size_of, od_Going_size_of, .func (PySem.W.fnOf "size_of" "Going.size_of" (defArgs s_Going_size_of) (defBody s_Going_size_of) (defScope s_Going_size_of) .none kV_Going_size_of dc_Going_size_of pm_Going_size_of an_Going_size_of cd_Going_size_of ct_Going_size_of), sl_Going_size_of⟩)
    (c_Going_size_of : PySem.W.codeIn K cd_Going_size_of "Going.size_of" = true)
    (k_Going_size_of : PySem.W.keepIn K (.ref f_Going_size_of) = true)
    (a_Going_through : PySem.W.findIn K (.ref CG_) "through" = some (some (.ref f_Going_through)))
    (i_Going_through : PySem.W.isFn K (.ref f_Going_through) = true)
    (l_Going_through_ : K.lookup f_Going_through = some ⟨oc_Going_through, od_Going_through, .func (PySem.W.fnOf "through" "Going.through" (defArgs s_Going_through) (defBody s_Going_through) (defScope s_Going_through) .none kV_Going_through dc_Going_through pm_Going_through an_Going_through cd_Going_through ct_Going_through), sl_Going_through⟩)
    (c_Going_through : PySem.W.codeIn K cd_Going_through "Going.through" = true)
    (k_Going_through : PySem.W.keepIn K (.ref f_Going_through) = true)
    (a_read_table : PySem.W.nsIn K mainGlobals "read_table" = some (some (.ref f_read_table)))
    (l_read_table_ : K.lookup f_read_table = some ⟨oc_read_table, od_read_table, .func (PySem.W.fnOf "read_table" "read_table" (defArgs s_read_table) (defBody s_read_table) (defScope s_read_table) .none kV_read_table dc_read_table pm_read_table an_read_table cd_read_table ct_read_table), sl_read_table⟩)
    (c_read_table : PySem.W.codeIn K cd_read_table "read_table" = true)
    (k_read_table : PySem.W.keepIn K (.ref f_read_table) = true)
    (a_put_in : PySem.W.nsIn K mainGlobals "put_in" = some (some (.ref f_put_in)))
    (l_put_in_ : K.lookup f_put_in = some ⟨oc_put_in, od_put_in, .func (PySem.W.fnOf "put_in" "put_in" (defArgs s_put_in) (defBody s_put_in) (defScope s_put_in) .none kV_put_in dc_put_in pm_put_in an_put_in cd_put_in ct_put_in), sl_put_in⟩)
    (c_put_in : PySem.W.codeIn K cd_put_in "put_in" = true)
    (k_put_in : PySem.W.keepIn K (.ref f_put_in) = true)
    (a_parts_with : PySem.W.nsIn K mainGlobals "parts_with" = some (some (.ref f_parts_with)))
    (l_parts_with_ : K.lookup f_parts_with = some ⟨oc_parts_with, od_parts_with, .func (PySem.W.fnOf "parts_with" "parts_with" (defArgs s_parts_with) (defBody s_parts_with) (defScope s_parts_with) .none kV_parts_with dc_parts_with pm_parts_with an_parts_with cd_parts_with ct_parts_with), sl_parts_with⟩)
    (c_parts_with : PySem.W.codeIn K cd_parts_with "parts_with" = true)
    (k_parts_with : PySem.W.keepIn K (.ref f_parts_with) = true)
    (a_Wires_init : PySem.W.findIn K (.ref CW_) "__init__" = some (some (.ref f_Wires_init)))
    (i_Wires_init : PySem.W.isFn K (.ref f_Wires_init) = true)
    (l_Wires_init_ : K.lookup f_Wires_init = some ⟨oc_Wires_init, od_Wires_init, .func (PySem.W.fnOf "__init__" "Wires.__init__" (defArgs s_Wires_init) (defBody s_Wires_init) (defScope s_Wires_init) .none kV_Wires_init dc_Wires_init pm_Wires_init an_Wires_init cd_Wires_init ct_Wires_init), sl_Wires_init⟩)
    (c_Wires_init : PySem.W.codeIn K cd_Wires_init "Wires.__init__" = true)
    (k_Wires_init : PySem.W.keepIn K (.ref f_Wires_init) = true)
    (a_Wires_crossed : PySem.W.findIn K (.ref CW_) "crossed" = some (some (.ref f_Wires_crossed)))
    (i_Wires_crossed : PySem.W.isFn K (.ref f_Wires_crossed) = true)
    (l_Wires_crossed_ : K.lookup f_Wires_crossed = some ⟨oc_Wires_crossed, od_Wires_crossed, .func (PySem.W.fnOf "crossed" "Wires.crossed" (defArgs s_Wires_crossed) (defBody s_Wires_crossed) (defScope s_Wires_crossed) .none kV_Wires_crossed dc_Wires_crossed pm_Wires_crossed an_Wires_crossed cd_Wires_crossed ct_Wires_crossed), sl_Wires_crossed⟩)
    (c_Wires_crossed : PySem.W.codeIn K cd_Wires_crossed "Wires.crossed" = true)
    (k_Wires_crossed : PySem.W.keepIn K (.ref f_Wires_crossed) = true)
    (a_Wires_boxed : PySem.W.findIn K (.ref CW_) "boxed" = some (some (.ref f_Wires_boxed)))
    (i_Wires_boxed : PySem.W.isFn K (.ref f_Wires_boxed) = true)
    (l_Wires_boxed_ : K.lookup f_Wires_boxed = some ⟨oc_Wires_boxed, od_Wires_boxed, .func (PySem.W.fnOf "boxed" "Wires.boxed" (defArgs s_Wires_boxed) (defBody s_Wires_boxed) (defScope s_Wires_boxed) .none kV_Wires_boxed dc_Wires_boxed pm_Wires_boxed an_Wires_boxed cd_Wires_boxed ct_Wires_boxed), sl_Wires_boxed⟩)
    (c_Wires_boxed : PySem.W.codeIn K cd_Wires_boxed "Wires.boxed" = true)
    (k_Wires_boxed : PySem.W.keepIn K (.ref f_Wires_boxed) = true)
    (a_read_program : PySem.W.nsIn K mainGlobals "read_program" = some (some (.ref f_read_program)))
    (l_read_program_ : K.lookup f_read_program = some ⟨oc_read_program, od_read_program, .func (PySem.W.fnOf "read_program" "read_program" (defArgs s_read_program) (defBody s_read_program) (defScope s_read_program) .none kV_read_program dc_read_program pm_read_program an_read_program cd_read_program ct_read_program), sl_read_program⟩)
    (c_read_program : PySem.W.codeIn K cd_read_program "read_program" = true)
    (k_read_program : PySem.W.keepIn K (.ref f_read_program) = true)
    (a_done_with : PySem.W.nsIn K mainGlobals "done_with" = some (some (.ref f_done_with)))
    (l_done_with_ : K.lookup f_done_with = some ⟨oc_done_with, od_done_with, .func (PySem.W.fnOf "done_with" "done_with" (defArgs s_done_with) (defBody s_done_with) (defScope s_done_with) .none kV_done_with dc_done_with pm_done_with an_done_with cd_done_with ct_done_with), sl_done_with⟩)
    (c_done_with : PySem.W.codeIn K cd_done_with "done_with" = true)
    (k_done_with : PySem.W.keepIn K (.ref f_done_with) = true)
    (a_run : PySem.W.nsIn K mainGlobals "run" = some (some (.ref f_run)))
    (l_run_ : K.lookup f_run = some ⟨oc_run, od_run, .func (PySem.W.fnOf "run" "run" (defArgs s_run) (defBody s_run) (defScope s_run) .none kV_run dc_run pm_run an_run cd_run ct_run), sl_run⟩)
    (c_run : PySem.W.codeIn K cd_run "run" = true)
    (k_run : PySem.W.keepIn K (.ref f_run) = true)
    (a_Passing_init : PySem.W.findIn K (.ref CP_) "__init__" = some (some (.ref f_Passing_init)))
    (i_Passing_init : PySem.W.isFn K (.ref f_Passing_init) = true)
    (l_Passing_init_ : K.lookup f_Passing_init = some ⟨oc_Passing_init, od_Passing_init, .func (PySem.W.fnOf "__init__" "Passing.__init__" (defArgs s_Passing_init) (defBody s_Passing_init) (defScope s_Passing_init) .none kV_Passing_init dc_Passing_init pm_Passing_init an_Passing_init cd_Passing_init ct_Passing_init), sl_Passing_init⟩)
    (c_Passing_init : PySem.W.codeIn K cd_Passing_init "Passing.__init__" = true)
    (k_Passing_init : PySem.W.keepIn K (.ref f_Passing_init) = true)
    (a_Passing_ends_of : PySem.W.findIn K (.ref CP_) "ends_of" = some (some (.ref f_Passing_ends_of)))
    (i_Passing_ends_of : PySem.W.isFn K (.ref f_Passing_ends_of) = true)
    (l_Passing_ends_of_ : K.lookup f_Passing_ends_of = some ⟨oc_Passing_ends_of, od_Passing_ends_of, .func (PySem.W.fnOf "ends_of" "Passing.ends_of" (defArgs s_Passing_ends_of) (defBody s_Passing_ends_of) (defScope s_Passing_ends_of) .none kV_Passing_ends_of dc_Passing_ends_of pm_Passing_ends_of an_Passing_ends_of cd_Passing_ends_of ct_Passing_ends_of), sl_Passing_ends_of⟩)
    (c_Passing_ends_of : PySem.W.codeIn K cd_Passing_ends_of "Passing.ends_of" = true)
    (k_Passing_ends_of : PySem.W.keepIn K (.ref f_Passing_ends_of) = true)
    (a_Passing_through_box : PySem.W.findIn K (.ref CP_) "through_box" = some (some (.ref f_Passing_through_box)))
    (i_Passing_through_box : PySem.W.isFn K (.ref f_Passing_through_box) = true)
    (l_Passing_through_box_ : K.lookup f_Passing_through_box = some ⟨oc_Passing_through_box, od_Passing_through_box, .func (PySem.W.fnOf "through_box" "Passing.through_box" (defArgs s_Passing_through_box) (defBody s_Passing_through_box) (defScope s_Passing_through_box) .none kV_Passing_through_box dc_Passing_through_box pm_Passing_through_box an_Passing_through_box cd_Passing_through_box ct_Passing_through_box), sl_Passing_through_box⟩)
    (c_Passing_through_box : PySem.W.codeIn K cd_Passing_through_box "Passing.through_box" = true)
    (k_Passing_through_box : PySem.W.keepIn K (.ref f_Passing_through_box) = true)
    (a_Passing_past_wires : PySem.W.findIn K (.ref CP_) "past_wires" = some (some (.ref f_Passing_past_wires)))
    (i_Passing_past_wires : PySem.W.isFn K (.ref f_Passing_past_wires) = true)
    (l_Passing_past_wires_ : K.lookup f_Passing_past_wires = some ⟨oc_Passing_past_wires, od_Passing_past_wires, .func (PySem.W.fnOf "past_wires" "Passing.past_wires" (defArgs s_Passing_past_wires) (defBody s_Passing_past_wires) (defScope s_Passing_past_wires) .none kV_Passing_past_wires dc_Passing_past_wires pm_Passing_past_wires an_Passing_past_wires cd_Passing_past_wires ct_Passing_past_wires), sl_Passing_past_wires⟩)
    (c_Passing_past_wires : PySem.W.codeIn K cd_Passing_past_wires "Passing.past_wires" = true)
    (k_Passing_past_wires : PySem.W.keepIn K (.ref f_Passing_past_wires) = true)
    (a_Passing_passed : PySem.W.findIn K (.ref CP_) "passed" = some (some (.ref f_Passing_passed)))
    (i_Passing_passed : PySem.W.isFn K (.ref f_Passing_passed) = true)
    (l_Passing_passed_ : K.lookup f_Passing_passed = some ⟨oc_Passing_passed, od_Passing_passed, .func (PySem.W.fnOf "passed" "Passing.passed" (defArgs s_Passing_passed) (defBody s_Passing_passed) (defScope s_Passing_passed) .none kV_Passing_passed dc_Passing_passed pm_Passing_passed an_Passing_passed cd_Passing_passed ct_Passing_passed), sl_Passing_passed⟩)
    (c_Passing_passed : PySem.W.codeIn K cd_Passing_passed "Passing.passed" = true)
    (k_Passing_passed : PySem.W.keepIn K (.ref f_Passing_passed) = true)
    (a_read_relation : PySem.W.nsIn K mainGlobals "read_relation" = some (some (.ref f_read_relation)))
    (l_read_relation_ : K.lookup f_read_relation = some ⟨oc_read_relation, od_read_relation, .func (PySem.W.fnOf "read_relation" "read_relation" (defArgs s_read_relation) (defBody s_read_relation) (defScope s_read_relation) .none kV_read_relation dc_read_relation pm_read_relation an_read_relation cd_read_relation ct_read_relation), sl_read_relation⟩)
    (c_read_relation : PySem.W.codeIn K cd_read_relation "read_relation" = true)
    (k_read_relation : PySem.W.keepIn K (.ref f_read_relation) = true)
    (a_l_cell_at : PySem.W.nsIn K mainGlobals "_law_cell_at" = some (some (.ref f_l_cell_at)))
    (l_l_cell_at_ : K.lookup f_l_cell_at = some ⟨oc_l_cell_at, od_l_cell_at, .func (PySem.W.fnOf "_law_cell_at" "_law_cell_at" (defArgs s_l_cell_at) (defBody s_l_cell_at) (defScope s_l_cell_at) .none kV_l_cell_at dc_l_cell_at pm_l_cell_at an_l_cell_at cd_l_cell_at ct_l_cell_at), sl_l_cell_at⟩)
    (c_l_cell_at : PySem.W.codeIn K cd_l_cell_at "_law_cell_at" = true)
    (k_l_cell_at : PySem.W.keepIn K (.ref f_l_cell_at) = true)
    (a_l_deck : PySem.W.nsIn K mainGlobals "_law_deck" = some (some (.ref f_l_deck)))
    (l_l_deck_ : K.lookup f_l_deck = some ⟨oc_l_deck, od_l_deck, .func (PySem.W.fnOf "_law_deck" "_law_deck" (defArgs s_l_deck) (defBody s_l_deck) (defScope s_l_deck) .none kV_l_deck dc_l_deck pm_l_deck an_l_deck cd_l_deck ct_l_deck), sl_l_deck⟩)
    (c_l_deck : PySem.W.codeIn K cd_l_deck "_law_deck" = true)
    (k_l_deck : PySem.W.keepIn K (.ref f_l_deck) = true)
    (a_l_draw : PySem.W.nsIn K mainGlobals "_law_draw" = some (some (.ref f_l_draw)))
    (l_l_draw_ : K.lookup f_l_draw = some ⟨oc_l_draw, od_l_draw, .func (PySem.W.fnOf "_law_draw" "_law_draw" (defArgs s_l_draw) (defBody s_l_draw) (defScope s_l_draw) .none kV_l_draw dc_l_draw pm_l_draw an_l_draw cd_l_draw ct_l_draw), sl_l_draw⟩)
    (c_l_draw : PySem.W.codeIn K cd_l_draw "_law_draw" = true)
    (k_l_draw : PySem.W.keepIn K (.ref f_l_draw) = true)
    (a_l_feet : PySem.W.nsIn K mainGlobals "_law_feet" = some (some (.ref f_l_feet)))
    (l_l_feet_ : K.lookup f_l_feet = some ⟨oc_l_feet, od_l_feet, .func (PySem.W.fnOf "_law_feet" "_law_feet" (defArgs s_l_feet) (defBody s_l_feet) (defScope s_l_feet) .none kV_l_feet dc_l_feet pm_l_feet an_l_feet cd_l_feet ct_l_feet), sl_l_feet⟩)
    (c_l_feet : PySem.W.codeIn K cd_l_feet "_law_feet" = true)
    (k_l_feet : PySem.W.keepIn K (.ref f_l_feet) = true)
    (a_l_kit : PySem.W.nsIn K mainGlobals "_law_kit" = some (some (.ref f_l_kit)))
    (l_l_kit_ : K.lookup f_l_kit = some ⟨oc_l_kit, od_l_kit, .func (PySem.W.fnOf "_law_kit" "_law_kit" (defArgs s_l_kit) (defBody s_l_kit) (defScope s_l_kit) .none kV_l_kit dc_l_kit pm_l_kit an_l_kit cd_l_kit ct_l_kit), sl_l_kit⟩)
    (c_l_kit : PySem.W.codeIn K cd_l_kit "_law_kit" = true)
    (k_l_kit : PySem.W.keepIn K (.ref f_l_kit) = true)
    (a_l_takes : PySem.W.nsIn K mainGlobals "_law_takes" = some (some (.ref f_l_takes)))
    (l_l_takes_ : K.lookup f_l_takes = some ⟨oc_l_takes, od_l_takes, .func (PySem.W.fnOf "_law_takes" "_law_takes" (defArgs s_l_takes) (defBody s_l_takes) (defScope s_l_takes) .none kV_l_takes dc_l_takes pm_l_takes an_l_takes cd_l_takes ct_l_takes), sl_l_takes⟩)
    (c_l_takes : PySem.W.codeIn K cd_l_takes "_law_takes" = true)
    (k_l_takes : PySem.W.keepIn K (.ref f_l_takes) = true)
    (a_l_after : PySem.W.nsIn K mainGlobals "_law_after" = some (some (.ref f_l_after)))
    (l_l_after_ : K.lookup f_l_after = some ⟨oc_l_after, od_l_after, .func (PySem.W.fnOf "_law_after" "_law_after" (defArgs s_l_after) (defBody s_l_after) (defScope s_l_after) .none kV_l_after dc_l_after pm_l_after an_l_after cd_l_after ct_l_after), sl_l_after⟩)
    (c_l_after : PySem.W.codeIn K cd_l_after "_law_after" = true)
    (k_l_after : PySem.W.keepIn K (.ref f_l_after) = true)
    (a_l_wires : PySem.W.nsIn K mainGlobals "_law_wires" = some (some (.ref f_l_wires)))
    (l_l_wires_ : K.lookup f_l_wires = some ⟨oc_l_wires, od_l_wires, .func (PySem.W.fnOf "_law_wires" "_law_wires" (defArgs s_l_wires) (defBody s_l_wires) (defScope s_l_wires) .none kV_l_wires dc_l_wires pm_l_wires an_l_wires cd_l_wires ct_l_wires), sl_l_wires⟩)
    (c_l_wires : PySem.W.codeIn K cd_l_wires "_law_wires" = true)
    (k_l_wires : PySem.W.keepIn K (.ref f_l_wires) = true)
    (a_l_boxes_that_fit : PySem.W.nsIn K mainGlobals "_law_boxes_that_fit" = some (some (.ref f_l_boxes_that_fit)))
    (l_l_boxes_that_fit_ : K.lookup f_l_boxes_that_fit = some ⟨oc_l_boxes_that_fit, od_l_boxes_that_fit, .func (PySem.W.fnOf "_law_boxes_that_fit" "_law_boxes_that_fit" (defArgs s_l_boxes_that_fit) (defBody s_l_boxes_that_fit) (defScope s_l_boxes_that_fit) .none kV_l_boxes_that_fit dc_l_boxes_that_fit pm_l_boxes_that_fit an_l_boxes_that_fit cd_l_boxes_that_fit ct_l_boxes_that_fit), sl_l_boxes_that_fit⟩)
    (c_l_boxes_that_fit : PySem.W.codeIn K cd_l_boxes_that_fit "_law_boxes_that_fit" = true)
    (k_l_boxes_that_fit : PySem.W.keepIn K (.ref f_l_boxes_that_fit) = true)
    (a_l_wires_that_fit : PySem.W.nsIn K mainGlobals "_law_wires_that_fit" = some (some (.ref f_l_wires_that_fit)))
    (l_l_wires_that_fit_ : K.lookup f_l_wires_that_fit = some ⟨oc_l_wires_that_fit, od_l_wires_that_fit, .func (PySem.W.fnOf "_law_wires_that_fit" "_law_wires_that_fit" (defArgs s_l_wires_that_fit) (defBody s_l_wires_that_fit) (defScope s_l_wires_that_fit) .none kV_l_wires_that_fit dc_l_wires_that_fit pm_l_wires_that_fit an_l_wires_that_fit cd_l_wires_that_fit ct_l_wires_that_fit), sl_l_wires_that_fit⟩)
    (c_l_wires_that_fit : PySem.W.codeIn K cd_l_wires_that_fit "_law_wires_that_fit" = true)
    (k_l_wires_that_fit : PySem.W.keepIn K (.ref f_l_wires_that_fit) = true)
    (a_l_picture : PySem.W.nsIn K mainGlobals "_law_picture" = some (some (.ref f_l_picture)))
    (l_l_picture_ : K.lookup f_l_picture = some ⟨oc_l_picture, od_l_picture, .func (PySem.W.fnOf "_law_picture" "_law_picture" (defArgs s_l_picture) (defBody s_l_picture) (defScope s_l_picture) .none kV_l_picture dc_l_picture pm_l_picture an_l_picture cd_l_picture ct_l_picture), sl_l_picture⟩)
    (c_l_picture : PySem.W.codeIn K cd_l_picture "_law_picture" = true)
    (k_l_picture : PySem.W.keepIn K (.ref f_l_picture) = true)
    (a_l_small : PySem.W.nsIn K mainGlobals "_law_small" = some (some (.ref f_l_small)))
    (l_l_small_ : K.lookup f_l_small = some ⟨oc_l_small, od_l_small, .func (PySem.W.fnOf "_law_small" "_law_small" (defArgs s_l_small) (defBody s_l_small) (defScope s_l_small) .none kV_l_small dc_l_small pm_l_small an_l_small cd_l_small ct_l_small), sl_l_small⟩)
    (c_l_small : PySem.W.codeIn K cd_l_small "_law_small" = true)
    (k_l_small : PySem.W.keepIn K (.ref f_l_small) = true)
    (a_l_worths : PySem.W.nsIn K mainGlobals "_law_worths" = some (some (.ref f_l_worths)))
    (l_l_worths_ : K.lookup f_l_worths = some ⟨oc_l_worths, od_l_worths, .func (PySem.W.fnOf "_law_worths" "_law_worths" (defArgs s_l_worths) (defBody s_l_worths) (defScope s_l_worths) .none kV_l_worths dc_l_worths pm_l_worths an_l_worths cd_l_worths ct_l_worths), sl_l_worths⟩)
    (c_l_worths : PySem.W.codeIn K cd_l_worths "_law_worths" = true)
    (k_l_worths : PySem.W.keepIn K (.ref f_l_worths) = true)
    (a_l_comes_to : PySem.W.nsIn K mainGlobals "_law_comes_to" = some (some (.ref f_l_comes_to)))
    (l_l_comes_to_ : K.lookup f_l_comes_to = some ⟨oc_l_comes_to, od_l_comes_to, .func (PySem.W.fnOf "_law_comes_to" "_law_comes_to" (defArgs s_l_comes_to) (defBody s_l_comes_to) (defScope s_l_comes_to) .none kV_l_comes_to dc_l_comes_to pm_l_comes_to an_l_comes_to cd_l_comes_to ct_l_comes_to), sl_l_comes_to⟩)
    (c_l_comes_to : PySem.W.codeIn K cd_l_comes_to "_law_comes_to" = true)
    (k_l_comes_to : PySem.W.keepIn K (.ref f_l_comes_to) = true)
    (a_l_fillings : PySem.W.nsIn K mainGlobals "_law_fillings" = some (some (.ref f_l_fillings)))
    (l_l_fillings_ : K.lookup f_l_fillings = some ⟨oc_l_fillings, od_l_fillings, .func (PySem.W.fnOf "_law_fillings" "_law_fillings" (defArgs s_l_fillings) (defBody s_l_fillings) (defScope s_l_fillings) .none kV_l_fillings dc_l_fillings pm_l_fillings an_l_fillings cd_l_fillings ct_l_fillings), sl_l_fillings⟩)
    (c_l_fillings : PySem.W.codeIn K cd_l_fillings "_law_fillings" = true)
    (k_l_fillings : PySem.W.keepIn K (.ref f_l_fillings) = true)
    (a_l_told : PySem.W.nsIn K mainGlobals "_law_told" = some (some (.ref f_l_told)))
    (l_l_told_ : K.lookup f_l_told = some ⟨oc_l_told, od_l_told, .func (PySem.W.fnOf "_law_told" "_law_told" (defArgs s_l_told) (defBody s_l_told) (defScope s_l_told) .none kV_l_told dc_l_told pm_l_told an_l_told cd_l_told ct_l_told), sl_l_told⟩)
    (c_l_told : PySem.W.codeIn K cd_l_told "_law_told" = true)
    (k_l_told : PySem.W.keepIn K (.ref f_l_told) = true)
    (a_l_widest : PySem.W.nsIn K mainGlobals "_law_widest" = some (some (.ref f_l_widest)))
    (l_l_widest_ : K.lookup f_l_widest = some ⟨oc_l_widest, od_l_widest, .func (PySem.W.fnOf "_law_widest" "_law_widest" (defArgs s_l_widest) (defBody s_l_widest) (defScope s_l_widest) .none kV_l_widest dc_l_widest pm_l_widest an_l_widest cd_l_widest ct_l_widest), sl_l_widest⟩)
    (c_l_widest : PySem.W.codeIn K cd_l_widest "_law_widest" = true)
    (k_l_widest : PySem.W.keepIn K (.ref f_l_widest) = true)
    (a_l_right : PySem.W.nsIn K mainGlobals "_law_right" = some (some (.ref f_l_right)))
    (l_l_right_ : K.lookup f_l_right = some ⟨oc_l_right, od_l_right, .func (PySem.W.fnOf "_law_right" "_law_right" (defArgs s_l_right) (defBody s_l_right) (defScope s_l_right) .none kV_l_right dc_l_right pm_l_right an_l_right cd_l_right ct_l_right), sl_l_right⟩)
    (c_l_right : PySem.W.codeIn K cd_l_right "_law_right" = true)
    (k_l_right : PySem.W.keepIn K (.ref f_l_right) = true)
    (a_law : PySem.W.nsIn K mainGlobals "law" = some (some (.ref f_law)))
    (l_law_ : K.lookup f_law = some ⟨oc_law, od_law, .func (PySem.W.fnOf "law" "law" (defArgs s_law) (defBody s_law) (defScope s_law) .none kV_law dc_law pm_law an_law cd_law ct_law), sl_law⟩)
    (c_law : PySem.W.codeIn K cd_law "law" = true)
    (k_law : PySem.W.keepIn K (.ref f_law) = true)
    (pg_Going : PySem.W.plainGet K CG_ Str.empty = true)
    (hd_Going : PySem.W.hasDictIn K CG_ = true)
    (po_Going : PySem.W.plainOver K CG_ = true)
    (sa_Going : PySem.W.findIn K (.ref CG_) "__setattr__" = some (some (.builtin "object.__setattr__")))
    (mk_Going : PySem.W.makesIn K CG_ = true)
    (kc_Going : PySem.W.keepIn K (.ref CG_) = true)
    (n_Going_kit : PySem.W.findIn K (.ref CG_) "kit" = some none)
    (n_Going_sizes : PySem.W.findIn K (.ref CG_) "sizes" = some none)
    (n_Going_tables : PySem.W.findIn K (.ref CG_) "tables" = some none)
    (n_Going_known_rows : PySem.W.findIn K (.ref CG_) "known_rows" = some none)
    (pg_Wires : PySem.W.plainGet K CW_ Str.empty = true)
    (hd_Wires : PySem.W.hasDictIn K CW_ = true)
    (po_Wires : PySem.W.plainOver K CW_ = true)
    (sa_Wires : PySem.W.findIn K (.ref CW_) "__setattr__" = some (some (.builtin "object.__setattr__")))
    (mk_Wires : PySem.W.makesIn K CW_ = true)
    (kc_Wires : PySem.W.keepIn K (.ref CW_) = true)
    (n_Wires_told : PySem.W.findIn K (.ref CW_) "told" = some none)
    (n_Wires_counts : PySem.W.findIn K (.ref CW_) "counts" = some none)
    (pg_Passing : PySem.W.plainGet K CP_ Str.empty = true)
    (hd_Passing : PySem.W.hasDictIn K CP_ = true)
    (po_Passing : PySem.W.plainOver K CP_ = true)
    (sa_Passing : PySem.W.findIn K (.ref CP_) "__setattr__" = some (some (.builtin "object.__setattr__")))
    (mk_Passing : PySem.W.makesIn K CP_ = true)
    (kc_Passing : PySem.W.keepIn K (.ref CP_) = true)
    (n_Passing_kit : PySem.W.findIn K (.ref CP_) "kit" = some none)
    (n_Passing_sizes : PySem.W.findIn K (.ref CP_) "sizes" = some none)
    (n_Passing_relations : PySem.W.findIn K (.ref CP_) "relations" = some none)
    (n_Passing_known_ends : PySem.W.findIn K (.ref CP_) "known_ends" = some none)
    (x_T : K.lookup CT = some (excClassObj nm_T q_T CT N_T bs_T [.ref C0, .type "ValueError", .type "Exception", .type "BaseException", .type "object"] true sn_T sub_T ab_T col_T dd_T m0 m1 m2 m3 m5 "ValueError.__new__"))
    (sa_T : PySem.W.findIn K (.ref CT) "__setattr__" = some (some (.builtin "object.__setattr__")))
    (ga_T : PySem.W.findIn K (.ref CT) "__getattribute__" = some (some (.builtin "BaseException.__getattribute__")))
    (gg_T : PySem.W.findIn K (.ref CT) "__getattr__" = some none)
    (nb_T : PySem.W.findIn K (.ref CT) "number" = some none)
    (kC_T : PySem.W.keepIn K (.ref CT) = true)
    (eC_T : PySem.W.subIn K (.ref CT) (.type "BaseException") = some true)
    (tC_T : PySem.W.typeIn K (.ref CT) = some (.type "type"))
    (hC_T : PySem.W.hasDictIn K CT = true)
    (iC_T : PySem.W.isClsIn K CT = true)
    (sC_T : PySem.W.subIn K (.ref CT) (.ref CT) = some true)
    (sp_W : PySem.W.specialIn K (.ref C0) "__getattribute__" = some (some (.builtin "type.__getattribute__")))
    (rd_W : PySem.W.readsIn K C0 (.type "type") = true)
    (vV_W : PySem.W.findCls K (.ref C0) (.type "type") "__init__" = some (.val (.builtin "ValueError.__init__")))
    (z_len : PySem.W.nsIn K mainGlobals "len" = some none)
    (z_range : PySem.W.nsIn K mainGlobals "range" = some none)
    (z_tuple : PySem.W.nsIn K mainGlobals "tuple" = some none)
    (z_zip : PySem.W.nsIn K mainGlobals "zip" = some none)
    (z_int : PySem.W.nsIn K mainGlobals "int" = some none)
    (z_sum : PySem.W.nsIn K mainGlobals "sum" = some none)
    (z_list : PySem.W.nsIn K mainGlobals "list" = some none)
    (z_sorted : PySem.W.nsIn K mainGlobals "sorted" = some none)
    (z_isinstance : PySem.W.nsIn K mainGlobals "isinstance" = some none)
    (g_most : PySem.W.nsIn K mainGlobals "MOST" = some (some (.int 81 tM)))
    (g_parts : PySem.W.nsIn K mainGlobals "MOST_PARTS" = some (some (.int 500 tP)))
    : ∃ fd : FuncData, (∀ (s : Shared) (v : Value), BindsTo s fd ⟨[v], []⟩ [("_law_script", v)]) ∧ ∀ base : Heap, K.In base → base.Ns mainGlobals mg → FnOk l.prog w K mg base CX0 40 fa fd ["_law_script"] (spLaw (K := K)) := by
  have e := hfa.symm.trans (PySem.W.mg_of X G a_law)
  cases e
  have B : Bi mg := ⟨PySem.W.mg_none_of X G z_len, PySem.W.mg_none_of X G z_range, PySem.W.mg_none_of X G z_tuple, PySem.W.mg_none_of X G z_zip, PySem.W.mg_none_of X G z_int, PySem.W.mg_none_of X G z_sum, PySem.W.mg_none_of X G z_list, PySem.W.mg_none_of X G z_sorted, PySem.W.mg_none_of X G z_isinstance, ⟨tM, PySem.W.mg_of X G g_most⟩, ⟨tP, PySem.W.mg_of X G g_parts⟩⟩
  have hW : mg "WireError" = some (.ref C0) := PySem.W.mg_of X G a_WireError
  have hT : mg "TooWide" = some (.ref CT) := PySem.W.mg_of X G a_TooWide
  have TB : BaseI K C0 := ⟨sp_W, rd_W, vV_W⟩
  have oeT : OexC K CT := ⟨⟨nm_T, q_T, N_T, bs_T, _, sn_T, sub_T, ab_T, col_T, dd_T, m0, m1, m2, m3, m5, x_T, by show PySem.HandSPX.refsVE [.type "ValueError", .type "Exception", .type "BaseException", .type "object"] = true; decide +kernel⟩, sa_T, eC_T, tC_T, kC_T⟩
  have twc : TwC K mg CT := ⟨hT, ⟨ga_T, gg_T, eC_T, hC_T⟩, nb_T, exm_self eC_T iC_T tC_T sC_T⟩
  have cl_Going : CG K CG_ := ⟨⟨pg_Going, hd_Going, po_Going, sa_Going⟩, n_Going_kit, n_Going_sizes, n_Going_tables, n_Going_known_rows⟩
  have cl_Wires : CW K CW_ := ⟨⟨pg_Wires, hd_Wires, po_Wires, sa_Wires⟩, n_Wires_told, n_Wires_counts⟩
  have cl_Passing : CP K CP_ := ⟨⟨pg_Passing, hd_Passing, po_Passing, sa_Passing⟩, n_Passing_kit, n_Passing_sizes, n_Passing_relations, n_Passing_known_ends⟩
  have u_TooWide_init := fun_mk (st := s_TooWide_init) l_TooWide_init_ c_TooWide_init k_TooWide_init
  have b_TooWide_init := u_TooWide_init.binds (ps := ["self", "number"]) fun _ _ _ _ _ _ us hl => match us, hl with | [_, _], _ => rfl
  have D_TooWide_init : Tf K mg CT "TooWide.__init__" s_TooWide_init ["self", "number"] := ⟨⟨_, _, u_TooWide_init, a_TooWide_init, t_TooWide_init, b_TooWide_init⟩, oeT, hT, nb_T⟩
  have u_box_names := fun_mk (st := s_box_names) l_box_names_ c_box_names k_box_names
  have b_box_names := u_box_names.binds (ps := ["kit"]) fun _ _ _ _ _ _ us hl => match us, hl with | [_], _ => rfl
  have D_box_names : Df K mg "box_names" s_box_names ["kit"] := ⟨_, _, u_box_names, PySem.W.mg_of X G a_box_names, b_box_names⟩
  have u_feet_of := fun_mk (st := s_feet_of) l_feet_of_ c_feet_of k_feet_of
  have b_feet_of := u_feet_of.binds (ps := ["kit", "name"]) fun _ _ _ _ _ _ us hl => match us, hl with | [_, _], _ => rfl
  have D_feet_of : Df K mg "feet_of" s_feet_of ["kit", "name"] := ⟨_, _, u_feet_of, PySem.W.mg_of X G a_feet_of, b_feet_of⟩
  have u_feet_taken := fun_mk (st := s_feet_taken) l_feet_taken_ c_feet_taken k_feet_taken
  have b_feet_taken := u_feet_taken.binds (ps := ["kit", "step"]) fun _ _ _ _ _ _ us hl => match us, hl with | [_, _], _ => rfl
  have D_feet_taken : Df K mg "feet_taken" s_feet_taken ["kit", "step"] := ⟨_, _, u_feet_taken, PySem.W.mg_of X G a_feet_taken, b_feet_taken⟩
  have u_given_for := fun_mk (st := s_given_for) l_given_for_ c_given_for k_given_for
  have b_given_for := u_given_for.binds (ps := ["kit", "step", "wires"]) fun _ _ _ _ _ _ us hl => match us, hl with | [_, _, _], _ => rfl
  have D_given_for : Df K mg "given_for" s_given_for ["kit", "step", "wires"] := ⟨_, _, u_given_for, PySem.W.mg_of X G a_given_for, b_given_for⟩
  have u_wires_behind := fun_mk (st := s_wires_behind) l_wires_behind_ c_wires_behind k_wires_behind
  have b_wires_behind := u_wires_behind.binds (ps := ["kit", "wires", "layer"]) fun _ _ _ _ _ _ us hl => match us, hl with | [_, _, _], _ => rfl
  have D_wires_behind : Df K mg "wires_behind" s_wires_behind ["kit", "wires", "layer"] := ⟨_, _, u_wires_behind, PySem.W.mg_of X G a_wires_behind, b_wires_behind⟩
  have u_wires_at := fun_mk (st := s_wires_at) l_wires_at_ c_wires_at k_wires_at
  have b_wires_at := u_wires_at.binds (ps := ["kit", "picture", "at"]) fun _ _ _ _ _ _ us hl => match us, hl with | [_, _, _], _ => rfl
  have D_wires_at : Df K mg "wires_at" s_wires_at ["kit", "picture", "at"] := ⟨_, _, u_wires_at, PySem.W.mg_of X G a_wires_at, b_wires_at⟩
  have u_below_of := fun_mk (st := s_below_of) l_below_of_ c_below_of k_below_of
  have b_below_of := u_below_of.binds (ps := ["kit", "picture"]) fun _ _ _ _ _ _ us hl => match us, hl with | [_, _], _ => rfl
  have D_below_of : Df K mg "below_of" s_below_of ["kit", "picture"] := ⟨_, _, u_below_of, PySem.W.mg_of X G a_below_of, b_below_of⟩
  have u_sizes_of := fun_mk (st := s_sizes_of) l_sizes_of_ c_sizes_of k_sizes_of
  have b_sizes_of := u_sizes_of.binds (ps := ["kit", "sizes", "wires"]) fun _ _ _ _ _ _ us hl => match us, hl with | [_, _, _], _ => rfl
  have D_sizes_of : Df K mg "sizes_of" s_sizes_of ["kit", "sizes", "wires"] := ⟨_, _, u_sizes_of, PySem.W.mg_of X G a_sizes_of, b_sizes_of⟩
  have u_worths_of := fun_mk (st := s_worths_of) l_worths_of_ c_worths_of k_worths_of
  have b_worths_of := u_worths_of.binds (ps := ["sizes"]) fun _ _ _ _ _ _ us hl => match us, hl with | [_], _ => rfl
  have D_worths_of : Df K mg "worths_of" s_worths_of ["sizes"] := ⟨_, _, u_worths_of, PySem.W.mg_of X G a_worths_of, b_worths_of⟩
  have u_check_width := fun_mk (st := s_check_width) l_check_width_ c_check_width k_check_width
  have b_check_width := u_check_width.binds (ps := ["kit", "sizes", "picture"]) fun _ _ _ _ _ _ us hl => match us, hl with | [_, _, _], _ => rfl
  have D_check_width : Df K mg "check_width" s_check_width ["kit", "sizes", "picture"] := ⟨_, _, u_check_width, PySem.W.mg_of X G a_check_width, b_check_width⟩
  have u_box_number := fun_mk (st := s_box_number) l_box_number_ c_box_number k_box_number
  have b_box_number := u_box_number.binds (ps := ["kit", "name"]) fun _ _ _ _ _ _ us hl => match us, hl with | [_, _], _ => rfl
  have D_box_number : Df K mg "box_number" s_box_number ["kit", "name"] := ⟨_, _, u_box_number, PySem.W.mg_of X G a_box_number, b_box_number⟩
  have u_rows_told := fun_mk (st := s_rows_told) l_rows_told_ c_rows_told k_rows_told
  have b_rows_told := u_rows_told.binds (ps := ["kit", "sizes", "name", "table"]) fun _ _ _ _ _ _ us hl => match us, hl with | [_, _, _, _], _ => rfl
  have D_rows_told : Df K mg "rows_told" s_rows_told ["kit", "sizes", "name", "table"] := ⟨_, _, u_rows_told, PySem.W.mg_of X G a_rows_told, b_rows_told⟩
  have u_through_box := fun_mk (st := s_through_box) l_through_box_ c_through_box k_through_box
  have b_through_box := u_through_box.binds (ps := ["rows", "worths", "place", "many"]) fun _ _ _ _ _ _ us hl => match us, hl with | [_, _, _, _], _ => rfl
  have D_through_box : Df K mg "through_box" s_through_box ["rows", "worths", "place", "many"] := ⟨_, _, u_through_box, PySem.W.mg_of X G a_through_box, b_through_box⟩
  have u_through_wires := fun_mk (st := s_through_wires) l_through_wires_ c_through_wires k_through_wires
  have b_through_wires := u_through_wires.binds (ps := ["step", "size", "worths", "place"]) fun _ _ _ _ _ _ us hl => match us, hl with | [_, _, _, _], _ => rfl
  have D_through_wires : Df K mg "through_wires" s_through_wires ["step", "size", "worths", "place"] := ⟨_, _, u_through_wires, PySem.W.mg_of X G a_through_wires, b_through_wires⟩
  have u_Going_init := fun_mk (st := s_Going_init) l_Going_init_ c_Going_init k_Going_init
  have b_Going_init := u_Going_init.binds (ps := ["self", "kit", "sizes", "tables"]) fun _ _ _ _ _ _ us hl => match us, hl with | [_, _, _, _], _ => rfl
  have D_Going_init : If K mg CG_ "Going" "Going.__init__" s_Going_init ["self", "kit", "sizes", "tables"] := ⟨_, _, u_Going_init, ⟨mk_Going, a_Going_init, i_Going_init, kc_Going⟩, PySem.W.mg_of X G a_Going, b_Going_init⟩
  have u_Going_rows_of := fun_mk (st := s_Going_rows_of) l_Going_rows_of_ c_Going_rows_of k_Going_rows_of
  have b_Going_rows_of := u_Going_rows_of.binds (ps := ["self", "name"]) fun _ _ _ _ _ _ us hl => match us, hl with | [_, _], _ => rfl
  have D_Going_rows_of : Mf K CG_ "rows_of" "Going.rows_of" s_Going_rows_of ["self", "name"] := ⟨_, _, u_Going_rows_of, ⟨a_Going_rows_of, i_Going_rows_of, k_Going_rows_of⟩, b_Going_rows_of⟩
  have u_Going_size_of := fun_mk (st := s_Going_size_of) l_Going_size_of_ c_Going_size_of k_Going_size_of
  have b_Going_size_of := u_Going_size_of.binds (ps := ["self", "step"]) fun _ _ _ _ _ _ us hl => match us, hl with | [_, _], _ => rfl
  have D_Going_size_of : Mf K CG_ "size_of" "Going.size_of" s_Going_size_of ["self", "step"] := ⟨_, _, u_Going_size_of, ⟨a_Going_size_of, i_Going_size_of, k_Going_size_of⟩, b_Going_size_of⟩
  have u_Going_through := fun_mk (st := s_Going_through) l_Going_through_ c_Going_through k_Going_through
  have b_Going_through := u_Going_through.binds (ps := ["self", "layer", "known"]) fun _ _ _ _ _ _ us hl => match us, hl with | [_, _, _], _ => rfl
  have D_Going_through : Mf K CG_ "through" "Going.through" s_Going_through ["self", "layer", "known"] := ⟨_, _, u_Going_through, ⟨a_Going_through, i_Going_through, k_Going_through⟩, b_Going_through⟩
  have u_read_table := fun_mk (st := s_read_table) l_read_table_ c_read_table k_read_table
  have b_read_table := u_read_table.binds (ps := ["kit", "filling", "picture"]) fun _ _ _ _ _ _ us hl => match us, hl with | [_, _, _], _ => rfl
  have D_read_table : Df K mg "read_table" s_read_table ["kit", "filling", "picture"] := ⟨_, _, u_read_table, PySem.W.mg_of X G a_read_table, b_read_table⟩
  have u_put_in := fun_mk (st := s_put_in) l_put_in_ c_put_in k_put_in
  have b_put_in := u_put_in.binds (ps := ["expression", "comes"]) fun _ _ _ _ _ _ us hl => match us, hl with | [_, _], _ => rfl
  have D_put_in : Df K mg "put_in" s_put_in ["expression", "comes"] := ⟨_, _, u_put_in, PySem.W.mg_of X G a_put_in, b_put_in⟩
  have u_parts_with := fun_mk (st := s_parts_with) l_parts_with_ c_parts_with k_parts_with
  have b_parts_with := u_parts_with.binds (ps := ["expression", "counts"]) fun _ _ _ _ _ _ us hl => match us, hl with | [_, _], _ => rfl
  have D_parts_with : Df K mg "parts_with" s_parts_with ["expression", "counts"] := ⟨_, _, u_parts_with, PySem.W.mg_of X G a_parts_with, b_parts_with⟩
  have u_Wires_init := fun_mk (st := s_Wires_init) l_Wires_init_ c_Wires_init k_Wires_init
  have b_Wires_init := u_Wires_init.binds (ps := ["self", "many"]) fun _ _ _ _ _ _ us hl => match us, hl with | [_, _], _ => rfl
  have D_Wires_init : If K mg CW_ "Wires" "Wires.__init__" s_Wires_init ["self", "many"] := ⟨_, _, u_Wires_init, ⟨mk_Wires, a_Wires_init, i_Wires_init, kc_Wires⟩, PySem.W.mg_of X G a_Wires, b_Wires_init⟩
  have u_Wires_crossed := fun_mk (st := s_Wires_crossed) l_Wires_crossed_ c_Wires_crossed k_Wires_crossed
  have b_Wires_crossed := u_Wires_crossed.binds (ps := ["self", "place"]) fun _ _ _ _ _ _ us hl => match us, hl with | [_, _], _ => rfl
  have D_Wires_crossed : Mf K CW_ "crossed" "Wires.crossed" s_Wires_crossed ["self", "place"] := ⟨_, _, u_Wires_crossed, ⟨a_Wires_crossed, i_Wires_crossed, k_Wires_crossed⟩, b_Wires_crossed⟩
  have u_Wires_boxed := fun_mk (st := s_Wires_boxed) l_Wires_boxed_ c_Wires_boxed k_Wires_boxed
  have b_Wires_boxed := u_Wires_boxed.binds (ps := ["self", "place", "many", "expressions"]) fun _ _ _ _ _ _ us hl => match us, hl with | [_, _, _, _], _ => rfl
  have D_Wires_boxed : Mf K CW_ "boxed" "Wires.boxed" s_Wires_boxed ["self", "place", "many", "expressions"] := ⟨_, _, u_Wires_boxed, ⟨a_Wires_boxed, i_Wires_boxed, k_Wires_boxed⟩, b_Wires_boxed⟩
  have u_read_program := fun_mk (st := s_read_program) l_read_program_ c_read_program k_read_program
  have b_read_program := u_read_program.binds (ps := ["kit", "filling", "picture"]) fun _ _ _ _ _ _ us hl => match us, hl with | [_, _, _], _ => rfl
  have D_read_program : Df K mg "read_program" s_read_program ["kit", "filling", "picture"] := ⟨_, _, u_read_program, PySem.W.mg_of X G a_read_program, b_read_program⟩
  have u_done_with := fun_mk (st := s_done_with) l_done_with_ c_done_with k_done_with
  have b_done_with := u_done_with.binds (ps := ["word", "worths"]) fun _ _ _ _ _ _ us hl => match us, hl with | [_, _], _ => rfl
  have D_done_with : Df K mg "done_with" s_done_with ["word", "worths"] := ⟨_, _, u_done_with, PySem.W.mg_of X G a_done_with, b_done_with⟩
  have u_run := fun_mk (st := s_run) l_run_ c_run k_run
  have b_run := u_run.binds (ps := ["expression", "numbers"]) fun _ _ _ _ _ _ us hl => match us, hl with | [_, _], _ => rfl
  have D_run : Df K mg "run" s_run ["expression", "numbers"] := ⟨_, _, u_run, PySem.W.mg_of X G a_run, b_run⟩
  have u_Passing_init := fun_mk (st := s_Passing_init) l_Passing_init_ c_Passing_init k_Passing_init
  have b_Passing_init := u_Passing_init.binds (ps := ["self", "kit", "sizes", "relations"]) fun _ _ _ _ _ _ us hl => match us, hl with | [_, _, _, _], _ => rfl
  have D_Passing_init : If K mg CP_ "Passing" "Passing.__init__" s_Passing_init ["self", "kit", "sizes", "relations"] := ⟨_, _, u_Passing_init, ⟨mk_Passing, a_Passing_init, i_Passing_init, kc_Passing⟩, PySem.W.mg_of X G a_Passing, b_Passing_init⟩
  have u_Passing_ends_of := fun_mk (st := s_Passing_ends_of) l_Passing_ends_of_ c_Passing_ends_of k_Passing_ends_of
  have b_Passing_ends_of := u_Passing_ends_of.binds (ps := ["self", "name"]) fun _ _ _ _ _ _ us hl => match us, hl with | [_, _], _ => rfl
  have D_Passing_ends_of : Mf K CP_ "ends_of" "Passing.ends_of" s_Passing_ends_of ["self", "name"] := ⟨_, _, u_Passing_ends_of, ⟨a_Passing_ends_of, i_Passing_ends_of, k_Passing_ends_of⟩, b_Passing_ends_of⟩
  have u_Passing_through_box := fun_mk (st := s_Passing_through_box) l_Passing_through_box_ c_Passing_through_box k_Passing_through_box
  have b_Passing_through_box := u_Passing_through_box.binds (ps := ["self", "name", "worths", "place"]) fun _ _ _ _ _ _ us hl => match us, hl with | [_, _, _, _], _ => rfl
  have D_Passing_through_box : Mf K CP_ "through_box" "Passing.through_box" s_Passing_through_box ["self", "name", "worths", "place"] := ⟨_, _, u_Passing_through_box, ⟨a_Passing_through_box, i_Passing_through_box, k_Passing_through_box⟩, b_Passing_through_box⟩
  have u_Passing_past_wires := fun_mk (st := s_Passing_past_wires) l_Passing_past_wires_ c_Passing_past_wires k_Passing_past_wires
  have b_Passing_past_wires := u_Passing_past_wires.binds (ps := ["self", "step", "worths", "place"]) fun _ _ _ _ _ _ us hl => match us, hl with | [_, _, _, _], _ => rfl
  have D_Passing_past_wires : Mf K CP_ "past_wires" "Passing.past_wires" s_Passing_past_wires ["self", "step", "worths", "place"] := ⟨_, _, u_Passing_past_wires, ⟨a_Passing_past_wires, i_Passing_past_wires, k_Passing_past_wires⟩, b_Passing_past_wires⟩
  have u_Passing_passed := fun_mk (st := s_Passing_passed) l_Passing_passed_ c_Passing_passed k_Passing_passed
  have b_Passing_passed := u_Passing_passed.binds (ps := ["self", "layer", "known"]) fun _ _ _ _ _ _ us hl => match us, hl with | [_, _, _], _ => rfl
  have D_Passing_passed : Mf K CP_ "passed" "Passing.passed" s_Passing_passed ["self", "layer", "known"] := ⟨_, _, u_Passing_passed, ⟨a_Passing_passed, i_Passing_passed, k_Passing_passed⟩, b_Passing_passed⟩
  have u_read_relation := fun_mk (st := s_read_relation) l_read_relation_ c_read_relation k_read_relation
  have b_read_relation := u_read_relation.binds (ps := ["kit", "filling", "picture"]) fun _ _ _ _ _ _ us hl => match us, hl with | [_, _, _], _ => rfl
  have D_read_relation : Df K mg "read_relation" s_read_relation ["kit", "filling", "picture"] := ⟨_, _, u_read_relation, PySem.W.mg_of X G a_read_relation, b_read_relation⟩
  have u_l_cell_at := fun_mk (st := s_l_cell_at) l_l_cell_at_ c_l_cell_at k_l_cell_at
  have b_l_cell_at := u_l_cell_at.binds (ps := ["_law_script", "_law_k"]) fun _ _ _ _ _ _ us hl => match us, hl with | [_, _], _ => rfl
  have D_l_cell_at : Df K mg "_law_cell_at" s_l_cell_at ["_law_script", "_law_k"] := ⟨_, _, u_l_cell_at, PySem.W.mg_of X G a_l_cell_at, b_l_cell_at⟩
  have u_l_deck := fun_mk (st := s_l_deck) l_l_deck_ c_l_deck k_l_deck
  have b_l_deck := u_l_deck.binds (ps := ["_law_cell"]) fun _ _ _ _ _ _ us hl => match us, hl with | [_], _ => rfl
  have D_l_deck : Df K mg "_law_deck" s_l_deck ["_law_cell"] := ⟨_, _, u_l_deck, PySem.W.mg_of X G a_l_deck, b_l_deck⟩
  have u_l_draw := fun_mk (st := s_l_draw) l_l_draw_ c_l_draw k_l_draw
  have b_l_draw := u_l_draw.binds (ps := ["_law_deck_here", "_law_most"]) fun _ _ _ _ _ _ us hl => match us, hl with | [_, _], _ => rfl
  have D_l_draw : Df K mg "_law_draw" s_l_draw ["_law_deck_here", "_law_most"] := ⟨_, _, u_l_draw, PySem.W.mg_of X G a_l_draw, b_l_draw⟩
  have u_l_feet := fun_mk (st := s_l_feet) l_l_feet_ c_l_feet k_l_feet
  have b_l_feet := u_l_feet.binds (ps := ["_law_deck_here", "_law_sorts", "_law_great"]) fun _ _ _ _ _ _ us hl => match us, hl with | [_, _, _], _ => rfl
  have D_l_feet : Df K mg "_law_feet" s_l_feet ["_law_deck_here", "_law_sorts", "_law_great"] := ⟨_, _, u_l_feet, PySem.W.mg_of X G a_l_feet, b_l_feet⟩
  have u_l_kit := fun_mk (st := s_l_kit) l_l_kit_ c_l_kit k_l_kit
  have b_l_kit := u_l_kit.binds (ps := ["_law_deck_here", "_law_manner"]) fun _ _ _ _ _ _ us hl => match us, hl with | [_, _], _ => rfl
  have D_l_kit : Df K mg "_law_kit" s_l_kit ["_law_deck_here", "_law_manner"] := ⟨_, _, u_l_kit, PySem.W.mg_of X G a_l_kit, b_l_kit⟩
  have u_l_takes := fun_mk (st := s_l_takes) l_l_takes_ c_l_takes k_l_takes
  have b_l_takes := u_l_takes.binds (ps := ["_law_kit_here", "_law_step"]) fun _ _ _ _ _ _ us hl => match us, hl with | [_, _], _ => rfl
  have D_l_takes : Df K mg "_law_takes" s_l_takes ["_law_kit_here", "_law_step"] := ⟨_, _, u_l_takes, PySem.W.mg_of X G a_l_takes, b_l_takes⟩
  have u_l_after := fun_mk (st := s_l_after) l_l_after_ c_l_after k_l_after
  have b_l_after := u_l_after.binds (ps := ["_law_kit_here", "_law_wires_here", "_law_layer"]) fun _ _ _ _ _ _ us hl => match us, hl with | [_, _, _], _ => rfl
  have D_l_after : Df K mg "_law_after" s_l_after ["_law_kit_here", "_law_wires_here", "_law_layer"] := ⟨_, _, u_l_after, PySem.W.mg_of X G a_l_after, b_l_after⟩
  have u_l_wires := fun_mk (st := s_l_wires) l_l_wires_ c_l_wires k_l_wires
  have b_l_wires := u_l_wires.binds (ps := ["_law_kit_here", "_law_picture_here", "_law_at"]) fun _ _ _ _ _ _ us hl => match us, hl with | [_, _, _], _ => rfl
  have D_l_wires : Df K mg "_law_wires" s_l_wires ["_law_kit_here", "_law_picture_here", "_law_at"] := ⟨_, _, u_l_wires, PySem.W.mg_of X G a_l_wires, b_l_wires⟩
  have u_l_boxes_that_fit := fun_mk (st := s_l_boxes_that_fit) l_l_boxes_that_fit_ c_l_boxes_that_fit k_l_boxes_that_fit
  have b_l_boxes_that_fit := u_l_boxes_that_fit.binds (ps := ["_law_kit_here", "_law_wires_here"]) fun _ _ _ _ _ _ us hl => match us, hl with | [_, _], _ => rfl
  have D_l_boxes_that_fit : Df K mg "_law_boxes_that_fit" s_l_boxes_that_fit ["_law_kit_here", "_law_wires_here"] := ⟨_, _, u_l_boxes_that_fit, PySem.W.mg_of X G a_l_boxes_that_fit, b_l_boxes_that_fit⟩
  have u_l_wires_that_fit := fun_mk (st := s_l_wires_that_fit) l_l_wires_that_fit_ c_l_wires_that_fit k_l_wires_that_fit
  have b_l_wires_that_fit := u_l_wires_that_fit.binds (ps := ["_law_kit_here", "_law_wires_here"]) fun _ _ _ _ _ _ us hl => match us, hl with | [_, _], _ => rfl
  have D_l_wires_that_fit : Df K mg "_law_wires_that_fit" s_l_wires_that_fit ["_law_kit_here", "_law_wires_here"] := ⟨_, _, u_l_wires_that_fit, PySem.W.mg_of X G a_l_wires_that_fit, b_l_wires_that_fit⟩
  have u_l_picture := fun_mk (st := s_l_picture) l_l_picture_ c_l_picture k_l_picture
  have b_l_picture := u_l_picture.binds (ps := ["_law_deck_here", "_law_kit_here", "_law_most"]) fun _ _ _ _ _ _ us hl => match us, hl with | [_, _, _], _ => rfl
  have D_l_picture : Df K mg "_law_picture" s_l_picture ["_law_deck_here", "_law_kit_here", "_law_most"] := ⟨_, _, u_l_picture, PySem.W.mg_of X G a_l_picture, b_l_picture⟩
  have u_l_small := fun_mk (st := s_l_small) l_l_small_ c_l_small k_l_small
  have b_l_small := u_l_small.binds (ps := ["_law_deck_here", "_law_many", "_law_deep"]) fun _ _ _ _ _ _ us hl => match us, hl with | [_, _, _], _ => rfl
  have D_l_small : Df K mg "_law_small" s_l_small ["_law_deck_here", "_law_many", "_law_deep"] := ⟨_, _, u_l_small, PySem.W.mg_of X G a_l_small, b_l_small⟩
  have u_l_worths := fun_mk (st := s_l_worths) l_l_worths_ c_l_worths k_l_worths
  have b_l_worths := u_l_worths.binds (ps := ["_law_many"]) fun _ _ _ _ _ _ us hl => match us, hl with | [_], _ => rfl
  have D_l_worths : Df K mg "_law_worths" s_l_worths ["_law_many"] := ⟨_, _, u_l_worths, PySem.W.mg_of X G a_l_worths, b_l_worths⟩
  have u_l_comes_to := fun_mk (st := s_l_comes_to) l_l_comes_to_ c_l_comes_to k_l_comes_to
  have b_l_comes_to := u_l_comes_to.binds (ps := ["_law_expression", "_law_numbers"]) fun _ _ _ _ _ _ us hl => match us, hl with | [_, _], _ => rfl
  have D_l_comes_to : Df K mg "_law_comes_to" s_l_comes_to ["_law_expression", "_law_numbers"] := ⟨_, _, u_l_comes_to, PySem.W.mg_of X G a_l_comes_to, b_l_comes_to⟩
  have u_l_fillings := fun_mk (st := s_l_fillings) l_l_fillings_ c_l_fillings k_l_fillings
  have b_l_fillings := u_l_fillings.binds (ps := ["_law_deck_here", "_law_kit_here"]) fun _ _ _ _ _ _ us hl => match us, hl with | [_, _], _ => rfl
  have D_l_fillings : Df K mg "_law_fillings" s_l_fillings ["_law_deck_here", "_law_kit_here"] := ⟨_, _, u_l_fillings, PySem.W.mg_of X G a_l_fillings, b_l_fillings⟩
  have u_l_told := fun_mk (st := s_l_told) l_l_told_ c_l_told k_l_told
  have b_l_told := u_l_told.binds (ps := ["_law_way", "_law_kit_here", "_law_filling", "_law_picture_here"]) fun _ _ _ _ _ _ us hl => match us, hl with | [_, _, _, _], _ => rfl
  have D_l_told : Df K mg "_law_told" s_l_told ["_law_way", "_law_kit_here", "_law_filling", "_law_picture_here"] := ⟨_, _, u_l_told, PySem.W.mg_of X G a_l_told, b_l_told⟩
  have u_l_widest := fun_mk (st := s_l_widest) l_l_widest_ c_l_widest k_l_widest
  have b_l_widest := u_l_widest.binds (ps := ["_law_kit_here", "_law_picture_here"]) fun _ _ _ _ _ _ us hl => match us, hl with | [_, _], _ => rfl
  have D_l_widest : Df K mg "_law_widest" s_l_widest ["_law_kit_here", "_law_picture_here"] := ⟨_, _, u_l_widest, PySem.W.mg_of X G a_l_widest, b_l_widest⟩
  have u_l_right := fun_mk (st := s_l_right) l_l_right_ c_l_right k_l_right
  have b_l_right := u_l_right.binds (ps := ["_law_kit_here", "_law_fillings_here", "_law_picture_here"]) fun _ _ _ _ _ _ us hl => match us, hl with | [_, _, _], _ => rfl
  have D_l_right : Df K mg "_law_right" s_l_right ["_law_kit_here", "_law_fillings_here", "_law_picture_here"] := ⟨_, _, u_l_right, PySem.W.mg_of X G a_l_right, b_l_right⟩
  have u_law := fun_mk (st := s_law) l_law_ c_law k_law
  have b_law := u_law.binds (ps := ["_law_script"]) fun _ _ _ _ _ _ us hl => match us, hl with | [_], _ => rfl
  refine ⟨PySem.W.fnOf "law" "law" (defArgs s_law) (defBody s_law) (defScope s_law) .none kV_law dc_law pm_law an_law cd_law ct_law, fun s v => .of_eq rfl, fun base _ _ => ?_⟩
  have F_box_names := SW.box_names (P := l.prog) (w := w) (K := K) (mg := mg) (base := base) B D_box_names
  have F_feet_of := SW.feet_of (P := l.prog) (w := w) (K := K) (mg := mg) (base := base) B D_feet_of F_box_names
  have F_feet_taken := SW.feet_taken (P := l.prog) (w := w) (K := K) (mg := mg) (base := base) B D_feet_taken F_feet_of
  have F_given_for := SW.given_for (P := l.prog) (w := w) (K := K) (mg := mg) (base := base) B D_given_for F_feet_of
  have F_wires_behind := SW.wires_behind (P := l.prog) (w := w) (K := K) (mg := mg) (base := base) B D_wires_behind F_feet_taken F_given_for
  have F_wires_at := SW.wires_at (P := l.prog) (w := w) (K := K) (mg := mg) (base := base) B D_wires_at F_wires_behind
  have F_below_of := SW.below_of (P := l.prog) (w := w) (K := K) (mg := mg) (base := base) B D_below_of F_wires_at
  have F_sizes_of := SW.sizes_of (P := l.prog) (w := w) (K := K) (mg := mg) (base := base) B D_sizes_of
  have F_worths_of := SW.worths_of (P := l.prog) (w := w) (K := K) (mg := mg) (base := base) B D_worths_of
  have F_box_number := SW.box_number (P := l.prog) (w := w) (K := K) (mg := mg) (base := base) B D_box_number
  have F_TooWide_init := SW.TooWide_init (P := l.prog) (w := w) (K := K) (mg := mg) (base := base) TB hW D_TooWide_init
  have F_check_width := SW.check_width (P := l.prog) (w := w) (K := K) (mg := mg) (base := base) B F_TooWide_init D_check_width F_sizes_of F_wires_at
  have F_rows_told := SW.rows_told (P := l.prog) (w := w) (K := K) (mg := mg) (base := base) B D_rows_told F_feet_of F_sizes_of F_worths_of
  have F_through_box := SW.through_box (P := l.prog) (w := w) (K := K) (mg := mg) (base := base) B D_through_box
  have F_through_wires := SW.through_wires (P := l.prog) (w := w) (K := K) (mg := mg) (base := base) B D_through_wires
  have F_Going_init := SW.Going_init (P := l.prog) (w := w) (K := K) (mg := mg) (base := base) cl_Going D_Going_init
  have F_Going_rows_of := SW.Going_rows_of (P := l.prog) (w := w) (K := K) (mg := mg) (base := base) B cl_Going D_Going_rows_of F_box_number F_rows_told
  have F_Going_size_of := SW.Going_size_of (P := l.prog) (w := w) (K := K) (mg := mg) (base := base) B D_Going_size_of
  have F_Going_through := SW.Going_through (P := l.prog) (w := w) (K := K) (mg := mg) (base := base) B cl_Going D_Going_through F_Going_size_of F_Going_rows_of F_feet_of F_through_box F_through_wires
  have F_read_table := SW.read_table (P := l.prog) (w := w) (K := K) (mg := mg) (base := base) B cl_Going D_read_table F_check_width F_Going_init F_Going_through F_below_of F_sizes_of F_worths_of
  have F_put_in := SW.put_in (P := l.prog) (w := w) (K := K) (mg := mg) (base := base) B D_put_in 3
  have F_parts_with := SW.parts_with (P := l.prog) (w := w) (K := K) (mg := mg) (base := base) B D_parts_with 3
  have F_Wires_init := SW.Wires_init (P := l.prog) (w := w) (K := K) (mg := mg) (base := base) B cl_Wires D_Wires_init
  have F_Wires_crossed := SW.Wires_crossed (P := l.prog) (w := w) (K := K) (mg := mg) (base := base) B cl_Wires D_Wires_crossed
  have F_Wires_boxed := SW.Wires_boxed (P := l.prog) (w := w) (K := K) (mg := mg) (base := base) B cl_Wires F_TooWide_init D_Wires_boxed F_put_in F_parts_with
  have F_read_program := SW.read_program (P := l.prog) (w := w) (K := K) (mg := mg) (base := base) B cl_Wires D_read_program F_Wires_init F_Wires_crossed F_Wires_boxed F_feet_of F_box_number
  have F_done_with := SW.done_with (P := l.prog) (w := w) (K := K) (mg := mg) (base := base) B D_done_with
  have F_run := SW.run (P := l.prog) (w := w) (K := K) (mg := mg) (base := base) B D_run F_done_with 37
  have F_Passing_init := SW.Passing_init (P := l.prog) (w := w) (K := K) (mg := mg) (base := base) cl_Passing D_Passing_init
  have F_Passing_ends_of := SW.Passing_ends_of (P := l.prog) (w := w) (K := K) (mg := mg) (base := base) B cl_Passing D_Passing_ends_of F_box_number
  have F_Passing_through_box := SW.Passing_through_box (P := l.prog) (w := w) (K := K) (mg := mg) (base := base) B cl_Passing D_Passing_through_box F_Passing_ends_of F_feet_of
  have F_Passing_past_wires := SW.Passing_past_wires (P := l.prog) (w := w) (K := K) (mg := mg) (base := base) B D_Passing_past_wires F_through_wires
  have F_Passing_passed := SW.Passing_passed (P := l.prog) (w := w) (K := K) (mg := mg) (base := base) B cl_Passing D_Passing_passed F_Passing_through_box F_Passing_past_wires
  have F_read_relation := SW.read_relation (P := l.prog) (w := w) (K := K) (mg := mg) (base := base) B cl_Passing D_read_relation F_check_width F_Passing_init F_Passing_passed F_sizes_of F_worths_of
  have F_l_cell_at := SW.l_cell_at (P := l.prog) (w := w) (K := K) (mg := mg) (base := base) B D_l_cell_at
  have F_l_deck := SW.l_deck (P := l.prog) (w := w) (K := K) (mg := mg) (base := base) B D_l_deck
  have F_l_draw := SW.l_draw (P := l.prog) (w := w) (K := K) (mg := mg) (base := base) B D_l_draw
  have F_l_feet := SW.l_feet (P := l.prog) (w := w) (K := K) (mg := mg) (base := base) B D_l_feet F_l_draw
  have F_l_kit := SW.l_kit (P := l.prog) (w := w) (K := K) (mg := mg) (base := base) B D_l_kit F_l_draw F_l_feet
  have F_l_takes := SW.l_takes (P := l.prog) (w := w) (K := K) (mg := mg) (base := base) B D_l_takes
  have F_l_after := SW.l_after (P := l.prog) (w := w) (K := K) (mg := mg) (base := base) B D_l_after F_l_takes
  have F_l_wires := SW.l_wires (P := l.prog) (w := w) (K := K) (mg := mg) (base := base) B D_l_wires F_l_after
  have F_l_wires_that_fit := SW.l_wires_that_fit (P := l.prog) (w := w) (K := K) (mg := mg) (base := base) B D_l_wires_that_fit
  have F_l_boxes_that_fit := SW.l_boxes_that_fit (P := l.prog) (w := w) (K := K) (mg := mg) (base := base) B D_l_boxes_that_fit
  have F_l_picture := SW.l_picture (P := l.prog) (w := w) (K := K) (mg := mg) (base := base) B D_l_picture F_l_draw F_l_wires_that_fit F_l_boxes_that_fit F_l_after
  have F_l_small := SW.l_small (P := l.prog) (w := w) (K := K) (mg := mg) (base := base) B D_l_small F_l_draw 3
  have F_l_worths := SW.l_worths (P := l.prog) (w := w) (K := K) (mg := mg) (base := base) B D_l_worths
  have F_l_comes_to := SW.l_comes_to (P := l.prog) (w := w) (K := K) (mg := mg) (base := base) B D_l_comes_to 3
  have F_l_fillings := SW.l_fillings (P := l.prog) (w := w) (K := K) (mg := mg) (base := base) B D_l_fillings F_l_small F_l_worths F_l_comes_to
  have F_l_told := SW.l_told (P := l.prog) (w := w) (K := K) (mg := mg) (base := base) twc D_l_told F_read_program F_read_table F_read_relation
  have F_l_widest := SW.l_widest (P := l.prog) (w := w) (K := K) (mg := mg) (base := base) B D_l_widest F_l_wires
  have F_l_right := SW.l_right (P := l.prog) (w := w) (K := K) (mg := mg) (base := base) B D_l_right F_l_told F_l_widest F_l_worths F_run
  exact SW.law B u_law F_l_cell_at F_l_deck F_l_kit F_l_fillings F_l_picture F_l_right
theorem walk {l : PySem.W.OpenLaw} {q : Program} {loose : List Str} {XP : (Str → Option Value) → Heap → Prop} {YP : World → Heap → Prop} {d : DefRec} {K : Params → PySem.W.Frag} (hn : l.most = some 63) (hdf : d.params.defaults = [])
    (hY : ∀ (w : World) (h : Heap), YP w h → (K w.params).In h)
    (F : ∀ (w : World) (mg : Str → Option Value) (fa : Addr) (h : Heap), (K w.params).In h → h.Ns mainGlobals mg → mg d.name = some (.ref fa) →
      ∃ fd : FuncData, (∀ (s : Shared) (u : Value), BindsTo s fd ⟨[u], []⟩ [("_law_script", u)]) ∧ ∀ base : Heap, (K w.params).In base → base.Ns mainGlobals mg → FnOk l.prog w (K w.params) mg base CX0 40 fa fd ["_law_script"] (spLaw (K := K w.params))) :
    PySem.W.WalkO q loose XP YP l.row.toRowW d [] (fun f vs => PySem.call f vs) :=
  L2.walk_of (n := 63) (k := 40) (x := "_law_script") (CX := fun _ => CX0) (sp := fun w => spLaw (K := K w.params)) hn (by decide) hdf ⟨rfl, by decide, by decide⟩ hY F (fun _ _ a ns hl _ hS => ⟨a, ns, rfl, hS, fun _ _ => rfl⟩) fun _ _ _ _ _ z => z
end SW
/-! SwTop: the theorem. -/
open PySem PySem.W PyProof.Rows
set_option maxRecDepth 100000 in
set_option maxHeartbeats 0 in
theorem PySem.Challenge.cw_slidewires_k74_whole_three_readings_holds : PySem.Challenge.rw_slidewires_k74_whole_three_readings.Holds := by
  w_on; o_law; k_head; (case hw => w_witness2)
  k_fill
  refine SW.walk (l := PySem.Challenge.rw_slidewires_k74_whole_three_readings) rfl rfl (fun w h Y => PySem.W.kIn_of Y) ?F
  case F =>
    intro w mg fa h KX G hmg
    refine' SW.all_mk KX G hmg ?a_TooWide ?a_WireError ?a_Passing ?a_Wires ?a_Going ?a_TooWide_init ?t_TooWide_init ?l_TooWide_init_ ?c_TooWide_init ?k_TooWide_init ?a_box_names ?l_box_names_ ?c_box_names ?k_box_names ?a_feet_of ?l_feet_of_ ?c_feet_of ?k_feet_of ?a_feet_taken ?l_feet_taken_ ?c_feet_taken ?k_feet_taken ?a_given_for ?l_given_for_ ?c_given_for ?k_given_for ?a_wires_behind ?l_wires_behind_ ?c_wires_behind ?k_wires_behind ?a_wires_at ?l_wires_at_ ?c_wires_at ?k_wires_at ?a_below_of ?l_below_of_ ?c_below_of ?k_below_of ?a_sizes_of ?l_sizes_of_ ?c_sizes_of ?k_sizes_of ?a_worths_of ?l_worths_of_ ?c_worths_of ?k_worths_of ?a_check_width ?l_check_width_ ?c_check_width ?k_check_width ?a_box_number ?l_box_number_ ?c_box_number ?k_box_number ?a_rows_told ?l_rows_told_ ?c_rows_told ?k_rows_told ?a_through_box ?l_through_box_ ?c_through_box ?k_through_box ?a_through_wires ?l_through_wires_ ?c_through_wires ?k_through_wires ?a_Going_init ?i_Going_init ?l_Going_init_ ?c_Going_init ?k_Going_init ?a_Going_rows_of ?i_Going_rows_of ?l_Going_rows_of_ ?c_Going_rows_of ?k_Going_rows_of ?a_Going_size_of ?i_Going_size_of ?l_Going_size_of_ ?c_Going_size_of ?k_Going_size_of ?a_Going_through ?i_Going_through ?l_Going_through_ ?c_Going_through ?k_Going_through ?a_read_table ?l_read_table_ ?c_read_table ?k_read_table ?a_put_in ?l_put_in_ ?c_put_in ?k_put_in ?a_parts_with ?l_parts_with_ ?c_parts_with ?k_parts_with ?a_Wires_init ?i_Wires_init ?l_Wires_init_ ?c_Wires_init ?k_Wires_init ?a_Wires_crossed ?i_Wires_crossed ?l_Wires_crossed_ ?c_Wires_crossed ?k_Wires_crossed ?a_Wires_boxed ?i_Wires_boxed ?l_Wires_boxed_ ?c_Wires_boxed ?k_Wires_boxed ?a_read_program ?l_read_program_ ?c_read_program ?k_read_program ?a_done_with ?l_done_with_ ?c_done_with ?k_done_with ?a_run ?l_run_ ?c_run ?k_run ?a_Passing_init ?i_Passing_init ?l_Passing_init_ ?c_Passing_init ?k_Passing_init ?a_Passing_ends_of ?i_Passing_ends_of ?l_Passing_ends_of_ ?c_Passing_ends_of ?k_Passing_ends_of ?a_Passing_through_box ?i_Passing_through_box ?l_Passing_through_box_ ?c_Passing_through_box ?k_Passing_through_box ?a_Passing_past_wires ?i_Passing_past_wires ?l_Passing_past_wires_ ?c_Passing_past_wires ?k_Passing_past_wires ?a_Passing_passed ?i_Passing_passed ?l_Passing_passed_ ?c_Passing_passed ?k_Passing_passed ?a_read_relation ?l_read_relation_ ?c_read_relation ?k_read_relation ?a_l_cell_at ?l_l_cell_at_ ?c_l_cell_at ?k_l_cell_at ?a_l_deck ?l_l_deck_ ?c_l_deck ?k_l_deck ?a_l_draw ?l_l_draw_ ?c_l_draw ?k_l_draw ?a_l_feet ?l_l_feet_ ?c_l_feet ?k_l_feet ?a_l_kit ?l_l_kit_ ?c_l_kit ?k_l_kit ?a_l_takes ?l_l_takes_ ?c_l_takes ?k_l_takes ?a_l_after ?l_l_after_ ?c_l_after ?k_l_after ?a_l_wires ?l_l_wires_ ?c_l_wires ?k_l_wires ?a_l_boxes_that_fit ?l_l_boxes_that_fit_ ?c_l_boxes_that_fit ?k_l_boxes_that_fit ?a_l_wires_that_fit ?l_l_wires_that_fit_ ?c_l_wires_that_fit ?k_l_wires_that_fit ?a_l_picture ?l_l_picture_ ?c_l_picture ?k_l_picture ?a_l_small ?l_l_small_ ?c_l_small ?k_l_small ?a_l_worths ?l_l_worths_ ?c_l_worths ?k_l_worths ?a_l_comes_to ?l_l_comes_to_ ?c_l_comes_to ?k_l_comes_to ?a_l_fillings ?l_l_fillings_ ?c_l_fillings ?k_l_fillings ?a_l_told ?l_l_told_ ?c_l_told ?k_l_told ?a_l_widest ?l_l_widest_ ?c_l_widest ?k_l_widest ?a_l_right ?l_l_right_ ?c_l_right ?k_l_right ?a_law ?l_law_ ?c_law ?k_law ?pg_Going ?hd_Going ?po_Going ?sa_Going ?mk_Going ?kc_Going ?n_Going_kit ?n_Going_sizes ?n_Going_tables ?n_Going_known_rows ?pg_Wires ?hd_Wires ?po_Wires ?sa_Wires ?mk_Wires ?kc_Wires ?n_Wires_told ?n_Wires_counts ?pg_Passing ?hd_Passing ?po_Passing ?sa_Passing ?mk_Passing ?kc_Passing ?n_Passing_kit ?n_Passing_sizes ?n_Passing_relations ?n_Passing_known_ends ?x_T ?sa_T ?ga_T ?gg_T ?nb_T ?kC_T ?eC_T ?tC_T ?hC_T ?iC_T ?sC_T ?sp_W ?rd_W ?vV_W ?z_len ?z_range ?z_tuple ?z_zip ?z_int ?z_sum ?z_list ?z_sorted ?z_isinstance ?g_most ?g_parts
    (case a_TooWide => k_is)
    (case a_WireError => k_is)
    (case a_Passing => k_is)
    (case a_Wires => k_is)
    (case a_Going => k_is)
    (case a_TooWide_init => k_is)
    (case t_TooWide_init => k_is)
    (case l_TooWide_init_ => k_is)
    (case c_TooWide_init => k_is)
    (case k_TooWide_init => k_is)
    (case a_box_names => k_is)
    (case l_box_names_ => k_is)
    (case c_box_names => k_is)
    (case k_box_names => k_is)
    (case a_feet_of => k_is)
    (case l_feet_of_ => k_is)
    (case c_feet_of => k_is)
    (case k_feet_of => k_is)
    (case a_feet_taken => k_is)
    (case l_feet_taken_ => k_is)
    (case c_feet_taken => k_is)
    (case k_feet_taken => k_is)
    (case a_given_for => k_is)
    (case l_given_for_ => k_is)
    (case c_given_for => k_is)
    (case k_given_for => k_is)
    (case a_wires_behind => k_is)
    (case l_wires_behind_ => k_is)
    (case c_wires_behind => k_is)
    (case k_wires_behind => k_is)
    (case a_wires_at => k_is)
    (case l_wires_at_ => k_is)
    (case c_wires_at => k_is)
    (case k_wires_at => k_is)
    (case a_below_of => k_is)
    (case l_below_of_ => k_is)
    (case c_below_of => k_is)
    (case k_below_of => k_is)
    (case a_sizes_of => k_is)
    (case l_sizes_of_ => k_is)
    (case c_sizes_of => k_is)
    (case k_sizes_of => k_is)
    (case a_worths_of => k_is)
    (case l_worths_of_ => k_is)
    (case c_worths_of => k_is)
    (case k_worths_of => k_is)
    (case a_check_width => k_is)
    (case l_check_width_ => k_is)
    (case c_check_width => k_is)
    (case k_check_width => k_is)
    (case a_box_number => k_is)
    (case l_box_number_ => k_is)
    (case c_box_number => k_is)
    (case k_box_number => k_is)
    (case a_rows_told => k_is)
    (case l_rows_told_ => k_is)
    (case c_rows_told => k_is)
    (case k_rows_told => k_is)
    (case a_through_box => k_is)
    (case l_through_box_ => k_is)
    (case c_through_box => k_is)
    (case k_through_box => k_is)
    (case a_through_wires => k_is)
    (case l_through_wires_ => k_is)
    (case c_through_wires => k_is)
    (case k_through_wires => k_is)
    (case a_Going_init => k_is)
    (case i_Going_init => k_is)
    (case l_Going_init_ => k_is)
    (case c_Going_init => k_is)
    (case k_Going_init => k_is)
    (case a_Going_rows_of => k_is)
    (case i_Going_rows_of => k_is)
    (case l_Going_rows_of_ => k_is)
    (case c_Going_rows_of => k_is)
    (case k_Going_rows_of => k_is)
    (case a_Going_size_of => k_is)
    (case i_Going_size_of => k_is)
    (case l_Going_size_of_ => k_is)
    (case c_Going_size_of => k_is)
    (case k_Going_size_of => k_is)
    (case a_Going_through => k_is)
    (case i_Going_through => k_is)
    (case l_Going_through_ => k_is)
    (case c_Going_through => k_is)
    (case k_Going_through => k_is)
    (case a_read_table => k_is)
    (case l_read_table_ => k_is)
    (case c_read_table => k_is)
    (case k_read_table => k_is)
    (case a_put_in => k_is)
    (case l_put_in_ => k_is)
    (case c_put_in => k_is)
    (case k_put_in => k_is)
    (case a_parts_with => k_is)
    (case l_parts_with_ => k_is)
    (case c_parts_with => k_is)
    (case k_parts_with => k_is)
    (case a_Wires_init => k_is)
    (case i_Wires_init => k_is)
    (case l_Wires_init_ => k_is)
    (case c_Wires_init => k_is)
    (case k_Wires_init => k_is)
    (case a_Wires_crossed => k_is)
    (case i_Wires_crossed => k_is)
    (case l_Wires_crossed_ => k_is)
    (case c_Wires_crossed => k_is)
    (case k_Wires_crossed => k_is)
    (case a_Wires_boxed => k_is)
    (case i_Wires_boxed => k_is)
    (case l_Wires_boxed_ => k_is)
    (case c_Wires_boxed => k_is)
    (case k_Wires_boxed => k_is)
    (case a_read_program => k_is)
    (case l_read_program_ => k_is)
    (case c_read_program => k_is)
    (case k_read_program => k_is)
    (case a_done_with => k_is)
    (case l_done_with_ => k_is)
    (case c_done_with => k_is)
    (case k_done_with => k_is)
    (case a_run => k_is)
    (case l_run_ => k_is)
    (case c_run => k_is)
    (case k_run => k_is)
    (case a_Passing_init => k_is)
    (case i_Passing_init => k_is)
    (case l_Passing_init_ => k_is)
    (case c_Passing_init => k_is)
    (case k_Passing_init => k_is)
    (case a_Passing_ends_of => k_is)
    (case i_Passing_ends_of => k_is)
    (case l_Passing_ends_of_ => k_is)
    (case c_Passing_ends_of => k_is)
    (case k_Passing_ends_of => k_is)
    (case a_Passing_through_box => k_is)
    (case i_Passing_through_box => k_is)
    (case l_Passing_through_box_ => k_is)
    (case c_Passing_through_box => k_is)
    (case k_Passing_through_box => k_is)
    (case a_Passing_past_wires => k_is)
    (case i_Passing_past_wires => k_is)
    (case l_Passing_past_wires_ => k_is)
    (case c_Passing_past_wires => k_is)
    (case k_Passing_past_wires => k_is)
    (case a_Passing_passed => k_is)
    (case i_Passing_passed => k_is)
    (case l_Passing_passed_ => k_is)
    (case c_Passing_passed => k_is)
    (case k_Passing_passed => k_is)
    (case a_read_relation => k_is)
    (case l_read_relation_ => k_is)
    (case c_read_relation => k_is)
    (case k_read_relation => k_is)
    (case a_l_cell_at => k_is)
    (case l_l_cell_at_ => k_is)
    (case c_l_cell_at => k_is)
    (case k_l_cell_at => k_is)
    (case a_l_deck => k_is)
    (case l_l_deck_ => k_is)
    (case c_l_deck => k_is)
    (case k_l_deck => k_is)
    (case a_l_draw => k_is)
    (case l_l_draw_ => k_is)
    (case c_l_draw => k_is)
    (case k_l_draw => k_is)
    (case a_l_feet => k_is)
    (case l_l_feet_ => k_is)
    (case c_l_feet => k_is)
    (case k_l_feet => k_is)
    (case a_l_kit => k_is)
    (case l_l_kit_ => k_is)
    (case c_l_kit => k_is)
    (case k_l_kit => k_is)
    (case a_l_takes => k_is)
    (case l_l_takes_ => k_is)
    (case c_l_takes => k_is)
    (case k_l_takes => k_is)
    (case a_l_after => k_is)
    (case l_l_after_ => k_is)
    (case c_l_after => k_is)
    (case k_l_after => k_is)
    (case a_l_wires => k_is)
    (case l_l_wires_ => k_is)
    (case c_l_wires => k_is)
    (case k_l_wires => k_is)
    (case a_l_boxes_that_fit => k_is)
    (case l_l_boxes_that_fit_ => k_is)
    (case c_l_boxes_that_fit => k_is)
    (case k_l_boxes_that_fit => k_is)
    (case a_l_wires_that_fit => k_is)
    (case l_l_wires_that_fit_ => k_is)
    (case c_l_wires_that_fit => k_is)
    (case k_l_wires_that_fit => k_is)
    (case a_l_picture => k_is)
    (case l_l_picture_ => k_is)
    (case c_l_picture => k_is)
    (case k_l_picture => k_is)
    (case a_l_small => k_is)
    (case l_l_small_ => k_is)
    (case c_l_small => k_is)
    (case k_l_small => k_is)
    (case a_l_worths => k_is)
    (case l_l_worths_ => k_is)
    (case c_l_worths => k_is)
    (case k_l_worths => k_is)
    (case a_l_comes_to => k_is)
    (case l_l_comes_to_ => k_is)
    (case c_l_comes_to => k_is)
    (case k_l_comes_to => k_is)
    (case a_l_fillings => k_is)
    (case l_l_fillings_ => k_is)
    (case c_l_fillings => k_is)
    (case k_l_fillings => k_is)
    (case a_l_told => k_is)
    (case l_l_told_ => k_is)
    (case c_l_told => k_is)
    (case k_l_told => k_is)
    (case a_l_widest => k_is)
    (case l_l_widest_ => k_is)
    (case c_l_widest => k_is)
    (case k_l_widest => k_is)
    (case a_l_right => k_is)
    (case l_l_right_ => k_is)
    (case c_l_right => k_is)
    (case k_l_right => k_is)
    (case a_law => k_is)
    (case l_law_ => k_is)
    (case c_law => k_is)
    (case k_law => k_is)
    (case pg_Going => k_is)
    (case hd_Going => k_is)
    (case po_Going => k_is)
    (case sa_Going => k_is)
    (case mk_Going => k_is)
    (case kc_Going => k_is)
    (case n_Going_kit => k_is)
    (case n_Going_sizes => k_is)
    (case n_Going_tables => k_is)
    (case n_Going_known_rows => k_is)
    (case pg_Wires => k_is)
    (case hd_Wires => k_is)
    (case po_Wires => k_is)
    (case sa_Wires => k_is)
    (case mk_Wires => k_is)
    (case kc_Wires => k_is)
    (case n_Wires_told => k_is)
    (case n_Wires_counts => k_is)
    (case pg_Passing => k_is)
    (case hd_Passing => k_is)
    (case po_Passing => k_is)
    (case sa_Passing => k_is)
    (case mk_Passing => k_is)
    (case kc_Passing => k_is)
    (case n_Passing_kit => k_is)
    (case n_Passing_sizes => k_is)
    (case n_Passing_relations => k_is)
    (case n_Passing_known_ends => k_is)
    (case x_T => k_is)
    (case sa_T => k_is)
    (case ga_T => k_is)
    (case gg_T => k_is)
    (case nb_T => k_is)
    (case kC_T => k_is)
    (case eC_T => k_is)
    (case tC_T => k_is)
    (case hC_T => k_is)
    (case iC_T => k_is)
    (case sC_T => first | rfl | k_is)
    (case sp_W => k_is)
    (case rd_W => k_is)
    (case vV_W => k_is)
    (case z_len => k_is)
    (case z_range => k_is)
    (case z_tuple => k_is)
    (case z_zip => k_is)
    (case z_int => k_is)
    (case z_sum => k_is)
    (case z_list => k_is)
    (case z_sorted => k_is)
    (case z_isinstance => k_is)
    (case g_most => k_is)
    (case g_parts => k_is)
