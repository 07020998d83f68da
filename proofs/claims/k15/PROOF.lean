import PyProof.Rows.All
import Wide.All
import OpenK.AllK
import Wide.FinOn
import HandS.ForMost
import HandS.Walk
import HandS.Evl
import HandS.Deep
import HandS.TupAny
import HandS.TupSets
import HandS.Strs
import HandS.NoneIn
import HandS.IsInst
import HandS.Codes
import PySem.Challenge.RW_eightcells_k15_terms_keep_what_is_kept
import PyProof.EqLayable
import PyProof.P3In
import KE.GoesEnum
import KE.GoesMore
import HandS.Defaults
import HandS.More
import HandS.DictComp
import KE.KDictSum
import KE.KDictCopyH
import HandS.Ends
import PyProof.ReprRoads
import PyProof.ReprLen
set_option Elab.async false
set_option linter.all false
set_option maxRecDepth 100000
set_option maxHeartbeats 4000000
/-! The mirror of eightcells' tables and terms in plain Lean, and the mathematics. -/
namespace Ec
/-- a row, a table: values no | yes -/
abbrev Row := List Bool
def num (r : Row) : Nat := r.foldl (fun n b => 2 * n + b.toNat) 0
def col (rs : List Row) (j : Nat) : Row := rs.map fun r => r.getD j false
def made (t : Row) (rs : List Row) : Row := (List.range (rs.headD []).length).map fun j => t.getD (num (col rs j)) false
def tups (rs : List Row) : Nat → List (List Row)
  | 0 => [[]]
  | m + 1 => (tups rs m).flatMap fun one => rs.map fun r => one ++ [r]
def brk (rs : List Row) (t : Row) (m : Nat) : Option (List Row) := (tups rs m).find? fun one => decide (made t one ∉ rs)
def due (m : Nat) (t : Row) : Nat → List (List Row) → Option (Nat × List Row)
  | _, [] => none
  | k, rs :: more => match brk rs t m with
    | some one => some (k, one)
    | none => due m t (k + 1) more
def every : Nat → List Row
  | 0 => [[]]
  | m + 1 => (every m).flatMap fun r => [r ++ [false], r ++ [true]]
inductive Tm where
  | pl (i : Nat)
  | ap (a b c : Tm)
def putIn (t X Y Z : Row) : Row := (List.range 8).map fun k => t.getD (num [X.getD k false, Y.getD k false, Z.getD k false]) false
def place (i : Nat) : Row := (every 3).map fun r => r.getD i false
def tell (t : Row) : Tm → Row
  | .pl i => place i
  | .ap a b c => putIn t (tell t a) (tell t b) (tell t c)
def Tm.ok : Tm → Bool
  | .pl i => decide (i < 3)
  | .ap a b c => a.ok && b.ok && c.ok
def Tm.depth : Tm → Nat
  | .pl _ => 0
  | .ap a b c => max a.depth (max b.depth c.depth) + 1

theorem num3 (x y z : Bool) : num [x, y, z] < 8 := by cases x <;> cases y <;> cases z <;> decide
theorem num_snoc (r : Row) (b : Bool) : num (r ++ [b]) = 2 * num r + b.toNat := by
  unfold num; rw [List.foldl_append]; rfl
theorem made_length (t : Row) (rs : List Row) : (made t rs).length = (rs.headD []).length := by
  unfold made; rw [List.length_map, List.length_range]
theorem getD_mapRange {n j : Nat} (f : Nat → Bool) (h : j < n) : ((List.range n).map f).getD j false = f j := by
  rw [List.getD_eq_getElem?_getD, List.getElem?_map, List.getElem?_range h]; rfl
theorem made_at {t : Row} {rs : List Row} {j : Nat} (h : j < (rs.headD []).length) : (made t rs).getD j false = t.getD (num (col rs j)) false :=
  getD_mapRange _ h
theorem putIn_at {t X Y Z : Row} {k : Nat} (h : k < 8) : (putIn t X Y Z).getD k false = t.getD (num [X.getD k false, Y.getD k false, Z.getD k false]) false :=
  getD_mapRange (fun k => t.getD (num [X.getD k false, Y.getD k false, Z.getD k false]) false) h
theorem putIn_length (t X Y Z : Row) : (putIn t X Y Z).length = 8 := by
  unfold putIn; rw [List.length_map, List.length_range]
theorem place_length (i : Nat) : (place i).length = 8 := by
  unfold place; rw [List.length_map]; decide
theorem tell_length (t : Row) (tm : Tm) : (tell t tm).length = 8 := by
  cases tm with
  | pl i => exact place_length i
  | ap a b c => exact putIn_length _ _ _ _

theorem mem_tups {rs : List Row} : ∀ {m : Nat} {one : List Row}, one ∈ tups rs m ↔ one.length = m ∧ ∀ r ∈ one, r ∈ rs
  | 0, one => by
    unfold tups
    rw [List.mem_singleton]
    constructor
    · intro h; subst h; exact ⟨rfl, fun r hr => absurd hr (by simp)⟩
    · intro h; exact List.length_eq_zero_iff.mp h.1
  | m + 1, one => by
    unfold tups
    rw [List.mem_flatMap]
    constructor
    · rintro ⟨p, hp, h⟩
      obtain ⟨r, hr, e⟩ := List.mem_map.mp h
      subst e
      obtain ⟨h1, h2⟩ := mem_tups.mp hp
      refine ⟨by rw [List.length_append, h1]; rfl, fun q hq => ?_⟩
      rcases List.mem_append.mp hq with h | h
      · exact h2 q h
      · rw [List.mem_singleton.mp h]; exact hr
    · rintro ⟨h1, h2⟩
      have hne : one ≠ [] := fun e => by rw [e] at h1; simp at h1
      refine ⟨one.dropLast, mem_tups.mpr ⟨by rw [List.length_dropLast, h1]; rfl, fun r hr => h2 r (List.dropLast_subset one hr)⟩, ?_⟩
      exact List.mem_map.mpr ⟨one.getLast hne, h2 _ (List.getLast_mem hne), List.dropLast_concat_getLast hne⟩
def Keeps (t : Row) (m : Nat) (rs : List Row) : Prop := ∀ one : List Row, one.length = m → (∀ r ∈ one, r ∈ rs) → made t one ∈ rs
theorem brk_none {rs : List Row} {t : Row} {m : Nat} : brk rs t m = none ↔ Keeps t m rs := by
  unfold brk
  rw [List.find?_eq_none]
  constructor
  · intro h one h1 h2
    have q := h one (mem_tups.mpr ⟨h1, h2⟩)
    simpa using q
  · intro h one hm
    obtain ⟨h1, h2⟩ := mem_tups.mp hm
    simpa using h one h1 h2
theorem due_none {m : Nat} {t : Row} : ∀ {k : Nat} {bk : List (List Row)}, due m t k bk = none ↔ ∀ rs ∈ bk, Keeps t m rs
  | k, [] => by simp [due]
  | k, rs :: more => by
    have ih := due_none (m := m) (t := t) (k := k + 1) (bk := more)
    unfold due
    cases h : brk rs t m with
    | some one =>
      constructor
      · intro q; cases q
      · intro q
        have := brk_none.mpr (q rs List.mem_cons_self)
        rw [h] at this; cases this
    | none =>
      show due m t (k + 1) more = none ↔ _
      rw [ih]
      constructor
      · intro q r hr
        rcases List.mem_cons.mp hr with e | e
        · rw [e]; exact brk_none.mp h
        · exact q r e
      · intro q r hr
        exact q r (List.mem_cons_of_mem _ hr)

/-! ### what a table keeps, its terms keep -/
theorem map_range_congr {n m : Nat} {f g : Nat → Bool} (e : n = m) (h : ∀ j, j < n → f j = g j) : (List.range n).map f = (List.range m).map g := by
  subst e
  exact List.map_congr_left fun j hj => h j (List.mem_range.mp hj)
theorem col3 (a b c : Row) (j : Nat) : col [a, b, c] j = [a.getD j false, b.getD j false, c.getD j false] := rfl
theorem made_putIn {t X Y Z a b c : Row} : made (putIn t X Y Z) [a, b, c] = made t [made X [a, b, c], made Y [a, b, c], made Z [a, b, c]] := by
  have hl : ([made X [a, b, c], made Y [a, b, c], made Z [a, b, c]].headD []).length = a.length := made_length X [a, b, c]
  refine map_range_congr (show ([a, b, c].headD []).length = _ from hl.symm) fun j hj => ?_
  have h8 : num (col [a, b, c] j) < 8 := num3 _ _ _
  rw [putIn_at h8, col3 (made X _), made_at hj, made_at hj, made_at hj]
theorem made_place {a b c : Row} {i : Nat} (hi : i < 3) (hb : b.length = a.length) (hc : c.length = a.length) : made (place i) [a, b, c] = [a, b, c].getD i [] := by
  have key : ∀ x y z : Bool, ∀ i, i < 3 → (place i).getD (num [x, y, z]) false = [x, y, z].getD i false := by decide
  have h1 : ∀ j, (col [a, b, c] j).getD i false = ([a, b, c].getD i []).getD j false := fun j => by
    match i, hi with
    | 0, _ => rfl
    | 1, _ => rfl
    | 2, _ => rfl
  have hl : ([a, b, c].getD i []).length = a.length := by
    match i, hi with
    | 0, _ => rfl
    | 1, _ => exact hb
    | 2, _ => exact hc
  have e : made (place i) [a, b, c] = (List.range ([a, b, c].getD i []).length).map fun j => ([a, b, c].getD i []).getD j false :=
    map_range_congr (show ([a, b, c].headD []).length = _ from hl.symm) fun j _ => by
      rw [col3, key _ _ _ i hi, ← col3, h1]
  rw [e]
  refine List.ext_getElem (by rw [List.length_map, List.length_range]) fun j h1 h2 => ?_
  rw [List.getElem_map, List.getElem_range, List.getD_eq_getElem?_getD, List.getElem?_eq_getElem h2]
  rfl
theorem keeps_tell {t : Row} {rs : List Row} {n : Nat} (hn : ∀ r ∈ rs, r.length = n) (h : Keeps t 3 rs) : ∀ tm : Tm, tm.ok = true → Keeps (tell t tm) 3 rs
  | .pl i, hk => fun one h1 h2 => by
    match one, h1, h2 with
    | [a, b, c], _, h2 =>
      have ha := h2 a (by simp)
      have hb := h2 b (by simp)
      have hc := h2 c (by simp)
      show made (place i) [a, b, c] ∈ rs
      have hi : i < 3 := of_decide_eq_true hk
      rw [made_place hi ((hn b hb).trans (hn a ha).symm) ((hn c hc).trans (hn a ha).symm)]
      match i, hi with
      | 0, _ => exact ha
      | 1, _ => exact hb
      | 2, _ => exact hc
  | .ap x y z, hk => fun one h1 h2 => by
    have hk : (x.ok && y.ok && z.ok) = true := hk
    rw [Bool.and_eq_true, Bool.and_eq_true] at hk
    match one, h1, h2 with
    | [a, b, c], _, h2 =>
      show made (putIn t (tell t x) (tell t y) (tell t z)) [a, b, c] ∈ rs
      rw [made_putIn]
      refine h _ rfl fun r hr => ?_
      have q := fun tm (ht : tm.ok = true) (hlt : Keeps (tell t tm) 3 rs) => hlt [a, b, c] rfl h2
      rcases List.mem_cons.mp hr with e | hr
      · rw [e]; exact keeps_tell hn h x hk.1.1 _ rfl h2
      rcases List.mem_cons.mp hr with e | hr
      · rw [e]; exact keeps_tell hn h y hk.1.2 _ rfl h2
      · rw [List.mem_singleton.mp hr]; exact keeps_tell hn h z hk.2 _ rfl h2

/-! ### the six -/
def sixT : Nat → Row
  | 0 => [false, false]
  | 1 => [true, true]
  | 2 => [false, false, false, true]
  | 3 => [false, true, true, true]
  | 4 => [false, false, false, true, false, true, true, true]
  | _ => [false, true, true, false, true, false, false, true]
def sixM : Nat → Nat
  | 0 => 1
  | 1 => 1
  | 2 => 2
  | 3 => 2
  | _ => 3
def widened (u : Row) : Row := (List.range 8).map fun k => u.getD (k / (8 / u.length)) false
theorem made_widened {w : Nat} {a b c : Row} : made (widened (sixT w)) [a, b, c] = made (sixT w) ([a, b, c].take (sixM w)) := by
  have key : ∀ x y z : Bool, ∀ w, w < 6 → (widened (sixT w)).getD (num [x, y, z]) false = (sixT w).getD (num ([x, y, z].take (sixM w))) false := by decide
  have k2 : ∀ x y z : Bool, ∀ w, (widened (sixT w)).getD (num [x, y, z]) false = (sixT w).getD (num ([x, y, z].take (sixM w))) false := fun x y z w => by
    match w with
    | 0 => exact key x y z 0 (by decide)
    | 1 => exact key x y z 1 (by decide)
    | 2 => exact key x y z 2 (by decide)
    | 3 => exact key x y z 3 (by decide)
    | 4 => exact key x y z 4 (by decide)
    | w + 5 => exact key x y z 5 (by decide)
  have hm : ([a, b, c].take (sixM w)).headD [] = a := by
    match w with
    | 0 => rfl
    | 1 => rfl
    | 2 => rfl
    | 3 => rfl
    | w + 4 => rfl
  refine map_range_congr (by rw [hm]; rfl) fun j _ => ?_
  rw [col3, k2]
  unfold col
  rw [List.map_take]
  rfl
theorem keeps_six {w : Nat} {rs : List Row} (h : Keeps (widened (sixT w)) 3 rs) : Keeps (sixT w) (sixM w) rs := by
  intro one h1 h2
  have go : ∀ a b c : Row, one = [a, b, c].take (sixM w) → a ∈ rs → b ∈ rs → c ∈ rs → made (sixT w) one ∈ rs := fun a b c e ha hb hc => by
    rw [e, ← made_widened]
    refine h _ rfl fun r hr => ?_
    rcases List.mem_cons.mp hr with e | hr
    · rw [e]; exact ha
    rcases List.mem_cons.mp hr with e | hr
    · rw [e]; exact hb
    · rw [List.mem_singleton.mp hr]; exact hc
  have m1 : sixM w = 1 ∨ sixM w = 2 ∨ sixM w = 3 := by
    match w with
    | 0 => exact .inl rfl
    | 1 => exact .inl rfl
    | 2 => exact .inr (.inl rfl)
    | 3 => exact .inr (.inl rfl)
    | w + 4 => exact .inr (.inr rfl)
  rcases m1 with m | m | m <;> rw [m] at h1
  · match one, h1, h2, go with
    | [a], _, h2, go =>
      have ha := h2 a (by simp)
      exact go a a a (by rw [m]; rfl) ha ha ha
  · match one, h1, h2, go with
    | [a, b], _, h2, go =>
      exact go a b b (by rw [m]; rfl) (h2 a (by simp)) (h2 b (by simp)) (h2 b (by simp))
  · match one, h1, h2, go with
    | [a, b, c], _, h2, go =>
      exact go a b c (by rw [m]; rfl) (h2 a (by simp)) (h2 b (by simp)) (h2 c (by simp))

/-! ### each table that is not plain gives one of the six -/
def plain (t : Row) : Bool := (List.range 3).any fun i => decide (t = place i) || decide (t = (place i).map not)
def isPlain (t : Row) : Bool := decide (t ∈ [place 0, place 1, place 2]) || decide (t.map not ∈ [place 0, place 1, place 2])
def app (turns : Bool) (a b c : Tm) : Tm := if turns then .ap (.ap a b c) (.ap a b c) (.ap a b c) else .ap a b c
def bit (t : Row) (i : Nat) : Bool := t.getD i false
/-- the table that the readings are of -/
def still (t : Row) : Row := if bit t 0 then putIn t t t t else t
def p0 : Tm := .pl 0
def p1 : Tm := .pl 1
def p2 : Tm := .pl 2
/-- where the first no is -/
def firstNo (a b _c : Bool) : Nat := if a = false then 0 else if b = false then 1 else 2
def lastWay (turns : Bool) (a b c : Bool) : Nat × Tm :=
  let whole := app turns p0 p1 p2
  if a.toNat + b.toNat + c.toNat = 0 then (4, whole)
  else if a.toNat + b.toNat + c.toNat = 3 then (5, whole)
  else (4, match firstNo a b c with
    | 0 => app turns p0 p1 whole
    | 1 => app turns p0 whole p2
    | _ => app turns whole p1 p2)
def termOf (t : Row) : Nat × Tm :=
  if bit t 0 = bit t 7 then (if bit t 0 then 1 else 0, .ap p0 p0 p0)
  else
    let turns := bit t 0
    let s := still t
    if bit s 1 = bit s 6 then (if bit s 1 then 3 else 2, app turns p0 p0 p1)
    else if bit s 2 = bit s 5 then (if bit s 2 then 3 else 2, app turns p0 p1 p0)
    else if bit s 4 = bit s 3 then (if bit s 4 then 3 else 2, app turns p1 p0 p0)
    else lastWay turns (bit s 1) (bit s 2) (bit s 4)
def rowOk (t : Row) : Bool := plain t == isPlain t && (plain t || (decide ((termOf t).1 < 6) && (termOf t).2.ok && decide (tell t (termOf t).2 = widened (sixT (termOf t).1))))
theorem all_rows {P : Row → Prop} (h : ∀ a b c d e f g i : Bool, P [a, b, c, d, e, f, g, i]) : ∀ t : Row, t.length = 8 → P t
  | [a, b, c, d, e, f, g, i], _ => h a b c d e f g i
theorem rowOk_all : ∀ t : Row, t.length = 8 → rowOk t = true := all_rows (by decide +kernel)
theorem plain_eq {t : Row} (h : t.length = 8) : plain t = isPlain t := by
  have q := rowOk_all t h
  unfold rowOk at q
  rw [Bool.and_eq_true] at q
  exact eq_of_beq q.1
theorem termOf_ok {t : Row} (h : t.length = 8) (hp : plain t = false) : (termOf t).1 < 6 ∧ (termOf t).2.ok = true ∧ tell t (termOf t).2 = widened (sixT (termOf t).1) := by
  have q := rowOk_all t h
  unfold rowOk at q
  rw [hp, Bool.and_eq_true, Bool.false_or, Bool.and_eq_true, Bool.and_eq_true] at q
  exact ⟨of_decide_eq_true q.2.1.1, q.2.1.2, of_decide_eq_true q.2.2⟩
/-- the word that term_of tells: its table keeps what the table keeps -/
theorem keeps_word {t : Row} {rs : List Row} {n : Nat} (hn : ∀ r ∈ rs, r.length = n) (h8 : t.length = 8) (hp : plain t = false) (h : Keeps t 3 rs) : Keeps (sixT (termOf t).1) (sixM (termOf t).1) rs := by
  obtain ⟨_, h2, h3⟩ := termOf_ok h8 hp
  refine keeps_six ?_
  rw [← h3]
  exact keeps_tell hn h _ h2
end Ec
/-! A data layer: what a value stands for (Dt, Dd), which addresses are hidden (er), what an expression evaluates to (EvD). -/
namespace Ec
open PySem L2

/-- data: lst a tracked list, scr a list that is read alone, tup a tuple, obj an instance, raw a value as it is -/
inductive Dt where
  | non
  | bl (b : Bool)
  | int (i : Int)
  | str (x : Str)
  | lst (ds : List Dt)
  | scr (ds : List Dt)
  | tup (ds : List Dt)
  | obj (C : Addr) (fs : List Str) (ds : List Dt)
  | raw (v : V)
  | tpl (ds : List Dt)

mutual
inductive Dd (K : PySem.W.Frag) (H : Hp) : V → Dt → Prop
  | non : Dd K H .non .non
  | bl (b : Bool) : Dd K H (.bl b) (.bl b)
  | int (i : Int) : Dd K H (.int i) (.int i)
  | str (x : Str) : Dd K H (.str x) (.str x)
  | lst {a : Addr} {xs : List V} {ds : List Dt} : H a = some (.lst xs) → DdL K H xs ds → Dd K H (.ref a) (.lst ds)
  | scr {a : Addr} {xs : List V} {ds : List Dt} : SqL K H a xs → DdL K H xs ds → Dd K H (.ref a) (.scr ds)
  | tup {a : Addr} {xs : List V} {ds : List Dt} : SqT K H a xs → DdL K H xs ds → Dd K H (.ref a) (.tup ds)
  | obj {a C dx : Addr} {fs : List Str} {xs : List V} {ds : List Dt} : H a = some (.ins C dx (fs.zip xs)) → fs.length = xs.length → DdL K H xs ds → Dd K H (.ref a) (.obj C fs ds)
  | raw (v : V) : Dd K H v (.raw v)
  | tpl {a : Addr} {xs : List V} {ds : List Dt} : H a = some (.tup xs) → DdL K H xs ds → Dd K H (.ref a) (.tpl ds)
inductive DdL (K : PySem.W.Frag) (H : Hp) : List V → List Dt → Prop
  | nil : DdL K H [] []
  | cons {v : V} {vs : List V} {d : Dt} {ds : List Dt} : Dd K H v d → DdL K H vs ds → DdL K H (v :: vs) (d :: ds)
end

section
variable {K : PySem.W.Frag} {H H' : Hp}
mutual
theorem Dd.mono (e : Evl.Ex H H') : ∀ {d : Dt} {v : V}, Dd K H v d → Dd K H' v d
  | .non, _, h => by cases h; exact .non
  | .bl b, _, h => by cases h; exact .bl b
  | .int i, _, h => by cases h; exact .int i
  | .str x, _, h => by cases h; exact .str x
  | .lst ds, _, h => by
    cases h with
    | lst h1 h2 => exact .lst (e _ _ h1) (DdL.mono e h2)
  | .scr ds, _, h => by
    cases h with
    | scr h1 h2 => exact .scr (Evl.ex_l e h1) (DdL.mono e h2)
  | .tup ds, _, h => by
    cases h with
    | tup h1 h2 => exact .tup (Evl.ex_t e h1) (DdL.mono e h2)
  | .obj C fs ds, _, h => by
    cases h with
    | obj h1 h2 h3 => exact .obj (e _ _ h1) h2 (DdL.mono e h3)
  | .raw v, _, h => by cases h; exact .raw v
  | .tpl ds, _, h => by
    cases h with
    | tpl h1 h2 => exact .tpl (e _ _ h1) (DdL.mono e h2)
theorem DdL.mono (e : Evl.Ex H H') : ∀ {ds : List Dt} {vs : List V}, DdL K H vs ds → DdL K H' vs ds
  | [], _, h => by cases h; exact .nil
  | d :: ds, _, h => by
    cases h with
    | cons h1 h2 => exact .cons (Dd.mono e h1) (DdL.mono e h2)
end
theorem DdL.length : ∀ {ds : List Dt} {vs : List V}, DdL K H vs ds → vs.length = ds.length
  | [], _, h => by cases h; rfl
  | d :: ds, _, h => by
    cases h with
    | cons _ h2 => rw [List.length_cons, List.length_cons, DdL.length h2]
theorem DdL.at : ∀ {ds : List Dt} {vs : List V} {i : Nat} {d : Dt}, DdL K H vs ds → ds[i]? = some d → ∃ v, vs[i]? = some v ∧ Dd K H v d
  | [], _, i, d, _, e => by simp at e
  | _ :: _, _, 0, _, h, e => by
    cases h with
    | cons h1 _ =>
      simp at e; subst e
      exact ⟨_, rfl, h1⟩
  | _ :: _, _, i + 1, _, h, e => by
    cases h with
    | cons _ h2 =>
      obtain ⟨v, q1, q2⟩ := DdL.at h2 (by simpa using e)
      exact ⟨v, by simpa using q1, q2⟩
theorem DdL.of : ∀ {ds : List Dt} {vs : List V} {i : Nat} {v : V}, DdL K H vs ds → vs[i]? = some v → ∃ d, ds[i]? = some d ∧ Dd K H v d
  | [], _, i, d, h, e => by cases h; simp at e
  | _ :: _, _, 0, _, h, e => by
    cases h with
    | cons h1 _ =>
      simp at e; subst e
      exact ⟨_, rfl, h1⟩
  | _ :: _, _, i + 1, _, h, e => by
    cases h with
    | cons _ h2 =>
      obtain ⟨v, q1, q2⟩ := DdL.of h2 (by simpa using e)
      exact ⟨v, by simpa using q1, q2⟩
theorem DdL.append : ∀ {ds es : List Dt} {vs us : List V}, DdL K H vs ds → DdL K H us es → DdL K H (vs ++ us) (ds ++ es)
  | [], _, _, _, h, g => by cases h; exact g
  | _ :: _, _, _, _, h, g => by
    cases h with
    | cons h1 h2 => exact .cons h1 (h2.append g)
theorem DdL.take : ∀ {ds : List Dt} {vs : List V} (n : Nat), DdL K H vs ds → DdL K H (vs.take n) (ds.take n)
  | _, _, 0, _ => .nil
  | [], _, n + 1, h => by cases h; exact .nil
  | _ :: _, _, n + 1, h => by
    cases h with
    | cons h1 h2 => exact .cons h1 (h2.take n)
theorem DdL.set : ∀ {ds : List Dt} {vs : List V} (i : Nat) {v : V} {d : Dt}, DdL K H vs ds → Dd K H v d → DdL K H (vs.set i v) (ds.set i d)
  | [], _, _, _, _, h, _ => by cases h; exact .nil
  | _ :: _, _, 0, _, _, h, g => by
    cases h with
    | cons h1 h2 => exact .cons g h2
  | _ :: _, _, i + 1, _, _, h, g => by
    cases h with
    | cons h1 h2 => exact .cons h1 (h2.set i g)
theorem DdL.ints : ∀ {ns : List Int} {vs : List V}, DdL K H vs (ns.map .int) → vs = ns.map V.int
  | [], _, h => by cases h; rfl
  | n :: ns, _, h => by
    cases h with
    | cons h1 h2 => cases h1; rw [h2.ints]; rfl
theorem DdL.ofInts : ∀ (ns : List Int), DdL K H (ns.map V.int) (ns.map .int)
  | [] => .nil
  | n :: ns => .cons (.int n) (DdL.ofInts ns)
theorem Dd.toInt {v : V} {i : Int} (h : Dd K H v (.int i)) : v = .int i := by cases h; rfl
theorem Dd.toBl {v : V} {b : Bool} (h : Dd K H v (.bl b)) : v = .bl b := by cases h; rfl
theorem Dd.toRaw {v w : V} (h : Dd K H v (.raw w)) : v = w := by cases h; rfl
end

/-! ### hidden addresses -/
def er (Z : List Addr) (H : Hp) : Hp := fun b => if b ∈ Z then none else H b
theorem er_in {Z : List Addr} {H : Hp} {b : Addr} (h : b ∈ Z) : er Z H b = none := if_pos h
theorem er_out {Z : List Addr} {H : Hp} {b : Addr} (h : b ∉ Z) : er Z H b = H b := if_neg h
theorem er_some {Z : List Addr} {H : Hp} {b : Addr} {o : HO} (h : er Z H b = some o) : b ∉ Z ∧ H b = some o := by
  by_cases hb : b ∈ Z
  · rw [er_in hb] at h; cases h
  · rw [er_out hb] at h; exact ⟨hb, h⟩
theorem er_ex {Z : List Addr} {H H' : Hp} (e : Evl.Ex H H') : Evl.Ex (er Z H) (er Z H') := fun b o h => by
  obtain ⟨h1, h2⟩ := er_some h
  rw [er_out h1]; exact e _ _ h2
theorem er_sub {Z : List Addr} {H : Hp} : Evl.Ex (er Z H) H := fun b o h => (er_some h).2
theorem er_less {Z Z' : List Addr} {H : Hp} (h : ∀ z ∈ Z, z ∈ Z') : Evl.Ex (er Z' H) (er Z H) := fun b o e => by
  obtain ⟨h1, h2⟩ := er_some e
  rw [er_out fun q => h1 (h b q)]; exact h2
theorem er_new {Z : List Addr} {H : Hp} {p : Addr} {o : HO} (hp : H p = none) : Evl.Ex (er Z H) (er (p :: Z) (upd H p o)) := fun b u h => by
  obtain ⟨h1, h2⟩ := er_some h
  have hne : b ≠ p := ne_of_none h2 hp
  rw [er_out (by simp [hne, h1]), upd_ne hne]; exact h2
theorem er_upd {Z : List Addr} {H : Hp} {p : Addr} {o : HO} (hp : p ∈ Z) : er Z (upd H p o) = er Z H := by
  funext b
  by_cases hb : b ∈ Z
  · rw [er_in hb, er_in hb]
  · rw [er_out hb, er_out hb, upd_ne (fun e => hb (by rw [e]; exact hp))]
theorem er_nil {H : Hp} : er [] H = H := by funext b; rw [er_out (by simp)]
/-- the hidden addresses are taken, by no tuple -/
def Occ (Z : List Addr) (H : Hp) : Prop := ∀ z ∈ Z, ∃ o, H z = some o ∧ ∀ ys, o ≠ .tup ys
theorem Occ.ex {Z : List Addr} {H H' : Hp} (o : Occ Z H) (e : Evl.Ex H H') : Occ Z H' := fun z hz => let ⟨u, h1, h2⟩ := o z hz; ⟨u, e z u h1, h2⟩
theorem Occ.fresh {Z : List Addr} {H : Hp} {p : Addr} (o : Occ Z H) (h : H p = none) : p ∉ Z := fun hz => by
  obtain ⟨u, h1, _⟩ := o p hz
  rw [h] at h1; cases h1
theorem Occ.noTup {Z : List Addr} {H : Hp} {p : Addr} {ys : List V} (o : Occ Z H) (h : H p = some (.tup ys)) : p ∉ Z := fun hz => by
  obtain ⟨u, h1, h2⟩ := o p hz
  rw [h] at h1
  exact h2 ys (Option.some.inj h1).symm
theorem Occ.add {Z : List Addr} {H : Hp} {p : Addr} {vs : List V} (o : Occ Z H) (h : H p = some (.lst vs)) : Occ (p :: Z) H := fun z hz => by
  rcases List.mem_cons.mp hz with q | q
  · subst q
    exact ⟨_, h, fun ys e => by cases e⟩
  · exact o z q
theorem Occ.upd {Z : List Addr} {H : Hp} {p : Addr} {u : HO} (o : Occ Z H) (hu : ∀ ys, u ≠ .tup ys) : Occ Z (upd H p u) := fun z hz => by
  by_cases e : z = p
  · subst e
    exact ⟨u, upd_same, hu⟩
  · rw [upd_ne e]; exact o z hz
theorem Occ.nil {H : Hp} : Occ [] H := fun _ h => absurd h (by simp)
theorem er_newT {Z : List Addr} {H : Hp} {p : Addr} {o : HO} (oc : Occ Z H) (hp : H p = none) : er Z (upd H p o) p = some o := by
  rw [er_out (oc.fresh hp)]; exact upd_same

/-! ### the slots -/
abbrev Rh := List (Option Dt)
def Sd (K : PySem.W.Frag) (H : Hp) (σ : L2.St) (ρ : Rh) : Prop := σ.length = ρ.length ∧ ∀ (i : Nat) (d : Dt), ρ[i]? = some (some d) → ∃ v, σ[i]? = some (some v) ∧ Dd K H v d
section
variable {K : PySem.W.Frag} {H H' : Hp} {σ : L2.St} {ρ : Rh}
theorem Sd.mono (s : Sd K H σ ρ) (e : Evl.Ex H H') : Sd K H' σ ρ := ⟨s.1, fun i d h => let ⟨v, h1, h2⟩ := s.2 i d h; ⟨v, h1, h2.mono e⟩⟩
theorem Sd.set (s : Sd K H σ ρ) {i : Nat} {v : V} {d : Dt} (h : Dd K H v d) : Sd K H (σ.set i (some v)) (ρ.set i (some d)) := by
  refine ⟨by rw [List.length_set, List.length_set, s.1], fun j e hj => ?_⟩
  by_cases hij : i = j
  · subst hij
    by_cases hl : i < ρ.length
    · rw [List.getElem?_set_self hl] at hj
      cases hj
      exact ⟨v, List.getElem?_set_self (by rw [s.1]; exact hl), h⟩
    · rw [List.getElem?_eq_none (by simpa using hl)] at hj; cases hj
  · rw [List.getElem?_set_ne hij] at hj
    rw [List.getElem?_set_ne hij]
    exact s.2 j e hj
/-- forgetting -/
theorem Sd.weak (s : Sd K H σ ρ) {ρ' : Rh} (hl : ρ'.length = ρ.length) (h : ∀ (i : Nat) (d : Dt), ρ'[i]? = some (some d) → ρ[i]? = some (some d)) : Sd K H σ ρ' :=
  ⟨s.1.trans hl.symm, fun i d e => s.2 i d (h i d e)⟩
def wp (ρ : Rh) : List Nat → Rh
  | [] => ρ
  | v :: vs => (wp ρ vs).set v none
theorem Sd.forget (s : Sd K H σ ρ) (i : Nat) : Sd K H (σ.set i none) (ρ.set i none) := by
  refine ⟨by rw [List.length_set, List.length_set, s.1], fun j e hj => ?_⟩
  by_cases hij : i = j
  · subst hij
    by_cases hl : i < ρ.length
    · rw [List.getElem?_set_self hl] at hj; cases hj
    · rw [List.getElem?_eq_none (by simpa using hl)] at hj; cases hj
  · rw [List.getElem?_set_ne hij] at hj
    rw [List.getElem?_set_ne hij]
    exact s.2 j e hj
theorem Sd.wipe (s : Sd K H σ ρ) : ∀ vs : List Nat, Sd K H (L2.wipe σ vs) (wp ρ vs)
  | [] => s
  | v :: vs => (s.wipe vs).forget v
theorem wipe_at (σ : L2.St) (i : Nat) : ∀ vs : List Nat, (wipe σ vs)[i]? = if i ∈ vs ∧ i < σ.length then some none else σ[i]?
  | [] => by simp [wipe]
  | v :: vs => by
    unfold wipe
    by_cases h : v = i
    · subst h
      by_cases hl : v < σ.length
      · rw [List.getElem?_set_self (by rw [wipe_length]; exact hl), if_pos ⟨List.mem_cons_self, hl⟩]
      · rw [List.getElem?_eq_none (by rw [List.length_set, wipe_length]; omega), if_neg (fun q => hl q.2), List.getElem?_eq_none (by omega)]
    · have hne : i ≠ v := fun q => h q.symm
      rw [List.getElem?_set_ne h, wipe_at σ i vs]
      simp only [List.mem_cons, hne, false_or]
theorem wipe_set {j : Nat} {vs : List Nat} (hj : j ∈ vs) (σ : L2.St) (x : Option V) : wipe (σ.set j x) vs = wipe σ vs := by
  refine List.ext_getElem? fun i => ?_
  rw [wipe_at, wipe_at, List.length_set]
  by_cases h : j = i
  · subst h
    by_cases hl : j < σ.length
    · rw [if_pos ⟨hj, hl⟩, if_pos ⟨hj, hl⟩]
    · rw [if_neg fun q => hl q.2, if_neg fun q => hl q.2, List.getElem?_eq_none (by rw [List.length_set]; omega), List.getElem?_eq_none (by omega)]
  · rw [List.getElem?_set_ne h]
theorem wipe_wipe (σ : L2.St) (vs : List Nat) : wipe (wipe σ vs) vs = wipe σ vs := by
  refine List.ext_getElem? fun i => ?_
  rw [wipe_at, wipe_at σ, wipe_length]
  by_cases h : i ∈ vs ∧ i < σ.length
  · rw [if_pos h, if_pos h]
  · rw [if_neg h, if_neg h]
theorem wipe_one {j : Nat} {vs : List Nat} (hj : j ∈ vs) (σ : L2.St) (x : Option V) : wipe ((wipe σ vs).set j x) vs = wipe σ vs := by rw [wipe_set hj, wipe_wipe]
end

/-! ### what evaluates to what -/
section
variable {K : PySem.W.Frag}
def EvD (K : PySem.W.Frag) (te : TE) (ρ : Rh) (d : Dt) : Prop := ∀ (Z : List Addr) (σ : L2.St) (H : Hp) (Q : VK), Occ Z H → Sd K (er Z H) σ ρ →
  (∀ v H2, Evl.Ex H H2 → Dd K (er Z H2) v d → Q v H2) → te σ H Q
/-- a new list -/
def EvN (K : PySem.W.Frag) (te : TE) (ρ : Rh) (ds : List Dt) : Prop := ∀ (Z : List Addr) (σ : L2.St) (H : Hp) (Q : VK), Occ Z H → Sd K (er Z H) σ ρ →
  (∀ p vs H2, H p = none → Evl.Ex H H2 → H2 p = some (.lst vs) → DdL K (er (p :: Z) H2) vs ds → Q (.ref p) H2) → te σ H Q
def EvT (K : PySem.W.Frag) (tt : TT) (ρ : Rh) (b : Bool) : Prop := ∀ (Z : List Addr) (σ : L2.St) (H : Hp) (Q : Bool → Hp → Prop), Occ Z H → Sd K (er Z H) σ ρ →
  (∀ H2, Evl.Ex H H2 → Q b H2) → tt σ H Q
def EvA (K : PySem.W.Frag) (ta : TA) (ρ : Rh) (ds : List Dt) : Prop := ∀ (Z : List Addr) (σ : L2.St) (H : Hp) (Q : List V → Hp → Prop), Occ Z H → Sd K (er Z H) σ ρ →
  (∀ vs H2, Evl.Ex H H2 → DdL K (er Z H2) vs ds → Q vs H2) → ta σ H Q
variable {ρ : Rh} {te ta tb tc : TE} {d e : Dt} {ds : List Dt}
theorem EvN.toD (h : EvN K te ρ ds) : EvD K te ρ (.lst ds) := fun Z σ H Q oc sd k =>
  h Z σ H Q oc sd fun p vs H2 hp ex h2 hd => k _ H2 ex (.lst (by rw [er_out (oc.fresh hp)]; exact h2) (hd.mono (er_less fun z hz => List.mem_cons_of_mem _ hz)))
theorem evd_var {i : Nat} (h : ρ[i]? = some (some d)) : EvD K (tVar i) ρ d := fun Z σ H Q oc sd k =>
  let ⟨v, h1, h2⟩ := sd.2 i d h
  ⟨v, h1, k v H (Evl.Ex.refl H) h2⟩
theorem evd_c {v : V} (h : ∀ H, Dd K H v d) : EvD K (tC v) ρ d := fun Z σ H Q oc sd k => k v H (Evl.Ex.refl H) (h _)
theorem evd_int {i : Int} : EvD K (tC (.int i)) ρ (.int i) := evd_c fun _ => .int i
theorem evd_str {x : Str} : EvD K (tC (.str x)) ρ (.str x) := evd_c fun _ => .str x
theorem evd_bl {b : Bool} : EvD K (tC (.bl b)) ρ (.bl b) := evd_c fun _ => .bl b
theorem evd_non : EvD K (tC .non) ρ .non := evd_c fun _ => .non
theorem EvD.is (h : EvD K te ρ d) (e1 : d = e) : EvD K te ρ e := e1 ▸ h
/-- told less -/
theorem EvD.wk (h : EvD K te ρ d) (w : ∀ H v, Dd K H v d → Dd K H v e) : EvD K te ρ e := fun Z σ H Q oc sd k => h Z σ H Q oc sd fun v H2 ex hv => k v H2 ex (w _ _ hv)
theorem EvT.is {tt : TT} {a b : Bool} (h : EvT K tt ρ a) (e1 : a = b) : EvT K tt ρ b := e1 ▸ h
theorem eva_nil : EvA K tNil ρ [] := fun Z σ H Q oc sd k => k [] H (Evl.Ex.refl H) .nil
theorem eva_cons {tr : TA} (h : EvD K te ρ d) (hr : EvA K tr ρ ds) : EvA K (tCons te tr) ρ (d :: ds) := fun Z σ H Q oc sd k =>
  h Z σ H _ oc sd fun v H1 e1 hv => hr Z σ H1 _ (oc.ex e1) (sd.mono (er_ex e1)) fun vs H2 e2 hvs => k (v :: vs) H2 (e1.trans e2) (.cons (hv.mono (er_ex e2)) hvs)
/-- operations by values -/
def RvD (K : PySem.W.Frag) (r : R2) (a b c : Dt) : Prop := ∀ (Z : List Addr) (H : Hp) (x y : V) (Q : VK), Occ Z H → Dd K (er Z H) x a → Dd K (er Z H) y b → (∀ v H2, Evl.Ex H H2 → Dd K (er Z H2) v c → Q v H2) → r x y H Q
def RcD (K : PySem.W.Frag) (r : List V → Hp → VK → Prop) (as : List Dt) (c : Dt) : Prop := ∀ (Z : List Addr) (H : Hp) (vs : List V) (Q : VK), Occ Z H → DdL K (er Z H) vs as → (∀ v H2, Evl.Ex H H2 → Dd K (er Z H2) v c → Q v H2) → r vs H Q
theorem evd_op {r : R2} {a b c : Dt} (ha : EvD K ta ρ a) (hb : EvD K tb ρ b) (hr : RvD K r a b c) : EvD K (tOp r ta tb) ρ c := fun Z σ H Q oc sd k =>
  ha Z σ H _ oc sd fun x H1 e1 hx => hb Z σ H1 _ (oc.ex e1) (sd.mono (er_ex e1)) fun y H2 e2 hy =>
    hr Z H2 x y Q (oc.ex (e1.trans e2)) (hx.mono (er_ex e2)) hy fun v H3 e3 hv => k v H3 ((e1.trans e2).trans e3) hv
theorem rvd_I {C : Int → Int → Prop} {g : Int → Int → V} {i j : Int} {c : Dt} (hc : C i j) (hg : ∀ H, Dd K H (g i j) c) : RvD K (rI C g) (.int i) (.int j) c := fun Z H x y Q oc hx hy k =>
  ⟨i, j, hx.toInt, hy.toInt, hc, k _ H (Evl.Ex.refl H) (hg _)⟩
theorem rvd_I0 {g : Int → Int → V} {i j : Int} {c : Dt} (hg : ∀ H, Dd K H (g i j) c) : RvD K (rI0 g) (.int i) (.int j) c := fun Z H x y Q oc hx hy k =>
  ⟨i, j, hx.toInt, hy.toInt, k _ H (Evl.Ex.refl H) (hg _)⟩
theorem evd_i0 {f : Int → Int → Int} {i j : Int} (ha : EvD K ta ρ (.int i)) (hb : EvD K tb ρ (.int j)) : EvD K (tOp (rI0 fun i j => .int (f i j)) ta tb) ρ (.int (f i j)) := evd_op ha hb (rvd_I0 fun _ => .int _)
theorem evd_i {C : Int → Int → Prop} {f : Int → Int → Int} {i j : Int} (ha : EvD K ta ρ (.int i)) (hb : EvD K tb ρ (.int j)) (hc : C i j) : EvD K (tOp (rI C fun i j => .int (f i j)) ta tb) ρ (.int (f i j)) := evd_op ha hb (rvd_I hc fun _ => .int _)
theorem evd_b0 {f : Int → Int → Bool} {i j : Int} (ha : EvD K ta ρ (.int i)) (hb : EvD K tb ρ (.int j)) : EvD K (tOp (rI0 fun i j => .bl (f i j)) ta tb) ρ (.bl (f i j)) := evd_op ha hb (rvd_I0 fun _ => .bl _)
theorem rvd_eqI {i j : Int} : RvD K rEq (.int i) (.int j) (.bl (decide (i = j))) := fun Z H x y Q oc hx hy k => by
  cases hx.toInt; cases hy.toInt
  have e : decide (V.int i = V.int j) = decide (i = j) := by simp
  exact ⟨rfl, k _ H (Evl.Ex.refl H) (by rw [e]; exact .bl _)⟩
theorem rvd_neI {i j : Int} : RvD K rNe (.int i) (.int j) (.bl (!decide (i = j))) := fun Z H x y Q oc hx hy k => by
  cases hx.toInt; cases hy.toInt
  have e : decide (V.int i = V.int j) = decide (i = j) := by simp
  exact ⟨rfl, k _ H (Evl.Ex.refl H) (by rw [e]; exact .bl _)⟩
theorem Dd.sqT {H : Hp} {v : V} (h : Dd K H v (.tup ds)) : ∃ a xs, v = .ref a ∧ SqT K H a xs ∧ DdL K H xs ds := by
  cases h with
  | tup h1 h2 => exact ⟨_, _, rfl, h1, h2⟩
theorem Dd.tplT {H : Hp} {v : V} (h : Dd K H v (.tpl ds)) : ∃ a xs, v = .ref a ∧ H a = some (.tup xs) ∧ DdL K H xs ds := by
  cases h with
  | tpl h1 h2 => exact ⟨_, _, rfl, h1, h2⟩
theorem Dd.low {H : Hp} {v : V} (h : Dd K H v (.tpl ds)) : Dd K H v (.tup ds) := by
  obtain ⟨a, xs, rfl, h1, h2⟩ := h.tplT
  exact .tup (SqT.of h1) h2
theorem Dd.sqL {H : Hp} {v : V} (h : Dd K H v (.lst ds)) : ∃ a xs, v = .ref a ∧ H a = some (.lst xs) ∧ DdL K H xs ds := by
  cases h with
  | lst h1 h2 => exact ⟨_, _, rfl, h1, h2⟩
theorem Dd.sqS {H : Hp} {v : V} (h : Dd K H v (.scr ds)) : ∃ a xs, v = .ref a ∧ SqL K H a xs ∧ DdL K H xs ds := by
  cases h with
  | scr h1 h2 => exact ⟨_, _, rfl, h1, h2⟩
theorem rvd_ixT {n : Nat} {i : Int} (e1 : i = (n : Int)) (h : ds[n]? = some d) : RvD K (rIxT K) (.tup ds) (.int i) d := fun Z H x y Q oc hx hy k => by
  obtain ⟨a, xs, rfl, h1, h2⟩ := hx.sqT
  cases hy.toInt
  obtain ⟨v, q1, q2⟩ := h2.at h
  exact ⟨a, xs, i, v, rfl, rfl, Evl.ex_t er_sub h1, at_of e1 q1, k v H (Evl.Ex.refl H) q2⟩
theorem rvd_ixL {n : Nat} {i : Int} (e1 : i = (n : Int)) (h : ds[n]? = some d) : RvD K (rIxL K) (.lst ds) (.int i) d := fun Z H x y Q oc hx hy k => by
  obtain ⟨a, xs, rfl, h1, h2⟩ := hx.sqL
  cases hy.toInt
  obtain ⟨v, q1, q2⟩ := h2.at h
  exact ⟨a, xs, i, v, rfl, rfl, Evl.ex_l er_sub (SqL.of h1), at_of e1 q1, k v H (Evl.Ex.refl H) q2⟩
theorem rvd_ixS {n : Nat} {i : Int} (e1 : i = (n : Int)) (h : ds[n]? = some d) : RvD K (rIxL K) (.scr ds) (.int i) d := fun Z H x y Q oc hx hy k => by
  obtain ⟨a, xs, rfl, h1, h2⟩ := hx.sqS
  cases hy.toInt
  obtain ⟨v, q1, q2⟩ := h2.at h
  exact ⟨a, xs, i, v, rfl, rfl, Evl.ex_l er_sub h1, at_of e1 q1, k v H (Evl.Ex.refl H) q2⟩
/-- displays -/
theorem evd_tup {ta : TA} (h : EvA K ta ρ ds) (hz : ds.length ≤ 100000) : EvD K (tTup ta) ρ (.tup ds) := fun Z σ H Q oc sd k =>
  h Z σ H _ oc sd fun vs H1 e1 hv => ⟨Evl.sz_of (by rw [hv.length]; exact hz), fun p hp => k _ _ (e1.trans (Evl.Ex.new hp))
    (.tup (SqT.of (er_newT (oc.ex e1) hp)) (hv.mono (er_ex (Evl.Ex.new hp))))⟩
theorem evd_tpl {ta : TA} (h : EvA K ta ρ ds) (hz : ds.length ≤ 100000) : EvD K (tTup ta) ρ (.tpl ds) := fun Z σ H Q oc sd k =>
  h Z σ H _ oc sd fun vs H1 e1 hv => ⟨Evl.sz_of (by rw [hv.length]; exact hz), fun p hp => k _ _ (e1.trans (Evl.Ex.new hp))
    (.tpl (er_newT (oc.ex e1) hp) (hv.mono (er_ex (Evl.Ex.new hp))))⟩
theorem evn_lst {ta : TA} (h : EvA K ta ρ ds) (hz : ds.length ≤ 100000) : EvN K (tLst ta) ρ ds := fun Z σ H Q oc sd k =>
  h Z σ H _ oc sd fun vs H1 e1 hv => ⟨Evl.sz_of (by rw [hv.length]; exact hz), fun p hp => k p vs _ (Evl.fresh_back e1 hp) (e1.trans (Evl.Ex.new hp)) upd_same
    (hv.mono (er_new hp))⟩
theorem evd_callB {r : List V → Hp → VK → Prop} {ta : TA} (h : EvA K ta ρ ds) (hr : RcD K r ds d) : EvD K (tCB r ta) ρ d := fun Z σ H Q oc sd k =>
  h Z σ H _ oc sd fun vs H1 e1 hv => hr Z H1 vs Q (oc.ex e1) hv fun v H2 e2 hv2 => k v H2 (e1.trans e2) hv2
theorem ddl1 {H : Hp} {vs : List V} {a : Dt} (h : DdL K H vs [a]) : ∃ v, vs = [v] ∧ Dd K H v a := by
  cases h with
  | cons h1 h2 => cases h2; exact ⟨_, rfl, h1⟩
theorem ddl2 {H : Hp} {vs : List V} {a b : Dt} (h : DdL K H vs [a, b]) : ∃ v w, vs = [v, w] ∧ Dd K H v a ∧ Dd K H w b := by
  cases h with
  | cons h1 h2 =>
    obtain ⟨w, rfl, q⟩ := ddl1 h2
    exact ⟨_, w, rfl, h1, q⟩
theorem ddl3 {H : Hp} {vs : List V} {a b c : Dt} (h : DdL K H vs [a, b, c]) : ∃ v w u, vs = [v, w, u] ∧ Dd K H v a ∧ Dd K H w b ∧ Dd K H u c := by
  cases h with
  | cons h1 h2 =>
    obtain ⟨w, u, rfl, q1, q2⟩ := ddl2 h2
    exact ⟨_, w, u, rfl, h1, q1, q2⟩

/-! ### calls of the text's own defs -/
/-- what a def that only makes new things promises -/
def PureSp (K : PySem.W.Frag) (R : List Dt → Dt → Prop) : Sp := fun vs H Q _ => ∃ (Z : List Addr) (ds : List Dt) (r : Dt), Occ Z H ∧ DdL K (er Z H) vs ds ∧ R ds r ∧ ∀ v H2, Evl.Ex H H2 → Dd K (er Z H2) v r → Q v H2
theorem evd_call {R : List Dt → Dt → Prop} {E : XK} {ta : TA} (h : EvA K ta ρ ds) (hr : R ds d) : EvD K (tCall (PureSp K R) [] E ta) ρ d := fun Z σ H Q oc sd k =>
  h Z σ H _ oc sd fun vs H1 e1 hv => by
    show PureSp K R (vs ++ []) H1 Q E
    rw [List.append_nil]
    exact ⟨Z, ds, d, oc.ex e1, hv, hr, fun v H2 e2 hv2 => k v H2 (e1.trans e2) hv2⟩

/-! ### tests -/
variable {t u : TT} {a b : Bool}
theorem evt_B (h : EvD K te ρ (.bl b)) : EvT K (tB te) ρ b := fun Z σ H Q oc sd k => h Z σ H _ oc sd fun v H1 e1 hv => ⟨b, hv.toBl, k H1 e1⟩
theorem evt_test (h : EvD K te ρ (.bl b)) : EvT K (tTest te) ρ b := fun Z σ H Q oc sd k => h Z σ H _ oc sd fun v H1 e1 hv => ⟨b, hv.toBl, k H1 e1⟩
theorem evt_and (h1 : EvT K t ρ a) (h2 : a = true → EvT K u ρ b) : EvT K (tAnd t u) ρ (a && b) := fun Z σ H Q oc sd k => h1 Z σ H _ oc sd fun H1 e1 => by
  cases a with
  | true =>
    show u σ H1 Q
    exact h2 rfl Z σ H1 Q (oc.ex e1) (sd.mono (er_ex e1)) fun H2 e2 => k H2 (e1.trans e2)
  | false =>
    show Q false H1
    exact k H1 e1
theorem evt_or (h1 : EvT K t ρ a) (h2 : a = false → EvT K u ρ b) : EvT K (tOr t u) ρ (a || b) := fun Z σ H Q oc sd k => h1 Z σ H _ oc sd fun H1 e1 => by
  cases a with
  | true =>
    show Q true H1
    exact k H1 e1
  | false =>
    show u σ H1 Q
    exact h2 rfl Z σ H1 Q (oc.ex e1) (sd.mono (er_ex e1)) fun H2 e2 => k H2 (e1.trans e2)
theorem evt_not (h : EvT K t ρ a) : EvT K (tNot t) ρ (!a) := fun Z σ H Q oc sd k => h Z σ H _ oc sd fun H1 e1 => k H1 e1
theorem evd_andV (h1 : EvD K ta ρ (.bl a)) (h2 : a = true → EvD K tb ρ (.bl b)) : EvD K (tAndV ta tb) ρ (.bl (a && b)) := fun Z σ H Q oc sd k => h1 Z σ H _ oc sd fun v H1 e1 hv => ⟨a, hv.toBl, by
  cases a with
  | true =>
    show tb σ H1 Q
    exact h2 rfl Z σ H1 Q (oc.ex e1) (sd.mono (er_ex e1)) fun v H2 e2 hv => k v H2 (e1.trans e2) hv
  | false =>
    show Q (.bl false) H1
    exact k _ H1 e1 (.bl _)⟩
theorem evd_orV (h1 : EvD K ta ρ (.bl a)) (h2 : a = false → EvD K tb ρ (.bl b)) : EvD K (tOrV ta tb) ρ (.bl (a || b)) := fun Z σ H Q oc sd k => h1 Z σ H _ oc sd fun v H1 e1 hv => ⟨a, hv.toBl, by
  cases a with
  | true =>
    show Q (.bl true) H1
    exact k _ H1 e1 (.bl _)
  | false =>
    show tb σ H1 Q
    exact h2 rfl Z σ H1 Q (oc.ex e1) (sd.mono (er_ex e1)) fun v H2 e2 hv => k v H2 (e1.trans e2) hv⟩
theorem evd_notV (h1 : EvD K ta ρ (.bl a)) : EvD K (tNotV ta) ρ (.bl (!a)) := fun Z σ H Q oc sd k => h1 Z σ H _ oc sd fun v H1 e1 hv => ⟨a, hv.toBl, k _ H1 e1 (.bl _)⟩
end
end Ec
/-! Statements, loops, comprehensions over the data layer. -/
namespace Ec
open PySem L2

def Stb (F : Hp → Prop) : Prop := ∀ H H', Evl.Ex H H' → F H → F H'
/-- what stands whatever the hidden ones hold, and whatever a place holds that was free -/
structure StbZ (Z : List Addr) (F : Hp → Prop) : Prop where
  st : ∀ H H', Evl.Ex (er Z H) (er Z H') → F H → F H'
  fr : ∀ H' l, F H' → H' l = none → ∀ H u, F H → F (upd H l u)
instance {Z : List Addr} {F : Hp → Prop} : CoeFun (StbZ Z F) fun _ => ∀ H H', Evl.Ex (er Z H) (er Z H') → F H → F H' := ⟨StbZ.st⟩
theorem StbZ.of {Z : List Addr} (H1 : Hp) : StbZ Z fun H2 => Evl.Ex (er Z H1) (er Z H2) := ⟨fun _ _ e z => z.trans e, fun H' l h hl H u hH b o hb => by
  have q := er_sub _ _ (h b o hb)
  obtain ⟨q1, q2⟩ := er_some (hH b o hb)
  rw [er_out q1, upd_ne (ne_of_none q hl)]
  exact q2⟩
theorem StbZ.stb {Z : List Addr} {F : Hp → Prop} (s : StbZ Z F) : Stb F := fun H H' e => s.st H H' (er_ex e)
theorem Stb.and {F G : Hp → Prop} (a : Stb F) (b : Stb G) : Stb fun H => F H ∧ G H := fun H H' e h => ⟨a H H' e h.1, b H H' e h.2⟩
theorem Stb.andZ {Z : List Addr} {F G : Hp → Prop} (a : Stb F) (b : StbZ Z G) : Stb fun H => F H ∧ G H := a.and b.stb
theorem stb_ex (H0 : Hp) : Stb (Evl.Ex H0) := fun _ _ e h => h.trans e
/-- P holds in every state that the assertion tells -/
def Nx (K : PySem.W.Frag) (Z : List Addr) (F : Hp → Prop) (ρ : Rh) (P : L2.St → Hp → Prop) : Prop := ∀ σ H, Occ Z H → Sd K (er Z H) σ ρ → F H → P σ H
section
variable {K : PySem.W.Frag} {Z : List Addr} {F : Hp → Prop} {ρ : Rh} {te ta tb tl : TE} {tt : TT} {d : Dt} {ds : List Dt} {D : Ends} {t u tu tz : TS} {b : Bool}
theorem Nx.imp {P P' : L2.St → Hp → Prop} (h : Nx K Z F ρ P) (g : ∀ σ H, P σ H → P' σ H) : Nx K Z F ρ P' := fun σ H o s f => g σ H (h σ H o s f)
theorem Nx.pre {F' : Hp → Prop} {P : L2.St → Hp → Prop} (h : Nx K Z F' ρ P) (g : ∀ H, F H → F' H) : Nx K Z F ρ P := fun σ H o s f => h σ H o s (g H f)
theorem nx_seq (h : Nx K Z F ρ (t { D with nx := u D })) : Nx K Z F ρ (tSeq t u D) := h
theorem nx_next (h : Nx K Z F ρ D.nx) : Nx K Z F ρ (tNext D) := h
theorem nx_break (h : Nx K Z F ρ D.bk) : Nx K Z F ρ (tBreak D) := h
theorem nx_cont (h : Nx K Z F ρ D.ct) : Nx K Z F ρ (tCont D) := h
theorem nx_asg {i : Nat} (sF : Stb F) (he : EvD K te ρ d) (k : Nx K Z F (ρ.set i (some d)) D.nx) : Nx K Z F ρ (tAsg te (gName i) D) := fun σ H o s f =>
  he Z σ H _ o s fun v H1 e1 hv => k _ H1 (o.ex e1) ((s.mono (er_ex e1)).set hv) (sF H H1 e1 f)
theorem nx_ret (sF : Stb F) (he : EvD K te ρ d) (k : ∀ v H, Occ Z H → F H → Dd K (er Z H) v d → D.rt v H) : Nx K Z F ρ (tRet te D) := fun σ H o s f =>
  he Z σ H _ o s fun v H1 e1 hv => k v H1 (o.ex e1) (sF H H1 e1 f) hv
theorem nx_drop (sF : Stb F) (he : EvD K te ρ d) (k : Nx K Z F ρ D.nx) : Nx K Z F ρ (tDrop te D) := fun σ H o s f =>
  he Z σ H _ o s fun v H1 e1 hv => k σ H1 (o.ex e1) (s.mono (er_ex e1)) (sF H H1 e1 f)
theorem nx_if (sF : Stb F) (hc : EvT K tt ρ b) (h1 : b = true → Nx K Z F ρ (t D)) (h2 : b = false → Nx K Z F ρ (u D)) : Nx K Z F ρ (tIfS tt t u D) := fun σ H o s f =>
  hc Z σ H _ o s fun H1 e1 => by
    cases b with
    | true =>
      show t D σ H1
      exact h1 rfl σ H1 (o.ex e1) (s.mono (er_ex e1)) (sF H H1 e1 f)
    | false =>
      show u D σ H1
      exact h2 rfl σ H1 (o.ex e1) (s.mono (er_ex e1)) (sF H H1 e1 f)
/-- a guard that is not taken -/
theorem nx_ifF (sF : Stb F) (hc : EvT K tt ρ false) (h : Nx K Z F ρ D.nx) : Nx K Z F ρ (tIfS tt t tNext D) := nx_if sF hc (fun q => nomatch q) fun _ => h

/-! ### targets -/
def sets (σ : L2.St) : List Nat → List V → L2.St
  | j :: js, v :: vs => sets (σ.set j (some v)) js vs
  | _, _ => σ
def setD (ρ : Rh) : List Nat → List Dt → Rh
  | j :: js, d :: ds => setD (ρ.set j (some d)) js ds
  | _, _ => ρ
theorem Sd.sets {H : Hp} : ∀ {js : List Nat} {vs : List V} {ds : List Dt} {σ : L2.St} {ρ : Rh}, Sd K H σ ρ → DdL K H vs ds → Sd K H (sets σ js vs) (setD ρ js ds)
  | [], _, _, _, _, s, h => by cases h <;> exact s
  | j :: js, _, _, _, _, s, h => by
    cases h with
    | nil => exact s
    | cons h1 h2 => exact (s.set h1).sets h2
theorem wipe_sets {vs : List Nat} : ∀ {js : List Nat} {xs : List V} {σ : L2.St}, (∀ j ∈ js, j ∈ vs) → wipe (Ec.sets σ js xs) vs = wipe σ vs
  | [], _, _, _ => rfl
  | j :: js, [], _, _ => rfl
  | j :: js, x :: xs, σ, h => by
    show wipe (Ec.sets (σ.set j (some x)) js xs) vs = wipe σ vs
    rw [wipe_sets fun i hi => h i (List.mem_cons_of_mem _ hi), wipe_set (h j List.mem_cons_self)]
/-- a target takes d: its names take the parts -/
def Gd (K : PySem.W.Frag) (g : TG) (d : Dt) (js : List Nat) (ds : List Dt) : Prop := ∀ (Z : List Addr) (σ : L2.St) (H : Hp) (v : V) (Q : L2.St → Hp → Prop), Dd K (er Z H) v d → (∀ vs, DdL K (er Z H) vs ds → Q (sets σ js vs) H) → g v σ H Q
theorem gd_name {j : Nat} : Gd K (gName j) d [j] [d] := fun Z σ H v Q h k => k [v] (.cons h .nil)
theorem gd_pair {i j : Nat} {a b : Dt} : Gd K (gTup K 2 (gCons (gName i) (gCons (gName j) gNil))) (.tup [a, b]) [i, j] [a, b] := fun Z σ H v Q h k => by
  obtain ⟨p, xs, rfl, h1, h2⟩ := h.sqT
  obtain ⟨x, y, rfl, q1, q2⟩ := ddl2 h2
  exact ⟨p, [x, y], rfl, Evl.ex_t er_sub h1, rfl, x, [y], rfl, y, [], rfl, rfl, k [x, y] h2⟩

/-! ### what is walked -/
def SrcD (K : PySem.W.Frag) (wi : TI) (ρ : Rh) (ds : List Dt) : Prop := ∀ (Z : List Addr) (σ : L2.St) (H : Hp) (R : It → Hp → Prop), Occ Z H → Sd K (er Z H) σ ρ →
  (∀ (J : It) (H1 : Hp) (G : Hp → Prop) (Y : Nat → Hp → V → Hp → Prop), Evl.Ex H H1 → Walk J ds.length G Y → (∀ Z' H2, Evl.Ex (er Z H1) (er Z' H2) → G H2) →
    (∀ (Z' : List Addr) (i : Nat) (H2 : Hp) (x : V) (H3 : Hp) (d : Dt), ds[i]? = some d → Evl.Ex (er Z H1) (er Z' H2) → Occ Z' H2 → Y i H2 x H3 → Evl.Ex H2 H3 ∧ Dd K (er Z' H3) x d) → R J H1) → wi σ H R
theorem yat_ok {Z' : List Addr} {xs : List V} {i : Nat} {H1 H2 H3 : Hp} {x : V} {d : Dt} (h : DdL K (er Z H1) xs ds) (hd : ds[i]? = some d) (e : Evl.Ex (er Z H1) (er Z' H2)) (y : YAt xs i H2 x H3) : Evl.Ex H2 H3 ∧ Dd K (er Z' H3) x d := by
  obtain ⟨e', hx⟩ := y
  subst e'
  obtain ⟨v, q1, q2⟩ := h.at hd
  rw [hx] at q1; cases q1
  exact ⟨Evl.Ex.refl _, q2.mono e⟩
theorem src_list (h : EvD K tl ρ (.lst ds)) : SrcD K (iList K tl) ρ ds := fun Z σ H R oc sd k => h Z σ H _ oc sd fun v H1 e1 hv => by
  obtain ⟨a, xs, rfl, h1, h2⟩ := hv.sqL
  exact ⟨a, rfl, ⟨xs, SqL.of (er_sub _ _ h1)⟩, k _ H1 (fun H => SqL K H a xs) _ e1 (h2.length ▸ walk_list (xs := xs)) (fun Z' H2 e => SqL.of (er_sub _ _ (e _ _ h1))) fun Z' i H2 x H3 d hd e _ y => yat_ok h2 hd e y⟩
theorem src_scr (h : EvD K tl ρ (.scr ds)) : SrcD K (iList K tl) ρ ds := fun Z σ H R oc sd k => h Z σ H _ oc sd fun v H1 e1 hv => by
  obtain ⟨a, xs, rfl, h1, h2⟩ := hv.sqS
  exact ⟨a, rfl, ⟨xs, Evl.ex_l er_sub h1⟩, k _ H1 (fun H => SqL K H a xs) _ e1 (h2.length ▸ walk_list (xs := xs)) (fun Z' H2 e => Evl.ex_l er_sub (Evl.ex_l e h1)) fun Z' i H2 x H3 d hd e _ y => yat_ok h2 hd e y⟩
theorem src_tup (h : EvD K tl ρ (.tup ds)) : SrcD K (iTup K tl) ρ ds := fun Z σ H R oc sd k => h Z σ H _ oc sd fun v H1 e1 hv => by
  obtain ⟨a, xs, rfl, h1, h2⟩ := hv.sqT
  exact ⟨a, rfl, ⟨xs, Evl.ex_t er_sub h1⟩, k _ H1 (fun H => SqT K H a xs) _ e1 (h2.length ▸ walk_tup (xs := xs)) (fun Z' H2 e => Evl.ex_t er_sub (Evl.ex_t e h1)) fun Z' i H2 x H3 d hd e _ y => yat_ok h2 hd e y⟩
def upTo (lo : Int) (n : Nat) : List Dt := (List.range n).map fun i : Nat => .int (lo + (i : Int))
theorem upTo_len (lo : Int) (n : Nat) : (upTo lo n).length = n := by unfold upTo; rw [List.length_map, List.length_range]
theorem upTo_at {lo : Int} {n i : Nat} (h : i < n) : (upTo lo n)[i]? = some (.int (lo + (i : Int))) := by
  unfold upTo; rw [List.getElem?_map, List.getElem?_range h]; rfl
theorem upTo_of {lo : Int} {n i : Nat} {d : Dt} (h : (upTo lo n)[i]? = some d) : i < n ∧ d = .int (lo + (i : Int)) := by
  have hl : i < n := by
    have q := (List.getElem?_eq_some_iff.mp h).1
    rw [upTo_len] at q; exact q
  rw [upTo_at hl] at h
  exact ⟨hl, (Option.some.inj h).symm⟩
theorem src_rng {lo : Int} {n : Nat} (R : It → Hp → Prop) {H : Hp} (Z : List Addr)
    (k : ∀ (J : It) (H1 : Hp) (G : Hp → Prop) (Y : Nat → Hp → V → Hp → Prop), Evl.Ex H H1 → Walk J (upTo lo n).length G Y → (∀ Z' H2, Evl.Ex (er Z H1) (er Z' H2) → G H2) →
      (∀ (Z' : List Addr) (i : Nat) (H2 : Hp) (x : V) (H3 : Hp) (d : Dt), (upTo lo n)[i]? = some d → Evl.Ex (er Z H1) (er Z' H2) → Occ Z' H2 → Y i H2 x H3 → Evl.Ex H2 H3 ∧ Dd K (er Z' H3) x d) → R J H1) {H1 : Hp} (e : Evl.Ex H H1) : R (Itr lo n) H1 := by
  refine k _ H1 (fun _ => True) _ e (by rw [upTo_len]; exact walk_range) (fun _ _ _ => trivial) fun Z' i H2 x H3 d hd _ _ y => ?_
  obtain ⟨e1, e2⟩ := y
  obtain ⟨_, e3⟩ := upTo_of hd
  subst e1 e2 e3
  exact ⟨Evl.Ex.refl _, .int _⟩
theorem src_rng1 {ta : TA} {n : Int} (h : EvA K ta ρ [.int n]) (hn : 0 ≤ n ∧ n ≤ 100000) : SrcD K (iRng1 ta) ρ (upTo 0 n.toNat) := fun Z σ H R oc sd k => h Z σ H _ oc sd fun vs H1 e1 hv => by
  obtain ⟨v, rfl, q⟩ := ddl1 hv
  cases q.toInt
  exact ⟨n, rfl, by omega, by omega, src_rng R Z k e1⟩
theorem src_rng2 {ta : TA} {lo hi : Int} (h : EvA K ta ρ [.int lo, .int hi]) (hn : 0 ≤ lo ∧ lo ≤ 100000 ∧ 0 ≤ hi ∧ hi ≤ 100000) : SrcD K (iRng2 ta) ρ (upTo lo (hi - lo).toNat) := fun Z σ H R oc sd k => h Z σ H _ oc sd fun vs H1 e1 hv => by
  obtain ⟨v, w, rfl, q, q'⟩ := ddl2 hv
  cases q.toInt; cases q'.toInt
  exact ⟨lo, hi, rfl, ⟨by omega, by omega, by omega, by omega⟩, src_rng R Z k e1⟩

/-! ### for -/
def AsL (K : PySem.W.Frag) (Z : List Addr) (LF : Hp → Prop) (P : Rh → (Hp → Prop) → Prop) : L2.St → Hp → Prop := fun σ H => ∃ ρ F, P ρ F ∧ Stb F ∧ Occ Z H ∧ Sd K (er Z H) σ ρ ∧ F H ∧ LF H
theorem as_in {LF : Hp → Prop} {P : Rh → (Hp → Prop) → Prop} (h : P ρ F) (sF : Stb F) : Nx K Z (fun H => F H ∧ LF H) ρ (AsL K Z LF P) := fun σ H o s f => ⟨ρ, F, h, sF, o, s, f.1, f.2⟩
theorem nx_for {wi : TI} {g : TG} {bd : TS} (sF : Stb F) (hw : SrcD K wi ρ ds) (js : Dt → List Nat) (es : Dt → List Dt) (hg : ∀ d ∈ ds, Gd K g d (js d) (es d)) (P : Nat → Rh → (Hp → Prop) → Prop) (h0 : P 0 ρ F)
    (hs : ∀ LF, StbZ Z LF → ∀ (i : Nat) (d : Dt) (ρ' : Rh) (F' : Hp → Prop), ds[i]? = some d → P i ρ' F' → Stb F' →
      Nx K Z (fun H => F' H ∧ LF H) (setD ρ' (js d) (es d)) (bd { D with nx := AsL K Z LF (P (i + 1)), ct := AsL K Z LF (P (i + 1)), bk := D.nx }))
    (hd : ∀ (ρ' : Rh) (F' : Hp → Prop), P ds.length ρ' F' → Stb F' → Nx K Z F' ρ' D.nx) : Nx K Z F ρ (tFor wi g bd D) := fun σ H o s f =>
  hw Z σ H _ o s fun J H1 G Y e1 w sG hy => for_it w (fun i => AsL K Z (fun H2 => Evl.Ex (er Z H1) (er Z H2)) (P i)) ⟨ρ, F, h0, sF, o.ex e1, s.mono (er_ex e1), sF H H1 e1 f, Evl.Ex.refl _⟩ (fun i σ' H' _ a => by
    obtain ⟨_, _, _, _, _, _, _, q⟩ := a
    exact sG Z H' q)
    (fun i x σ' H2 H3 hi a y => by
      obtain ⟨ρ', F', p, sF', o', s', f', q⟩ := a
      obtain ⟨d, hd'⟩ : ∃ d, ds[i]? = some d := ⟨ds[i], List.getElem?_eq_getElem hi⟩
      obtain ⟨e3, hx⟩ := hy Z i H2 x H3 d hd' q o' y
      refine hg d (List.mem_of_getElem? hd') Z σ' H3 x _ hx fun vs hvs => ?_
      exact hs _ (StbZ.of H1) i d ρ' F' hd' p sF' _ H3 (o'.ex e3) ((s'.mono (er_ex e3)).sets hvs) ⟨sF' _ _ e3 f', q.trans (er_ex e3)⟩)
    (fun σ' H' a => by
      obtain ⟨ρ', F', p, sF', o', s', f', q⟩ := a
      exact hd ρ' F' p sF' σ' H' o' s' f')
/-- the target a name -/
theorem nx_forN {wi : TI} {j : Nat} {bd : TS} (sF : Stb F) (hw : SrcD K wi ρ ds) (P : Nat → Rh → (Hp → Prop) → Prop) (h0 : P 0 ρ F)
    (hs : ∀ LF, StbZ Z LF → ∀ (i : Nat) (d : Dt) (ρ' : Rh) (F' : Hp → Prop), ds[i]? = some d → P i ρ' F' → Stb F' →
      Nx K Z (fun H => F' H ∧ LF H) (ρ'.set j (some d)) (bd { D with nx := AsL K Z LF (P (i + 1)), ct := AsL K Z LF (P (i + 1)), bk := D.nx }))
    (hd : ∀ (ρ' : Rh) (F' : Hp → Prop), P ds.length ρ' F' → Stb F' → Nx K Z F' ρ' D.nx) : Nx K Z F ρ (tFor wi (gName j) bd D) :=
  nx_for sF hw (fun _ => [j]) (fun d => [d]) (fun _ _ => gd_name) P h0 hs hd

/-! ### comprehensions -/
theorem evn_lcF {wi : TI} {g : TG} {vs : List Nat} (hw : SrcD K wi ρ ds) (js : Dt → List Nat) (es : Dt → List Dt) (hg : ∀ d ∈ ds, Gd K g d (js d) (es d)) (hj : ∀ d ∈ ds, ∀ j ∈ js d, j ∈ vs) (f : Dt → Dt) (p : Dt → Bool) (hz : ds.length ≤ 100000)
    (ht : ∀ (i : Nat) d, ds[i]? = some d → EvT K tt (setD (wp ρ vs) (js d) (es d)) (p d)) (he : ∀ (i : Nat) d, ds[i]? = some d → p d = true → EvD K te (setD (wp ρ vs) (js d) (es d)) (f d)) : EvN K (tLc wi g tt te vs) ρ ((ds.filter p).map f) := fun Z σ H Q oc sd k =>
  hw Z σ H _ oc sd fun J H1 G Y e1 w sG hy => fun A hA => by
    -- what was told ahead is told, the new list hidden
    have hid : ∀ {H4 : Hp}, Evl.Ex H1 H4 → Evl.Ex (er Z H1) (er (A :: Z) H4) := fun {H4} e4 b o q => by
      obtain ⟨q1, q2⟩ := er_some q
      have hne : b ≠ A := ne_of_none q2 hA
      rw [er_out (by simp [hne, q1])]; exact e4 _ _ q2
    have occ : ∀ {H4 : Hp} {vs : List V}, Evl.Ex H1 H4 → H4 A = some (.lst vs) → Occ (A :: Z) H4 := fun e4 ha => (oc.ex (e1.trans e4)).add ha
    refine lc_it w (fun i H2 => ∃ acc, Evl.Ex H1 H2 ∧ H2 A = some (.lst acc) ∧ DdL K (er (A :: Z) H2) acc (((ds.take i).filter p).map f))
      ⟨[], Evl.Ex.new hA, upd_same, .nil⟩ (fun i H2 _ q => by obtain ⟨_, e, _⟩ := q; exact sG _ H2 (hid e)) (fun i x H2 H3 hi q y => ?_) (fun H2 q => ?_)
    · obtain ⟨acc, e2, h2, hd2⟩ := q
      obtain ⟨d, hd⟩ : ∃ d, ds[i]? = some d := ⟨ds[i], List.getElem?_eq_getElem hi⟩
      obtain ⟨e3, hx⟩ := hy (A :: Z) i H2 x H3 d hd (hid e2) (occ e2 h2) y
      have hm := List.mem_of_getElem? hd
      have tk : (ds.take (i + 1)) = ds.take i ++ [d] := by rw [List.take_succ, hd]; rfl
      have e13 := e2.trans e3
      have h3 := e3 _ _ h2
      have hl : (((ds.take i).filter p).map f).length ≤ 100000 := by
        rw [List.length_map]
        exact Nat.le_trans (List.length_filter_le _ _) (Nat.le_trans (by rw [List.length_take]; exact Nat.min_le_right _ _) hz)
      have hl2 : (((ds.take i).filter p).map f).length < 100000 := by
        rw [List.length_map]
        refine Nat.lt_of_le_of_lt (List.length_filter_le _ _) ?_
        rw [List.length_take]
        omega
      refine hg d hm (A :: Z) _ H3 x _ hx fun vs' hvs => ⟨by rw [wipe_sets (hj d hm), wipe_wipe], ?_⟩
      have s3 : Sd K (er (A :: Z) H3) (sets (wipe σ vs) (js d) vs') (setD (wp ρ vs) (js d) (es d)) := (((sd.mono (er_ex e1)).mono (hid e13)).wipe vs).sets hvs
      refine ht i d hd (A :: Z) _ H3 _ (occ e13 h3) s3 fun H4 e4 => ?_
      have e14 := e13.trans e4
      have h4 := e4 _ _ h3
      cases hp : p d with
      | false =>
        show ∃ acc, _
        exact ⟨acc, e14, h4, by rw [tk, List.filter_append, List.filter_cons, hp]; simpa using hd2.mono (er_ex (e3.trans e4))⟩
      | true =>
        show te _ H4 _
        refine he i d hd hp (A :: Z) _ H4 _ (occ e14 h4) (s3.mono (er_ex e4)) fun v H5 e5 hv => ?_
        have h5 := e5 _ _ h4
        have hd5 : DdL K (er (A :: Z) H5) acc (((ds.take i).filter p).map f) := hd2.mono (er_ex ((e3.trans e4).trans e5))
        refine ⟨acc, h5, Evl.sz_lt (by rw [hd5.length]; exact hl2), acc ++ [v], (e14.trans e5).mut hA, upd_same, ?_⟩
        rw [er_upd List.mem_cons_self, tk, List.filter_append, List.filter_cons, hp]
        have q := hd5.append (.cons hv .nil)
        simpa using q
    · obtain ⟨acc, e2, h2, hd2⟩ := q
      rw [List.take_length] at hd2
      exact k A acc H2 (Evl.fresh_back e1 hA) (e1.trans e2) h2 hd2
theorem evt_yes : EvT K tYes ρ true := fun Z σ H Q oc sd k => k H (Evl.Ex.refl H)
theorem evn_lcG {wi : TI} {g : TG} {vs : List Nat} (hw : SrcD K wi ρ ds) (js : Dt → List Nat) (es : Dt → List Dt) (hg : ∀ d ∈ ds, Gd K g d (js d) (es d)) (hj : ∀ d ∈ ds, ∀ j ∈ js d, j ∈ vs) (f : Dt → Dt) (hz : ds.length ≤ 100000)
    (he : ∀ (i : Nat) d, ds[i]? = some d → EvD K te (setD (wp ρ vs) (js d) (es d)) (f d)) : EvN K (tLc wi g tYes te vs) ρ (ds.map f) := by
  have q := evn_lcF hw js es hg hj f (fun _ => true) hz (fun _ _ _ => evt_yes) (fun i d hd _ => he i d hd)
  rw [List.filter_eq_self.mpr (fun _ _ => rfl)] at q
  exact q
theorem evn_lc {wi : TI} {j : Nat} {vs : List Nat} (hw : SrcD K wi ρ ds) (f : Dt → Dt) (hz : ds.length ≤ 100000) (he : ∀ (i : Nat) d, ds[i]? = some d → EvD K te ((wp ρ vs).set j (some d)) (f d)) (hj : j ∈ vs := by decide) : EvN K (tLc wi (gName j) tYes te vs) ρ (ds.map f) :=
  evn_lcG hw (fun _ => [j]) (fun d => [d]) (fun _ _ => gd_name) (fun _ _ i hi => by rw [List.mem_singleton.mp hi]; exact hj) f hz he

/-! ### a def that makes new things alone -/
def PureBody (K : PySem.W.Frag) (t : TS) (ρ : Rh) (r : Dt) : Prop := ∀ (Z : List Addr) (H0 : Hp) (D : Ends), (∀ v H, Occ Z H → Evl.Ex H0 H → Dd K (er Z H) v r → D.rt v H) → Nx K Z (Evl.Ex H0) ρ (t D)
def startD (N : List Str) (ds : List Dt) : Rh := ds.map some ++ List.replicate (N.length - ds.length) none
theorem sd_start {H : Hp} {N : List Str} : ∀ {ds : List Dt} {vs : List V}, DdL K H vs ds → Sd K H (L2.start N vs) (startD N ds) := fun {ds vs} h => by
  have hl := h.length
  refine ⟨by unfold L2.start startD; rw [List.length_append, List.length_append, List.length_map, List.length_map, List.length_replicate, List.length_replicate, hl], fun i d hd => ?_⟩
  unfold startD at hd
  by_cases hi : i < ds.length
  · rw [List.getElem?_append_left (by rw [List.length_map]; exact hi), List.getElem?_map] at hd
    cases q : ds[i]? with
    | none => rw [q] at hd; cases hd
    | some e =>
      rw [q] at hd
      have e1 : e = d := Option.some.inj (Option.some.inj hd)
      subst e1
      obtain ⟨v, h1, h2⟩ := h.at q
      refine ⟨v, ?_, h2⟩
      unfold L2.start
      rw [List.getElem?_append_left (by rw [List.length_map, hl]; exact hi), List.getElem?_map, h1]
      rfl
  · rw [List.getElem?_append_right (by rw [List.length_map]; omega), List.getElem?_replicate] at hd
    split at hd <;> cases hd
theorem pure_ok {P : Program} {w : World} {mg : Str → Option Value} {base : Heap} {x qual : Str} {st : Stmt} {f : Addr} {fd : FuncData} {N ps : List Str} {k : Nat} {R : List Dt → Dt → Prop}
    (Fn : Fun K x qual st f fd) (S : FnScope N ps (defScope st)) (hl : ∀ ds r, R ds r → ds.length = ps.length)
    (h : ∀ ds r, R ds r → ∀ (cdv : Value) (A : Around) (outer : List Env) (s : Shared) (H : Hp) (E : XK), Room k (A.deeper (PyProof.Rows.envOfC qual (defScope st) s.heap.objs.size f cdv)) →
      ∃ t, PSs (cxOf CX0 P w K mg base N qual (defScope st) f cdv A outer s H E).nox (defBody st) t ∧ PureBody K t (startD N ds) r) : FnOk P w K mg base CX0 (k + 1) f fd ps (PureSp K R) :=
  Fn.ok S (fun vs H Q E q => by
    obtain ⟨Z, ds, r, _, hd, hr, _⟩ := q
    rw [hd.length]; exact hl ds r hr) fun cdv A outer s H vs Q E hr q => by
    obtain ⟨Z, ds, r, oc, hd, hR, k⟩ := q
    obtain ⟨t, h1, h2⟩ := h ds r hR cdv A outer s H E hr
    exact ⟨t, h1, h2 Z H _ (fun v H2 _ e2 hv => k v H2 e2 hv) _ H oc (sd_start hd) (Evl.Ex.refl H)⟩
end
end Ec
/-! What the built-ins and operators come to over data. -/
namespace Ec
open PySem L2

section
variable {K : PySem.W.Frag} {ρ : Rh} {te ta tb tc : TE} {d e : Dt} {ds es : List Dt}
/-! ### subscripts -/
theorem rvd_ixt {n : Nat} {i : Int} (e1 : i = (n : Int)) (h : ds[n]? = some d) : RvD K (rIx K) (.tup ds) (.int i) d := fun Z H x y Q oc hx hy k => .inr (.inl (rvd_ixT e1 h Z H x y Q oc hx hy k))
theorem rvd_ixl {n : Nat} {i : Int} (e1 : i = (n : Int)) (h : ds[n]? = some d) : RvD K (rIx K) (.lst ds) (.int i) d := fun Z H x y Q oc hx hy k => .inl (rvd_ixL e1 h Z H x y Q oc hx hy k)
theorem rvd_ixs {n : Nat} {i : Int} (e1 : i = (n : Int)) (h : ds[n]? = some d) : RvD K (rIx K) (.scr ds) (.int i) d := fun Z H x y Q oc hx hy k => .inl (rvd_ixS e1 h Z H x y Q oc hx hy k)
/-! ### len, tuple, list, int, abs, sum -/
def rLen (K : PySem.W.Frag) : List V → Hp → VK → Prop := fun xs H Q => ∃ p ys, xs = [.ref p] ∧ (SqL K H p ys ∨ SqT K H p ys) ∧ Q (.int ys.length) H
theorem rc_lenL : RcD K (rLen K) [.lst ds] (.int ds.length) := fun Z H vs Q oc h k => by
  obtain ⟨v, rfl, hv⟩ := ddl1 h
  obtain ⟨a, xs, rfl, h1, h2⟩ := hv.sqL
  exact ⟨a, xs, rfl, .inl (SqL.of (er_sub _ _ h1)), k _ H (Evl.Ex.refl H) (by rw [h2.length]; exact .int _)⟩
theorem rc_lenT : RcD K (rLen K) [.tup ds] (.int ds.length) := fun Z H vs Q oc h k => by
  obtain ⟨v, rfl, hv⟩ := ddl1 h
  obtain ⟨a, xs, rfl, h1, h2⟩ := hv.sqT
  exact ⟨a, xs, rfl, .inr (Evl.ex_t er_sub h1), k _ H (Evl.Ex.refl H) (by rw [h2.length]; exact .int _)⟩
theorem rc_lenS : RcD K (rLen K) [.scr ds] (.int ds.length) := fun Z H vs Q oc h k => by
  obtain ⟨v, rfl, hv⟩ := ddl1 h
  obtain ⟨a, xs, rfl, h1, h2⟩ := hv.sqS
  exact ⟨a, xs, rfl, .inl (Evl.ex_l er_sub h1), k _ H (Evl.Ex.refl H) (by rw [h2.length]; exact .int _)⟩
def rTupO (K : PySem.W.Frag) : List V → Hp → VK → Prop := fun xs H Q => ∃ p ys, xs = [.ref p] ∧ ((SqL K H p ys ∧ ∀ l, H l = none → Q (.ref l) (upd H l (.tup ys))) ∨ (SqT K H p ys ∧ Q (.ref p) H))
theorem rc_tupL : RcD K (rTupO K) [.lst ds] (.tup ds) := fun Z H vs Q oc h k => by
  obtain ⟨v, rfl, hv⟩ := ddl1 h
  obtain ⟨a, xs, rfl, h1, h2⟩ := hv.sqL
  exact ⟨a, xs, rfl, .inl ⟨SqL.of (er_sub _ _ h1), fun l hl => k _ _ (Evl.Ex.new hl) (.tup (SqT.of (er_newT oc hl)) (h2.mono (er_ex (Evl.Ex.new hl))))⟩⟩
theorem rc_tupLH : RcD K (rTupO K) [.lst ds] (.tpl ds) := fun Z H vs Q oc h k => by
  obtain ⟨v, rfl, hv⟩ := ddl1 h
  obtain ⟨a, xs, rfl, h1, h2⟩ := hv.sqL
  exact ⟨a, xs, rfl, .inl ⟨SqL.of (er_sub _ _ h1), fun l hl => k _ _ (Evl.Ex.new hl) (.tpl (er_newT oc hl) (h2.mono (er_ex (Evl.Ex.new hl))))⟩⟩
theorem rc_tupT : RcD K (rTupO K) [.tup ds] (.tup ds) := fun Z H vs Q oc h k => by
  obtain ⟨v, rfl, hv⟩ := ddl1 h
  obtain ⟨a, xs, rfl, h1, h2⟩ := hv.sqT
  exact ⟨a, xs, rfl, .inr ⟨Evl.ex_t er_sub h1, k _ _ (Evl.Ex.refl H) (.tup h1 h2)⟩⟩
def rLstO (K : PySem.W.Frag) : List V → Hp → VK → Prop := fun xs H Q => ∃ p ys, xs = [.ref p] ∧ (SqL K H p ys ∨ SqT K H p ys) ∧ ∀ l, H l = none → Q (.ref l) (upd H l (.lst ys))
theorem rc_lstT : RcD K (rLstO K) [.tup ds] (.lst ds) := fun Z H vs Q oc h k => by
  obtain ⟨v, rfl, hv⟩ := ddl1 h
  obtain ⟨a, xs, rfl, h1, h2⟩ := hv.sqT
  exact ⟨a, xs, rfl, .inr (Evl.ex_t er_sub h1), fun l hl => k _ _ (Evl.Ex.new hl) (.lst (er_newT oc hl) (h2.mono (er_ex (Evl.Ex.new hl))))⟩
def rInt1 : List V → Hp → VK → Prop := fun xs H Q => (∃ i, xs = [.int i] ∧ Q (.int i) H) ∨ ∃ k, xs = [.bl k] ∧ Q (.int (if k then 1 else 0)) H
theorem rc_int {i : Int} : RcD K rInt1 [.int i] (.int i) := fun Z H vs Q oc h k => by
  obtain ⟨v, rfl, hv⟩ := ddl1 h
  cases hv.toInt
  exact .inl ⟨i, rfl, k _ H (Evl.Ex.refl H) (.int i)⟩
theorem rc_abs {i : Int} : RcD K (fun xs H Q => ∃ i, xs = [V.int i] ∧ Q (.int (if i < 0 then -i else i)) H) [.int i] (.int (if i < 0 then -i else i)) := fun Z H vs Q oc h k => by
  obtain ⟨v, rfl, hv⟩ := ddl1 h
  cases hv.toInt
  exact ⟨i, rfl, k _ H (Evl.Ex.refl H) (.int _)⟩
theorem rc_sum {ns : List Int} : RcD K (rSum K) [.lst (ns.map .int)] (.int ns.sum) := fun Z H vs Q oc h k => by
  obtain ⟨v, rfl, hv⟩ := ddl1 h
  obtain ⟨a, xs, rfl, h1, h2⟩ := hv.sqL
  cases h2.ints
  exact ⟨a, ns, rfl, SqL.of (er_sub _ _ h1), k _ H (Evl.Ex.refl H) (.int _)⟩
/-! ### +, slices -/
theorem evn_cat (ha : EvD K ta ρ (.lst ds)) (hb : EvD K tb ρ (.lst es)) (hz : ds.length + es.length ≤ 100000) : EvN K (tOp rCat ta tb) ρ (ds ++ es) := fun Z σ H Q oc sd k =>
  ha Z σ H _ oc sd fun x H1 e1 hx => hb Z σ H1 _ (oc.ex e1) (sd.mono (er_ex e1)) fun y H2 e2 hy => by
    obtain ⟨a, xs, rfl, h1, h2⟩ := (hx.mono (er_ex e2)).sqL
    obtain ⟨b, ys, rfl, g1, g2⟩ := hy.sqL
    exact ⟨a, b, xs, ys, rfl, rfl, er_sub _ _ h1, er_sub _ _ g1, Evl.sz_of (by rw [h2.length, g2.length]; exact hz), fun p hp => k p _ _ (Evl.fresh_back (e1.trans e2) hp) ((e1.trans e2).trans (Evl.Ex.new hp)) upd_same ((h2.append g2).mono (er_new hp))⟩
theorem rvd_catA (hz : ds.length + es.length ≤ 100000) : RvD K (rCatA K) (.tup ds) (.tup es) (.tup (ds ++ es)) := fun Z H x y Q oc hx hy k => by
  obtain ⟨a, xs, rfl, h1, h2⟩ := hx.sqT
  obtain ⟨b, ys, rfl, g1, g2⟩ := hy.sqT
  refine ⟨a, b, xs, ys, rfl, rfl, Evl.ex_t er_sub h1, Evl.ex_t er_sub g1, Evl.sz_of (by rw [h2.length, g2.length]; exact hz), fun q => ?_, fun _ q => ?_, fun _ _ p hp => ?_⟩
  · subst q
    cases h2
    exact k _ H (Evl.Ex.refl H) (.tup g1 g2)
  · subst q
    cases g2
    exact k _ H (Evl.Ex.refl H) (by rw [List.append_nil]; exact .tup h1 h2)
  · exact k _ _ (Evl.Ex.new hp) (.tup (SqT.of (er_newT oc hp)) ((h2.append g2).mono (er_ex (Evl.Ex.new hp))))
theorem rvd_catH (hz : ds.length + es.length ≤ 100000) : RvD K (rCatA K) (.tpl ds) (.tpl es) (.tpl (ds ++ es)) := fun Z H x y Q oc hx hy k => by
  obtain ⟨a, xs, rfl, h1, h2⟩ := hx.tplT
  obtain ⟨b, ys, rfl, g1, g2⟩ := hy.tplT
  refine ⟨a, b, xs, ys, rfl, rfl, Evl.ex_t er_sub (SqT.of h1), Evl.ex_t er_sub (SqT.of g1), Evl.sz_of (by rw [h2.length, g2.length]; exact hz), fun q => ?_, fun _ q => ?_, fun _ _ p hp => ?_⟩
  · subst q
    cases h2
    exact k _ H (Evl.Ex.refl H) (.tpl g1 g2)
  · subst q
    cases g2
    exact k _ H (Evl.Ex.refl H) (by rw [List.append_nil]; exact .tpl h1 h2)
  · exact k _ _ (Evl.Ex.new hp) (.tpl (er_newT oc hp) ((h2.append g2).mono (er_ex (Evl.Ex.new hp))))
/-! ### isinstance -/
def TyD : Dt → String → Prop
  | .non, t => t = "NoneType"
  | .bl _, t => t = "bool"
  | .int _, t => t = "int"
  | .str _, t => t = "str"
  | .lst _, t => t = "list"
  | .tup _, t => t = "tuple"
  | .tpl _, t => t = "tuple"
  | _, _ => False
theorem tyx_of {Z : List Addr} {H : Hp} {v : V} {t : String} (h : Dd K (er Z H) v d) (ht : TyD d t) : TyX K H v (.type t) := by
  cases h with
  | non => cases ht; exact .base .non
  | bl b => cases ht; exact .base (.bl b)
  | int i => cases ht; exact .base (.int i)
  | str x => cases ht; exact .base (.str x)
  | lst h1 h2 => cases ht; exact .base (.lst (er_sub _ _ h1))
  | tup h1 h2 =>
    cases ht
    rcases h1 with (q | ⟨o, q⟩) | ⟨o, its, n, q1, q2, _⟩
    · exact .base (.tup (er_sub _ _ q))
    · exact .fTuple (er_sub _ _ q)
    · exact .kTuple q1 q2
  | tpl h1 h2 =>
    cases ht
    exact .base (.tup (er_sub _ _ h1))
  | scr h1 h2 => exact ht.elim
  | obj h1 h2 h3 => exact ht.elim
  | raw v => exact ht.elim
theorem rc_isi {t u : String} {b : Bool} (ht : TyD d t) (hb : PySem.W.kitOne K (.type t) (.type u) = some b) : RcD K (rIsi K) [d, .raw (.ty u)] (.bl b) := fun Z H vs Q oc h k => by
  obtain ⟨v, w, rfl, hv, hw⟩ := ddl2 h
  cases hw.toRaw
  exact ⟨v, .ty u, .type t, .type u, b, rfl, .ty u, tyx_of hv ht, hb, k _ H (Evl.Ex.refl H) (.bl b)⟩
theorem evd_ty {n : String} : EvD K (tC (.ty n)) ρ (.raw (.ty n)) := evd_c fun _ => .raw _
end
end Ec
/-! The text by places; what the top has left, as far as the defs ask it. -/
namespace Ec
open PySem L2
def topS (i : Nat) : Stmt := PySem.Challenge.pw_eightcells_k15_terms_keep_what_is_kept.main.body.getD i (.Pass ⟨0, 0, 0, 0⟩)
/-! ### values, rows -/
def bitD (b : Bool) : Dt := .int b.toNat
def rowD (r : Row) : Dt := .tup (r.map bitD)
def rowsT (rs : List Row) : Dt := .tup (rs.map rowD)
def rowsL (rs : List Row) : Dt := .lst (rs.map rowD)
/-- a row that is a new tuple -/
def rowH (r : Row) : Dt := .tpl (r.map bitD)
theorem lowR {K : PySem.W.Frag} {H : Hp} {r : Row} {v : V} (h : Dd K H v (rowH r)) : Dd K H v (rowD r) := h.low
theorem lowRs {K : PySem.W.Frag} {H : Hp} : ∀ {rs : List Row} {vs : List V}, DdL K H vs (rs.map rowH) → DdL K H vs (rs.map rowD)
  | [], _, h => by cases h; exact .nil
  | r :: rs, _, h => by
    cases h with
    | cons h1 h2 => exact .cons (lowR h1) (lowRs h2)
def rowsHT (rs : List Row) : Dt := .tup (rs.map rowH)
def rowsHL (rs : List Row) : Dt := .lst (rs.map rowH)
theorem lowT {K : PySem.W.Frag} {H : Hp} {rs : List Row} {v : V} (h : Dd K H v (rowsHT rs)) : Dd K H v (rowsT rs) := by
  obtain ⟨a, xs, rfl, h1, h2⟩ := h.sqT
  exact .tup h1 (lowRs h2)
theorem lowL {K : PySem.W.Frag} {H : Hp} {rs : List Row} {v : V} (h : Dd K H v (rowsHL rs)) : Dd K H v (rowsL rs) := by
  obtain ⟨a, xs, rfl, h1, h2⟩ := h.sqL
  exact .lst h1 (lowRs h2)
theorem rowD_at {r : Row} {j : Nat} (h : j < r.length) : (r.map bitD)[j]? = some (bitD (r.getD j false)) := by
  rw [List.getElem?_map, List.getElem?_eq_getElem h, List.getD_eq_getElem?_getD, List.getElem?_eq_getElem h]
  rfl
/-- what stands of a list of data at a place -/
theorem map_at {α : Type} {f : α → Dt} {l : List α} {i : Nat} {d : Dt} (h : (l.map f)[i]? = some d) : ∃ a, l[i]? = some a ∧ d = f a := by
  rw [List.getElem?_map] at h
  obtain ⟨a, h1, h2⟩ := Option.map_eq_some_iff.mp h
  exact ⟨a, h1, h2.symm⟩
end Ec
/-! More of what expressions come to: chains, constants of the module, comprehensions item by item, in, ==. -/
namespace Ec
open PySem L2
/-! ### constants of the module -/
structure Cns (K : PySem.W.Frag) (mg : Str → Option Value) (x : Str) (d : Dt) : Prop where
  ex : ∃ v u, mg x = some u ∧ RelV v u ∧ ∀ H, Dd K H v d
def tCn (K : PySem.W.Frag) (d : Dt) : TE := fun _ H Q => ∀ v, (∀ H, Dd K H v d) → Q v H
theorem pe_cn {X : Cx} {x : Str} {pos : Pos} {d : Dt} (c : Cns X.K X.mg x d) (hg : Gl X x) (hd : (x == ("__debug__" : Str)) = false := by decide) : PE X (.Name x pos) (tCn X.K d) :=
  ⟨fun _ _ _ H _ I h => by
    obtain ⟨v, u, hm, r, k⟩ := c.ex
    exact ld_glob I hg hm ⟨v, H, I, r, h v k⟩ hd⟩
/-- a tuple of ints of the module -/
def KtAt (K : PySem.W.Frag) (a : Addr) (ns : List Int) : Prop := ∃ (o : Obj) (its : Array Value) (n : Nat), K.lookup a = some o ∧ o.cls = .type "tuple" ∧ o.dict = none ∧ o.data = .seq its n ∧ its.size ≤ sizeLine ∧ Vals (ns.map V.int) its.toList
theorem KtAt.d {K : PySem.W.Frag} {a : Addr} {ns : List Int} (k : KtAt K a ns) {H : Hp} : Dd K H (.ref a) (.tup (ns.map .int)) := by
  obtain ⟨o, its, n, q1, q2, _, q3, q4, q5⟩ := k
  exact .tup (.inr ⟨o, its, n, q1, q2, q3, q4, q5⟩) (DdL.ofInts ns)
structure Ktp (K : PySem.W.Frag) (mg : Str → Option Value) (x : Str) (ns : List Int) : Prop where
  ex : ∃ a, mg x = some (.ref a) ∧ KtAt K a ns
theorem Ktp.cns {K : PySem.W.Frag} {mg : Str → Option Value} {x : Str} {ns : List Int} (k : Ktp K mg x ns) : Cns K mg x (.tup (ns.map .int)) := by
  obtain ⟨a, h1, h2⟩ := k.ex
  exact ⟨.ref a, .ref a, h1, rfl, fun _ => h2.d⟩
def tKt (K : PySem.W.Frag) (ns : List Int) : TE := fun _ H Q => ∀ a, KtAt K a ns → Q (.ref a) H
theorem pe_kt {X : Cx} {x : Str} {pos : Pos} {ns : List Int} (c : Ktp X.K X.mg x ns) (hg : Gl X x) (hd : (x == ("__debug__" : Str)) = false := by decide) : PE X (.Name x pos) (tKt X.K ns) :=
  ⟨fun _ _ _ H _ I h => by
    obtain ⟨a, hm, k⟩ := c.ex
    exact ld_glob I hg hm ⟨.ref a, H, I, rfl, h a k⟩ hd⟩
section
variable {K : PySem.W.Frag} {ρ : Rh} {te ta tb tc : TE} {d e : Dt} {ds es : List Dt} {tt : TT}
theorem evd_cn : EvD K (tCn K d) ρ d := fun Z σ H Q oc sd k v hv => k v H (Evl.Ex.refl H) (hv _)
theorem evd_chain {r r' : R2} {x y z : Dt} {a b : Bool} (ha : EvD K ta ρ x) (hb : EvD K tb ρ y) (h1 : RvD K r x y (.bl a)) (hc : a = true → EvD K tc ρ z) (h2 : a = true → RvD K r' y z (.bl b)) :
    EvD K (tChain r r' ta tb tc) ρ (.bl (a && b)) := fun Z σ H Q oc sd k =>
  ha Z σ H _ oc sd fun x1 H1 e1 hx => hb Z σ H1 _ (oc.ex e1) (sd.mono (er_ex e1)) fun y1 H2 e2 hy =>
    h1 Z H2 x1 y1 _ (oc.ex (e1.trans e2)) (hx.mono (er_ex e2)) hy fun v H3 e3 hv => ⟨a, hv.toBl, by
      have e13 := (e1.trans e2).trans e3
      cases a with
      | false =>
        show Q (.bl false) H3
        exact k _ H3 e13 (.bl _)
      | true =>
        show tc σ H3 _
        refine hc rfl Z σ H3 _ (oc.ex e13) (sd.mono (er_ex e13)) fun z1 H4 e4 hz => ?_
        exact h2 rfl Z H4 y1 z1 Q (oc.ex (e13.trans e4)) (hy.mono (er_ex (e3.trans e4))) hz fun v H5 e5 hv => k v H5 ((e13.trans e4).trans e5) hv⟩
/-! ### is None -/
theorem evd_isN {b : Bool} (h : EvD K ta ρ d) (hb : ∀ H v, Dd K H v d → decide (v = V.non) = b) : EvD K (tOp (fun x y H Q => y = .non ∧ Q (.bl (decide (x = .non))) H) ta (tC .non)) ρ (.bl b) :=
  evd_op h evd_non fun Z H x y Q oc hx hy k => by
    cases hy
    exact ⟨rfl, k _ H (Evl.Ex.refl H) (by rw [hb _ _ hx]; exact .bl _)⟩
theorem evd_notN {b : Bool} (h : EvD K ta ρ d) (hb : ∀ H v, Dd K H v d → decide (v = V.non) = b) : EvD K (tOp (fun x y H Q => y = .non ∧ Q (.bl (!decide (x = .non))) H) ta (tC .non)) ρ (.bl (!b)) :=
  evd_op h evd_non fun Z H x y Q oc hx hy k => by
    cases hy
    exact ⟨rfl, k _ H (Evl.Ex.refl H) (by rw [hb _ _ hx]; exact .bl _)⟩
theorem isNon (H : Hp) (v : V) (h : Dd K H v .non) : decide (v = V.non) = true := by cases h; rfl
theorem tupNot (H : Hp) (v : V) (h : Dd K H v (.tup ds)) : decide (v = V.non) = false := by cases h; rfl

/-! ### comprehensions, item by item -/
theorem evn_lcE {wi : TI} {g : TG} {vs : List Nat} (hw : SrcD K wi ρ ds) (js : Dt → List Nat) (fs : Dt → List Dt) (hg : ∀ d ∈ ds, Gd K g d (js d) (fs d)) (hj : ∀ d ∈ ds, ∀ j ∈ js d, j ∈ vs) (hl : es.length = ds.length) (hz : ds.length ≤ 100000)
    (he : ∀ (i : Nat) d e, ds[i]? = some d → es[i]? = some e → EvD K te (setD (wp ρ vs) (js d) (fs d)) e) : EvN K (tLc wi g tYes te vs) ρ es := fun Z σ H Q oc sd k =>
  hw Z σ H _ oc sd fun J H1 G Y e1 w sG hy => fun A hA => by
    have hid : ∀ {H4 : Hp}, Evl.Ex H1 H4 → Evl.Ex (er Z H1) (er (A :: Z) H4) := fun {H4} e4 b o q => by
      obtain ⟨q1, q2⟩ := er_some q
      have hne : b ≠ A := ne_of_none q2 hA
      rw [er_out (by simp [hne, q1])]; exact e4 _ _ q2
    have occ : ∀ {H4 : Hp} {vs : List V}, Evl.Ex H1 H4 → H4 A = some (.lst vs) → Occ (A :: Z) H4 := fun e4 ha => (oc.ex (e1.trans e4)).add ha
    refine lc_it w (fun i H2 => ∃ acc, Evl.Ex H1 H2 ∧ H2 A = some (.lst acc) ∧ DdL K (er (A :: Z) H2) acc (es.take i))
      ⟨[], Evl.Ex.new hA, upd_same, .nil⟩ (fun i H2 _ q => by obtain ⟨_, e, _⟩ := q; exact sG _ H2 (hid e)) (fun i x H2 H3 hi q y => ?_) (fun H2 q => ?_)
    · obtain ⟨acc, e2, h2, hd2⟩ := q
      obtain ⟨d, hd⟩ : ∃ d, ds[i]? = some d := ⟨ds[i], List.getElem?_eq_getElem hi⟩
      obtain ⟨e, hee⟩ : ∃ e, es[i]? = some e := ⟨es[i]'(by omega), List.getElem?_eq_getElem _⟩
      obtain ⟨e3, hx⟩ := hy (A :: Z) i H2 x H3 d hd (hid e2) (occ e2 h2) y
      have hm := List.mem_of_getElem? hd
      have tk : (es.take (i + 1)) = es.take i ++ [e] := by rw [List.take_succ, hee]; rfl
      have e13 := e2.trans e3
      have h3 := e3 _ _ h2
      refine hg d hm (A :: Z) _ H3 x _ hx fun vs' hvs => ⟨by rw [wipe_sets (hj d hm), wipe_wipe], ?_⟩
      have s3 : Sd K (er (A :: Z) H3) (sets (wipe σ vs) (js d) vs') (setD (wp ρ vs) (js d) (fs d)) := (((sd.mono (er_ex e1)).mono (hid e13)).wipe vs).sets hvs
      show te _ H3 _
      refine he i d e hd hee (A :: Z) _ H3 _ (occ e13 h3) s3 fun v H5 e5 hv => ?_
      have h5 := e5 _ _ h3
      have hd5 : DdL K (er (A :: Z) H5) acc (es.take i) := hd2.mono (er_ex (e3.trans e5))
      refine ⟨acc, h5, Evl.sz_lt (by rw [hd5.length, List.length_take]; omega), acc ++ [v], (e13.trans e5).mut hA, upd_same, ?_⟩
      rw [er_upd List.mem_cons_self, tk]
      exact hd5.append (.cons hv .nil)
    · obtain ⟨acc, e2, h2, hd2⟩ := q
      rw [← hl, List.take_length] at hd2
      exact k A acc H2 (Evl.fresh_back e1 hA) (e1.trans e2) h2 hd2
/-- [elt for x in l], told by a list of anything -/
theorem evn_lcM {α : Type} {wi : TI} {j : Nat} {vs : List Nat} (l : List α) (g h : α → Dt) (hw : SrcD K wi ρ (l.map g)) (hz : l.length ≤ 100000) (he : ∀ (i : Nat) a, l[i]? = some a → EvD K te ((wp ρ vs).set j (some (g a))) (h a)) (hj : j ∈ vs := by decide) :
    EvN K (tLc wi (gName j) tYes te vs) ρ (l.map h) :=
  evn_lcE hw (fun _ => [j]) (fun d => [d]) (fun _ _ => gd_name) (fun _ _ i hi => by rw [List.mem_singleton.mp hi]; exact hj) (by rw [List.length_map, List.length_map]) (by rw [List.length_map]; exact hz) fun i d e hd hee => by
    obtain ⟨a, q1, rfl⟩ := map_at hd
    obtain ⟨b, q2, rfl⟩ := map_at hee
    rw [q1] at q2; cases q2
    exact he i a q1
/-- the target a pair -/
theorem evn_lcP {α : Type} {wi : TI} {j1 j2 : Nat} {vs : List Nat} (l : List α) (g1 g2 h : α → Dt) (hw : SrcD K wi ρ (l.map fun a => .tup [g1 a, g2 a])) (hz : l.length ≤ 100000) (he : ∀ (i : Nat) a, l[i]? = some a → EvD K te (((wp ρ vs).set j1 (some (g1 a))).set j2 (some (g2 a))) (h a)) (hj1 : j1 ∈ vs := by decide) (hj2 : j2 ∈ vs := by decide) :
    EvN K (tLc wi (gTup K 2 (gCons (gName j1) (gCons (gName j2) gNil))) tYes te vs) ρ (l.map h) :=
  evn_lcE hw (fun _ => [j1, j2]) (fun d => match d with | .tup [a, b] => [a, b] | _ => []) (fun d hd => by
    obtain ⟨a, _, rfl⟩ := List.mem_map.mp hd
    exact gd_pair) (fun _ _ i hi => by
      rcases List.mem_cons.mp hi with e | hi
      · rw [e]; exact hj1
      · rw [List.mem_singleton.mp hi]; exact hj2) (by rw [List.length_map, List.length_map]) (by rw [List.length_map]; exact hz) fun i d e hd hee => by
    obtain ⟨a, q1, rfl⟩ := map_at hd
    obtain ⟨b, q2, rfl⟩ := map_at hee
    rw [q1] at q2; cases q2
    exact he i a q1
theorem src_rangeM {ta : TA} {n : Nat} (h : EvA K ta ρ [.int (n : Int)]) (hn : n ≤ 100000) : SrcD K (iRng1 ta) ρ ((List.range n).map fun i : Nat => .int (i : Int)) := by
  have q := src_rng1 h ⟨by omega, by omega⟩
  have e : upTo 0 (n : Int).toNat = (List.range n).map fun i : Nat => .int (i : Int) := by
    unfold upTo
    rw [Int.toNat_natCast]
    exact List.map_congr_left fun i _ => by rw [Int.zero_add]
  rw [← e]; exact q
theorem take_flatMap {α β : Type} (f : α → List β) {l : List α} {i : Nat} {a : α} (h : l[i]? = some a) : (l.take (i + 1)).flatMap f = (l.take i).flatMap f ++ f a := by
  rw [List.take_succ, h, List.flatMap_append]
  simp
/-- [elt for x in l1 for y in l2]: the second source stands still -/
theorem evn_lc2 {α β : Type} {wi wi1 : TI} {j1 j2 : Nat} {vs : List Nat} (l1 : List α) (l2 : List β) (g1 : α → Dt) (g2 : β → Dt) (h : α → β → Dt) (hw : SrcD K wi ρ (l1.map g1)) (hw1 : ∀ a ∈ l1, SrcD K wi1 ((wp ρ vs).set j1 (some (g1 a))) (l2.map g2))
    (hz : l1.length * l2.length ≤ 90000) (he : ∀ a ∈ l1, ∀ b ∈ l2, EvD K te ((wp ((wp ρ vs).set j1 (some (g1 a))) [j2]).set j2 (some (g2 b))) (h a b)) (hj1 : j1 ∈ vs := by decide) :
    EvN K (tLc2 wi (gName j1) tYes wi1 (gName j2) tYes te vs [j2]) ρ (l1.flatMap fun a => l2.map (h a)) := fun Z σ H Q oc sd k =>
  hw Z σ H _ oc sd fun J H1 G Y e1 w sG hy => fun A hA => by
    have hid : ∀ {H4 : Hp}, Evl.Ex H1 H4 → Evl.Ex (er Z H1) (er (A :: Z) H4) := fun {H4} e4 b o q => by
      obtain ⟨q1, q2⟩ := er_some q
      have hne : b ≠ A := ne_of_none q2 hA
      rw [er_out (by simp [hne, q1])]; exact e4 _ _ q2
    have occ : ∀ {H4 : Hp} {vs : List V}, Evl.Ex H1 H4 → H4 A = some (.lst vs) → Occ (A :: Z) H4 := fun e4 ha => (oc.ex (e1.trans e4)).add ha
    have flen : ∀ l : List α, (l.flatMap fun a => l2.map (h a)).length = l.length * l2.length := fun l => by
      induction l with
      | nil => simp
      | cons a l ih => rw [List.flatMap_cons, List.length_append, ih, List.length_map, List.length_cons, Nat.add_mul, Nat.one_mul, Nat.add_comm]
    have l1n : (l1.map g1).length = l1.length := List.length_map _
    let Pv : Nat → Hp → Prop := fun i H2 => ∃ acc, Evl.Ex H1 H2 ∧ H2 A = some (.lst acc) ∧ DdL K (er (A :: Z) H2) acc ((l1.take i).flatMap fun a => l2.map (h a))
    refine ⟨fun i m H2 => m = l1.length - i ∧ i ≤ l1.length ∧ Pv i H2, ⟨l1.length, by omega, Nat.zero_le _, [], Evl.Ex.new hA, upd_same, .nil⟩, ?_⟩
    rintro i m H2 ⟨rfl, hi, acc, e2, h2, hd2⟩
    have gH := sG _ H2 (hid e2)
    by_cases hlt : i < l1.length
    · refine .inr ⟨w.goes i H2 (by rw [l1n]; exact hlt) gH, Pv (i + 1), fun H' p' => ⟨l1.length - (i + 1), by omega, rfl, hlt, p'⟩, fun x H3 y => ?_⟩
      obtain ⟨a, ha⟩ : ∃ a, l1[i]? = some a := ⟨l1[i], List.getElem?_eq_getElem hlt⟩
      have hd : (l1.map g1)[i]? = some (g1 a) := by rw [List.getElem?_map, ha]; rfl
      obtain ⟨e3, hx⟩ := hy (A :: Z) i H2 x H3 _ hd (hid e2) (occ e2 h2) (w.yields i H2 x H3 (by rw [l1n]; exact hlt) gH y)
      have e13 := e2.trans e3
      have h3 := e3 _ _ h2
      have am := List.mem_of_getElem? ha
      refine ⟨wipe_one hj1 _ _, ?_⟩
      show wi1 ((wipe σ vs).set j1 (some x)) H3 _
      have s3 : Sd K (er (A :: Z) H3) ((wipe σ vs).set j1 (some x)) ((wp ρ vs).set j1 (some (g1 a))) := (((sd.mono (er_ex e1)).mono (hid e13)).wipe vs).set hx
      refine hw1 a am (A :: Z) _ H3 _ (occ e13 h3) s3 fun J1 H4 G1 Y1 e4 w1 sG1 hy1 => ?_
      have l2n : (l2.map g2).length = l2.length := List.length_map _
      have hB : Evl.Ex H1 H4 := e13.trans e4
      let Pi : Nat → Hp → Prop := fun j H5 => ∃ acc, Evl.Ex H1 H5 ∧ Evl.Ex (er (A :: Z) H4) (er (A :: Z) H5) ∧ H5 A = some (.lst acc) ∧ DdL K (er (A :: Z) H5) acc (((l1.take i).flatMap fun a => l2.map (h a)) ++ (l2.take j).map (h a))
      refine ⟨fun j k H5 => k = l2.length - j ∧ j ≤ l2.length ∧ Pi j H5, ⟨l2.length, by omega, Nat.zero_le _, acc, hB, Evl.Ex.refl _, e4 _ _ h3, by simpa using hd2.mono (er_ex (e3.trans e4))⟩, ?_⟩
      rintro j k' H5 ⟨rfl, hj, acc5, f1, f2, f3, f4⟩
      have gH1 := sG1 _ H5 f2
      by_cases hjl : j < l2.length
      · refine .inr ⟨w1.goes j H5 (by rw [l2n]; exact hjl) gH1, Pi (j + 1), fun H' p' => ⟨l2.length - (j + 1), by omega, rfl, hjl, p'⟩, fun x2 H6 y2 => ?_⟩
        obtain ⟨b, hb⟩ : ∃ b, l2[j]? = some b := ⟨l2[j], List.getElem?_eq_getElem hjl⟩
        have hdb : (l2.map g2)[j]? = some (g2 b) := by rw [List.getElem?_map, hb]; rfl
        obtain ⟨e6, hx2⟩ := hy1 (A :: Z) j H5 x2 H6 _ hdb f2 (occ f1 f3) (w1.yields j H5 x2 H6 (by rw [l2n]; exact hjl) gH1 y2)
        have bm := List.mem_of_getElem? hb
        refine ⟨wipe_one (by simp) _ _, ?_⟩
        show te _ H6 _
        have s6 : Sd K (er (A :: Z) H6) ((wipe ((wipe σ vs).set j1 (some x)) [j2]).set j2 (some x2)) ((wp ((wp ρ vs).set j1 (some (g1 a))) [j2]).set j2 (some (g2 b))) :=
          (((s3.mono (er_ex e4)).mono (f2.trans (er_ex e6))).wipe [j2]).set hx2
        refine he a am b bm (A :: Z) _ H6 _ (occ (f1.trans e6) (e6 _ _ f3)) s6 fun v H7 e7 hv => ?_
        have h7 := e7 _ _ (e6 _ _ f3)
        have hd7 := f4.mono (er_ex (e6.trans e7))
        refine ⟨acc5, h7, Evl.sz_lt ?_, acc5 ++ [v], ((f1.trans e6).trans e7).mut hA, ?_, upd_same, ?_⟩
        · rw [hd7.length, List.length_append, flen, List.length_map, List.length_take, List.length_take]
          have q1 : min i l1.length ≤ l1.length - 1 := by omega
          have q2 : min i l1.length * l2.length ≤ (l1.length - 1) * l2.length := Nat.mul_le_mul_right _ q1
          have q3 : l1.length * l2.length = (l1.length - 1) * l2.length + l2.length := by
            obtain ⟨n, hn⟩ : ∃ n, l1.length = n + 1 := ⟨l1.length - 1, by omega⟩
            rw [hn, Nat.add_mul, Nat.one_mul]; rfl
          omega
        · rw [er_upd List.mem_cons_self]
          exact f2.trans (er_ex (e6.trans e7))
        · rw [er_upd List.mem_cons_self]
          have tk : (l2.take (j + 1)).map (h a) = (l2.take j).map (h a) ++ [h a b] := by rw [List.take_succ, hb, List.map_append]; rfl
          rw [tk, ← List.append_assoc]
          exact hd7.append (.cons hv .nil)
      · have ej : j = l2.length := by omega
        subst ej
        refine .inl ⟨by rw [← l2n]; exact w1.stops H5 gH1, acc5, f1, f3, ?_⟩
        rw [take_flatMap _ ha]
        rw [List.take_length] at f4
        exact f4
    · have ei : i = l1.length := by omega
      subst ei
      refine .inl ⟨by rw [← l1n]; exact w.stops H2 gH, ?_⟩
      rw [List.take_length] at hd2
      exact k A acc H2 (Evl.fresh_back e1 hA) (e1.trans e2) h2 hd2

/-! ### data as the library's -/
mutual
def Dt.py : Dt → PyData
  | .non => .none
  | .bl b => .bool b
  | .int i => .int i
  | .str x => .str x
  | .lst ds => .list (Dt.pyL ds)
  | .tup ds => .tuple (Dt.pyL ds)
  | _ => .none
def Dt.pyL : List Dt → List PyData
  | [] => []
  | d :: ds => d.py :: Dt.pyL ds
end
mutual
def Dt.pure : Dt → Bool
  | .non => true
  | .bl _ => true
  | .int _ => true
  | .str _ => true
  | .lst ds => Dt.pureL ds
  | .tup ds => Dt.pureL ds
  | _ => false
def Dt.pureL : List Dt → Bool
  | [] => true
  | d :: ds => d.pure && Dt.pureL ds
end
mutual
theorem Dd.dp {H : Hp} : ∀ {d : Dt} {v : V}, d.pure = true → Dd K H v d → Dp K H v d.py
  | .non, _, _, h => by cases h; exact .non
  | .bl b, _, _, h => by cases h; exact .bl b
  | .int i, _, _, h => by cases h; exact .int i
  | .str x, _, _, h => by cases h; exact .str x
  | .lst ds, _, p, h => by
    cases h with
    | lst h1 h2 => exact .lst (SqL.of h1) (DdL.dp p h2)
  | .tup ds, _, p, h => by
    cases h with
    | tup h1 h2 => exact .tup h1 (DdL.dp p h2)
  | .scr _, _, p, _ => by cases p
  | .obj _ _ _, _, p, _ => by cases p
  | .raw _, _, p, _ => by cases p
  | .tpl _, _, p, _ => by cases p
theorem DdL.dp {H : Hp} : ∀ {ds : List Dt} {vs : List V}, Dt.pureL ds = true → DdL K H vs ds → DpAll K H vs (Dt.pyL ds)
  | [], _, _, h => by cases h; exact .nil
  | d :: ds, _, p, h => by
    have p' : (d.pure && Dt.pureL ds) = true := p
    rw [Bool.and_eq_true] at p'
    cases h with
    | cons h1 h2 => exact .cons (h1.dp p'.1) (DdL.dp p'.2 h2)
end
theorem pyL_map (ds : List Dt) : Dt.pyL ds = ds.map Dt.py := by
  induction ds with
  | nil => rfl
  | cons d ds ih => rw [List.map_cons, ← ih]; rfl
theorem pureL_map {α : Type} (f : α → Dt) (l : List α) (h : ∀ a, (f a).pure = true) : Dt.pureL (l.map f) = true := by
  induction l with
  | nil => rfl
  | cons a l ih =>
    show ((f a).pure && Dt.pureL (l.map f)) = true
    rw [h, ih]; rfl
theorem row_pure (r : Row) : (rowD r).pure = true := pureL_map bitD r fun _ => rfl
theorem rows_pure (rs : List Row) : (rowsT rs).pure = true := pureL_map rowD rs row_pure
theorem rowsL_pure (rs : List Row) : (rowsL rs).pure = true := pureL_map rowD rs row_pure
theorem canAll {α : Type} (f : α → Dt) (l : List α) (h : ∀ a, (f a).py.canLay0 = true) : PyData.canLayAll0 (Dt.pyL (l.map f)) = true := by
  induction l with
  | nil => rfl
  | cons a l ih =>
    show (PyData.canLay0 (f a).py && PyData.canLayAll0 (Dt.pyL (l.map f))) = true
    rw [h, ih]; rfl
theorem depAll {α : Type} (f : α → Dt) (l : List α) (n : Nat) (h : ∀ a, (f a).py.depth ≤ n) : PyData.depthAll (Dt.pyL (l.map f)) ≤ n := by
  induction l with
  | nil => exact Nat.zero_le _
  | cons a l ih =>
    have q := h a
    show PyData.depthAll ((f a).py :: Dt.pyL (l.map f)) ≤ n
    simp only [PyData.depthAll]
    omega
theorem row_can (r : Row) : (rowD r).py.canLay0 = true := by
  show PyData.canLay0 (.tuple (Dt.pyL (r.map bitD))) = true
  unfold PyData.canLay0
  exact canAll bitD r fun _ => rfl
theorem row_dep (r : Row) : (rowD r).py.depth ≤ 1 := by
  show PyData.depth (.tuple (Dt.pyL (r.map bitD))) ≤ 1
  have q := depAll bitD r 0 fun b => by show PyData.depth (.int _) ≤ 0; simp [PyData.depth]
  simp only [PyData.depth]
  omega
theorem shaped_of {d : PyData} (h1 : d.canLay0 = true) (h2 : d.depth ≤ 64) : SeqAt.shaped d = true := by
  unfold SeqAt.shaped
  rw [h1, decide_eq_true h2]; rfl
theorem row_sh (r : Row) : SeqAt.shaped (rowD r).py = true := shaped_of (row_can r) (Nat.le_trans (row_dep r) (by decide))
theorem rows_dep (rs : List Row) : PyData.depthAll (Dt.pyL (rs.map rowD)) ≤ 1 := depAll rowD rs 1 row_dep
theorem rowsT_sh (rs : List Row) : SeqAt.shaped (.tuple (Dt.pyL (rs.map rowD))) = true := by
  refine shaped_of ?_ ?_
  · unfold PyData.canLay0; exact canAll rowD rs row_can
  · have := rows_dep rs
    simp only [PyData.depth]; omega
theorem rowsL_sh (rs : List Row) : SeqAt.shaped (.list (Dt.pyL (rs.map rowD))) = true := by
  refine shaped_of ?_ ?_
  · unfold PyData.canLay0; exact canAll rowD rs row_can
  · have := rows_dep rs
    simp only [PyData.depth]; omega
theorem eqv_bits : ∀ a b : Row, PyData.eqvAll (Dt.pyL (a.map bitD)) (Dt.pyL (b.map bitD)) = decide (a = b)
  | [], [] => rfl
  | [], y :: b => rfl
  | x :: a, [] => rfl
  | x :: a, y :: b => by
    show (PyData.eqv (.int x.toNat) (.int y.toNat) && PyData.eqvAll (Dt.pyL (a.map bitD)) (Dt.pyL (b.map bitD))) = _
    rw [eqv_bits a b]
    have e : PyData.eqv (.int (x.toNat : Int)) (.int (y.toNat : Int)) = decide (x = y) := by cases x <;> cases y <;> decide
    rw [e, Bool.eq_iff_iff, Bool.and_eq_true, decide_eq_true_eq, decide_eq_true_eq, decide_eq_true_eq, List.cons.injEq]
theorem eqv_row (a b : Row) : PyData.eqv (rowD a).py (rowD b).py = decide (a = b) := by
  show PyData.eqv (.tuple (Dt.pyL (a.map bitD))) (.tuple (Dt.pyL (b.map bitD))) = _
  unfold PyData.eqv
  exact eqv_bits a b
theorem any_row (r : Row) : ∀ rs : List Row, ((Dt.pyL (rs.map rowD)).any fun z => PyData.eqv z (rowD r).py) = decide (r ∈ rs)
  | [] => by simp [Dt.pyL]
  | x :: rs => by
    show (PyData.eqv (rowD x).py (rowD r).py || (Dt.pyL (rs.map rowD)).any fun z => PyData.eqv z (rowD r).py) = _
    rw [any_row r rs, eqv_row, Bool.eq_iff_iff, Bool.or_eq_true, decide_eq_true_eq, decide_eq_true_eq, decide_eq_true_eq, List.mem_cons]
    constructor
    · rintro (h | h)
      · exact .inl h.symm
      · exact .inr h
    · rintro (h | h)
      · exact .inl h.symm
      · exact .inr h
end
/-- x in t, a tuple of data -/
def rInDT (K : PySem.W.Frag) : R2 := fun x y H Q => ∃ d ds, Dp K H x d ∧ Dp K H y (.tuple ds) ∧ SeqAt.shaped d = true ∧ PyData.canLayAll0 ds = true ∧ Q (.bl (ds.any fun z => PyData.eqv z d)) H
def rNotInDT (K : PySem.W.Frag) : R2 := fun x y H Q => ∃ d ds, Dp K H x d ∧ Dp K H y (.tuple ds) ∧ SeqAt.shaped d = true ∧ PyData.canLayAll0 ds = true ∧ Q (.bl (!ds.any fun z => PyData.eqv z d)) H
section
variable {X : Cx}
theorem op_inDT (hu : X.A.units + 65 < cLine) : OpR X (compareOp .In) (rInDT X.K) := by
  intro pins s σ H x y v u Q I rx ry ⟨d, ds, hd, he, sd, se, q⟩
  obtain ⟨as, r1⟩ := Dp.reads I d x v hd rx
  obtain ⟨bs, r2⟩ := Dp.reads I (.tuple ds) y u he ry
  have hr : X.A.units + 1 + min (PyData.depthAll ds) d.depth < cLine := by
    have h1 := SeqAt.depth_of_shaped sd
    have h2 : min (PyData.depthAll ds) d.depth ≤ d.depth := Nat.min_le_right _ _
    omega
  exact SeqAt.in_tuple_reads r2 r1 se (SeqAt.canLay_of_shaped sd) hr ⟨.bl _, H, I, rfl, q⟩
theorem op_notInDT (hu : X.A.units + 65 < cLine) : OpR X (compareOp .NotIn) (rNotInDT X.K) := by
  intro pins s σ H x y v u Q I rx ry ⟨d, ds, hd, he, sd, se, q⟩
  obtain ⟨as, r1⟩ := Dp.reads I d x v hd rx
  obtain ⟨bs, r2⟩ := Dp.reads I (.tuple ds) y u he ry
  have hr : X.A.units + 1 + min (PyData.depthAll ds) d.depth < cLine := by
    have h1 := SeqAt.depth_of_shaped sd
    have h2 : min (PyData.depthAll ds) d.depth ≤ d.depth := Nat.min_le_right _ _
    omega
  exact SeqAt.notIn_tuple_reads r2 r1 se (SeqAt.canLay_of_shaped sd) hr ⟨.bl _, H, I, rfl, q⟩
/-- t.index(x), flat items -/
def rTupIdx (K : PySem.W.Frag) : V → List V → Hp → VK → Prop := fun x xs H Q => ∃ (a : Addr) (ys : List V) (y : V) (j : Nat) (z : V), x = V.ref a ∧ xs = [y] ∧ SqT K H a ys ∧ flatV y = true ∧ ys.all flatV = true ∧ ys[j]? = some z ∧ eqV z y = true ∧
  (∀ (m : Nat) (z' : V), m < j → ys[m]? = some z' → eqV z' y = false) ∧ Q (.int (j : Nat)) H
theorem mt_tupIdx : MtR X "tuple.index" (rTupIdx X.K) := by
  intro pins s σ H x xs v us Q I rx rxs ⟨a, ys, y, j, z, e1, e2, hs, fy, fys, hz, hzj, hno, q⟩
  subst e1 e2
  cases rx
  obtain ⟨uy, rfl, ry⟩ := vals1 rxs
  obtain ⟨its, rv, ⟨⟨cls, dd, data, sl⟩, ho, hc, n, hd⟩, hlen⟩ := I.tuple hs
  simp only at hc hd
  subst hc hd
  have at_ : ∀ (m : Nat) (hm : m < its.toArray.size) (z' : V), ys[m]? = some z' → eqU y its.toArray[m] = eqV z' y := fun m hm z' hm' => by
    obtain ⟨u, hu, ru⟩ := rv.get hm'
    have e : its.toArray[m] = u := by simpa using (List.getElem?_eq_some_iff.mp hu).2
    rw [e, eqU_of ru (flat_at fys hm')]
  have hvl := rv.length
  have hj : j < its.toArray.size := by
    have := (List.getElem?_eq_some_iff.mp hz).1
    rw [List.size_toArray]; omega
  refine call_meets PySem.F.slot_tuple_index ⟨_, ho, rfl⟩ PySem.F.entry_tuple_index (PySem.F.args_tuple_index_2 _ _) (TI.tuple_indexAt a its.toArray n dd sl uy (eqU y) j hj (by rw [at_ j hj z hz]; exact hzj) fun m hm hmj => ?_)
    ⟨ho, fun u hu => mem_eqAt ry fy rv fys u (by simpa using hu), ⟨.int (j : Nat), H, I.tok _, ⟨_, rfl⟩, q⟩⟩
  have hsz : its.toArray.size = its.length := List.size_toArray
  have hmy : m < ys.length := by omega
  have e := List.getElem?_eq_getElem hmy
  rw [at_ m hm _ e]
  exact hno m _ hmj e
end
section
variable {K : PySem.W.Frag} {ρ : Rh} {te ta tb tc : TE} {d e : Dt} {ds es : List Dt}
theorem rvd_inT {r : Row} {rs : List Row} : RvD K (rInDT K) (rowD r) (rowsT rs) (.bl (decide (r ∈ rs))) := fun Z H x y Q oc hx hy k =>
  ⟨_, _, (hx.mono er_sub).dp (row_pure r), (hy.mono er_sub).dp (rows_pure rs), row_sh r, canAll rowD rs row_can, by rw [any_row]; exact k _ H (Evl.Ex.refl H) (.bl _)⟩
theorem rvd_notInT {r : Row} {rs : List Row} : RvD K (rNotInDT K) (rowD r) (rowsT rs) (.bl (decide (r ∉ rs))) := fun Z H x y Q oc hx hy k =>
  ⟨_, _, (hx.mono er_sub).dp (row_pure r), (hy.mono er_sub).dp (rows_pure rs), row_sh r, canAll rowD rs row_can, by rw [any_row, ← decide_not]; exact k _ H (Evl.Ex.refl H) (.bl _)⟩
theorem rvd_inL {r : Row} {rs : List Row} : RvD K (rInD K) (rowD r) (rowsL rs) (.bl (decide (r ∈ rs))) := fun Z H x y Q oc hx hy k =>
  ⟨_, _, (hx.mono er_sub).dp (row_pure r), (hy.mono er_sub).dp (rowsL_pure rs), row_sh r, rowsL_sh rs, by rw [any_row]; exact k _ H (Evl.Ex.refl H) (.bl _)⟩
theorem rvd_notInL {r : Row} {rs : List Row} : RvD K (rNotInD K) (rowD r) (rowsL rs) (.bl (decide (r ∉ rs))) := fun Z H x y Q oc hx hy k =>
  ⟨_, _, (hx.mono er_sub).dp (row_pure r), (hy.mono er_sub).dp (rowsL_pure rs), row_sh r, rowsL_sh rs, by rw [any_row, ← decide_not]; exact k _ H (Evl.Ex.refl H) (.bl _)⟩
/-- the first place of an int -/
theorem eqV_int {i j : Int} : eqV (.int i) (.int j) = decide (i = j) := by
  show (i == j) = _
  rw [Bool.beq_eq_decide_eq]
theorem flat_ints (ns : List Int) : (ns.map V.int).all flatV = true := by rw [List.all_map]; exact List.all_eq_true.mpr fun _ _ => rfl
theorem rc_tupIdx {ns : List Int} {i : Int} {j : Nat} (hj : ns[j]? = some i) (hno : ∀ m, m < j → ns[m]? ≠ some i) {Z : List Addr} {H : Hp} {x : V} {vs : List V} {Q : VK} (hx : Dd K (er Z H) x (.tup (ns.map .int))) (hv : DdL K (er Z H) vs [.int i])
    (k : Q (.int (j : Nat)) H) : rTupIdx K x vs H Q := by
  obtain ⟨a, xs, rfl, h1, h2⟩ := hx.sqT
  obtain ⟨v, rfl, q⟩ := ddl1 hv
  cases q.toInt
  cases h2.ints
  refine ⟨a, _, .int i, j, .int i, rfl, rfl, Evl.ex_t er_sub h1, rfl, flat_ints ns, by rw [List.getElem?_map, hj]; rfl, by rw [eqV_int]; simp, fun m z hm e => ?_, k⟩
  rw [List.getElem?_map] at e
  obtain ⟨b, e1, e2⟩ := Option.map_eq_some_iff.mp e
  subst e2
  rw [eqV_int]
  exact decide_eq_false fun q => hno m hm (by rw [e1, q])
theorem rc_lstIdx {ns : List Int} {i : Int} {j : Nat} (hj : ns[j]? = some i) (hno : ∀ m, m < j → ns[m]? ≠ some i) {Z : List Addr} {H : Hp} {x : V} {vs : List V} {Q : VK} (hx : Dd K (er Z H) x (.lst (ns.map .int))) (hv : DdL K (er Z H) vs [.int i])
    (k : Q (.int (j : Nat)) H) : rIndex K x vs H Q := by
  obtain ⟨a, xs, rfl, h1, h2⟩ := hx.sqL
  obtain ⟨v, rfl, q⟩ := ddl1 hv
  cases q.toInt
  cases h2.ints
  refine ⟨a, _, .int i, j, .int i, rfl, rfl, SqL.of (er_sub _ _ h1), rfl, flat_ints ns, by rw [List.getElem?_map, hj]; rfl, by rw [eqV_int]; simp, fun m z hm e => ?_, k⟩
  rw [List.getElem?_map] at e
  obtain ⟨b, e1, e2⟩ := Option.map_eq_some_iff.mp e
  subst e2
  rw [eqV_int]
  exact decide_eq_false fun q => hno m hm (by rw [e1, q])
/-- T.index(i), T a tuple of ints of the module -/
theorem evd_tupIdx {ns : List Int} {i : Int} {j : Nat} (hj : ns[j]? = some i) (hno : ∀ m, m < j → ns[m]? ≠ some i) {t : TA} (hi : EvA K t ρ [.int i]) : EvD K (tBM K "tuple" (rTupIdx K) (tKt K ns) t) ρ (.int (j : Int)) := fun Z σ H Q oc sd k a ka =>
  ⟨by
    obtain ⟨o, its, n, q1, q2, q3, _⟩ := id ka
    exact .inr (.inl ⟨rfl, o, q1, q2, q3⟩), hi Z σ H _ oc sd fun vs H2 e2 hv =>
    rc_tupIdx hj hno ka.d hv (k _ H2 e2 (.int _))⟩
theorem evd_lstIdx {ns : List Int} {i : Int} {j : Nat} (hj : ns[j]? = some i) (hno : ∀ m, m < j → ns[m]? ≠ some i) {t : TA} (ha : EvD K ta ρ (.lst (ns.map .int))) (hi : EvA K t ρ [.int i]) : EvD K (tBM K "list" (rIndex K) ta t) ρ (.int (j : Int)) := fun Z σ H Q oc sd k =>
  ha Z σ H _ oc sd fun x H1 e1 hx => ⟨by
    obtain ⟨a, xs, rfl, h1, h2⟩ := hx.sqL
    exact .inl ⟨rfl, _, SqL.of (er_sub _ _ h1)⟩, hi Z σ H1 _ (oc.ex e1) (sd.mono (er_ex e1)) fun vs H2 e2 hv =>
    rc_lstIdx hj hno (hx.mono (er_ex e2)) hv (k _ H2 (e1.trans e2) (.int _))⟩
end
end Ec
/-! What the top has left, as far as the defs ask it. -/
namespace Ec
open PySem L2
def words : List Str := ["all no", "all yes", "and", "or", "majority", "odd one"]
/-- the built-ins' names are free; the constants of the module -/
structure Txt (K : PySem.W.Frag) (mg : Str → Option Value) : Prop where
  len : mg "len" = none
  abs : mg "abs" = none
  int : mg "int" = none
  bool : mg "bool" = none
  range : mg "range" = none
  tuple : mg "tuple" = none
  list : mg "list" = none
  sorted : mg "sorted" = none
  isinstance : mg "isinstance" = none
  sum : mg "sum" = none
  repr : mg "repr" = none
  enumerate : mg "enumerate" = none
  SIZES : Ktp K mg "SIZES" [1, 2, 4, 8, 16]
  WORDS : Cns K mg "WORDS" (.tup (words.map .str))
  PLACES : Cns K mg "PLACES" (rowsT [place 0, place 1, place 2])
  DEEPEST : Cns K mg "DEEPEST" (.int 12)
  MOST_PLACES : Cns K mg "MOST_PLACES" (.int 4)
  MOST_RELATIONS : Cns K mg "MOST_RELATIONS" (.int 6)
/-! ### rules with the written part told -/
section
variable {X : Cx} {K : PySem.W.Frag}
theorem pi_listK {tg l : Expr} {tl : TE} (hK : X.K = K) (hl : PE X l tl) : PI X tg l (iList K tl) := by subst hK; exact pi_list hl
theorem pi_tupK {tg l : Expr} {tl : TE} (hK : X.K = K) (hl : PE X l tl) : PI X tg l (iTup K tl) := by subst hK; exact pi_tup hl
theorem pe_fldK {e : Expr} {f : Str} {pos : Pos} {ta : TE} (hK : X.K = K) (he : PE X e ta) (hb : attributeBase e f X.env (eval e X.env) = eval e X.env) : PE X (.Attribute e f pos) (tFld K ta f) := by subst hK; exact pe_fld he hb
theorem pg_tupK {es : List Expr} {k : Nat} {t : TGs} {n : Nat} {pos : Pos} (hK : X.K = K) (hc : X.calm = true) (h : PGs X es t)
    (hn : (assignEach es X.env).length = n := by rfl) (hst : (assignEach es X.env).findIdx? (·.1) = none := by rfl) : PG X (.Tuple es k pos) (gTup K n t) := by subst hK; exact pg_tup hc h hn hst
theorem pe_cnK {x : Str} {pos : Pos} {d : Dt} {mg : Str → Option Value} (hK : X.K = K) (c : Cns K mg x d) (hg : Gl X x) (hm : X.mg = mg := by rfl) (hd : (x == ("__debug__" : Str)) = false := by decide) : PE X (.Name x pos) (tCn K d) := by subst hK hm; exact pe_cn c hg hd
theorem pe_ktK {x : Str} {pos : Pos} {ns : List Int} {mg : Str → Option Value} (hK : X.K = K) (c : Ktp K mg x ns) (hg : Gl X x) (hm : X.mg = mg := by rfl) (hd : (x == ("__debug__" : Str)) = false := by decide) : PE X (.Name x pos) (tKt K ns) := by subst hK hm; exact pe_kt c hg hd
theorem pe_bmC {e : Expr} {T : String} {r : V → List V → Hp → VK → Prop} {to : TE} {t : TA} (hK : X.K = K) (h : PE X e (tBM X.K T r to t)) : PE X e (tBM K T r to t) := by subst hK; exact h
end
theorem num_lt : ∀ r : Row, num r < 2 ^ r.length := by
  have key : ∀ (r : Row) (n m : Nat), n < 2 ^ m → r.foldl (fun n b => 2 * n + b.toNat) n < 2 ^ (m + r.length) := fun r => by
    induction r with
    | nil => intro n m h; simpa using h
    | cons b r ih =>
      intro n m h
      have hb : b.toNat ≤ 1 := by cases b <;> decide
      have q := ih (2 * n + b.toNat) (m + 1) (by rw [Nat.pow_succ]; omega)
      rw [List.length_cons, show m + (r.length + 1) = m + 1 + r.length by omega]
      exact q
  intro r
  have q := key r 0 0 (by decide)
  rw [Nat.zero_add] at q
  exact q
theorem col_length (rs : List Row) (j : Nat) : (col rs j).length = rs.length := by unfold col; rw [List.length_map]
end Ec
/-! Lists of the def's own that it changes; targets of three names. -/
namespace Ec
open PySem L2
section
variable {K : PySem.W.Frag} {Z : List Addr} {F F2 : Hp → Prop} {ρ : Rh} {te ta tb tx : TE} {d e : Dt} {ds es : List Dt} {D : Ends} {l : Addr} {i : Nat}
/-- the list at l holds this, l hidden -/
def Own (K : PySem.W.Frag) (Z : List Addr) (l : Addr) (ds : List Dt) (H : Hp) : Prop := ∃ vs, H l = some (.lst vs) ∧ DdL K (er Z H) vs ds
theorem Own.stb : Stb (Own K Z l ds) := fun H H' e ⟨vs, h1, h2⟩ => ⟨vs, e _ _ h1, h2.mono (er_ex e)⟩
theorem nx_own (sF : Stb F) (he : EvN K te ρ ds) (k : ∀ l H', F H' → H' l = none → l ∉ Z → Nx K (l :: Z) (fun H => F H ∧ Own K (l :: Z) l ds H) (ρ.set i (some (.raw (.ref l)))) D.nx) : Nx K Z F ρ (tAsg te (gName i) D) := fun σ H o s f =>
  he Z σ H _ o s fun p vs H2 hp ex h2 hd => by
    have ocp : Occ (p :: Z) H2 := (o.ex ex).add h2
    have e2 : Evl.Ex (er Z H) (er (p :: Z) H2) := fun b u q => by
      obtain ⟨q1, q2⟩ := er_some q
      rw [er_out (by simp [ne_of_none q2 hp, q1])]; exact ex _ _ q2
    exact k p H f hp (o.fresh hp) _ H2 ocp ((s.mono e2).set (.raw _)) ⟨sF _ _ ex f, vs, h2, hd⟩
theorem nx_setL {j : Nat} (sF : Stb F) (hl : l ∈ Z) (he : EvD K te ρ d) (hi : ρ[i]? = some (some (.raw (.ref l)))) (hx : EvD K tx ρ (.int (j : Int))) (hL : ∀ H, F H → ∃ vs, H l = some (.lst vs) ∧ j < vs.length)
    (hF : ∀ H v vs, F H → H l = some (.lst vs) → Dd K (er Z H) v d → F2 (upd H l (.lst (vs.set j v)))) (k : Nx K Z F2 ρ D.nx) : Nx K Z F ρ (tAsg te (gSub (tVar i) tx rSetL) D) := fun σ H o s f =>
  he Z σ H _ o s fun v H1 e1 hv => by
    obtain ⟨u, h1, h2⟩ := (s.mono (er_ex e1)).2 i _ hi
    cases h2.toRaw
    refine ⟨_, h1, ?_⟩
    refine hx Z σ H1 _ (o.ex e1) (s.mono (er_ex e1)) fun x H2 e2 hxv => ?_
    cases hxv.toInt
    have f2 := sF _ _ (e1.trans e2) f
    obtain ⟨vs, q1, q2⟩ := hL H2 f2
    refine ⟨l, vs, (j : Int), j, rfl, rfl, q1, Evl.ixN_nat q2, ?_⟩
    refine k σ _ ((o.ex (e1.trans e2)).upd fun ys z => by cases z) ?_ (hF H2 v vs f2 q1 (hv.mono (er_ex e2)))
    rw [er_upd hl]
    exact s.mono (er_ex (e1.trans e2))
theorem nx_app (sF : Stb F) (hl : l ∈ Z) (hi : ρ[i]? = some (some (.raw (.ref l)))) (he : EvD K te ρ d) (hL : ∀ H, F H → ∃ vs, H l = some (.lst vs) ∧ vs.length < 100000)
    (hF : ∀ H v vs, F H → H l = some (.lst vs) → Dd K (er Z H) v d → F2 (upd H l (.lst (vs ++ [v])))) (k : Nx K Z F2 ρ D.nx) : Nx K Z F ρ (tDrop (tBM K "list" rAppend (tVar i) (tCons te tNil)) D) := fun σ H o s f => by
  obtain ⟨u, h1, h2⟩ := s.2 i _ hi
  cases h2.toRaw
  refine ⟨_, h1, ?_⟩
  obtain ⟨vs0, q0, _⟩ := hL H f
  refine ⟨.inl ⟨rfl, vs0, SqL.of q0⟩, ?_⟩
  refine he Z σ H _ o s fun v H1 e1 hv => ?_
  have f1 := sF _ _ e1 f
  obtain ⟨vs, q1, q2⟩ := hL H1 f1
  refine ⟨l, vs, v, rfl, rfl, q1, Evl.sz_lt q2, ?_⟩
  refine k σ _ ((o.ex e1).upd fun ys z => by cases z) ?_ (hF H1 v vs f1 q1 hv)
  rw [er_upd hl]
  exact s.mono (er_ex e1)
/-- the list is its own no longer: it stands as data -/
theorem nx_rel (hl : l ∉ Z) (hF : ∀ H, F H → F2 H ∧ Own K (l :: Z) l ds H) {P : L2.St → Hp → Prop} (hi : ρ[i]? = some (some (.raw (.ref l)))) (k : Nx K Z F2 (ρ.set i (some (.lst ds))) P) : Nx K (l :: Z) F ρ P := fun σ H o s f => by
  obtain ⟨f2, vs, h1, h2⟩ := hF H f
  obtain ⟨u, q1, q2⟩ := s.2 i _ hi
  cases q2.toRaw
  have less : Evl.Ex (er (l :: Z) H) (er Z H) := er_less fun z hz => List.mem_cons_of_mem _ hz
  have s2 := (s.mono less).set (i := i) (Dd.lst (by rw [er_out hl]; exact h1) (h2.mono less))
  have e : σ.set i (some (V.ref l)) = σ := by
    obtain ⟨hlt, e1⟩ := List.getElem?_eq_some_iff.mp q1
    rw [← e1]
    exact List.set_getElem_self hlt
  rw [e] at s2
  exact k σ H (fun z hz => o z (List.mem_cons_of_mem _ hz)) s2 f2
theorem nx_asgG {g : TG} {js : List Nat} (sF : Stb F) (he : EvD K te ρ d) (hg : Gd K g d js es) (k : Nx K Z F (setD ρ js es) D.nx) : Nx K Z F ρ (tAsg te g D) := fun σ H o s f =>
  he Z σ H _ o s fun v H1 e1 hv => hg Z σ H1 v _ hv fun vs hvs => k _ H1 (o.ex e1) ((s.mono (er_ex e1)).sets hvs) (sF _ _ e1 f)
theorem gd_trip {i j k : Nat} {a b c : Dt} : Gd K (gTup K 3 (gCons (gName i) (gCons (gName j) (gCons (gName k) gNil)))) (.tup [a, b, c]) [i, j, k] [a, b, c] := fun Z σ H v Q h q => by
  obtain ⟨p, xs, rfl, h1, h2⟩ := h.sqT
  obtain ⟨x, y, z, rfl, _, _, _⟩ := ddl3 h2
  exact ⟨p, [x, y, z], rfl, Evl.ex_t er_sub h1, rfl, x, _, rfl, y, _, rfl, z, _, rfl, rfl, q [x, y, z] h2⟩
theorem gd_tripL {i j k : Nat} {a b c : Dt} : Gd K (gUnl K 3 (gCons (gName i) (gCons (gName j) (gCons (gName k) gNil)))) (.lst [a, b, c]) [i, j, k] [a, b, c] := fun Z σ H v Q h q => by
  obtain ⟨p, xs, rfl, h1, h2⟩ := h.sqL
  obtain ⟨x, y, z, rfl, _, _, _⟩ := ddl3 h2
  exact ⟨p, [x, y, z], rfl, SqL.of (er_sub _ _ h1), rfl, x, _, rfl, y, _, rfl, z, _, rfl, rfl, q [x, y, z] h2⟩
end
theorem pg_unlK {X : Cx} {K : PySem.W.Frag} {es : List Expr} {k : Nat} {t : TGs} {n : Nat} {pos : Pos} (hK : X.K = K) (hc : X.calm = true) (h : PGs X es t)
    (hn : (assignEach es X.env).length = n := by rfl) (hst : (assignEach es X.env).findIdx? (·.1) = none := by rfl) : PG X (.Tuple es k pos) (gUnl K n t) := by subst hK; exact pg_unl hc h hn hst
end Ec
/-! The defs of tables, the lower ones. -/
namespace Ec
open PySem L2
section
variable {P : Program} {w : World} {K : PySem.W.Frag} {mg : Str → Option Value} {base : Heap} {f : Addr} {fd : FuncData}
abbrev s_is_bit : Stmt := topS 11
theorem sc_is_bit : FnScope ["value"] ["value"] (defScope s_is_bit) := ⟨rfl, rfl, rfl, by decide +kernel, rfl, by decide +kernel, by decide +kernel⟩
-- slots: value 0
def R_isbit (ds : List Dt) (r : Dt) : Prop := ∃ b : Bool, ds = [bitD b] ∧ r = .bl true
theorem ok_is_bit (T : Txt K mg) (Fn : Fun K "is_bit" "is_bit" s_is_bit f fd) : FnOk P w K mg base CX0 1 f fd ["value"] (PureSp K R_isbit) := by
  refine pure_ok Fn sc_is_bit (fun ds r h => ?_) fun ds r h cdv A outer s H E hr => ?_
  · obtain ⟨b, rfl, _⟩ := h; rfl
  · obtain ⟨b, rfl, rfl⟩ := h
    refine ⟨_, (pss_one (ps_ret (pe_and (pe_callB (r := rIsi K) call_isi (by rfl) T.isinstance (by decide +kernel) (pa_cons (pv 0) (pa_cons (pe_bltn (v := .ty "int") (by rfl) T.int (by decide +kernel) rfl) pa_nil))) (pe_and (pe_not (pe_callB (r := rIsi K) call_isi (by rfl) T.isinstance (by decide +kernel) (pa_cons (pv 0) (pa_cons (pe_bltn (v := .ty "bool") (by rfl) T.bool (by decide +kernel) rfl) pa_nil)))) (pe_one (pe_chain op_le op_le pe_int (pv 0) pe_int)))))), fun Z H0 D k => ?_⟩
    refine nx_ret (stb_ex H0) ((evd_andV (evd_callB (eva_cons (evd_var rfl) (eva_cons evd_ty eva_nil)) (rc_isi (d := bitD b) (t := "int") (b := true) rfl (kit_ty (by decide +kernel)))) fun _ => evd_andV (evd_notV (evd_callB (eva_cons (evd_var rfl) (eva_cons evd_ty eva_nil)) (rc_isi (d := bitD b) (t := "int") (b := false) rfl (kit_ty (by decide +kernel))))) fun _ =>
      (evd_chain (evd_int (i := 0)) (evd_var (d := bitD b) rfl) (rvd_I0 fun _ => .bl _) (fun _ => evd_int (i := 1)) fun _ => rvd_I0 fun _ => .bl _)).is ?_) fun v H oc ex hv => k v H oc ex hv
    cases b <;> rfl
abbrev s_is_table : Stmt := topS 12
theorem sc_is_table : FnScope ["value", "m", "worth"] ["value", "m"] (defScope s_is_table) := ⟨rfl, rfl, rfl, by decide +kernel, rfl, by decide +kernel, by decide +kernel⟩
-- slots: value 0, m 1, worth 2
def R_istable (ds : List Dt) (r : Dt) : Prop := ∃ (t : Row) (m : Nat), t.length ≤ 16 ∧ m ≤ 4 ∧ ds = [rowD t, .int (m : Int)] ∧ r = .bl (decide (t.length = 2 ^ m))
theorem ok_is_table (T : Txt K mg) (C_is_bit : C8.Cal P w K mg base 1 "is_bit" (PureSp K R_isbit) []) (Fn : Fun K "is_table" "is_table" s_is_table f fd) : FnOk P w K mg base CX0 2 f fd ["value", "m"] (PureSp K R_istable) := by
  refine pure_ok Fn sc_is_table (fun ds r h => ?_) fun ds r h cdv A outer s H E hr => ?_
  · obtain ⟨t, m, _, _, rfl, _⟩ := h; rfl
  · obtain ⟨t, m, ht, hm, rfl, rfl⟩ := h
    refine ⟨_, (pss_cons (ps_if (PW.pt (pw_or (pt_not (pt_val (pe_callB (r := rIsi K) call_isi (by rfl) T.isinstance (by decide +kernel) (pa_cons (pv 0) (pa_cons (pe_bltn (v := .ty "tuple") (by rfl) T.tuple (by decide +kernel) rfl) pa_nil))))) (pw_or1 (pt_cmpR op_ne (pe_callB (r := rLen K) call_len_seq (by rfl) T.len PySem.boot_len (pa_cons (pv 0) pa_nil)) (pe_ix (r := rIx K) ix_seq (pe_cnK (K := K) rfl T.SIZES.cns rfl) (pv 1) (fun _ _ => rfl)) (nomark _))))) (pss_one (ps_ret pe_bl)) pss_nil)
      (pss_cons (ps_for PassesOwn.never rfl (pi_tupK (K := K) rfl (pv 0)) (pg_name (i := 2) sc_is_table.nd rfl (Or.inl rfl))
        (pss_one (ps_if (pt_not (pt_val (C8.pe_c C_is_bit hr (by decide) rfl (pa_cons (pv 2) pa_nil)))) (pss_one (ps_ret pe_bl)) pss_nil)))
      (pss_one (ps_ret pe_bl)))), fun Z H0 D k => ?_⟩
    have e5 : (([1, 2, 4, 8, 16] : List Int).map Dt.int)[m]? = some (.int ((2 ^ m : Nat) : Int)) := by
      match m, hm with
      | 0, _ => rfl
      | 1, _ => rfl
      | 2, _ => rfl
      | 3, _ => rfl
      | 4, _ => rfl
    have hlen : (t.map bitD).length = t.length := List.length_map _
    refine nx_seq (nx_if (b := !decide (t.length = 2 ^ m)) (stb_ex H0) ((evt_or (evt_not (evt_B (evd_callB (eva_cons (evd_var (d := rowD t) rfl) (eva_cons evd_ty eva_nil)) (rc_isi (t := "tuple") rfl (kit_ty (r := true) (by decide +kernel)))))) fun _ =>
      evt_test (evd_op (evd_callB (eva_cons (evd_var (d := rowD t) rfl) eva_nil) rc_lenT) (evd_op evd_cn (evd_var rfl) (rvd_ixt rfl e5)) rvd_neI)).is ?_) (fun q => ?_) fun q => ?_)
    · rw [hlen]
      show (false || _) = _
      rw [Bool.false_or]
      congr 1
      exact decide_eq_decide.mpr (by omega)
    · have e : decide (t.length = 2 ^ m) = false := by simpa using q
      exact nx_ret (stb_ex H0) evd_bl fun v H oc ex hv => k v H oc ex (by rw [e]; exact hv)
    · have e : decide (t.length = 2 ^ m) = true := by simpa using q
      refine nx_seq (nx_forN (stb_ex H0) (src_tup (evd_var rfl)) (fun i ρ F => F = Evl.Ex H0 ∧ ∃ x, ρ = [some (rowD t), some (.int (m : Int)), x]) ⟨rfl, _, rfl⟩ ?_ ?_)
      · rintro LF sL i d ρ F hi ⟨rfl, x, rfl⟩ sF
        obtain ⟨c, hc, rfl⟩ := map_at hi
        refine nx_ifF (sF.andZ sL) (evt_not (evt_B (evd_call (d := .bl true) (eva_cons (evd_var rfl) eva_nil) ⟨c, rfl, rfl⟩))) ?_
        exact as_in ⟨rfl, _, rfl⟩ sF
      · rintro ρ F ⟨rfl, x, rfl⟩ sF
        exact nx_ret sF evd_bl fun v H oc ex hv => k v H oc ex (by rw [e]; exact hv)
abbrev s_number_of : Stmt := topS 13
theorem sc_number_of : FnScope ["bits", "number", "bit"] ["bits"] (defScope s_number_of) := ⟨rfl, rfl, rfl, by decide +kernel, rfl, by decide +kernel, by decide +kernel⟩
-- slots: bits 0, number 1, bit 2
def R_number (ds : List Dt) (r : Dt) : Prop := ∃ b : Row, ds = [.lst (b.map bitD)] ∧ r = .int (num b : Nat)
theorem ok_number_of (T : Txt K mg) (Fn : Fun K "number_of" "number_of" s_number_of f fd) : FnOk P w K mg base CX0 1 f fd ["bits"] (PureSp K R_number) := by
  refine pure_ok Fn sc_number_of (fun ds r h => ?_) fun ds r h cdv A outer s H E hr => ?_
  · obtain ⟨b, rfl, _⟩ := h; rfl
  · obtain ⟨b, rfl, rfl⟩ := h
    refine ⟨_, (pss_cons (ps_set (i := 1) sc_number_of.nd rfl (Or.inl rfl) pe_int)
      (pss_cons (ps_for PassesOwn.never rfl (pi_listK (K := K) rfl (pv 0)) (pg_name (i := 2) sc_number_of.nd rfl (Or.inl rfl))
        (pss_one (ps_set (i := 1) sc_number_of.nd rfl (Or.inl rfl) (pe_op op_add (pe_op op_mul pe_int (pv 1)) (pv 2)))))
      (pss_one (ps_ret (pv 1))))), fun Z H0 D k => ?_⟩
    refine nx_seq (nx_asg (stb_ex H0) evd_int ?_)
    refine nx_seq (nx_forN (stb_ex H0) (src_list (evd_var rfl)) (fun i ρ F => F = Evl.Ex H0 ∧ ∃ x, ρ = [some (.lst (b.map bitD)), some (.int (num (b.take i) : Nat)), x]) ⟨rfl, _, rfl⟩ ?_ ?_)
    · rintro LF sL i d ρ F hi ⟨rfl, x, rfl⟩ sF
      obtain ⟨c, hc, rfl⟩ := map_at hi
      refine nx_asg (sF.andZ sL) (evd_i0 (evd_i evd_int (evd_var rfl) (.inl ⟨by decide, by decide⟩)) (evd_var rfl)) ?_
      refine as_in ⟨rfl, some (bitD c), ?_⟩ sF
      have e : num (b.take (i + 1)) = 2 * num (b.take i) + c.toNat := by
        rw [List.take_succ, hc]
        exact num_snoc _ _
      rw [e]
      show [_, some (Dt.int (2 * (num (b.take i) : Int) + (c.toNat : Int))), _] = _
      rw [Int.natCast_add, Int.natCast_mul]
      rfl
    · rintro ρ F ⟨rfl, x, rfl⟩ sF
      refine nx_ret sF (evd_var rfl) fun v H oc ex hv => k v H oc ex ?_
      rw [List.length_map, List.take_length] at hv
      exact hv
abbrev s_spelled : Stmt := topS 14
theorem sc_spelled : FnScope ["rows", "place", "row"] ["rows"] (defScope s_spelled) := ⟨rfl, rfl, rfl, by decide +kernel, rfl, by decide +kernel, by decide +kernel⟩
-- slots: rows 0c, place 1, row 2
/-- rows of one length, one at least, few -/
def Even (rs : List Row) (n : Nat) : Prop := rs ≠ [] ∧ (∀ r ∈ rs, r.length = n) ∧ n ≤ 100
theorem Even.head {rs : List Row} {n : Nat} (h : Even rs n) : ∃ r, rs[0]? = some r ∧ r.length = n ∧ (rs.headD []).length = n := by
  obtain ⟨h1, h2, _⟩ := h
  match rs, h1, h2 with
  | r :: _, _, h2 => exact ⟨r, rfl, h2 r List.mem_cons_self, h2 r List.mem_cons_self⟩
def R_spelled (ds : List Dt) (r : Dt) : Prop := ∃ (rs : List Row) (n : Nat), Even rs n ∧ rs.length ≤ 100 ∧ ds = [rowsT rs] ∧ r = .tup ((List.range n).map fun j : Nat => .int (num (col rs j) : Nat))
theorem ok_spelled (T : Txt K mg) (C_number_of : C8.Cal P w K mg base 1 "number_of" (PureSp K R_number) []) (Fn : Fun K "spelled" "spelled" s_spelled f fd) : FnOk P w K mg base CX0 2 f fd ["rows"] (PureSp K R_spelled) := by
  refine pure_ok Fn sc_spelled (fun ds r h => ?_) fun ds r h cdv A outer s H E hr => ?_
  · obtain ⟨_, _, _, _, rfl, _⟩ := h; rfl
  · obtain ⟨rs, n, he, hz, rfl, rfl⟩ := h
    obtain ⟨r0, h0, hn0, _⟩ := he.head
    have hn := he.2.1
    refine ⟨_, (pss_one (ps_ret (pe_callTy (r := rTupO K) call_tuple_of (by rfl) T.tuple (by decide +kernel) (pa_cons (pe_lc (own := [("place", 1)]) (g := (gName 1)) (tt := tYes) rfl sc_spelled.nd (pi_range1 rfl T.range (pa_cons (pe_callB (r := rLen K) call_len_seq (by rfl) T.len PySem.boot_len (pa_cons (pe_ix (r := rIx K) ix_seq (pv 0) pe_int (fun _ _ => rfl)) pa_nil)) pa_nil)) (blkOk_by (by kernel_rfl)) (fun _ _ _ _ _ => (pg_name (i := 1) sc_spelled.nd rfl (Or.inr rfl))) (fun _ _ _ _ _ => pts_nil) (fun _ _ _ _ _ => (C8.pe_c C_number_of hr (by decide) rfl (pa_cons (pe_lc (own := [("row", 2)]) (g := (gName 2)) (tt := tYes) rfl sc_spelled.nd (pi_tupK (K := K) rfl (pv 0)) (blkOk_by (by kernel_rfl)) (fun _ _ _ _ _ => (pg_name (i := 2) sc_spelled.nd rfl (Or.inl rfl))) (fun _ _ _ _ _ => pts_nil) (fun _ _ _ _ _ => (pe_ix (r := rIx K) ix_seq (pv 2) (pv 1) (fun _ _ => rfl)))) pa_nil)))) pa_nil)))), fun Z H0 D k => ?_⟩
    have e0 : (rs.map rowD)[0]? = some (rowD r0) := by rw [List.getElem?_map, h0]; rfl
    have hl : (r0.map bitD).length = n := by rw [List.length_map, hn0]
    refine nx_ret (stb_ex H0) (evd_callB (eva_cons (EvN.toD (evn_lcM (List.range n) (fun j : Nat => .int (j : Int)) (fun j : Nat => .int (num (col rs j) : Nat))
      (src_rangeM (eva_cons (hl ▸ evd_callB (eva_cons (evd_op (evd_var (d := rowsT rs) rfl) evd_int (rvd_ixt (n := 0) rfl e0)) eva_nil) rc_lenT) eva_nil) (Nat.le_trans he.2.2 (by decide))) (by rw [List.length_range]; exact Nat.le_trans he.2.2 (by decide)) fun i j hj => ?_)) eva_nil) rc_tupL) fun v H oc ex hv => k v H oc ex hv
    have hjn : j < n := List.mem_range.mp (List.mem_of_getElem? hj)
    refine evd_call (eva_cons (EvN.toD (evn_lcM rs rowD (fun r => bitD (r.getD j false)) (src_tup (evd_var rfl)) (Nat.le_trans hz (by decide)) fun i r hr => ?_)) eva_nil) ⟨col rs j, by unfold col; rw [List.map_map]; rfl, rfl⟩
    exact evd_op (evd_var rfl) (evd_var rfl) (rvd_ixt rfl (rowD_at (by rw [hn r (List.mem_of_getElem? hr)]; exact hjn)))
abbrev s_made_row : Stmt := topS 15
theorem sc_made_row : FnScope ["table", "rows", "number"] ["table", "rows"] (defScope s_made_row) := ⟨rfl, rfl, rfl, by decide +kernel, rfl, by decide +kernel, by decide +kernel⟩
-- slots: table 0c, rows 1, number 2
def R_made (ds : List Dt) (r : Dt) : Prop := ∃ (t : Row) (rs : List Row) (n : Nat), Even rs n ∧ rs.length ≤ 100 ∧ t.length = 2 ^ rs.length ∧ ds = [rowD t, rowsT rs] ∧ r = rowD (made t rs)
theorem ok_made_row (T : Txt K mg) (C_spelled : C8.Cal P w K mg base 2 "spelled" (PureSp K R_spelled) []) (Fn : Fun K "made_row" "made_row" s_made_row f fd) : FnOk P w K mg base CX0 3 f fd ["table", "rows"] (PureSp K R_made) := by
  refine pure_ok Fn sc_made_row (fun ds r h => ?_) fun ds r h cdv A outer s H E hr => ?_
  · obtain ⟨_, _, _, _, _, _, rfl, _⟩ := h; rfl
  · obtain ⟨t, rs, n, he, hz, ht, rfl, rfl⟩ := h
    obtain ⟨_, _, _, hh⟩ := he.head
    refine ⟨_, (pss_one (ps_ret (pe_callTy (r := rTupO K) call_tuple_of (by rfl) T.tuple (by decide +kernel) (pa_cons (pe_lc (own := [("number", 2)]) (g := (gName 2)) (tt := tYes) rfl sc_made_row.nd (pi_tupK (K := K) rfl (C8.pe_c C_spelled hr (by decide) rfl (pa_cons (pv 1) pa_nil))) (blkOk_by (by kernel_rfl)) (fun _ _ _ _ _ => (pg_name (i := 2) sc_made_row.nd rfl (Or.inl rfl))) (fun _ _ _ _ _ => pts_nil) (fun _ _ _ _ _ => (pe_ix (r := rIx K) ix_seq (pv 0) (pv 2) (fun _ _ => rfl)))) pa_nil)))), fun Z H0 D k => ?_⟩
    have e : rowD (made t rs) = .tup ((List.range n).map fun j => bitD (t.getD (num (col rs j)) false)) := by
      unfold rowD made
      rw [hh, List.map_map]
      rfl
    rw [e] at k
    refine nx_ret (stb_ex H0) (evd_callB (eva_cons (EvN.toD (evn_lcM (List.range n) (fun j : Nat => .int (num (col rs j) : Nat)) (fun j => bitD (t.getD (num (col rs j)) false))
      (src_tup (evd_call (eva_cons (evd_var rfl) eva_nil) ⟨rs, n, he, hz, rfl, rfl⟩)) (by rw [List.length_range]; exact Nat.le_trans he.2.2 (by decide)) fun i j hj => ?_)) eva_nil) rc_tupL) fun v H oc ex hv => k v H oc ex hv
    refine evd_op (evd_var (d := rowD t) rfl) (evd_var rfl) (rvd_ixt rfl (rowD_at ?_))
    have := num_lt (col rs j)
    rw [col_length] at this
    omega
end
end Ec
/-! The defs of tables, the upper ones: tuples_of, break_in, break_of. -/
namespace Ec
open PySem L2
theorem tups_length (rs : List Row) : ∀ m, (tups rs m).length = rs.length ^ m
  | 0 => rfl
  | m + 1 => by
    unfold tups
    rw [List.length_flatMap]
    have e : ((tups rs m).map fun one => (rs.map fun r => one ++ [r]).length) = (tups rs m).map fun _ => rs.length := List.map_congr_left fun _ _ => List.length_map _
    rw [e, List.map_const', List.sum_replicate_nat, tups_length rs m, Nat.pow_succ]
theorem pow_le {a b n m : Nat} (ha : a ≤ b) (hb : 1 ≤ b) (hn : n ≤ m) : a ^ n ≤ b ^ m := Nat.le_trans (Nat.pow_le_pow_left ha n) (Nat.pow_le_pow_right hb hn)
theorem find_some {α : Type} (p : α → Bool) : ∀ {l : List α} {i : Nat} {a : α}, l[i]? = some a → p a = true → (∀ k b, k < i → l[k]? = some b → p b = false) → l.find? p = some a
  | [], i, a, h, _, _ => by simp at h
  | x :: l, 0, a, h, hp, _ => by
    simp at h; subst h
    rw [List.find?_cons, hp]
  | x :: l, i + 1, a, h, hp, hn => by
    have q := hn 0 x (by omega) rfl
    rw [List.find?_cons, q]
    exact find_some p (by simpa using h) hp fun k b hk e => hn (k + 1) b (by omega) (by simpa using e)
theorem find_none {α : Type} (p : α → Bool) {l : List α} (h : ∀ k b, k < l.length → l[k]? = some b → p b = false) : l.find? p = none := by
  rw [List.find?_eq_none]
  intro a ha
  obtain ⟨k, hk, e⟩ := List.getElem_of_mem ha
  rw [h k a hk (by rw [List.getElem?_eq_getElem hk, e])]
  exact Bool.false_ne_true
def resD : Option (List Row) → Dt
  | none => .non
  | some one => rowsT one
def dueD : Option (Nat × List Row) → Dt
  | none => .non
  | some (k, one) => .tup [.int (k : Int), rowsT one]
/-- a relation as an object of the class at C -/
def relD (C : Addr) (rl : Nat × List Row) : Dt := .obj C ["size", "rows"] [.int (rl.1 : Int), rowsT rl.2]
/-- a relation as the law has it -/
def rlD (rl : Nat × List Row) : Dt := .tup [.int (rl.1 : Int), rowsT rl.2]
def bookD (B C : Addr) (bk : List (Nat × List Row)) : Dt := .obj B ["relations", "plain"] [.tup (bk.map (relD C)), .tup (bk.map rlD)]
structure ClsF (K : PySem.W.Frag) (C : Addr) (fs : List Str) : Prop where
  cl : Cls K C
  no : ∀ f ∈ fs, NoAttr K C f
theorem look2a {a b : Str} {x y : V} : List.lookup a [(a, x), (b, y)] = some x := by
  rw [List.lookup_cons, beq_self_eq_true]
theorem look2b {a b : Str} {x y : V} (h : (b == a) = false) : List.lookup b [(a, x), (b, y)] = some y := by
  rw [List.lookup_cons, h, List.lookup_cons, beq_self_eq_true]
section
variable {K : PySem.W.Frag} {ρ : Rh} {ta : TE}
theorem evd_fld1 {C : Addr} {a b : Str} {x y : Dt} (h : EvD K ta ρ (.obj C [a, b] [x, y])) (c : ClsF K C [a, b]) : EvD K (tFld K ta a) ρ x := fun Z σ H Q oc sd k =>
  h Z σ H _ oc sd fun v H1 e1 hv => by
    cases hv with
    | obj h1 h2 h3 =>
      obtain ⟨u, w, rfl, q1, q2⟩ := ddl2 h3
      exact ⟨_, C, _, _, u, rfl, er_sub _ _ h1, c.cl, c.no a (by simp), look2a, k u H1 e1 q1⟩
theorem evd_fld2 {C : Addr} {a b : Str} {x y : Dt} (h : EvD K ta ρ (.obj C [a, b] [x, y])) (c : ClsF K C [a, b]) (hne : (b == a) = false) : EvD K (tFld K ta b) ρ y := fun Z σ H Q oc sd k =>
  h Z σ H _ oc sd fun v H1 e1 hv => by
    cases hv with
    | obj h1 h2 h3 =>
      obtain ⟨u, w, rfl, q1, q2⟩ := ddl2 h3
      exact ⟨_, C, _, _, w, rfl, er_sub _ _ h1, c.cl, c.no b (by simp), look2b hne, k w H1 e1 q2⟩
end
theorem nsz : (("rows" : Str) == "size") = false := by decide +kernel
theorem npl : (("plain" : Str) == "relations") = false := by decide +kernel
section
variable {P : Program} {w : World} {K : PySem.W.Frag} {mg : Str → Option Value} {base : Heap} {f : Addr} {fd : FuncData}
abbrev s_tuples_of : Stmt := topS 16
theorem sc_tuples_of : FnScope ["rows", "m", "found", "_", "one", "row"] ["rows", "m"] (defScope s_tuples_of) := ⟨rfl, rfl, rfl, by decide +kernel, rfl, by decide +kernel, by decide +kernel⟩
-- slots: rows 0c, m 1, found 2, _ 3, one 4, row 5
def R_tuples (ds : List Dt) (r : Dt) : Prop := ∃ (rs : List Row) (m : Nat), rs.length ≤ 16 ∧ m ≤ 3 ∧ ds = [rowsT rs, .int (m : Int)] ∧ r = .lst ((tups rs m).map rowsT)
theorem tups_le {rs : List Row} {m : Nat} (h : rs.length ≤ 16) (hm : m ≤ 3) : (tups rs m).length ≤ 4096 := by
  rw [tups_length]
  exact pow_le h (by decide) hm
theorem ok_tuples_of (T : Txt K mg) (Fn : Fun K "tuples_of" "tuples_of" s_tuples_of f fd) : FnOk P w K mg base CX0 1 f fd ["rows", "m"] (PureSp K R_tuples) := by
  refine pure_ok Fn sc_tuples_of (fun ds r h => ?_) fun ds r h cdv A outer s H E hr => ?_
  · obtain ⟨_, _, _, _, rfl, _⟩ := h; rfl
  · obtain ⟨rs, m, hz, hm, rfl, rfl⟩ := h
    refine ⟨_, (pss_cons (ps_set (i := 2) sc_tuples_of.nd rfl (Or.inl rfl) (pe_lst (pa_cons (pe_tup pa_nil) pa_nil)))
      (pss_cons (ps_for PassesOwn.never rfl (pi_range1 rfl T.range (pa_cons (pv 1) pa_nil)) (pg_name (i := 3) sc_tuples_of.nd rfl (Or.inl rfl))
        (pss_one (ps_setLc2 (i := 2) (own := [("one", 4), ("row", 5)]) (vs1 := [5]) (g := (gName 4)) (tt := tYes) rfl sc_tuples_of.nd rfl rfl (sw_true rfl rfl rfl (by decide +kernel)) (pi_listK (K := K) rfl (pv 2)) (blkOk_by (by kernel_rfl)) (by decide) (fun _ _ _ _ _ => (pg_name (i := 4) sc_tuples_of.nd rfl (Or.inl rfl))) (fun _ _ _ _ _ => pts_nil) (fun _ _ _ _ _ => (pi_tupK (K := K) rfl (pv 0))) (fun _ _ _ _ _ => (pg_name (i := 5) sc_tuples_of.nd rfl (Or.inl rfl))) (fun _ _ _ _ _ => pts_nil) (fun _ _ _ _ _ => (pe_op (r := rCatA K) op_catA (pv 4) (pe_tup (pa_cons (pv 5) pa_nil)))))))
      (pss_one (ps_ret (pv 2))))), fun Z H0 D k => ?_⟩
    refine nx_seq (nx_asg (d := .lst ((tups rs 0).map rowsT)) (stb_ex H0) (EvN.toD (evn_lst (eva_cons (evd_tup eva_nil (by decide)) eva_nil) (by show 1 ≤ 100000; decide))) ?_)
    refine nx_seq (nx_forN (stb_ex H0) (src_rangeM (n := m) (eva_cons (evd_var rfl) eva_nil) (by omega)) (fun i ρ F => F = Evl.Ex H0 ∧ ∃ x, ρ = [some (rowsT rs), some (.int (m : Int)), some (.lst ((tups rs i).map rowsT)), x, none, none]) ⟨rfl, _, rfl⟩ ?_ ?_)
    · rintro LF sL i d ρ F hi ⟨rfl, x, rfl⟩ sF
      obtain ⟨j, hj, rfl⟩ := map_at hi
      have hlt : i < m := by
        have := (List.getElem?_eq_some_iff.mp hi).1
        rw [List.length_map, List.length_range] at this; exact this
      have hle : (tups rs i).length * rs.length ≤ 90000 := by
        have h1 := tups_le (m := i) hz (by omega)
        have h2 := Nat.mul_le_mul h1 hz
        omega
      refine nx_asg (d := .lst ((tups rs (i + 1)).map rowsT)) (sF.andZ sL) ?_ ?_
      · have e : (tups rs (i + 1)).map rowsT = (tups rs i).flatMap fun one => rs.map fun r => rowsT (one ++ [r]) := by
          show ((tups rs i).flatMap fun one => rs.map fun r => one ++ [r]).map rowsT = _
          rw [List.map_flatMap]
          congr 1
          funext one
          rw [List.map_map]; rfl
        rw [e]
        refine EvN.toD (evn_lc2 (tups rs i) rs rowsT rowD (fun one r => rowsT (one ++ [r])) (src_list (evd_var rfl)) (fun one _ => src_tup (evd_var rfl)) hle fun one ho r hr => ?_)
        have e2 : rowsT (one ++ [r]) = .tup (one.map rowD ++ [rowD r]) := by unfold rowsT; rw [List.map_append]; rfl
        rw [e2]
        refine evd_op (evd_var (d := rowsT one) rfl) (evd_tup (eva_cons (evd_var rfl) eva_nil) (by show 1 ≤ 100000; decide)) (rvd_catA ?_)
        have := (mem_tups.mp ho).1
        rw [List.length_map]
        show one.length + 1 ≤ 100000
        omega
      · exact as_in ⟨rfl, _, rfl⟩ sF
    · rintro ρ F ⟨rfl, x, rfl⟩ sF
      refine nx_ret sF (evd_var rfl) fun v H oc ex hv => k v H oc ex ?_
      rw [List.length_map, List.length_range] at hv
      exact hv
abbrev s_break_in : Stmt := topS 17
theorem sc_break_in : FnScope ["relation", "table", "rows"] ["relation", "table"] (defScope s_break_in) := ⟨rfl, rfl, rfl, by decide +kernel, rfl, by decide +kernel, by decide +kernel⟩
-- slots: relation 0, table 1, rows 2
theorem sizes_ix {m : Nat} (h1 : 1 ≤ m) (hm : m ≤ 3) : ([1, 2, 4, 8, 16] : List Int)[m]? = some ((2 ^ m : Nat) : Int) ∧ ∀ k, k < m → ([1, 2, 4, 8, 16] : List Int)[k]? ≠ some ((2 ^ m : Nat) : Int) := by
  have key : ∀ m, m < 4 → ([1, 2, 4, 8, 16] : List Int)[m]? = some ((2 ^ m : Nat) : Int) ∧ ∀ k, k < m → ([1, 2, 4, 8, 16] : List Int)[k]? ≠ some ((2 ^ m : Nat) : Int) := by decide
  exact key m (by omega)
theorem Even.tup {rs one : List Row} {n m : Nat} (h : Even rs n) (hm : 1 ≤ m) (ho : one ∈ tups rs m) : Even one n ∧ one.length = m := by
  obtain ⟨h1, h2⟩ := mem_tups.mp ho
  refine ⟨⟨fun e => ?_, fun r hr => h.2.1 r (h2 r hr), h.2.2⟩, h1⟩
  rw [e] at h1
  simp at h1
  omega
def R_breakin (C : Addr) (ds : List Dt) (r : Dt) : Prop := ∃ (rl : Nat × List Row) (t : Row) (m : Nat), Even rl.2 rl.1 ∧ rl.2.length ≤ 16 ∧ 1 ≤ m ∧ m ≤ 3 ∧ t.length = 2 ^ m ∧ ds = [relD C rl, rowD t] ∧ r = resD (brk rl.2 t m)
theorem ok_break_in {C : Addr} (T : Txt K mg) (cR : ClsF K C ["size", "rows"]) (C_tuples_of : C8.Cal P w K mg base 1 "tuples_of" (PureSp K R_tuples) []) (C_made_row : C8.Cal P w K mg base 3 "made_row" (PureSp K R_made) [])
    (Fn : Fun K "break_in" "break_in" s_break_in f fd) : FnOk P w K mg base CX0 4 f fd ["relation", "table"] (PureSp K (R_breakin C)) := by
  refine pure_ok Fn sc_break_in (fun ds r h => ?_) fun ds r h cdv A outer s H E hr => ?_
  · obtain ⟨_, _, _, _, _, _, _, _, rfl, _⟩ := h; rfl
  · obtain ⟨⟨n, rs⟩, t, m, he, hz, h1, hm, ht, rfl, rfl⟩ := h
    have hu : A.units + 3 + 65 < cLine := by have := hr.un; show A.units + 3 + 65 < cLine; exact Nat.lt_of_le_of_lt (by show A.units + 3 + 65 ≤ A.units + 3 + 16 * 3 + 200; omega) this
    refine ⟨_, (pss_cons (ps_for PassesOwn.never rfl (pi_listK (K := K) rfl (C8.pe_c C_tuples_of hr (by decide) rfl (pa_cons (pe_fldK (K := K) rfl (pv 0) rfl) (pa_cons (pe_bmC (K := K) rfl (pe_bm PySem.F.plainAttrs_tuple PySem.F.slot_tuple_index PySem.F.type_tuple_index mt_tupIdx (pe_ktK (K := K) rfl T.SIZES rfl) (pa_cons (pe_callB (r := rLen K) call_len_seq (by rfl) T.len PySem.boot_len (pa_cons (pv 1) pa_nil)) pa_nil))) pa_nil)))) (pg_name (i := 2) sc_break_in.nd rfl (Or.inl rfl))
        (pss_one (ps_if (pt_cmpR (r := rNotInDT K) (op_notInDT hu) (C8.pe_c C_made_row hr (by decide) rfl (pa_cons (pv 1) (pa_cons (pv 2) pa_nil))) (pe_fldK (K := K) rfl (pv 0) rfl) (by rfl)) (pss_one (ps_ret (pv 2))) pss_nil)))
      (pss_one (ps_ret pe_non))), fun Z H0 D k => ?_⟩
    have fldR : ∀ ρ : Rh, ρ[0]? = some (some (relD C (n, rs))) → EvD K (tFld K (tVar 0) "rows") ρ (rowsT rs) := fun ρ h => evd_fld2 (evd_var (d := relD C (n, rs)) h) cR nsz
    have ix := sizes_ix h1 hm
    have hlen : (t.map bitD).length = 2 ^ m := by rw [List.length_map, ht]
    refine nx_seq (nx_forN (stb_ex H0) (src_list (ds := (tups rs m).map rowsT) (evd_call (eva_cons (fldR _ rfl) (eva_cons (evd_tupIdx ix.1 ix.2 (eva_cons (hlen ▸ evd_callB (eva_cons (evd_var (d := rowD t) rfl) eva_nil) rc_lenT) eva_nil)) eva_nil)) ⟨rs, m, hz, hm, rfl, rfl⟩))
      (fun i ρ F => F = Evl.Ex H0 ∧ (∀ k one, k < i → (tups rs m)[k]? = some one → decide (made t one ∉ rs) = false) ∧ ∃ x, ρ = [some (relD C (n, rs)), some (rowD t), x]) ⟨rfl, fun k _ hk => absurd hk (Nat.not_lt_zero k), _, rfl⟩ ?_ ?_)
    · rintro LF sL i d ρ F hi ⟨rfl, hb, x, rfl⟩ sF
      obtain ⟨one, ho, rfl⟩ := map_at hi
      obtain ⟨eo, lo⟩ := he.tup h1 (List.mem_of_getElem? ho)
      refine nx_if (b := decide (made t one ∉ rs)) (sF.andZ sL) (evt_test (evd_op (evd_call (d := rowD (made t one)) (eva_cons (evd_var rfl) (eva_cons (evd_var rfl) eva_nil)) ⟨t, one, n, eo, by omega, by rw [lo]; exact ht, rfl, rfl⟩) (fldR _ rfl) rvd_notInT)) (fun q => ?_) fun q => ?_
      · refine nx_ret (sF.andZ sL) (evd_var rfl) fun v H oc ex hv => k v H oc ex.1 ?_
        have e : brk rs t m = some one := find_some _ ho q fun k b hk e => hb k b hk e
        rw [e]; exact hv
      · refine as_in ⟨rfl, fun k b hk e => ?_, _, rfl⟩ sF
        by_cases hki : k = i
        · subst hki
          rw [ho] at e; cases e
          exact q
        · exact hb k b (by omega) e
    · rintro ρ F ⟨rfl, hb, x, rfl⟩ sF
      refine nx_ret sF evd_non fun v H oc ex hv => k v H oc ex ?_
      have e : brk rs t m = none := find_none _ fun k b hk e => hb k b (by rw [List.length_map]; exact hk) e
      rw [e]; exact hv
end
end Ec
/-! The law's own defs upon rows: place, made, tuples, break, due, every. -/
namespace Ec
open PySem L2
section
variable {P : Program} {w : World} {K : PySem.W.Frag} {mg : Str → Option Value} {base : Heap} {f : Addr} {fd : FuncData}
abbrev s__law_place : Stmt := topS 47
theorem sc__law_place : FnScope ["_law_row", "_law_place_here", "_law_value"] ["_law_row"] (defScope s__law_place) := ⟨rfl, rfl, rfl, by decide +kernel, rfl, by decide +kernel, by decide +kernel⟩
-- slots: _law_row 0, _law_place_here 1, _law_value 2
theorem ok__law_place (T : Txt K mg) (Fn : Fun K "_law_place" "_law_place" s__law_place f fd) : FnOk P w K mg base CX0 1 f fd ["_law_row"] (PureSp K R_number) := by
  refine pure_ok Fn sc__law_place (fun ds r h => ?_) fun ds r h cdv A outer s H E hr => ?_
  · obtain ⟨b, rfl, _⟩ := h; rfl
  · obtain ⟨b, rfl, rfl⟩ := h
    refine ⟨_, (pss_cons (ps_set (i := 1) sc__law_place.nd rfl (Or.inl rfl) pe_int)
      (pss_cons (ps_for PassesOwn.never rfl (pi_listK (K := K) rfl (pv 0)) (pg_name (i := 2) sc__law_place.nd rfl (Or.inl rfl))
        (pss_one (ps_set (i := 1) sc__law_place.nd rfl (Or.inl rfl) (pe_op op_add (pe_op op_mul pe_int (pv 1)) (pv 2)))))
      (pss_one (ps_ret (pv 1))))), fun Z H0 D k => ?_⟩
    refine nx_seq (nx_asg (stb_ex H0) evd_int ?_)
    refine nx_seq (nx_forN (stb_ex H0) (src_list (evd_var rfl)) (fun i ρ F => F = Evl.Ex H0 ∧ ∃ x, ρ = [some (.lst (b.map bitD)), some (.int (num (b.take i) : Nat)), x]) ⟨rfl, _, rfl⟩ ?_ ?_)
    · rintro LF sL i d ρ F hi ⟨rfl, x, rfl⟩ sF
      obtain ⟨c, hc, rfl⟩ := map_at hi
      refine nx_asg (sF.andZ sL) (evd_i0 (evd_i evd_int (evd_var rfl) (.inl ⟨by decide, by decide⟩)) (evd_var rfl)) ?_
      refine as_in ⟨rfl, some (bitD c), ?_⟩ sF
      have e : num (b.take (i + 1)) = 2 * num (b.take i) + c.toNat := by
        rw [List.take_succ, hc]
        exact num_snoc _ _
      rw [e]
      show [_, some (Dt.int (2 * (num (b.take i) : Int) + (c.toNat : Int))), _] = _
      rw [Int.natCast_add, Int.natCast_mul]
      rfl
    · rintro ρ F ⟨rfl, x, rfl⟩ sF
      refine nx_ret sF (evd_var rfl) fun v H oc ex hv => k v H oc ex ?_
      rw [List.length_map, List.take_length] at hv
      exact hv
abbrev s__law_made : Stmt := topS 48
theorem sc__law_made : FnScope ["_law_table", "_law_rows_here", "_law_j", "_law_row"] ["_law_table", "_law_rows_here"] (defScope s__law_made) := ⟨rfl, rfl, rfl, by decide +kernel, rfl, by decide +kernel, by decide +kernel⟩
-- slots: _law_table 0c, _law_rows_here 1c, _law_j 2, _law_row 3
def R_lmade (ds : List Dt) (r : Dt) : Prop := ∃ (t : Row) (rs : List Row) (n : Nat), Even rs n ∧ rs.length ≤ 100 ∧ t.length = 2 ^ rs.length ∧ ds = [rowD t, rowsT rs] ∧ r = rowH (made t rs)
theorem ok__law_made (T : Txt K mg) (C__law_place : C8.Cal P w K mg base 1 "_law_place" (PureSp K R_number) []) (Fn : Fun K "_law_made" "_law_made" s__law_made f fd) : FnOk P w K mg base CX0 2 f fd ["_law_table", "_law_rows_here"] (PureSp K R_lmade) := by
  refine pure_ok Fn sc__law_made (fun ds r h => ?_) fun ds r h cdv A outer s H E hr => ?_
  · obtain ⟨_, _, _, _, _, _, rfl, _⟩ := h; rfl
  · obtain ⟨t, rs, n, he, hz, ht, rfl, rfl⟩ := h
    obtain ⟨r0, h0, hn0, hh⟩ := he.head
    have hn := he.2.1
    refine ⟨_, (pss_one (ps_ret (pe_callTy (r := rTupO K) call_tuple_of (by rfl) T.tuple (by decide +kernel) (pa_cons (pe_lc (own := [("_law_j", 2)]) (g := (gName 2)) (tt := tYes) rfl sc__law_made.nd (pi_range1 rfl T.range (pa_cons (pe_callB (r := rLen K) call_len_seq (by rfl) T.len PySem.boot_len (pa_cons (pe_ix (r := rIx K) ix_seq (pv 1) pe_int (fun _ _ => rfl)) pa_nil)) pa_nil)) (blkOk_by (by kernel_rfl)) (fun _ _ _ _ _ => (pg_name (i := 2) sc__law_made.nd rfl (Or.inr rfl))) (fun _ _ _ _ _ => pts_nil) (fun _ _ _ _ _ => (pe_ix (r := rIx K) ix_seq (pv 0) (C8.pe_c C__law_place hr (by decide) rfl (pa_cons (pe_lc (own := [("_law_row", 3)]) (g := (gName 3)) (tt := tYes) rfl sc__law_made.nd (pi_tupK (K := K) rfl (pv 1)) (blkOk_by (by kernel_rfl)) (fun _ _ _ _ _ => (pg_name (i := 3) sc__law_made.nd rfl (Or.inl rfl))) (fun _ _ _ _ _ => pts_nil) (fun _ _ _ _ _ => (pe_ix (r := rIx K) ix_seq (pv 3) (pv 2) (fun _ _ => rfl)))) pa_nil)) (fun _ _ => rfl)))) pa_nil)))), fun Z H0 D k => ?_⟩
    have e0 : (rs.map rowD)[0]? = some (rowD r0) := by rw [List.getElem?_map, h0]; rfl
    have hl : (r0.map bitD).length = n := by rw [List.length_map, hn0]
    have e : rowH (made t rs) = .tpl ((List.range n).map fun j => bitD (t.getD (num (col rs j)) false)) := by
      unfold rowH made
      rw [hh, List.map_map]
      rfl
    rw [e] at k
    refine nx_ret (stb_ex H0) (evd_callB (eva_cons (EvN.toD (evn_lcM (List.range n) (fun j : Nat => .int (j : Int)) (fun j => bitD (t.getD (num (col rs j)) false))
      (src_rangeM (eva_cons (hl ▸ evd_callB (eva_cons (evd_op (evd_var (d := rowsT rs) rfl) evd_int (rvd_ixt (n := 0) rfl e0)) eva_nil) rc_lenT) eva_nil) (Nat.le_trans he.2.2 (by decide))) (by rw [List.length_range]; exact Nat.le_trans he.2.2 (by decide)) fun i j hj => ?_)) eva_nil) rc_tupLH) fun v H oc ex hv => k v H oc ex hv
    have hjn : j < n := List.mem_range.mp (List.mem_of_getElem? hj)
    refine evd_op (evd_var (d := rowD t) rfl) (evd_call (d := .int (num (col rs j) : Nat)) (eva_cons (EvN.toD (evn_lcM rs rowD (fun r => bitD (r.getD j false)) (src_tup (evd_var rfl)) (Nat.le_trans hz (by decide)) fun i r hr => ?_)) eva_nil) ⟨col rs j, by unfold col; rw [List.map_map]; rfl, rfl⟩) (rvd_ixt rfl (rowD_at ?_))
    · exact evd_op (evd_var rfl) (evd_var rfl) (rvd_ixt rfl (rowD_at (by rw [hn r (List.mem_of_getElem? hr)]; exact hjn)))
    · have := num_lt (col rs j)
      rw [col_length] at this
      omega
abbrev s__law_tuples : Stmt := topS 49
theorem sc__law_tuples : FnScope ["_law_rows_here", "_law_m", "_law_found", "_law_k", "_law_longer", "_law_one", "_law_row"] ["_law_rows_here", "_law_m"] (defScope s__law_tuples) := ⟨rfl, rfl, rfl, by decide +kernel, rfl, by decide +kernel, by decide +kernel⟩
-- slots: _law_rows_here 0, _law_m 1, _law_found 2, _law_k 3, _law_longer 4, _law_one 5c, _law_row 6
def R_ltuples (ds : List Dt) (r : Dt) : Prop := ∃ (rs : List Row) (m : Nat), rs.length ≤ 16 ∧ m ≤ 3 ∧ (ds = [rowsT rs, .int (m : Int)] ∨ ds = [rowsL rs, .int (m : Int)]) ∧ r = .lst ((tups rs m).map rowsT)
theorem ok__law_tuples (T : Txt K mg) (Fn : Fun K "_law_tuples" "_law_tuples" s__law_tuples f fd) : FnOk P w K mg base CX0 1 f fd ["_law_rows_here", "_law_m"] (PureSp K R_ltuples) := by
  refine pure_ok Fn sc__law_tuples (fun ds r h => ?_) fun ds r h cdv A outer s H E hr => ?_
  · obtain ⟨_, _, _, _, rfl | rfl, _⟩ := h <;> rfl
  obtain ⟨rs, m, hz, hm, rfl | rfl, rfl⟩ := h
  · skip
    refine ⟨_, (pss_cons (ps_set (i := 2) sc__law_tuples.nd rfl (Or.inl rfl) (pe_lst (pa_cons (pe_tup pa_nil) pa_nil)))
      (pss_cons (ps_for PassesOwn.never rfl (pi_range1 rfl T.range (pa_cons (pv 1) pa_nil)) (pg_name (i := 3) sc__law_tuples.nd rfl (Or.inl rfl))
        (pss_cons (ps_set (i := 4) sc__law_tuples.nd rfl (Or.inl rfl) (pe_lst pa_nil))
        (pss_cons (ps_for PassesOwn.never rfl (pi_listK (K := K) rfl (pv 2)) (pg_name (i := 5) sc__law_tuples.nd rfl (Or.inr rfl))
          (pss_one (ps_set (i := 4) sc__law_tuples.nd rfl (Or.inl rfl) (pe_op op_cat (pv 4) (pe_lc (own := [("_law_row", 6)]) (g := (gName 6)) (tt := tYes) rfl sc__law_tuples.nd (pi_tupK (K := K) rfl (pv 0)) (blkOk_by (by kernel_rfl)) (fun _ _ _ _ _ => (pg_name (i := 6) sc__law_tuples.nd rfl (Or.inl rfl))) (fun _ _ _ _ _ => pts_nil) (fun _ _ _ _ _ => (pe_op (r := rCatA K) op_catA (pv 5) (pe_tup (pa_cons (pv 6) pa_nil)))))))))
        (pss_one (ps_set (i := 2) sc__law_tuples.nd rfl (Or.inl rfl) (pv 4))))))
      (pss_one (ps_ret (pv 2))))), fun Z H0 D k => ?_⟩
    refine nx_seq (nx_asg (d := .lst ((tups rs 0).map rowsT)) (stb_ex H0) (EvN.toD (evn_lst (eva_cons (evd_tup eva_nil (by decide)) eva_nil) (by show 1 ≤ 100000; decide))) ?_)
    refine nx_seq (nx_forN (stb_ex H0) (src_rangeM (n := m) (eva_cons (evd_var rfl) eva_nil) (by omega)) (fun i ρ F => F = Evl.Ex H0 ∧ ∃ x y z u, ρ = [some (rowsT rs), some (.int (m : Int)), some (.lst ((tups rs i).map rowsT)), x, y, z, u]) ⟨rfl, _, _, _, _, rfl⟩ ?_ ?_)
    · rintro LF sL i d ρ F hi ⟨rfl, x, y, z, u, rfl⟩ sF
      obtain ⟨j, hj, rfl⟩ := map_at hi
      have hlt : i < m := by
        have := (List.getElem?_eq_some_iff.mp hi).1
        rw [List.length_map, List.length_range] at this; exact this
      refine nx_seq (nx_asg (d := .lst []) (sF.andZ sL) (EvN.toD (evn_lst eva_nil (by decide))) ?_)
      refine nx_seq (nx_forN (sF.andZ sL) (src_list (ds := (tups rs i).map rowsT) (evd_var rfl)) (fun l ρ F' => F' = (fun H => Evl.Ex H0 H ∧ LF H) ∧ ∃ y', ρ = [some (rowsT rs), some (.int (m : Int)), some (.lst ((tups rs i).map rowsT)), some (.int (j : Int)), some (.lst ((((tups rs i).take l).flatMap fun one => rs.map fun r => one ++ [r]).map rowsT)), y', u]) ⟨rfl, _, rfl⟩ ?_ ?_)
      · rintro LG sG l d ρ F hl ⟨rfl, y', rfl⟩ sF2
        obtain ⟨one, ho, rfl⟩ := map_at hl
        have hll : l < (tups rs i).length := (List.getElem?_eq_some_iff.mp ho).1
        have hle := tups_le (m := i) hz (by omega)
        have hflen : (((tups rs i).take l).flatMap fun one => rs.map fun r => one ++ [r]).length ≤ 65536 := by
          rw [List.length_flatMap]
          have e : (((tups rs i).take l).map fun one => (rs.map fun r => one ++ [r]).length) = ((tups rs i).take l).map fun _ => rs.length := List.map_congr_left fun _ _ => List.length_map _
          rw [e, List.map_const', List.sum_replicate_nat, List.length_take]
          have := Nat.mul_le_mul (show min l (tups rs i).length ≤ 4096 by omega) hz
          omega
        refine nx_asg (d := .lst ((((tups rs i).take (l + 1)).flatMap fun one => rs.map fun r => one ++ [r]).map rowsT)) (sF2.andZ sG) ?_ (as_in ⟨rfl, _, rfl⟩ sF2)
        rw [take_flatMap _ ho, List.map_append]
        have e3 : (rs.map fun r => one ++ [r]).map rowsT = rs.map fun r => rowsT (one ++ [r]) := by rw [List.map_map]; rfl
        rw [e3]
        refine EvN.toD (evn_cat (evd_var rfl) (EvN.toD (evn_lcM rs rowD (fun r => rowsT (one ++ [r])) (src_tup (evd_var rfl)) (by omega) fun i' r hr => ?_)) (by rw [List.length_map, List.length_map]; omega))
        have e2 : rowsT (one ++ [r]) = .tup (one.map rowD ++ [rowD r]) := by unfold rowsT; rw [List.map_append]; rfl
        rw [e2]
        refine evd_op (evd_var (d := rowsT one) rfl) (evd_tup (eva_cons (evd_var rfl) eva_nil) (by show 1 ≤ 100000; decide)) (rvd_catA ?_)
        have := (mem_tups.mp (List.mem_of_getElem? ho)).1
        rw [List.length_map]
        show one.length + 1 ≤ 100000
        omega
      · rintro ρ F ⟨rfl, y', rfl⟩ sF2
        show Nx K Z _ _ (tAsg (tVar 4) (gName 2) _)
        refine nx_asg (d := .lst ((tups rs (i + 1)).map rowsT)) sF2 ?_ ?_
        · refine evd_var ?_
          rw [List.length_map, List.take_length]
          rfl
        · exact as_in ⟨rfl, _, _, _, _, rfl⟩ sF
    · rintro ρ F ⟨rfl, x, y, z, u, rfl⟩ sF
      refine nx_ret sF (evd_var rfl) fun v H oc ex hv => k v H oc ex ?_
      rw [List.length_map, List.length_range] at hv
      exact hv
  · skip
    refine ⟨_, (pss_cons (ps_set (i := 2) sc__law_tuples.nd rfl (Or.inl rfl) (pe_lst (pa_cons (pe_tup pa_nil) pa_nil)))
      (pss_cons (ps_for PassesOwn.never rfl (pi_range1 rfl T.range (pa_cons (pv 1) pa_nil)) (pg_name (i := 3) sc__law_tuples.nd rfl (Or.inl rfl))
        (pss_cons (ps_set (i := 4) sc__law_tuples.nd rfl (Or.inl rfl) (pe_lst pa_nil))
        (pss_cons (ps_for PassesOwn.never rfl (pi_listK (K := K) rfl (pv 2)) (pg_name (i := 5) sc__law_tuples.nd rfl (Or.inr rfl))
          (pss_one (ps_set (i := 4) sc__law_tuples.nd rfl (Or.inl rfl) (pe_op op_cat (pv 4) (pe_lc (own := [("_law_row", 6)]) (g := (gName 6)) (tt := tYes) rfl sc__law_tuples.nd (pi_listK (K := K) rfl (pv 0)) (blkOk_by (by kernel_rfl)) (fun _ _ _ _ _ => (pg_name (i := 6) sc__law_tuples.nd rfl (Or.inl rfl))) (fun _ _ _ _ _ => pts_nil) (fun _ _ _ _ _ => (pe_op (r := rCatA K) op_catA (pv 5) (pe_tup (pa_cons (pv 6) pa_nil)))))))))
        (pss_one (ps_set (i := 2) sc__law_tuples.nd rfl (Or.inl rfl) (pv 4))))))
      (pss_one (ps_ret (pv 2))))), fun Z H0 D k => ?_⟩
    refine nx_seq (nx_asg (d := .lst ((tups rs 0).map rowsT)) (stb_ex H0) (EvN.toD (evn_lst (eva_cons (evd_tup eva_nil (by decide)) eva_nil) (by show 1 ≤ 100000; decide))) ?_)
    refine nx_seq (nx_forN (stb_ex H0) (src_rangeM (n := m) (eva_cons (evd_var rfl) eva_nil) (by omega)) (fun i ρ F => F = Evl.Ex H0 ∧ ∃ x y z u, ρ = [some (rowsL rs), some (.int (m : Int)), some (.lst ((tups rs i).map rowsT)), x, y, z, u]) ⟨rfl, _, _, _, _, rfl⟩ ?_ ?_)
    · rintro LF sL i d ρ F hi ⟨rfl, x, y, z, u, rfl⟩ sF
      obtain ⟨j, hj, rfl⟩ := map_at hi
      have hlt : i < m := by
        have := (List.getElem?_eq_some_iff.mp hi).1
        rw [List.length_map, List.length_range] at this; exact this
      refine nx_seq (nx_asg (d := .lst []) (sF.andZ sL) (EvN.toD (evn_lst eva_nil (by decide))) ?_)
      refine nx_seq (nx_forN (sF.andZ sL) (src_list (ds := (tups rs i).map rowsT) (evd_var rfl)) (fun l ρ F' => F' = (fun H => Evl.Ex H0 H ∧ LF H) ∧ ∃ y', ρ = [some (rowsL rs), some (.int (m : Int)), some (.lst ((tups rs i).map rowsT)), some (.int (j : Int)), some (.lst ((((tups rs i).take l).flatMap fun one => rs.map fun r => one ++ [r]).map rowsT)), y', u]) ⟨rfl, _, rfl⟩ ?_ ?_)
      · rintro LG sG l d ρ F hl ⟨rfl, y', rfl⟩ sF2
        obtain ⟨one, ho, rfl⟩ := map_at hl
        have hll : l < (tups rs i).length := (List.getElem?_eq_some_iff.mp ho).1
        have hle := tups_le (m := i) hz (by omega)
        have hflen : (((tups rs i).take l).flatMap fun one => rs.map fun r => one ++ [r]).length ≤ 65536 := by
          rw [List.length_flatMap]
          have e : (((tups rs i).take l).map fun one => (rs.map fun r => one ++ [r]).length) = ((tups rs i).take l).map fun _ => rs.length := List.map_congr_left fun _ _ => List.length_map _
          rw [e, List.map_const', List.sum_replicate_nat, List.length_take]
          have := Nat.mul_le_mul (show min l (tups rs i).length ≤ 4096 by omega) hz
          omega
        refine nx_asg (d := .lst ((((tups rs i).take (l + 1)).flatMap fun one => rs.map fun r => one ++ [r]).map rowsT)) (sF2.andZ sG) ?_ (as_in ⟨rfl, _, rfl⟩ sF2)
        rw [take_flatMap _ ho, List.map_append]
        have e3 : (rs.map fun r => one ++ [r]).map rowsT = rs.map fun r => rowsT (one ++ [r]) := by rw [List.map_map]; rfl
        rw [e3]
        refine EvN.toD (evn_cat (evd_var rfl) (EvN.toD (evn_lcM rs rowD (fun r => rowsT (one ++ [r])) (src_list (evd_var rfl)) (by omega) fun i' r hr => ?_)) (by rw [List.length_map, List.length_map]; omega))
        have e2 : rowsT (one ++ [r]) = .tup (one.map rowD ++ [rowD r]) := by unfold rowsT; rw [List.map_append]; rfl
        rw [e2]
        refine evd_op (evd_var (d := rowsT one) rfl) (evd_tup (eva_cons (evd_var rfl) eva_nil) (by show 1 ≤ 100000; decide)) (rvd_catA ?_)
        have := (mem_tups.mp (List.mem_of_getElem? ho)).1
        rw [List.length_map]
        show one.length + 1 ≤ 100000
        omega
      · rintro ρ F ⟨rfl, y', rfl⟩ sF2
        show Nx K Z _ _ (tAsg (tVar 4) (gName 2) _)
        refine nx_asg (d := .lst ((tups rs (i + 1)).map rowsT)) sF2 ?_ ?_
        · refine evd_var ?_
          rw [List.length_map, List.take_length]
          rfl
        · exact as_in ⟨rfl, _, _, _, _, rfl⟩ sF
    · rintro ρ F ⟨rfl, x, y, z, u, rfl⟩ sF
      refine nx_ret sF (evd_var rfl) fun v H oc ex hv => k v H oc ex ?_
      rw [List.length_map, List.length_range] at hv
      exact hv
abbrev s__law_break : Stmt := topS 50
theorem sc__law_break : FnScope ["_law_relation", "_law_table", "_law_m", "_law_rows_here", "_law_one"] ["_law_relation", "_law_table", "_law_m"] (defScope s__law_break) := ⟨rfl, rfl, rfl, by decide +kernel, rfl, by decide +kernel, by decide +kernel⟩
-- slots: _law_relation 0, _law_table 1, _law_m 2, _law_rows_here 3, _law_one 4
def R_lbreak (ds : List Dt) (r : Dt) : Prop := ∃ (rl : Nat × List Row) (t : Row) (m : Nat), Even rl.2 rl.1 ∧ rl.2.length ≤ 16 ∧ 1 ≤ m ∧ m ≤ 3 ∧ t.length = 2 ^ m ∧ ds = [rlD rl, rowD t, .int (m : Int)] ∧ r = resD (brk rl.2 t m)
theorem ok__law_break (T : Txt K mg) (C__law_tuples : C8.Cal P w K mg base 1 "_law_tuples" (PureSp K R_ltuples) []) (C__law_made : C8.Cal P w K mg base 2 "_law_made" (PureSp K R_lmade) [])
    (Fn : Fun K "_law_break" "_law_break" s__law_break f fd) : FnOk P w K mg base CX0 3 f fd ["_law_relation", "_law_table", "_law_m"] (PureSp K R_lbreak) := by
  refine pure_ok Fn sc__law_break (fun ds r h => ?_) fun ds r h cdv A outer s H E hr => ?_
  · obtain ⟨_, _, _, _, _, _, _, _, rfl, _⟩ := h; rfl
  · obtain ⟨⟨n, rs⟩, t, m, he, hz, h1, hm, ht, rfl, rfl⟩ := h
    have hu : A.units + 3 + 65 < cLine := by have := hr.un; show A.units + 3 + 65 < cLine; exact Nat.lt_of_le_of_lt (by show A.units + 3 + 65 ≤ A.units + 3 + 16 * 2 + 200; omega) this
    refine ⟨_, (pss_cons (ps_set (i := 3) sc__law_break.nd rfl (Or.inl rfl) (pe_ix (r := rIx K) ix_seq (pv 0) pe_int (fun _ _ => rfl)))
      (pss_cons (ps_for PassesOwn.never rfl (pi_listK (K := K) rfl (C8.pe_c C__law_tuples hr (by decide) rfl (pa_cons (pv 3) (pa_cons (pv 2) pa_nil)))) (pg_name (i := 4) sc__law_break.nd rfl (Or.inl rfl))
        (pss_one (ps_if (pt_cmpR (r := rNotInDT K) (op_notInDT hu) (C8.pe_c C__law_made hr (by decide) rfl (pa_cons (pv 1) (pa_cons (pv 4) pa_nil))) (pv 3) (by rfl)) (pss_one (ps_ret (pv 4))) pss_nil)))
      (pss_one (ps_ret pe_non)))), fun Z H0 D k => ?_⟩
    refine nx_seq (nx_asg (d := rowsT rs) (stb_ex H0) (evd_op (evd_var (d := rlD (n, rs)) rfl) evd_int (rvd_ixt (n := 1) rfl rfl)) ?_)
    refine nx_seq (nx_forN (stb_ex H0) (src_list (ds := (tups rs m).map rowsT) (evd_call (eva_cons (evd_var rfl) (eva_cons (evd_var rfl) eva_nil)) ⟨rs, m, hz, hm, .inl rfl, rfl⟩))
      (fun i ρ F => F = Evl.Ex H0 ∧ (∀ k one, k < i → (tups rs m)[k]? = some one → decide (made t one ∉ rs) = false) ∧ ∃ x, ρ = [some (rlD (n, rs)), some (rowD t), some (.int (m : Int)), some (rowsT rs), x]) ⟨rfl, fun k _ hk => absurd hk (Nat.not_lt_zero k), _, rfl⟩ ?_ ?_)
    · rintro LF sL i d ρ F hi ⟨rfl, hb, x, rfl⟩ sF
      obtain ⟨one, ho, rfl⟩ := map_at hi
      obtain ⟨eo, lo⟩ := he.tup h1 (List.mem_of_getElem? ho)
      refine nx_if (b := decide (made t one ∉ rs)) (sF.andZ sL) (evt_test (evd_op ((evd_call (d := rowH (made t one)) (eva_cons (evd_var rfl) (eva_cons (evd_var rfl) eva_nil)) ⟨t, one, n, eo, by omega, by rw [lo]; exact ht, rfl, rfl⟩).wk fun _ _ => lowR) (evd_var rfl) rvd_notInT)) (fun q => ?_) fun q => ?_
      · refine nx_ret (sF.andZ sL) (evd_var rfl) fun v H oc ex hv => k v H oc ex.1 ?_
        have e : brk rs t m = some one := find_some _ ho q fun k b hk e => hb k b hk e
        rw [e]; exact hv
      · refine as_in ⟨rfl, fun k b hk e => ?_, _, rfl⟩ sF
        by_cases hki : k = i
        · subst hki
          rw [ho] at e; cases e
          exact q
        · exact hb k b (by omega) e
    · rintro ρ F ⟨rfl, hb, x, rfl⟩ sF
      refine nx_ret sF evd_non fun v H oc ex hv => k v H oc ex ?_
      have e : brk rs t m = none := find_none _ fun k b hk e => hb k b (by rw [List.length_map]; exact hk) e
      rw [e]; exact hv
abbrev s__law_due : Stmt := topS 59
theorem sc__law_due : FnScope ["_law_book_here", "_law_table", "_law_r", "_law_shown"] ["_law_book_here", "_law_table"] (defScope s__law_due) := ⟨rfl, rfl, rfl, by decide +kernel, rfl, by decide +kernel, by decide +kernel⟩
-- slots: _law_book_here 0, _law_table 1, _law_r 2, _law_shown 3
theorem due_shift {m : Nat} {t : Row} : ∀ {bk : List (List Row)} {i k : Nat} {one : List Row} {rs : List Row}, bk[i]? = some rs → brk rs t m = some one → (∀ (j : Nat) (qs : List Row), j < i → bk[j]? = some qs → brk qs t m = none) → due m t k bk = some (k + i, one)
  | [], i, k, one, rs, h, _, _ => by simp at h
  | x :: bk, 0, k, one, rs, h, hb, _ => by
    simp at h; subst h
    unfold due
    rw [hb]; rfl
  | x :: bk, i + 1, k, one, rs, h, hb, hn => by
    unfold due
    rw [hn 0 x (by omega) rfl]
    show due m t (k + 1) bk = _
    rw [due_shift (i := i) (by simpa using h) hb fun j qs hj e => hn (j + 1) qs (by omega) (by simpa using e), show k + 1 + i = k + (i + 1) by omega]
theorem due_none_of {m : Nat} {t : Row} : ∀ {bk : List (List Row)} {k : Nat}, (∀ (j : Nat) (qs : List Row), bk[j]? = some qs → brk qs t m = none) → due m t k bk = none
  | [], _, _ => rfl
  | x :: bk, k, h => by
    unfold due
    rw [h 0 x rfl]
    exact due_none_of fun j qs e => h (j + 1) qs (by simpa using e)
def Fit (bk : List (Nat × List Row)) : Prop := ∀ rl ∈ bk, Even rl.2 rl.1 ∧ rl.2.length ≤ 16
def R_ldue (ds : List Dt) (r : Dt) : Prop := ∃ (bk : List (Nat × List Row)) (t : Row), Fit bk ∧ bk.length ≤ 6 ∧ t.length = 8 ∧ ds = [.lst (bk.map rlD), rowD t] ∧ r = dueD (due 3 t 0 (bk.map (·.2)))
theorem notNon {o : Option (List Row)} (h : o.isSome = true) (H : Hp) (v : V) (hv : Dd K H v (resD o)) : decide (v = V.non) = false := by
  cases o with
  | none => cases h
  | some one => exact tupNot H v hv
theorem resNon (o : Option (List Row)) (H : Hp) (v : V) (hv : Dd K H v (resD o)) : decide (v = V.non) = o.isNone := by
  cases o with
  | none => exact isNon H v hv
  | some one => exact tupNot H v hv
theorem ok__law_due (T : Txt K mg) (C__law_break : C8.Cal P w K mg base 3 "_law_break" (PureSp K R_lbreak) []) (Fn : Fun K "_law_due" "_law_due" s__law_due f fd) : FnOk P w K mg base CX0 4 f fd ["_law_book_here", "_law_table"] (PureSp K R_ldue) := by
  refine pure_ok Fn sc__law_due (fun ds r h => ?_) fun ds r h cdv A outer s H E hr => ?_
  · obtain ⟨_, _, _, _, _, rfl, _⟩ := h; rfl
  · obtain ⟨bk, t, hf, hz, ht, rfl, rfl⟩ := h
    refine ⟨_, (pss_cons (ps_for PassesOwn.never rfl (pi_range1 rfl T.range (pa_cons (pe_callB (r := rLen K) call_len_seq (by rfl) T.len PySem.boot_len (pa_cons (pv 0) pa_nil)) pa_nil)) (pg_name (i := 2) sc__law_due.nd rfl (Or.inl rfl))
        (pss_cons (ps_set (i := 3) sc__law_due.nd rfl (Or.inl rfl) (C8.pe_c C__law_break hr (by decide) rfl (pa_cons (pe_ix (r := rIx K) ix_seq (pv 0) (pv 2) (fun _ _ => rfl)) (pa_cons (pv 1) (pa_cons pe_int pa_nil)))))
        (pss_one (ps_if (pt_cmpR op_notN (pv 3) pe_non (nomark _)) (pss_one (ps_ret (pe_tup (pa_cons (pv 2) (pa_cons (pv 3) pa_nil))))) pss_nil))))
      (pss_one (ps_ret pe_non))), fun Z H0 D k => ?_⟩
    refine nx_seq (nx_forN (stb_ex H0) (src_rangeM (n := bk.length) (eva_cons (List.length_map rlD ▸ evd_callB (eva_cons (evd_var (d := .lst (bk.map rlD)) rfl) eva_nil) rc_lenL) eva_nil) (by omega))
      (fun i ρ F => F = Evl.Ex H0 ∧ (∀ j rl, j < i → bk[j]? = some rl → brk rl.2 t 3 = none) ∧ ∃ x y, ρ = [some (.lst (bk.map rlD)), some (rowD t), x, y]) ⟨rfl, fun k _ hk => absurd hk (Nat.not_lt_zero k), _, _, rfl⟩ ?_ ?_)
    · rintro LF sL i d ρ F hi ⟨rfl, hb, x, y, rfl⟩ sF
      have hil : i < bk.length := by
        have := (List.getElem?_eq_some_iff.mp hi).1
        rw [List.length_map, List.length_range] at this; exact this
      have ei : d = .int (i : Int) := by
        rw [List.getElem?_map, List.getElem?_range hil] at hi
        exact (Option.some.inj hi).symm
      subst ei
      obtain ⟨rl, hrl⟩ : ∃ rl, bk[i]? = some rl := ⟨bk[i], List.getElem?_eq_getElem hil⟩
      obtain ⟨q1, q2⟩ := hf rl (List.mem_of_getElem? hrl)
      refine nx_seq (nx_asg (d := resD (brk rl.2 t 3)) (sF.andZ sL) (evd_call (eva_cons (evd_op (evd_var (d := .lst (bk.map rlD)) rfl) (evd_var rfl) (rvd_ixl (d := rlD rl) rfl (by rw [List.getElem?_map, hrl]; rfl))) (eva_cons (evd_var rfl) (eva_cons (evd_int (i := 3)) eva_nil))) ⟨rl, t, 3, q1, q2, by decide, by decide, by rw [ht], rfl, rfl⟩) ?_)
      refine nx_if (sF.andZ sL) (evt_test (evd_notN (evd_var rfl) (resNon _))) (fun q => ?_) fun q => ?_
      · cases hbk : brk rl.2 t 3 with
        | none => rw [hbk] at q; cases q
        | some one =>
          refine nx_ret (d := .tup [.int (i : Int), rowsT one]) (sF.andZ sL) (evd_tup (eva_cons (evd_var rfl) (eva_cons (evd_var (by show _ = some (some (resD (some one))); rw [← hbk]; rfl)) eva_nil)) (by show 2 ≤ 100000; decide)) fun v H oc ex hv => k v H oc ex.1 ?_
          have e := due_shift (k := 0) (bk := bk.map (·.2)) (i := i) (rs := rl.2) (by rw [List.getElem?_map, hrl]; rfl) hbk fun j qs hj e => by
            obtain ⟨rj, h1, rfl⟩ := Option.map_eq_some_iff.mp (by rw [List.getElem?_map] at e; exact e)
            exact hb j rj hj h1
          rw [e, Nat.zero_add]
          exact hv
      · have hn : brk rl.2 t 3 = none := by
          cases h : brk rl.2 t 3 with
          | none => rfl
          | some one => rw [h] at q; cases q
        refine as_in ⟨rfl, fun j rj hj e => ?_, _, _, rfl⟩ sF
        by_cases hji : j = i
        · subst hji
          rw [hrl] at e; cases e
          exact hn
        · exact hb j rj (by omega) e
    · rintro ρ F ⟨rfl, hb, x, y, rfl⟩ sF
      refine nx_ret sF evd_non fun v H oc ex hv => k v H oc ex ?_
      have e : due 3 t 0 (bk.map (·.2)) = none := due_none_of fun j qs e => by
        obtain ⟨rj, h1, rfl⟩ := Option.map_eq_some_iff.mp (by rw [List.getElem?_map] at e; exact e)
        exact hb j rj (by
          rw [List.length_map, List.length_range]
          exact (List.getElem?_eq_some_iff.mp h1).1) h1
      rw [e]; exact hv
abbrev s__law_every : Stmt := topS 45
theorem sc__law_every : FnScope ["_law_many", "_law_found", "_law_k", "_law_longer", "_law_row"] ["_law_many"] (defScope s__law_every) := ⟨rfl, rfl, rfl, by decide +kernel, rfl, by decide +kernel, by decide +kernel⟩
-- slots: _law_many 0, _law_found 1, _law_k 2, _law_longer 3, _law_row 4
def R_every (ds : List Dt) (r : Dt) : Prop := ∃ m : Nat, m ≤ 4 ∧ ds = [.int (m : Int)] ∧ r = rowsHL (every m)
theorem every_len : ∀ m, (every m).length = 2 ^ m
  | 0 => rfl
  | m + 1 => by
    unfold every
    rw [List.length_flatMap]
    have e : ((every m).map fun r => [r ++ [false], r ++ [true]].length) = (every m).map fun _ => 2 := rfl
    rw [e, List.map_const', List.sum_replicate_nat, every_len m, Nat.pow_succ]
theorem every_row : ∀ {m : Nat} {r : Row}, r ∈ every m → r.length = m
  | 0, r, h => by
    unfold every at h
    rw [List.mem_singleton.mp h]; rfl
  | m + 1, r, h => by
    unfold every at h
    obtain ⟨q, hq, h⟩ := List.mem_flatMap.mp h
    have e := every_row hq
    rcases List.mem_cons.mp h with h | h
    · rw [h, List.length_append, e]; rfl
    · rw [List.mem_singleton.mp h, List.length_append, e]; rfl
theorem rowH_snoc (r : Row) (b : Bool) : rowH (r ++ [b]) = .tpl (r.map bitD ++ [bitD b]) := by unfold rowH; rw [List.map_append]; rfl
theorem ok__law_every (T : Txt K mg) (Fn : Fun K "_law_every" "_law_every" s__law_every f fd) : FnOk P w K mg base CX0 1 f fd ["_law_many"] (PureSp K R_every) := by
  refine pure_ok Fn sc__law_every (fun ds r h => ?_) fun ds r h cdv A outer s H E hr => ?_
  · obtain ⟨_, _, rfl, _⟩ := h; rfl
  · obtain ⟨m, hm, rfl, rfl⟩ := h
    refine ⟨_, (pss_cons (ps_set (i := 1) sc__law_every.nd rfl (Or.inl rfl) (pe_lst (pa_cons (pe_tup pa_nil) pa_nil)))
      (pss_cons (ps_for PassesOwn.never rfl (pi_range1 rfl T.range (pa_cons (pv 0) pa_nil)) (pg_name (i := 2) sc__law_every.nd rfl (Or.inl rfl))
        (pss_cons (ps_set (i := 3) sc__law_every.nd rfl (Or.inl rfl) (pe_lst pa_nil))
        (pss_cons (ps_for PassesOwn.never rfl (pi_listK (K := K) rfl (pv 1)) (pg_name (i := 4) sc__law_every.nd rfl (Or.inl rfl))
          (pss_one (ps_set (i := 3) sc__law_every.nd rfl (Or.inl rfl) (pe_op op_cat (pv 3) (pe_lst (pa_cons (pe_op (r := rCatA K) op_catA (pv 4) (pe_tup (pa_cons pe_int pa_nil))) (pa_cons (pe_op (r := rCatA K) op_catA (pv 4) (pe_tup (pa_cons pe_int pa_nil))) pa_nil)))))))
        (pss_one (ps_set (i := 1) sc__law_every.nd rfl (Or.inl rfl) (pv 3))))))
      (pss_one (ps_ret (pv 1))))), fun Z H0 D k => ?_⟩
    refine nx_seq (nx_asg (d := rowsHL (every 0)) (stb_ex H0) (EvN.toD (evn_lst (eva_cons (evd_tpl eva_nil (by decide)) eva_nil) (by show 1 ≤ 100000; decide))) ?_)
    refine nx_seq (nx_forN (stb_ex H0) (src_rangeM (n := m) (eva_cons (evd_var rfl) eva_nil) (by omega)) (fun i ρ F => F = Evl.Ex H0 ∧ ∃ x y z, ρ = [some (.int (m : Int)), some (rowsHL (every i)), x, y, z]) ⟨rfl, _, _, _, rfl⟩ ?_ ?_)
    · rintro LF sL i d ρ F hi ⟨rfl, x, y, z, rfl⟩ sF
      obtain ⟨j, hj, rfl⟩ := map_at hi
      have hlt : i < m := by
        have := (List.getElem?_eq_some_iff.mp hi).1
        rw [List.length_map, List.length_range] at this; exact this
      refine nx_seq (nx_asg (d := rowsHL []) (sF.andZ sL) (EvN.toD (evn_lst eva_nil (by decide))) ?_)
      refine nx_seq (nx_forN (sF.andZ sL) (src_list (ds := (every i).map rowH) (evd_var rfl)) (fun l ρ F' => F' = (fun H => Evl.Ex H0 H ∧ LF H) ∧ ∃ y', ρ = [some (.int (m : Int)), some (rowsHL (every i)), some (.int (j : Int)), some (rowsHL (((every i).take l).flatMap fun r => [r ++ [false], r ++ [true]])), y']) ⟨rfl, _, rfl⟩ ?_ ?_)
      · rintro LG sG l d ρ F hl ⟨rfl, y', rfl⟩ sF2
        obtain ⟨r, ho, rfl⟩ := map_at hl
        have hrl := every_row (List.mem_of_getElem? ho)
        have hll : l < (every i).length := (List.getElem?_eq_some_iff.mp ho).1
        have hle : (every i).length ≤ 16 := by rw [every_len]; exact pow_le (Nat.le_refl 2) (by decide) (show i ≤ 4 by omega)
        have hflen : (((every i).take l).flatMap fun r => [r ++ [false], r ++ [true]]).length ≤ 32 := by
          rw [List.length_flatMap]
          have e : (((every i).take l).map fun r => [r ++ [false], r ++ [true]].length) = ((every i).take l).map fun _ => 2 := rfl
          rw [e, List.map_const', List.sum_replicate_nat, List.length_take]
          omega
        refine nx_asg (d := rowsHL (((every i).take (l + 1)).flatMap fun r => [r ++ [false], r ++ [true]])) (sF2.andZ sG) ?_ (as_in ⟨rfl, _, rfl⟩ sF2)
        rw [take_flatMap _ ho]
        unfold rowsHL
        rw [List.map_append]
        have one : ∀ b : Bool, EvD K (tOp (rCatA K) (tVar 4) (tTup (tCons (tC (.int b.toNat)) tNil))) [some (.int (m : Int)), some (rowsHL (every i)), some (.int (j : Int)), some (rowsHL (((every i).take l).flatMap fun r => [r ++ [false], r ++ [true]])), some (rowH r)] (rowH (r ++ [b])) := fun b => by
          rw [rowH_snoc]
          refine evd_op (evd_var (d := rowH r) rfl) (evd_tpl (eva_cons (evd_c fun _ => .int _) eva_nil) (by show 1 ≤ 100000; decide)) (rvd_catH ?_)
          rw [List.length_map]
          show r.length + 1 ≤ 100000
          omega
        exact EvN.toD (evn_cat (evd_var rfl) (EvN.toD (evn_lst (eva_cons (one false) (eva_cons (one true) eva_nil)) (by show 2 ≤ 100000; decide))) (by rw [List.length_map]; exact Nat.le_trans (Nat.add_le_add hflen (Nat.le_refl 2)) (by decide)))
      · rintro ρ F ⟨rfl, y', rfl⟩ sF2
        show Nx K Z _ _ (tAsg (tVar 3) (gName 1) _)
        refine nx_asg (d := rowsHL (every (i + 1))) sF2 ?_ ?_
        · refine evd_var ?_
          rw [List.length_map, List.take_length]
          rfl
        · exact as_in ⟨rfl, _, _, _, rfl⟩ sF
    · rintro ρ F ⟨rfl, x, y, z, rfl⟩ sF
      refine nx_ret sF (evd_var rfl) fun v H oc ex hv => k v H oc ex ?_
      rw [List.length_map, List.length_range] at hv
      exact hv
end
end Ec
/-! Terms: what they tell, plain tables. -/
namespace Ec
open PySem L2
def tmD : Tm → Dt
  | .pl i => .int (i : Nat)
  | .ap a b c => .tup [tmD a, tmD b, tmD c]
theorem num3_eq (a b c : Bool) : ((4 * (a.toNat : Int) + 2 * (b.toNat : Int)) + (c.toNat : Int)) = (num [a, b, c] : Nat) := by cases a <;> cases b <;> cases c <;> decide
theorem bit_at {t : Row} {i n : Nat} (h : t.length = n) (hi : i < n) : (t.map bitD)[i]? = some (bitD (bit t i)) := rowD_at (by omega)
/-- a promise that asks what cannot be: for the lowest turn of a recursion -/
theorem cal_no {P : Program} {w : World} {K : PySem.W.Frag} {mg : Str → Option Value} {base : Heap} {k : Nat} {x : Str} {f : Addr} {fd : FuncData} {ps : List Str} (hm : mg x = some (.ref f)) (kp : PySem.W.keepIn K (.ref f) = true) (b : Binds K fd ps []) : C8.Cal P w K mg base k x (PureSp K fun _ _ => False) [] :=
  ⟨f, fd, ps, [], ⟨fun vs H Q E h => by obtain ⟨_, _, _, _, _, h, _⟩ := h; exact h.elim, fun A outer s H args us vs Q E _ _ _ _ h => by obtain ⟨_, _, _, _, _, h, _⟩ := h; exact h.elim⟩, hm, kp, b, .nil⟩
section
variable {P : Program} {w : World} {K : PySem.W.Frag} {mg : Str → Option Value} {base : Heap} {f : Addr} {fd : FuncData}
theorem Cal.imp {k : Nat} {x : Str} {R R' : List Dt → Dt → Prop} (c : C8.Cal P w K mg base k x (PureSp K R) []) (h : ∀ ds r, R' ds r → R ds r) : C8.Cal P w K mg base k x (PureSp K R') [] := by
  obtain ⟨f, fd, ps, ds, F, hm, kp, b, d⟩ := c.ex
  exact ⟨f, fd, ps, ds, F.imp fun vs H Q E q => (by
    obtain ⟨Z, ds, r, q1, q2, q3, q4⟩ := q
    exact ⟨Z, ds, r, q1, q2, h _ _ q3, q4⟩), hm, kp, b, d⟩
abbrev s_put_in : Stmt := topS 24
theorem sc_put_in : FnScope ["table", "parts", "one", "two", "three", "at"] ["table", "parts"] (defScope s_put_in) := ⟨rfl, rfl, rfl, by decide +kernel, rfl, by decide +kernel, by decide +kernel⟩
-- slots: table 0c, parts 1, one 2c, two 3c, three 4c, at 5
def R_putin (ds : List Dt) (r : Dt) : Prop := ∃ t X Y Z : Row, t.length = 8 ∧ X.length = 8 ∧ Y.length = 8 ∧ Z.length = 8 ∧ (ds = [rowD t, .tup [rowD X, rowD Y, rowD Z]] ∨ ds = [rowD t, .lst [rowD X, rowD Y, rowD Z]]) ∧ r = rowD (putIn t X Y Z)
theorem ok_put_in (T : Txt K mg) (Fn : Fun K "put_in" "put_in" s_put_in f fd) : FnOk P w K mg base CX0 1 f fd ["table", "parts"] (PureSp K R_putin) := by
  refine pure_ok Fn sc_put_in (fun ds r h => ?_) fun ds r h cdv A outer s H E hr => ?_
  · obtain ⟨_, _, _, _, _, _, _, _, rfl | rfl, _⟩ := h <;> rfl
  obtain ⟨t, X, Y, W, h0, h1, h2, h3, rfl | rfl, rfl⟩ := h
  · skip
    refine ⟨_, (pss_cons (ps_asg (pv 1) (pg_tupK (K := K) rfl rfl (pgs_cons (pg_name (i := 2) sc_put_in.nd rfl (Or.inr rfl)) (pgs_cons (pg_name (i := 3) sc_put_in.nd rfl (Or.inr rfl)) (pgs_cons (pg_name (i := 4) sc_put_in.nd rfl (Or.inr rfl)) pgs_nil)))))
      (pss_one (ps_ret (pe_callTy (r := rTupO K) call_tuple_of (by rfl) T.tuple (by decide +kernel) (pa_cons (pe_lc (own := [("at", 5)]) (g := (gName 5)) (tt := tYes) rfl sc_put_in.nd (pi_range1 rfl T.range (pa_cons pe_int pa_nil)) (blkOk_by (by kernel_rfl)) (fun _ _ _ _ _ => (pg_name (i := 5) sc_put_in.nd rfl (Or.inl rfl))) (fun _ _ _ _ _ => pts_nil) (fun _ _ _ _ _ => (pe_ix (r := rIx K) ix_seq (pv 0) (pe_op op_add (pe_op op_add (pe_op op_mul pe_int (pe_ix (r := rIx K) ix_seq (pv 2) (pv 5) (fun _ _ => rfl))) (pe_op op_mul pe_int (pe_ix (r := rIx K) ix_seq (pv 3) (pv 5) (fun _ _ => rfl)))) (pe_ix (r := rIx K) ix_seq (pv 4) (pv 5) (fun _ _ => rfl))) (fun _ _ => rfl)))) pa_nil))))), fun Z H0 D k => ?_⟩
    refine nx_seq (nx_asgG (stb_ex H0) (evd_var rfl) gd_trip ?_)
    have e : rowD (putIn t X Y W) = .tup ((List.range 8).map fun k => bitD (t.getD (num [X.getD k false, Y.getD k false, W.getD k false]) false)) := by
      unfold rowD putIn
      rw [List.map_map]; rfl
    rw [e] at k
    refine nx_ret (stb_ex H0) (evd_callB (eva_cons (EvN.toD (evn_lcM (List.range 8) (fun j : Nat => .int (j : Int)) (fun k => bitD (t.getD (num [X.getD k false, Y.getD k false, W.getD k false]) false))
      (src_rangeM (n := 8) (eva_cons evd_int eva_nil) (by decide)) (by decide) fun i j hj => ?_)) eva_nil) rc_tupL) fun v H oc ex hv => k v H oc ex hv
    have hjn : j < 8 := List.mem_range.mp (List.mem_of_getElem? hj)
    refine evd_op (evd_var (d := rowD t) rfl) ((evd_i0 (evd_i0 (evd_i (evd_int (i := 4)) (evd_op (evd_var (d := rowD X) rfl) (evd_var rfl) (rvd_ixt rfl (bit_at h1 hjn))) (.inl ⟨by decide, by decide⟩))
      (evd_i (evd_int (i := 2)) (evd_op (evd_var (d := rowD Y) rfl) (evd_var rfl) (rvd_ixt rfl (bit_at h2 hjn))) (.inl ⟨by decide, by decide⟩))) (evd_op (evd_var (d := rowD W) rfl) (evd_var rfl) (rvd_ixt rfl (bit_at h3 hjn)))).is (by rw [num3_eq]; rfl)) (rvd_ixt rfl (rowD_at ?_))
    rw [h0]; exact num3 _ _ _
  · skip
    refine ⟨_, (pss_cons (ps_asg (pv 1) (pg_unlK (K := K) rfl rfl (pgs_cons (pg_name (i := 2) sc_put_in.nd rfl (Or.inr rfl)) (pgs_cons (pg_name (i := 3) sc_put_in.nd rfl (Or.inr rfl)) (pgs_cons (pg_name (i := 4) sc_put_in.nd rfl (Or.inr rfl)) pgs_nil)))))
      (pss_one (ps_ret (pe_callTy (r := rTupO K) call_tuple_of (by rfl) T.tuple (by decide +kernel) (pa_cons (pe_lc (own := [("at", 5)]) (g := (gName 5)) (tt := tYes) rfl sc_put_in.nd (pi_range1 rfl T.range (pa_cons pe_int pa_nil)) (blkOk_by (by kernel_rfl)) (fun _ _ _ _ _ => (pg_name (i := 5) sc_put_in.nd rfl (Or.inl rfl))) (fun _ _ _ _ _ => pts_nil) (fun _ _ _ _ _ => (pe_ix (r := rIx K) ix_seq (pv 0) (pe_op op_add (pe_op op_add (pe_op op_mul pe_int (pe_ix (r := rIx K) ix_seq (pv 2) (pv 5) (fun _ _ => rfl))) (pe_op op_mul pe_int (pe_ix (r := rIx K) ix_seq (pv 3) (pv 5) (fun _ _ => rfl)))) (pe_ix (r := rIx K) ix_seq (pv 4) (pv 5) (fun _ _ => rfl))) (fun _ _ => rfl)))) pa_nil))))), fun Z H0 D k => ?_⟩
    refine nx_seq (nx_asgG (stb_ex H0) (evd_var rfl) gd_tripL ?_)
    have e : rowD (putIn t X Y W) = .tup ((List.range 8).map fun k => bitD (t.getD (num [X.getD k false, Y.getD k false, W.getD k false]) false)) := by
      unfold rowD putIn
      rw [List.map_map]; rfl
    rw [e] at k
    refine nx_ret (stb_ex H0) (evd_callB (eva_cons (EvN.toD (evn_lcM (List.range 8) (fun j : Nat => .int (j : Int)) (fun k => bitD (t.getD (num [X.getD k false, Y.getD k false, W.getD k false]) false))
      (src_rangeM (n := 8) (eva_cons evd_int eva_nil) (by decide)) (by decide) fun i j hj => ?_)) eva_nil) rc_tupL) fun v H oc ex hv => k v H oc ex hv
    have hjn : j < 8 := List.mem_range.mp (List.mem_of_getElem? hj)
    refine evd_op (evd_var (d := rowD t) rfl) ((evd_i0 (evd_i0 (evd_i (evd_int (i := 4)) (evd_op (evd_var (d := rowD X) rfl) (evd_var rfl) (rvd_ixt rfl (bit_at h1 hjn))) (.inl ⟨by decide, by decide⟩))
      (evd_i (evd_int (i := 2)) (evd_op (evd_var (d := rowD Y) rfl) (evd_var rfl) (rvd_ixt rfl (bit_at h2 hjn))) (.inl ⟨by decide, by decide⟩))) (evd_op (evd_var (d := rowD W) rfl) (evd_var rfl) (rvd_ixt rfl (bit_at h3 hjn)))).is (by rw [num3_eq]; rfl)) (rvd_ixt rfl (rowD_at ?_))
    rw [h0]; exact num3 _ _ _
abbrev s__told : Stmt := topS 25
theorem sc__told : FnScope ["table", "term", "part"] ["table", "term"] (defScope s__told) := ⟨rfl, rfl, rfl, by decide +kernel, rfl, by decide +kernel, by decide +kernel⟩
-- slots: table 0c, term 1, part 2
def R_told (n : Nat) (ds : List Dt) (r : Dt) : Prop := ∃ (t : Row) (tm : Tm), t.length = 8 ∧ tm.ok = true ∧ tm.depth < n ∧ ds = [rowD t, tmD tm] ∧ r = rowD (tell t tm)
theorem place_at {i : Nat} (h : i < 3) : ([place 0, place 1, place 2].map rowD)[i]? = some (rowD (place i)) := by
  match i, h with
  | 0, _ => rfl
  | 1, _ => rfl
  | 2, _ => rfl
theorem ok__told (T : Txt K mg) (C_put_in : C8.Cal P w K mg base 1 "put_in" (PureSp K R_putin) []) (hm : mg "_told" = some (.ref f)) (b : Binds K fd ["table", "term"] []) (Fn : Fun K "_told" "_told" s__told f fd) :
    ∀ n, C8.Cal P w K mg base (n + 1) "_told" (PureSp K (R_told n)) []
  | 0 => Cal.imp (cal_no hm Fn.kp b) fun ds r h => by obtain ⟨_, _, _, _, h, _⟩ := h; exact absurd h (Nat.not_lt_zero _)
  | n + 1 => by
    have C__told := ok__told T C_put_in hm b Fn n
    refine ⟨f, fd, _, [], pure_ok Fn sc__told (fun ds r h => ?_) (fun ds r h cdv A outer s H E hr => ?_), hm, Fn.kp, b, .nil⟩
    · obtain ⟨_, _, _, _, _, rfl, _⟩ := h; rfl
    obtain ⟨t, tm, ht, ho, hd, rfl, rfl⟩ := h
    have le1 : 1 ≤ n + 1 := by omega
    refine ⟨_, (pss_cons (ps_if (pt_val (pe_callB (r := rIsi K) call_isi (by rfl) T.isinstance (by decide +kernel) (pa_cons (pv 1) (pa_cons (pe_bltn (v := .ty "int") (by rfl) T.int (by decide +kernel) rfl) pa_nil)))) (pss_one (ps_ret (pe_ix (r := rIx K) ix_seq (pe_cnK (K := K) rfl T.PLACES rfl) (pv 1) (fun _ _ => rfl)))) pss_nil)
      (pss_one (ps_ret (C8.pe_c C_put_in hr le1 rfl (pa_cons (pv 0) (pa_cons (pe_lc (own := [("part", 2)]) (g := (gName 2)) (tt := tYes) rfl sc__told.nd (pi_tupK (K := K) rfl (pv 1)) (blkOk_by (by kernel_rfl)) (fun _ _ _ _ _ => (pg_name (i := 2) sc__told.nd rfl (Or.inl rfl))) (fun _ _ _ _ _ => pts_nil) (fun _ _ _ _ _ => (C8.pe_c C__told hr (Nat.le_refl _) rfl (pa_cons (pv 0) (pa_cons (pv 2) pa_nil))))) pa_nil)))))), fun Z H0 D k => ?_⟩
    cases tm with
    | pl i =>
      refine nx_seq (nx_if (b := true) (stb_ex H0) (evt_B (evd_callB (eva_cons (evd_var rfl) (eva_cons evd_ty eva_nil)) (rc_isi (d := .int (i : Nat)) (t := "int") (b := true) rfl (kit_ty (by decide +kernel))))) (fun _ => ?_) fun q => nomatch q)
      exact nx_ret (stb_ex H0) (evd_op evd_cn (evd_var (d := .int (i : Nat)) rfl) (rvd_ixt rfl (place_at (of_decide_eq_true ho)))) fun v H oc ex hv => k v H oc ex hv
    | ap x y z =>
      have ho' : (x.ok && y.ok && z.ok) = true := ho
      rw [Bool.and_eq_true, Bool.and_eq_true] at ho'
      have hd' : max x.depth (max y.depth z.depth) + 1 < n + 1 := hd
      refine nx_seq (nx_ifF (stb_ex H0) (evt_B (evd_callB (eva_cons (evd_var rfl) (eva_cons evd_ty eva_nil)) (rc_isi (d := tmD (.ap x y z)) (t := "tuple") (b := false) rfl (kit_ty (by decide +kernel))))) ?_)
      refine nx_ret (stb_ex H0) (evd_call (eva_cons (evd_var rfl) (eva_cons (EvN.toD (evn_lcM [x, y, z] tmD (fun q => rowD (tell t q)) (src_tup (evd_var rfl)) (by show 3 ≤ 100000; decide) fun i q hq => ?_)) eva_nil))
        ⟨t, tell t x, tell t y, tell t z, ht, tell_length _ _, tell_length _ _, tell_length _ _, .inr rfl, rfl⟩) fun v H oc ex hv => k v H oc ex hv
      refine evd_call (eva_cons (evd_var rfl) (eva_cons (evd_var rfl) eva_nil)) ⟨t, q, ht, ?_, ?_, rfl, rfl⟩
      · rcases List.mem_cons.mp (List.mem_of_getElem? hq) with e | e
        · rw [e]; exact ho'.1.1
        rcases List.mem_cons.mp e with e | e
        · rw [e]; exact ho'.1.2
        · rw [List.mem_singleton.mp e]; exact ho'.2
      · rcases List.mem_cons.mp (List.mem_of_getElem? hq) with e | e
        · rw [e]; omega
        rcases List.mem_cons.mp e with e | e
        · rw [e]; omega
        · rw [List.mem_singleton.mp e]; omega
abbrev s__law_term_table : Stmt := topS 56
theorem sc__law_term_table : FnScope ["_law_table", "_law_term", "_law_parts", "_law_row", "_law_part", "_law_k"] ["_law_table", "_law_term"] (defScope s__law_term_table) := ⟨rfl, rfl, rfl, by decide +kernel, rfl, by decide +kernel, by decide +kernel⟩
-- slots: _law_table 0c, _law_term 1c, _law_parts 2c, _law_row 3, _law_part 4, _law_k 5
theorem ok__law_term_table (T : Txt K mg) (C__law_every : C8.Cal P w K mg base 1 "_law_every" (PureSp K R_every) []) (C__law_place : C8.Cal P w K mg base 1 "_law_place" (PureSp K R_number) []) (hm : mg "_law_term_table" = some (.ref f)) (b : Binds K fd ["_law_table", "_law_term"] [])
    (Fn : Fun K "_law_term_table" "_law_term_table" s__law_term_table f fd) : ∀ n, C8.Cal P w K mg base (n + 1) "_law_term_table" (PureSp K (R_told n)) []
  | 0 => Cal.imp (cal_no hm Fn.kp b) fun ds r h => by obtain ⟨_, _, _, _, h, _⟩ := h; exact absurd h (Nat.not_lt_zero _)
  | n + 1 => by
    have C__law_term_table := ok__law_term_table T C__law_every C__law_place hm b Fn n
    refine ⟨f, fd, _, [], pure_ok Fn sc__law_term_table (fun ds r h => ?_) (fun ds r h cdv A outer s H E hr => ?_), hm, Fn.kp, b, .nil⟩
    · obtain ⟨_, _, _, _, _, rfl, _⟩ := h; rfl
    obtain ⟨t, tm, ht, ho, hd, rfl, rfl⟩ := h
    have le1 : 1 ≤ n + 1 := by omega
    refine ⟨_, (pss_cons (ps_if (pt_val (pe_callB (r := rIsi K) call_isi (by rfl) T.isinstance (by decide +kernel) (pa_cons (pv 1) (pa_cons (pe_bltn (v := .ty "int") (by rfl) T.int (by decide +kernel) rfl) pa_nil)))) (pss_one (ps_ret (pe_callTy (r := rTupO K) call_tuple_of (by rfl) T.tuple (by decide +kernel) (pa_cons (pe_lc (own := [("_law_row", 3)]) (g := (gName 3)) (tt := tYes) rfl sc__law_term_table.nd (pi_listK (K := K) rfl (C8.pe_c C__law_every hr le1 rfl (pa_cons pe_int pa_nil))) (blkOk_by (by kernel_rfl)) (fun _ _ _ _ _ => (pg_name (i := 3) sc__law_term_table.nd rfl (Or.inl rfl))) (fun _ _ _ _ _ => pts_nil) (fun _ _ _ _ _ => (pe_ix (r := rIx K) ix_seq (pv 3) (pv 1) (fun _ _ => rfl)))) pa_nil)))) pss_nil)
      (pss_cons (ps_set (i := 2) sc__law_term_table.nd rfl (Or.inr rfl) (pe_lc (own := [("_law_part", 4)]) (g := (gName 4)) (tt := tYes) rfl sc__law_term_table.nd (pi_tupK (K := K) rfl (pv 1)) (blkOk_by (by kernel_rfl)) (fun _ _ _ _ _ => (pg_name (i := 4) sc__law_term_table.nd rfl (Or.inl rfl))) (fun _ _ _ _ _ => pts_nil) (fun _ _ _ _ _ => (C8.pe_c C__law_term_table hr (Nat.le_refl _) rfl (pa_cons (pv 0) (pa_cons (pv 4) pa_nil))))))
      (pss_one (ps_ret (pe_callTy (r := rTupO K) call_tuple_of (by rfl) T.tuple (by decide +kernel) (pa_cons (pe_lc (own := [("_law_k", 5)]) (g := (gName 5)) (tt := tYes) rfl sc__law_term_table.nd (pi_range1 rfl T.range (pa_cons pe_int pa_nil)) (blkOk_by (by kernel_rfl)) (fun _ _ _ _ _ => (pg_name (i := 5) sc__law_term_table.nd rfl (Or.inr rfl))) (fun _ _ _ _ _ => pts_nil) (fun _ _ _ _ _ => (pe_ix (r := rIx K) ix_seq (pv 0) (C8.pe_c C__law_place hr le1 rfl (pa_cons (pe_lc (own := [("_law_part", 4)]) (g := (gName 4)) (tt := tYes) rfl sc__law_term_table.nd (pi_listK (K := K) rfl (pv 2)) (blkOk_by (by kernel_rfl)) (fun _ _ _ _ _ => (pg_name (i := 4) sc__law_term_table.nd rfl (Or.inl rfl))) (fun _ _ _ _ _ => pts_nil) (fun _ _ _ _ _ => (pe_ix (r := rIx K) ix_seq (pv 4) (pv 5) (fun _ _ => rfl)))) pa_nil)) (fun _ _ => rfl)))) pa_nil)))))), fun Z H0 D k => ?_⟩
    cases tm with
    | pl i =>
      have hi : i < 3 := of_decide_eq_true ho
      refine nx_seq (nx_if (b := true) (stb_ex H0) (evt_B (evd_callB (eva_cons (evd_var rfl) (eva_cons evd_ty eva_nil)) (rc_isi (d := .int (i : Nat)) (t := "int") (b := true) rfl (kit_ty (by decide +kernel))))) (fun _ => ?_) fun q => nomatch q)
      have e : rowD (tell t (.pl i)) = .tup ((every 3).map fun r => bitD (r.getD i false)) := by
        show rowD (place i) = _
        unfold rowD place
        rw [List.map_map]; rfl
      rw [e] at k
      refine nx_ret (stb_ex H0) (evd_callB (eva_cons (EvN.toD (evn_lcM (every 3) rowD (fun r => bitD (r.getD i false)) (src_list ((evd_call (eva_cons (evd_int (i := 3)) eva_nil) ⟨3, by decide, rfl, rfl⟩).wk fun _ _ => lowL)) (by decide) fun j r hr => ?_)) eva_nil) rc_tupL) fun v H oc ex hv => k v H oc ex hv
      exact evd_op (evd_var (d := rowD r) rfl) (evd_var (d := .int (i : Nat)) rfl) (rvd_ixt rfl (rowD_at (by rw [every_row (List.mem_of_getElem? hr)]; exact hi)))
    | ap x y z =>
      have ho' : (x.ok && y.ok && z.ok) = true := ho
      rw [Bool.and_eq_true, Bool.and_eq_true] at ho'
      have hd' : max x.depth (max y.depth z.depth) + 1 < n + 1 := hd
      refine nx_seq (nx_ifF (stb_ex H0) (evt_B (evd_callB (eva_cons (evd_var rfl) (eva_cons evd_ty eva_nil)) (rc_isi (d := tmD (.ap x y z)) (t := "tuple") (b := false) rfl (kit_ty (by decide +kernel))))) ?_)
      refine nx_seq (nx_asg (d := .lst ([x, y, z].map fun q => rowD (tell t q))) (stb_ex H0) (EvN.toD (evn_lcM [x, y, z] tmD (fun q => rowD (tell t q)) (src_tup (evd_var rfl)) (by show 3 ≤ 100000; decide) fun i q hq => ?_)) ?_)
      · refine evd_call (eva_cons (evd_var rfl) (eva_cons (evd_var rfl) eva_nil)) ⟨t, q, ht, ?_, ?_, rfl, rfl⟩
        · rcases List.mem_cons.mp (List.mem_of_getElem? hq) with e | e
          · rw [e]; exact ho'.1.1
          rcases List.mem_cons.mp e with e | e
          · rw [e]; exact ho'.1.2
          · rw [List.mem_singleton.mp e]; exact ho'.2
        · rcases List.mem_cons.mp (List.mem_of_getElem? hq) with e | e
          · rw [e]; omega
          rcases List.mem_cons.mp e with e | e
          · rw [e]; omega
          · rw [List.mem_singleton.mp e]; omega
      have e : rowD (tell t (.ap x y z)) = .tup ((List.range 8).map fun k => bitD (t.getD (num [(tell t x).getD k false, (tell t y).getD k false, (tell t z).getD k false]) false)) := by
        show rowD (putIn t _ _ _) = _
        unfold rowD putIn
        rw [List.map_map]; rfl
      rw [e] at k
      refine nx_ret (stb_ex H0) (evd_callB (eva_cons (EvN.toD (evn_lcM (List.range 8) (fun j : Nat => .int (j : Int)) (fun k => bitD (t.getD (num [(tell t x).getD k false, (tell t y).getD k false, (tell t z).getD k false]) false))
        (src_rangeM (n := 8) (eva_cons evd_int eva_nil) (by decide)) (by decide) fun i j hj => ?_)) eva_nil) rc_tupL) fun v H oc ex hv => k v H oc ex hv
      have hjn : j < 8 := List.mem_range.mp (List.mem_of_getElem? hj)
      refine evd_op (evd_var (d := rowD t) rfl) (evd_call (eva_cons (EvN.toD (evn_lcM [x, y, z] (fun q => rowD (tell t q)) (fun q => bitD ((tell t q).getD j false)) (src_list (evd_var rfl)) (by show 3 ≤ 100000; decide) fun i' q hq => ?_)) eva_nil) ⟨[(tell t x).getD j false, (tell t y).getD j false, (tell t z).getD j false], rfl, rfl⟩) (rvd_ixt rfl (rowD_at (by rw [ht]; exact num3 _ _ _)))
      exact evd_op (evd_var (d := rowD (tell t q)) rfl) (evd_var rfl) (rvd_ixt rfl (rowD_at (by rw [tell_length]; exact hjn)))
end
end Ec
/-! Terms: is it one, plain tables, term_of. -/
namespace Ec
open PySem L2
theorem nat_sub1 {n : Nat} (h : 0 < n) : ((n : Int) - 1) = ((n - 1 : Nat) : Int) := by omega
section
variable {P : Program} {w : World} {K : PySem.W.Frag} {mg : Str → Option Value} {base : Heap} {f : Addr} {fd : FuncData}
abbrev s__is_term : Stmt := topS 23
theorem sc__is_term : FnScope ["value", "left"] ["value", "left"] (defScope s__is_term) := ⟨rfl, rfl, rfl, by decide +kernel, rfl, by decide +kernel, by decide +kernel⟩
-- slots: value 0, left 1
def R_isterm (n : Nat) (ds : List Dt) (r : Dt) : Prop := ∃ (tm : Tm) (left : Nat), tm.ok = true ∧ tm.depth ≤ left ∧ tm.depth < n ∧ ds = [tmD tm, .int (left : Nat)] ∧ r = .bl true
theorem ok__is_term (T : Txt K mg) (hm : mg "_is_term" = some (.ref f)) (b : Binds K fd ["value", "left"] []) (Fn : Fun K "_is_term" "_is_term" s__is_term f fd) :
    ∀ n, C8.Cal P w K mg base (n + 1) "_is_term" (PureSp K (R_isterm n)) []
  | 0 => Cal.imp (cal_no hm Fn.kp b) fun ds r h => by obtain ⟨_, _, _, _, h, _⟩ := h; exact absurd h (Nat.not_lt_zero _)
  | n + 1 => by
    have C__is_term := ok__is_term T hm b Fn n
    refine ⟨f, fd, _, [], pure_ok Fn sc__is_term (fun ds r h => ?_) (fun ds r h cdv A outer s H E hr => ?_), hm, Fn.kp, b, .nil⟩
    · obtain ⟨_, _, _, _, _, rfl, _⟩ := h; rfl
    obtain ⟨tm, left, ho, hl, hd, rfl, rfl⟩ := h
    refine ⟨_, (pss_cons (ps_if (pt_val (pe_callB (r := rIsi K) call_isi (by rfl) T.isinstance (by decide +kernel) (pa_cons (pv 0) (pa_cons (pe_bltn (v := .ty "int") (by rfl) T.int (by decide +kernel) rfl) pa_nil)))) (pss_one (ps_ret (pe_and (pe_not (pe_callB (r := rIsi K) call_isi (by rfl) T.isinstance (by decide +kernel) (pa_cons (pv 0) (pa_cons (pe_bltn (v := .ty "bool") (by rfl) T.bool (by decide +kernel) rfl) pa_nil)))) (pe_one (pe_chain op_le op_le pe_int (pv 0) pe_int))))) pss_nil)
      (pss_cons (ps_if (PW.pt (pw_or (pt_not (pt_val (pe_callB (r := rIsi K) call_isi (by rfl) T.isinstance (by decide +kernel) (pa_cons (pv 0) (pa_cons (pe_bltn (v := .ty "tuple") (by rfl) T.tuple (by decide +kernel) rfl) pa_nil))))) (pw_or (pt_cmpR op_ne (pe_callB (r := rLen K) call_len_seq (by rfl) T.len PySem.boot_len (pa_cons (pv 0) pa_nil)) pe_int (nomark _)) (pw_or1 (pt_cmpR op_eq (pv 1) pe_int (nomark _)))))) (pss_one (ps_ret pe_bl)) pss_nil)
      (pss_one (ps_ret (pe_and (C8.pe_c C__is_term hr (Nat.le_refl _) rfl (pa_cons (pe_ix (r := rIx K) ix_seq (pv 0) pe_int (fun _ _ => rfl)) (pa_cons (pe_op op_sub (pv 1) pe_int) pa_nil))) (pe_and (C8.pe_c C__is_term hr (Nat.le_refl _) rfl (pa_cons (pe_ix (r := rIx K) ix_seq (pv 0) pe_int (fun _ _ => rfl)) (pa_cons (pe_op op_sub (pv 1) pe_int) pa_nil))) (pe_one (C8.pe_c C__is_term hr (Nat.le_refl _) rfl (pa_cons (pe_ix (r := rIx K) ix_seq (pv 0) pe_int (fun _ _ => rfl)) (pa_cons (pe_op op_sub (pv 1) pe_int) pa_nil)))))))))), fun Z H0 D k => ?_⟩
    cases tm with
    | pl i =>
      have hi : i < 3 := of_decide_eq_true ho
      refine nx_seq (nx_if (b := true) (stb_ex H0) (evt_B (evd_callB (eva_cons (evd_var rfl) (eva_cons evd_ty eva_nil)) (rc_isi (d := .int (i : Nat)) (t := "int") (b := true) rfl (kit_ty (by decide +kernel))))) (fun _ => ?_) fun q => nomatch q)
      refine nx_ret (stb_ex H0) ((evd_andV (evd_notV (evd_callB (eva_cons (evd_var rfl) (eva_cons evd_ty eva_nil)) (rc_isi (d := .int (i : Nat)) (t := "int") (b := false) rfl (kit_ty (by decide +kernel))))) fun _ =>
        (evd_chain (evd_int (i := 0)) (evd_var (d := .int (i : Nat)) rfl) (rvd_I0 fun _ => .bl _) (fun _ => evd_int (i := 2)) fun _ => rvd_I0 fun _ => .bl _)).is ?_) fun v H oc ex hv => k v H oc ex hv
      have e1 : decide ((0 : Int) ≤ (i : Nat)) = true := decide_eq_true (by omega)
      have e2 : decide (((i : Nat) : Int) ≤ 2) = true := decide_eq_true (by omega)
      rw [e1, e2]; rfl
    | ap x y z =>
      have ho' : (x.ok && y.ok && z.ok) = true := ho
      rw [Bool.and_eq_true, Bool.and_eq_true] at ho'
      have hd' : max x.depth (max y.depth z.depth) + 1 < n + 1 := hd
      have hl' : max x.depth (max y.depth z.depth) + 1 ≤ left := hl
      have hp : 0 < left := by omega
      refine nx_seq (nx_ifF (stb_ex H0) (evt_B (evd_callB (eva_cons (evd_var rfl) (eva_cons evd_ty eva_nil)) (rc_isi (d := tmD (.ap x y z)) (t := "tuple") (b := false) rfl (kit_ty (by decide +kernel))))) ?_)
      have el : decide (((left : Nat) : Int) = 0) = false := decide_eq_false (by omega)
      refine nx_seq (nx_ifF (stb_ex H0) ((evt_or (evt_not (evt_B (evd_callB (eva_cons (evd_var rfl) (eva_cons evd_ty eva_nil)) (rc_isi (d := tmD (.ap x y z)) (t := "tuple") (b := true) rfl (kit_ty (by decide +kernel)))))) fun _ =>
        evt_or (evt_test (evd_op (evd_callB (eva_cons (evd_var (d := tmD (.ap x y z)) rfl) eva_nil) rc_lenT) (evd_int (i := 3)) rvd_neI)) fun _ => evt_test (evd_op (evd_var (d := .int (left : Nat)) rfl) (evd_int (i := 0)) rvd_eqI)).is (by rw [el]; rfl)) ?_)
      have one : ∀ (q : Tm) (j : Nat), [x, y, z][j]? = some q → EvA K (tCons (tOp (rIx K) (tVar 0) (tC (.int (j : Nat)))) (tCons (tOp (rI0 fun i j => .int (i - j)) (tVar 1) (tC (.int 1))) tNil)) [some (tmD (.ap x y z)), some (.int (left : Nat))] [tmD q, .int ((left - 1 : Nat) : Nat)] := fun q j hq => by
        refine eva_cons (evd_op (evd_var (d := tmD (.ap x y z)) rfl) (evd_c fun _ => .int _) (rvd_ixt rfl ?_)) (eva_cons ((evd_i0 (evd_var rfl) (evd_int (i := 1))).is (by rw [nat_sub1 hp])) eva_nil)
        show ([x, y, z].map tmD)[j]? = _
        rw [List.getElem?_map, hq]; rfl
      refine nx_ret (stb_ex H0) (evd_andV (evd_call (d := .bl true) (one x 0 rfl) ⟨x, left - 1, ho'.1.1, by omega, by omega, rfl, rfl⟩) fun _ => evd_andV (evd_call (d := .bl true) (one y 1 rfl) ⟨y, left - 1, ho'.1.2, by omega, by omega, rfl, rfl⟩) fun _ =>
        evd_call (d := .bl true) (one z 2 rfl) ⟨z, left - 1, ho'.2, by omega, by omega, rfl, rfl⟩) fun v H oc ex hv => k v H oc ex hv
abbrev s_term_table : Stmt := topS 26
theorem sc_term_table : FnScope ["table", "term"] ["table", "term"] (defScope s_term_table) := ⟨rfl, rfl, rfl, by decide +kernel, rfl, by decide +kernel, by decide +kernel⟩
-- slots: table 0, term 1
theorem ok_term_table (T : Txt K mg) (C_is_table : C8.Cal P w K mg base 2 "is_table" (PureSp K R_istable) []) (C__is_term : C8.Cal P w K mg base 5 "_is_term" (PureSp K (R_isterm 4)) []) (C__told : C8.Cal P w K mg base 5 "_told" (PureSp K (R_told 4)) [])
    (Fn : Fun K "term_table" "term_table" s_term_table f fd) : FnOk P w K mg base CX0 6 f fd ["table", "term"] (PureSp K (R_told 4)) := by
  refine pure_ok Fn sc_term_table (fun ds r h => ?_) fun ds r h cdv A outer s H E hr => ?_
  · obtain ⟨_, _, _, _, _, rfl, _⟩ := h; rfl
  · obtain ⟨t, tm, ht, ho, hd, rfl, rfl⟩ := h
    refine ⟨_, (pss_cons (ps_if (pt_not (pt_val (C8.pe_c C_is_table hr (by decide) rfl (pa_cons (pv 0) (pa_cons pe_int pa_nil))))) (pss_one ps_never) pss_nil)
      (pss_cons (ps_if (pt_not (pt_val (C8.pe_c C__is_term hr (by decide) rfl (pa_cons (pv 1) (pa_cons (pe_cnK (K := K) rfl T.DEEPEST rfl) pa_nil))))) (pss_one ps_never) pss_nil)
      (pss_one (ps_ret (C8.pe_c C__told hr (by decide) rfl (pa_cons (pv 0) (pa_cons (pv 1) pa_nil))))))), fun Z H0 D k => ?_⟩
    refine nx_seq (nx_ifF (stb_ex H0) (evt_not (evt_B (evd_call (d := .bl true) (eva_cons (evd_var rfl) (eva_cons evd_int eva_nil)) ⟨t, 3, by omega, by decide, rfl, by rw [ht]; rfl⟩))) ?_)
    refine nx_seq (nx_ifF (stb_ex H0) (evt_not (evt_B (evd_call (d := .bl true) (eva_cons (evd_var rfl) (eva_cons evd_cn eva_nil)) ⟨tm, 12, ho, by omega, hd, rfl, rfl⟩))) ?_)
    exact nx_ret (stb_ex H0) (evd_call (eva_cons (evd_var rfl) (eva_cons (evd_var rfl) eva_nil)) ⟨t, tm, ht, ho, hd, rfl, rfl⟩) fun v H oc ex hv => k v H oc ex hv
abbrev s_turned : Stmt := topS 27
theorem sc_turned : FnScope ["table", "worth"] ["table"] (defScope s_turned) := ⟨rfl, rfl, rfl, by decide +kernel, rfl, by decide +kernel, by decide +kernel⟩
-- slots: table 0, worth 1
def R_turned (ds : List Dt) (r : Dt) : Prop := ∃ t : Row, t.length ≤ 16 ∧ ds = [rowD t] ∧ r = rowD (t.map not)
theorem not_int (b : Bool) : (1 - (b.toNat : Int)) = ((!b).toNat : Nat) := by cases b <;> decide
theorem ok_turned (T : Txt K mg) (Fn : Fun K "turned" "turned" s_turned f fd) : FnOk P w K mg base CX0 1 f fd ["table"] (PureSp K R_turned) := by
  refine pure_ok Fn sc_turned (fun ds r h => ?_) fun ds r h cdv A outer s H E hr => ?_
  · obtain ⟨_, _, rfl, _⟩ := h; rfl
  · obtain ⟨t, ht, rfl, rfl⟩ := h
    refine ⟨_, (pss_one (ps_ret (pe_callTy (r := rTupO K) call_tuple_of (by rfl) T.tuple (by decide +kernel) (pa_cons (pe_lc (own := [("worth", 1)]) (g := (gName 1)) (tt := tYes) rfl sc_turned.nd (pi_tupK (K := K) rfl (pv 0)) (blkOk_by (by kernel_rfl)) (fun _ _ _ _ _ => (pg_name (i := 1) sc_turned.nd rfl (Or.inl rfl))) (fun _ _ _ _ _ => pts_nil) (fun _ _ _ _ _ => (pe_op op_sub pe_int (pv 1)))) pa_nil)))), fun Z H0 D k => ?_⟩
    have e : rowD (t.map not) = .tup (t.map fun b => bitD (!b)) := by unfold rowD; rw [List.map_map]; rfl
    rw [e] at k
    refine nx_ret (stb_ex H0) (evd_callB (eva_cons (EvN.toD (evn_lcM t bitD (fun b => bitD (!b)) (src_tup (evd_var rfl)) (by omega) fun i b hb => ?_)) eva_nil) rc_tupL) fun v H oc ex hv => k v H oc ex hv
    exact (evd_i0 (evd_int (i := 1)) (evd_var (d := bitD b) rfl)).is (by rw [not_int]; rfl)
abbrev s_is_plain : Stmt := topS 28
theorem sc_is_plain : FnScope ["table"] ["table"] (defScope s_is_plain) := ⟨rfl, rfl, rfl, by decide +kernel, rfl, by decide +kernel, by decide +kernel⟩
-- slots: table 0
def R_isplain (ds : List Dt) (r : Dt) : Prop := ∃ t : Row, t.length = 8 ∧ ds = [rowD t] ∧ r = .bl (isPlain t)
theorem ok_is_plain (T : Txt K mg) (C_turned : C8.Cal P w K mg base 1 "turned" (PureSp K R_turned) []) (Fn : Fun K "is_plain" "is_plain" s_is_plain f fd) : FnOk P w K mg base CX0 2 f fd ["table"] (PureSp K R_isplain) := by
  refine pure_ok Fn sc_is_plain (fun ds r h => ?_) fun ds r h cdv A outer s H E hr => ?_
  · obtain ⟨_, _, rfl, _⟩ := h; rfl
  · obtain ⟨t, ht, rfl, rfl⟩ := h
    have hu : A.units + 3 + 65 < cLine := by have := hr.un; show A.units + 3 + 65 < cLine; exact Nat.lt_of_le_of_lt (by show A.units + 3 + 65 ≤ A.units + 3 + 16 * 1 + 200; omega) this
    refine ⟨_, (pss_one (ps_ret (pe_or (pe_cmpR (r := rInDT K) (op_inDT hu) (pv 0) (pe_cnK (K := K) rfl T.PLACES rfl) (by rfl)) (pe_one (pe_cmpR (r := rInDT K) (op_inDT hu) (C8.pe_c C_turned hr (by decide) rfl (pa_cons (pv 0) pa_nil)) (pe_cnK (K := K) rfl T.PLACES rfl) (by rfl)))))), fun Z H0 D k => ?_⟩
    exact nx_ret (stb_ex H0) (evd_orV (evd_op (evd_var rfl) evd_cn rvd_inT) fun _ => evd_op (evd_call (d := rowD (t.map not)) (eva_cons (evd_var rfl) eva_nil) ⟨t, by omega, rfl, rfl⟩) evd_cn rvd_inT) fun v H oc ex hv => k v H oc ex hv
abbrev s__law_is_plain : Stmt := topS 57
theorem sc__law_is_plain : FnScope ["_law_table", "_law_place_here", "_law_one", "_law_row", "_law_value"] ["_law_table"] (defScope s__law_is_plain) := ⟨rfl, rfl, rfl, by decide +kernel, rfl, by decide +kernel, by decide +kernel⟩
-- slots: _law_table 0, _law_place_here 1c, _law_one 2, _law_row 3, _law_value 4
def R_lplain (ds : List Dt) (r : Dt) : Prop := ∃ t : Row, t.length = 8 ∧ ds = [rowD t] ∧ r = .bl (plain t)
theorem any_yes {p : Nat → Bool} {n i : Nat} (h : i < n) (hp : p i = true) : (List.range n).any p = true := List.any_eq_true.mpr ⟨i, List.mem_range.mpr h, hp⟩
theorem any_no {p : Nat → Bool} {n : Nat} (h : ∀ i, i < n → p i = false) : (List.range n).any p = false := by
  rw [List.any_eq_false]
  intro i hi
  rw [h i (List.mem_range.mp hi)]
  exact Bool.false_ne_true
theorem ok__law_is_plain (T : Txt K mg) (C__law_every : C8.Cal P w K mg base 1 "_law_every" (PureSp K R_every) []) (Fn : Fun K "_law_is_plain" "_law_is_plain" s__law_is_plain f fd) : FnOk P w K mg base CX0 2 f fd ["_law_table"] (PureSp K R_lplain) := by
  refine pure_ok Fn sc__law_is_plain (fun ds r h => ?_) fun ds r h cdv A outer s H E hr => ?_
  · obtain ⟨_, _, rfl, _⟩ := h; rfl
  · obtain ⟨t, ht, rfl, rfl⟩ := h
    have hu : A.units + 3 + 65 < cLine := by have := hr.un; show A.units + 3 + 65 < cLine; exact Nat.lt_of_le_of_lt (by show A.units + 3 + 65 ≤ A.units + 3 + 16 * 1 + 200; omega) this
    refine ⟨_, (pss_cons (ps_for PassesOwn.never rfl (pi_range1 rfl T.range (pa_cons pe_int pa_nil)) (pg_name (i := 1) sc__law_is_plain.nd rfl (Or.inr rfl))
        (pss_cons (ps_set (i := 2) sc__law_is_plain.nd rfl (Or.inl rfl) (pe_callTy (r := rTupO K) call_tuple_of (by rfl) T.tuple (by decide +kernel) (pa_cons (pe_lc (own := [("_law_row", 3)]) (g := (gName 3)) (tt := tYes) rfl sc__law_is_plain.nd (pi_listK (K := K) rfl (C8.pe_c C__law_every hr (by decide) rfl (pa_cons pe_int pa_nil))) (blkOk_by (by kernel_rfl)) (fun _ _ _ _ _ => (pg_name (i := 3) sc__law_is_plain.nd rfl (Or.inl rfl))) (fun _ _ _ _ _ => pts_nil) (fun _ _ _ _ _ => (pe_ix (r := rIx K) ix_seq (pv 3) (pv 1) (fun _ _ => rfl)))) pa_nil)))
        (pss_one (ps_if (pt_cmpR (r := rInD K) (op_inD hu) (pv 0) (pe_lst (pa_cons (pv 2) (pa_cons (pe_callTy (r := rTupO K) call_tuple_of (by rfl) T.tuple (by decide +kernel) (pa_cons (pe_lc (own := [("_law_value", 4)]) (g := (gName 4)) (tt := tYes) rfl sc__law_is_plain.nd (pi_tupK (K := K) rfl (pv 2)) (blkOk_by (by kernel_rfl)) (fun _ _ _ _ _ => (pg_name (i := 4) sc__law_is_plain.nd rfl (Or.inl rfl))) (fun _ _ _ _ _ => pts_nil) (fun _ _ _ _ _ => (pe_op op_sub pe_int (pv 4)))) pa_nil)) pa_nil))) (by rfl)) (pss_one (ps_ret pe_bl)) pss_nil))))
      (pss_one (ps_ret pe_bl))), fun Z H0 D k => ?_⟩
    refine nx_seq (nx_forN (stb_ex H0) (src_rangeM (n := 3) (eva_cons evd_int eva_nil) (by decide)) (fun i ρ F => F = Evl.Ex H0 ∧ (∀ j, j < i → (decide (t = place j) || decide (t = (place j).map not)) = false) ∧ ∃ x y, ρ = [some (rowD t), x, y, none, none]) ⟨rfl, fun j hj => absurd hj (Nat.not_lt_zero j), _, _, rfl⟩ ?_ ?_)
    · rintro LF sL i d ρ F hi ⟨rfl, hb, x, y, rfl⟩ sF
      have hil : i < 3 := by
        have := (List.getElem?_eq_some_iff.mp hi).1
        rw [List.length_map, List.length_range] at this; exact this
      have ei : d = .int (i : Int) := by
        rw [List.getElem?_map, List.getElem?_range hil] at hi
        exact (Option.some.inj hi).symm
      subst ei
      have e : rowD (place i) = .tup ((every 3).map fun r => bitD (r.getD i false)) := by
        unfold rowD place
        rw [List.map_map]; rfl
      refine nx_seq (nx_asg (d := rowD (place i)) (sF.andZ sL) (e ▸ evd_callB (eva_cons (EvN.toD (evn_lcM (every 3) rowD (fun r => bitD (r.getD i false)) (src_list ((evd_call (eva_cons (evd_int (i := 3)) eva_nil) ⟨3, by decide, rfl, rfl⟩).wk fun _ _ => lowL)) (by decide) fun j r hr => ?_)) eva_nil) rc_tupL) ?_)
      · exact evd_op (evd_var (d := rowD r) rfl) (evd_var (d := .int (i : Nat)) rfl) (rvd_ixt rfl (rowD_at (by rw [every_row (List.mem_of_getElem? hr)]; exact hil)))
      have e2 : rowD ((place i).map not) = .tup ((place i).map fun b => bitD (!b)) := by unfold rowD; rw [List.map_map]; rfl
      refine nx_if (b := decide (t ∈ [place i, (place i).map not])) (sF.andZ sL) (evt_test (evd_op (evd_var rfl) (EvN.toD (evn_lst (ds := [place i, (place i).map not].map rowD) (eva_cons (evd_var rfl) (eva_cons (e2 ▸ evd_callB (eva_cons (EvN.toD (evn_lcM (place i) bitD (fun b => bitD (!b)) (src_tup (evd_var rfl)) (by rw [place_length]; decide) fun j b hb => ?_)) eva_nil) rc_tupL) eva_nil)) (by show 2 ≤ 100000; decide))) rvd_inL)) (fun q => ?_) fun q => ?_
      · have hp : plain t = true := any_yes hil (by
          have q1 := of_decide_eq_true q
          rcases List.mem_cons.mp q1 with q1 | q1
          · rw [decide_eq_true q1]; rfl
          · rw [decide_eq_true (List.mem_singleton.mp q1), Bool.or_true])
        exact nx_ret (sF.andZ sL) evd_bl fun v H oc ex hv => k v H oc ex.1 (by rw [hp]; exact hv)
      · have q1 := of_decide_eq_false q
        refine as_in ⟨rfl, fun j hj => ?_, _, _, rfl⟩ sF
        by_cases hji : j = i
        · subst hji
          rw [decide_eq_false fun z => q1 (by rw [z]; exact List.mem_cons_self), decide_eq_false fun z => q1 (by rw [← z]; simp)]
          rfl
        · exact hb j (by omega)
      · exact (evd_i0 (evd_int (i := 1)) (evd_var (d := bitD b) rfl)).is (by rw [not_int]; rfl)
    · rintro ρ F ⟨rfl, hb, x, y, rfl⟩ sF
      have hp : plain t = false := any_no fun j hj => hb j (by rw [List.length_map, List.length_range]; exact hj)
      exact nx_ret sF evd_bl fun v H oc ex hv => k v H oc ex (by rw [hp]; exact hv)
abbrev s__applied : Stmt := topS 29
theorem sc__applied : FnScope ["turns", "parts"] ["turns", "parts"] (defScope s__applied) := ⟨rfl, rfl, rfl, by decide +kernel, rfl, by decide +kernel, by decide +kernel⟩
-- slots: turns 0, parts 1
def R_applied (ds : List Dt) (r : Dt) : Prop := ∃ (b : Bool) (x y z : Tm), ds = [.bl b, .tup [tmD x, tmD y, tmD z]] ∧ r = tmD (app b x y z)
theorem ok__applied (T : Txt K mg) (Fn : Fun K "_applied" "_applied" s__applied f fd) : FnOk P w K mg base CX0 1 f fd ["turns", "parts"] (PureSp K R_applied) := by
  refine pure_ok Fn sc__applied (fun ds r h => ?_) fun ds r h cdv A outer s H E hr => ?_
  · obtain ⟨_, _, _, _, rfl, _⟩ := h; rfl
  · obtain ⟨b, x, y, z, rfl, rfl⟩ := h
    refine ⟨_, (pss_cons (ps_if (pt_val (pv 0)) (pss_one (ps_ret (pe_tup (pa_cons (pv 1) (pa_cons (pv 1) (pa_cons (pv 1) pa_nil)))))) pss_nil)
      (pss_one (ps_ret (pv 1)))), fun Z H0 D k => ?_⟩
    refine nx_seq (nx_if (b := b) (stb_ex H0) (evt_B (evd_var rfl)) (fun q => ?_) fun q => ?_)
    · subst q
      exact nx_ret (stb_ex H0) (evd_tup (eva_cons (evd_var rfl) (eva_cons (evd_var rfl) (eva_cons (evd_var rfl) eva_nil))) (by show 3 ≤ 100000; decide)) fun v H oc ex hv => k v H oc ex hv
    · subst q
      exact nx_ret (stb_ex H0) (evd_var rfl) fun v H oc ex hv => k v H oc ex hv
abbrev s__readings : Stmt := topS 30
theorem sc__readings : FnScope ["table"] ["table"] (defScope s__readings) := ⟨rfl, rfl, rfl, by decide +kernel, rfl, by decide +kernel, by decide +kernel⟩
-- slots: table 0
def rdD (a b : Bool) (x y z : Tm) : Dt := .tup [.tup [bitD a, bitD b], .tup [tmD x, tmD y, tmD z]]
def readsD (s : Row) : List Dt := [rdD (bit s 1) (bit s 6) p0 p0 p1, rdD (bit s 2) (bit s 5) p0 p1 p0, rdD (bit s 4) (bit s 3) p1 p0 p0]
def R_readings (ds : List Dt) (r : Dt) : Prop := ∃ s : Row, s.length = 8 ∧ ds = [rowD s] ∧ r = .tup (readsD s)
theorem ok__readings (T : Txt K mg) (Fn : Fun K "_readings" "_readings" s__readings f fd) : FnOk P w K mg base CX0 1 f fd ["table"] (PureSp K R_readings) := by
  refine pure_ok Fn sc__readings (fun ds r h => ?_) fun ds r h cdv A outer s H E hr => ?_
  · obtain ⟨_, _, rfl, _⟩ := h; rfl
  · obtain ⟨t, ht, rfl, rfl⟩ := h
    refine ⟨_, (pss_one (ps_ret (pe_tup (pa_cons (pe_tup (pa_cons (pe_tup (pa_cons (pe_ix (r := rIx K) ix_seq (pv 0) pe_int (fun _ _ => rfl)) (pa_cons (pe_ix (r := rIx K) ix_seq (pv 0) pe_int (fun _ _ => rfl)) pa_nil))) (pa_cons (pe_tup (pa_cons pe_int (pa_cons pe_int (pa_cons pe_int pa_nil)))) pa_nil))) (pa_cons (pe_tup (pa_cons (pe_tup (pa_cons (pe_ix (r := rIx K) ix_seq (pv 0) pe_int (fun _ _ => rfl)) (pa_cons (pe_ix (r := rIx K) ix_seq (pv 0) pe_int (fun _ _ => rfl)) pa_nil))) (pa_cons (pe_tup (pa_cons pe_int (pa_cons pe_int (pa_cons pe_int pa_nil)))) pa_nil))) (pa_cons (pe_tup (pa_cons (pe_tup (pa_cons (pe_ix (r := rIx K) ix_seq (pv 0) pe_int (fun _ _ => rfl)) (pa_cons (pe_ix (r := rIx K) ix_seq (pv 0) pe_int (fun _ _ => rfl)) pa_nil))) (pa_cons (pe_tup (pa_cons pe_int (pa_cons pe_int (pa_cons pe_int pa_nil)))) pa_nil))) pa_nil)))))), fun Z H0 D k => ?_⟩
    have bt : ∀ {ρ : Rh} (i : Nat), ρ[0]? = some (some (rowD t)) → i < 8 → EvD K (tOp (rIx K) (tVar 0) (tC (.int (i : Nat)))) ρ (bitD (bit t i)) := fun i h hi => evd_op (evd_var (d := rowD t) h) (evd_c fun _ => .int _) (rvd_ixt rfl (bit_at ht hi))
    have it : ∀ {ρ : Rh} (i : Nat), EvD K (tC (.int (i : Nat))) ρ (tmD (.pl i)) := fun i => evd_c fun _ => .int _
    have rd : ∀ {ρ : Rh} (i j a b c : Nat), ρ[0]? = some (some (rowD t)) → i < 8 → j < 8 → EvD K (tTup (tCons (tTup (tCons (tOp (rIx K) (tVar 0) (tC (.int (i : Nat)))) (tCons (tOp (rIx K) (tVar 0) (tC (.int (j : Nat)))) tNil))) (tCons (tTup (tCons (tC (.int (a : Nat))) (tCons (tC (.int (b : Nat))) (tCons (tC (.int (c : Nat))) tNil)))) tNil))) ρ (rdD (bit t i) (bit t j) (.pl a) (.pl b) (.pl c)) := fun i j a b c h hi hj =>
      evd_tup (eva_cons (evd_tup (eva_cons (bt i h hi) (eva_cons (bt j h hj) eva_nil)) (by show 2 ≤ 100000; decide)) (eva_cons (evd_tup (eva_cons (it a) (eva_cons (it b) (eva_cons (it c) eva_nil))) (by show 3 ≤ 100000; decide)) eva_nil)) (by show 2 ≤ 100000; decide)
    exact nx_ret (stb_ex H0) (evd_tup (eva_cons (rd 1 6 0 0 1 rfl (by decide) (by decide)) (eva_cons (rd 2 5 0 1 0 rfl (by decide) (by decide)) (eva_cons (rd 4 3 1 0 0 rfl (by decide) (by decide)) eva_nil))) (by show 3 ≤ 100000; decide)) fun v H oc ex hv => k v H oc ex hv
end
end Ec
/-! term_of. -/
namespace Ec
open PySem L2
def wordAt (i : Nat) : Str := words.getD i ""
theorem wordD (i : Nat) (h : i < 6) : (words.map Dt.str)[i]? = some (.str (wordAt i)) := by
  match i, h with
  | 0, _ => rfl
  | 1, _ => rfl
  | 2, _ => rfl
  | 3, _ => rfl
  | 4, _ => rfl
  | 5, _ => rfl
theorem bitI (a b : Bool) : decide ((a.toNat : Int) = (b.toNat : Int)) = decide (a = b) := by cases a <;> cases b <;> rfl
theorem bit1 (a : Bool) : decide ((a.toNat : Int) = 1) = a := by cases a <;> rfl
/-- the ways behind the last test -/
def tailOf (turns : Bool) (s : Row) : Nat × Tm :=
  if bit s 1 = bit s 6 then (if bit s 1 then 3 else 2, app turns p0 p0 p1)
  else if bit s 2 = bit s 5 then (if bit s 2 then 3 else 2, app turns p0 p1 p0)
  else if bit s 4 = bit s 3 then (if bit s 4 then 3 else 2, app turns p1 p0 p0)
  else lastWay turns (bit s 1) (bit s 2) (bit s 4)
theorem termOf_tail {t : Row} (h : ¬ bit t 0 = bit t 7) : termOf t = tailOf (bit t 0) (still t) := by
  unfold termOf tailOf
  rw [if_neg h]
def toldD (p : Nat × Tm) : Dt := .tup [.str (wordAt p.1), tmD p.2]
section
variable {P : Program} {w : World} {K : PySem.W.Frag} {mg : Str → Option Value} {base : Heap} {f : Addr} {fd : FuncData}
abbrev s_term_of : Stmt := topS 31
theorem sc_term_of : FnScope ["table", "turns", "readings", "worths", "parts", "once", "whole", "_"] ["table"] (defScope s_term_of) := ⟨rfl, rfl, rfl, by decide +kernel, rfl, by decide +kernel, by decide +kernel⟩
-- slots: table 0, turns 1, readings 2, worths 3, parts 4, once 5, whole 6, _ 7
def R_termof (ds : List Dt) (r : Dt) : Prop := ∃ t : Row, t.length = 8 ∧ plain t = false ∧ ds = [rowD t] ∧ r = toldD (termOf t)
theorem still_len {t : Row} (h : t.length = 8) : (still t).length = 8 := by
  unfold still
  split
  · exact putIn_length _ _ _ _
  · exact h
theorem ok_term_of (T : Txt K mg) (C_is_table : C8.Cal P w K mg base 2 "is_table" (PureSp K R_istable) []) (C_is_plain : C8.Cal P w K mg base 2 "is_plain" (PureSp K R_isplain) []) (C_put_in : C8.Cal P w K mg base 1 "put_in" (PureSp K R_putin) [])
    (C__readings : C8.Cal P w K mg base 1 "_readings" (PureSp K R_readings) []) (C__applied : C8.Cal P w K mg base 1 "_applied" (PureSp K R_applied) [])
    (Fn : Fun K "term_of" "term_of" s_term_of f fd) : FnOk P w K mg base CX0 3 f fd ["table"] (PureSp K R_termof) := by
  refine pure_ok Fn sc_term_of (fun ds r h => ?_) fun ds r h cdv A outer s H E hr => ?_
  · obtain ⟨_, _, _, rfl, _⟩ := h; rfl
  · obtain ⟨t, ht, hp, rfl, rfl⟩ := h
    refine ⟨_, (pss_cons (ps_if (pt_not (pt_val (C8.pe_c C_is_table hr (by decide) rfl (pa_cons (pv 0) (pa_cons pe_int pa_nil))))) (pss_one ps_never) pss_nil)
      (pss_cons (ps_if (pt_val (C8.pe_c C_is_plain hr (by decide) rfl (pa_cons (pv 0) pa_nil))) (pss_one ps_never) pss_nil)
      (pss_cons (ps_if (pt_cmpR op_eq (pe_ix (r := rIx K) ix_seq (pv 0) pe_int (fun _ _ => rfl)) (pe_ix (r := rIx K) ix_seq (pv 0) pe_int (fun _ _ => rfl)) (nomark _)) (pss_one (ps_ret (pe_tup (pa_cons (pe_ix (r := rIx K) ix_seq (pe_tup (pa_cons pe_str (pa_cons pe_str pa_nil))) (pe_ix (r := rIx K) ix_seq (pv 0) pe_int (fun _ _ => rfl)) (fun _ _ => rfl)) (pa_cons (pe_tup (pa_cons pe_int (pa_cons pe_int (pa_cons pe_int pa_nil)))) pa_nil))))) pss_nil)
      (pss_cons (ps_set (i := 1) sc_term_of.nd rfl (Or.inl rfl) (pe_cmpR op_eq (pe_ix (r := rIx K) ix_seq (pv 0) pe_int (fun _ _ => rfl)) pe_int (nomark _)))
      (pss_cons (ps_if (pt_val (pv 1)) (pss_one (ps_set (i := 0) sc_term_of.nd rfl (Or.inl rfl) (C8.pe_c C_put_in hr (by decide) rfl (pa_cons (pv 0) (pa_cons (pe_tup (pa_cons (pv 0) (pa_cons (pv 0) (pa_cons (pv 0) pa_nil)))) pa_nil))))) pss_nil)
      (pss_cons (ps_set (i := 2) sc_term_of.nd rfl (Or.inl rfl) (C8.pe_c C__readings hr (by decide) rfl (pa_cons (pv 0) pa_nil)))
      (pss_cons (ps_for PassesOwn.never rfl (pi_tupK (K := K) rfl (pv 2)) (pg_tupK (K := K) rfl rfl (pgs_cons (pg_name (i := 3) sc_term_of.nd rfl (Or.inl rfl)) (pgs_cons (pg_name (i := 4) sc_term_of.nd rfl (Or.inl rfl)) pgs_nil)))
        (pss_one (ps_if (pt_cmpR op_eq (pe_ix (r := rIx K) ix_seq (pv 3) pe_int (fun _ _ => rfl)) (pe_ix (r := rIx K) ix_seq (pv 3) pe_int (fun _ _ => rfl)) (nomark _)) (pss_one (ps_ret (pe_tup (pa_cons (pe_ix (r := rIx K) ix_seq (pe_tup (pa_cons pe_str (pa_cons pe_str pa_nil))) (pe_ix (r := rIx K) ix_seq (pv 3) pe_int (fun _ _ => rfl)) (fun _ _ => rfl)) (pa_cons (C8.pe_c C__applied hr (by decide) rfl (pa_cons (pv 1) (pa_cons (pv 4) pa_nil))) pa_nil))))) pss_nil)))
      (pss_cons (ps_setLc (i := 5) (own := [("worths", 3), ("_", 7)]) (g := (gTup K 2 (gCons (gName 3) (gCons (gName 7) gNil)))) (tt := tYes) rfl sc_term_of.nd rfl rfl (sw_true rfl rfl rfl (by decide +kernel)) (pi_tupK (K := K) rfl (pv 2)) (blkOk_by (by kernel_rfl)) (fun _ _ _ _ _ => (pg_tupK (K := K) rfl rfl (pgs_cons (pg_name (i := 3) sc_term_of.nd rfl (Or.inl rfl)) (pgs_cons (pg_name (i := 7) sc_term_of.nd rfl (Or.inl rfl)) pgs_nil)))) (fun _ _ _ _ _ => pts_nil) (fun _ _ _ _ _ => (pe_ix (r := rIx K) ix_seq (pv 3) pe_int (fun _ _ => rfl))))
      (pss_cons (ps_set (i := 6) sc_term_of.nd rfl (Or.inl rfl) (C8.pe_c C__applied hr (by decide) rfl (pa_cons (pv 1) (pa_cons (pe_tup (pa_cons pe_int (pa_cons pe_int (pa_cons pe_int pa_nil)))) pa_nil))))
      (pss_cons (ps_if (pt_cmpR op_eq (pe_callB (r := rSum K) (cr_sum rfl) (by rfl) T.sum (by decide +kernel) (pa_cons (pv 5) pa_nil)) pe_int (nomark _)) (pss_one (ps_ret (pe_tup (pa_cons pe_str (pa_cons (pv 6) pa_nil))))) pss_nil)
      (pss_cons (ps_if (pt_cmpR op_eq (pe_callB (r := rSum K) (cr_sum rfl) (by rfl) T.sum (by decide +kernel) (pa_cons (pv 5) pa_nil)) pe_int (nomark _)) (pss_one (ps_ret (pe_tup (pa_cons pe_str (pa_cons (pv 6) pa_nil))))) pss_nil)
      (pss_cons (ps_set (i := 4) sc_term_of.nd rfl (Or.inl rfl) (pe_lst (pa_cons pe_int (pa_cons pe_int (pa_cons pe_int pa_nil)))))
      (pss_cons (ps_asg (pv 6) (pg_sub (pv 4) (pe_op op_sub pe_int (pe_bmC (K := K) rfl (pe_bm PySem.F.plainAttrs_list PySem.F.slot_list_index PySem.F.type_list_index mt_index (pv 5) (pa_cons pe_int pa_nil)))) set_list))
      (pss_one (ps_ret (pe_tup (pa_cons pe_str (pa_cons (C8.pe_c C__applied hr (by decide) rfl (pa_cons (pv 1) (pa_cons (pe_callTy (r := rTupO K) call_tuple_of (by rfl) T.tuple (by decide +kernel) (pa_cons (pv 4) pa_nil)) pa_nil))) pa_nil)))))))))))))))))), fun Z H0 D k => ?_⟩
    have bt : ∀ {ρ : Rh} {u : Row} (i : Nat), u.length = 8 → ρ[0]? = some (some (rowD u)) → i < 8 → EvD K (tOp (rIx K) (tVar 0) (tC (.int (i : Nat)))) ρ (bitD (bit u i)) := fun i hu h hi => evd_op (evd_var h) (evd_c fun _ => .int _) (rvd_ixt rfl (bit_at hu hi))
    refine nx_seq (nx_ifF (stb_ex H0) (evt_not (evt_B (evd_call (d := .bl true) (eva_cons (evd_var rfl) (eva_cons evd_int eva_nil)) ⟨t, 3, by omega, by decide, rfl, by rw [ht]; rfl⟩))) ?_)
    refine nx_seq (nx_ifF (stb_ex H0) (evt_B (evd_call (d := .bl false) (eva_cons (evd_var rfl) eva_nil) ⟨t, ht, rfl, by rw [← plain_eq ht, hp]⟩)) ?_)
    refine nx_seq (nx_if (b := decide (bit t 0 = bit t 7)) (stb_ex H0) ((evt_test (evd_op (bt 0 ht rfl (by decide)) (bt 7 ht rfl (by decide)) rvd_eqI)).is (bitI _ _)) (fun q => ?_) fun q => ?_)
    · -- like ends
      have q1 : bit t 0 = bit t 7 := of_decide_eq_true q
      have e : termOf t = (if bit t 0 then 1 else 0, .ap p0 p0 p0) := by unfold termOf; rw [if_pos q1]
      rw [e] at k
      refine nx_ret (d := toldD (if bit t 0 then 1 else 0, .ap p0 p0 p0)) (stb_ex H0) (evd_tup (eva_cons (evd_op (evd_tup (eva_cons evd_str (eva_cons evd_str eva_nil)) (by show 2 ≤ 100000; decide)) (bt 0 ht rfl (by decide)) (rvd_ixt (n := (bit t 0).toNat) rfl ?_)) (eva_cons (evd_tup (eva_cons evd_int (eva_cons evd_int (eva_cons evd_int eva_nil))) (by show 3 ≤ 100000; decide)) eva_nil)) (by show 2 ≤ 100000; decide)) fun v H oc ex hv => k v H oc ex hv
      cases bit t 0 <;> rfl
    have q1 : ¬ bit t 0 = bit t 7 := of_decide_eq_false q
    rw [termOf_tail q1] at k
    refine nx_seq (nx_asg (d := .bl (bit t 0)) (stb_ex H0) ((evd_op (bt 0 ht rfl (by decide)) (evd_int (i := 1)) rvd_eqI).is (by rw [bit1])) ?_)
    generalize htu : bit t 0 = turns at k
    have hs := still_len ht
    generalize hsd : still t = u at k hs
    -- behind the turn
    have rest : ∀ {R : L2.St → Hp → Prop}, Nx K Z (Evl.Ex H0) [some (rowD u), some (.bl turns), none, none, none, none, none, none] R → Nx K Z (Evl.Ex H0) [some (rowD u), some (.bl turns), none, none, none, none, none, none] R := fun h => h
    refine nx_seq (nx_if (b := turns) (stb_ex H0) (evt_B (evd_var rfl)) (fun q => ?_) fun q => ?_)
    · subst q
      refine nx_asg (d := rowD u) (stb_ex H0) (evd_call (eva_cons (evd_var rfl) (eva_cons (evd_tup (eva_cons (evd_var rfl) (eva_cons (evd_var rfl) (eva_cons (evd_var rfl) eva_nil))) (by show 3 ≤ 100000; decide)) eva_nil)) ⟨t, t, t, t, ht, ht, ht, ht, .inl rfl, by rw [← hsd]; unfold still; rw [htu]; rfl⟩) ?_
      refine nx_seq (nx_asg (d := .tup (readsD u)) (stb_ex H0) (evd_call (eva_cons (evd_var rfl) eva_nil) ⟨u, hs, rfl, rfl⟩) ?_)
      refine nx_seq (nx_for (ds := readsD u) (stb_ex H0) (src_tup (evd_var rfl)) (fun _ => [3, 4]) (fun d => match d with | .tup [a, b] => [a, b] | _ => []) (fun d hd => ?_)
        (fun i ρ F => F = Evl.Ex H0 ∧ (0 < i → ¬ bit u 1 = bit u 6) ∧ (1 < i → ¬ bit u 2 = bit u 5) ∧ (2 < i → ¬ bit u 4 = bit u 3) ∧ ∃ x y, ρ = [some (rowD u), some (.bl true), some (.tup (readsD u)), x, y, none, none, none]) ⟨rfl, fun h => absurd h (Nat.not_lt_zero _), fun h => absurd h (Nat.not_lt_zero _), fun h => absurd h (Nat.not_lt_zero _), _, _, rfl⟩ ?_ ?_)
      · rcases List.mem_cons.mp hd with e | hd
        · rw [e]; exact gd_pair
        rcases List.mem_cons.mp hd with e | hd
        · rw [e]; exact gd_pair
        · rw [List.mem_singleton.mp hd]; exact gd_pair
      · rintro LF sL i d ρ F hi ⟨rfl, n1, n2, n3, x, y, rfl⟩ sF
        -- one turn, its bits and parts told
        have word : ∀ {ρ : Rh} (a b : Bool), ρ[3]? = some (some (.tup [bitD a, bitD b])) → EvD K (tOp (rIx K) (tTup (tCons (tC (.str "and")) (tCons (tC (.str "or")) tNil))) (tOp (rIx K) (tVar 3) (tC (.int 0)))) ρ (.str (wordAt (if a then 3 else 2))) := fun a b h =>
          evd_op (evd_tup (eva_cons evd_str (eva_cons evd_str eva_nil)) (by show 2 ≤ 100000; decide)) (evd_op (evd_var h) evd_int (rvd_ixt (n := 0) (d := bitD a) rfl rfl)) (rvd_ixt (n := a.toNat) rfl (by cases a <;> rfl))
        have eqt : ∀ {ρ : Rh} (a b : Bool), ρ[3]? = some (some (.tup [bitD a, bitD b])) → EvT K (tTest (tOp rEq (tOp (rIx K) (tVar 3) (tC (.int 0))) (tOp (rIx K) (tVar 3) (tC (.int 1))))) ρ (decide (a = b)) := fun a b h =>
          (evt_test (evd_op (evd_op (evd_var h) evd_int (rvd_ixt (n := 0) (d := bitD a) rfl rfl)) (evd_op (evd_var h) evd_int (rvd_ixt (n := 1) (d := bitD b) rfl rfl)) rvd_eqI)).is (bitI a b)
        have ret : ∀ {ρ : Rh} (a b : Bool) (x y z : Tm), ρ[3]? = some (some (.tup [bitD a, bitD b])) → ρ[4]? = some (some (.tup [tmD x, tmD y, tmD z])) → ρ[1]? = some (some (.bl true)) →
            EvD K (tTup (tCons (tOp (rIx K) (tTup (tCons (tC (.str "and")) (tCons (tC (.str "or")) tNil))) (tOp (rIx K) (tVar 3) (tC (.int 0)))) (tCons (tCall (PureSp K R_applied) [] E0 (tCons (tVar 1) (tCons (tVar 4) tNil))) tNil))) ρ (toldD (if a then 3 else 2, app true x y z)) := fun a b x y z h3 h4 h1 =>
          evd_tup (eva_cons (word a b h3) (eva_cons (evd_call (d := tmD (app true x y z)) (eva_cons (evd_var h1) (eva_cons (evd_var h4) eva_nil)) ⟨true, x, y, z, rfl, rfl⟩) eva_nil)) (by show 2 ≤ 100000; decide)
        match i, hi with
        | 0, hi =>
          cases hi
          refine nx_if (b := decide (bit u 1 = bit u 6)) (sF.andZ sL) (eqt _ _ rfl) (fun q => ?_) fun q => ?_
          · refine nx_ret (sF.andZ sL) (ret _ _ p0 p0 p1 rfl rfl rfl) fun v H oc ex hv => k v H oc ex.1 ?_
            unfold tailOf
            rw [if_pos (of_decide_eq_true q)]; exact hv
          · exact as_in ⟨rfl, fun _ => of_decide_eq_false q, fun h => absurd h (by decide), fun h => absurd h (by decide), _, _, rfl⟩ sF
        | 1, hi =>
          cases hi
          refine nx_if (b := decide (bit u 2 = bit u 5)) (sF.andZ sL) (eqt _ _ rfl) (fun q => ?_) fun q => ?_
          · refine nx_ret (sF.andZ sL) (ret _ _ p0 p1 p0 rfl rfl rfl) fun v H oc ex hv => k v H oc ex.1 ?_
            unfold tailOf
            rw [if_neg (n1 (by decide)), if_pos (of_decide_eq_true q)]; exact hv
          · exact as_in ⟨rfl, fun _ => n1 (by decide), fun _ => of_decide_eq_false q, fun h => absurd h (by decide), _, _, rfl⟩ sF
        | 2, hi =>
          cases hi
          refine nx_if (b := decide (bit u 4 = bit u 3)) (sF.andZ sL) (eqt _ _ rfl) (fun q => ?_) fun q => ?_
          · refine nx_ret (sF.andZ sL) (ret _ _ p1 p0 p0 rfl rfl rfl) fun v H oc ex hv => k v H oc ex.1 ?_
            unfold tailOf
            rw [if_neg (n1 (by decide)), if_neg (n2 (by decide)), if_pos (of_decide_eq_true q)]; exact hv
          · exact as_in ⟨rfl, fun _ => n1 (by decide), fun _ => n2 (by decide), fun _ => of_decide_eq_false q, _, _, rfl⟩ sF
        | i + 3, hi => cases hi
      · rintro ρ F ⟨rfl, n1, n2, n3, x, y, rfl⟩ sF
        have el : tailOf true u = lastWay true (bit u 1) (bit u 2) (bit u 4) := by
          unfold tailOf
          rw [if_neg (n1 (show 0 < 3 by decide)), if_neg (n2 (show 1 < 3 by decide)), if_neg (n3 (show 2 < 3 by decide))]
        rw [el] at k
        refine nx_seq (nx_asg (d := .lst [bitD (bit u 1), bitD (bit u 2), bitD (bit u 4)]) sF (EvN.toD (evn_lcP (α := (Bool × Bool) × Dt) [((bit u 1, bit u 6), .tup [tmD p0, tmD p0, tmD p1]), ((bit u 2, bit u 5), .tup [tmD p0, tmD p1, tmD p0]), ((bit u 4, bit u 3), .tup [tmD p1, tmD p0, tmD p0])] (fun q => .tup [bitD q.1.1, bitD q.1.2]) (fun q => q.2) (fun q => bitD q.1.1)
          (src_tup (evd_var rfl)) (by show 3 ≤ 100000; decide) fun i q hq => evd_op (evd_var rfl) evd_int (rvd_ixt (n := 0) rfl rfl))) ?_)
        clear n1 n2 n3 el
        generalize bit u 1 = a at k ⊢
        generalize bit u 2 = b at k ⊢
        generalize bit u 4 = c at k ⊢
        have tri : ∀ {ρ : Rh}, EvD K (tTup (tCons (tC (.int 0)) (tCons (tC (.int 1)) (tCons (tC (.int 2)) tNil)))) ρ (.tup [tmD p0, tmD p1, tmD p2]) := evd_tup (eva_cons evd_int (eva_cons evd_int (eva_cons evd_int eva_nil))) (by show 3 ≤ 100000; decide)
        refine nx_seq (nx_asg (d := tmD (app true p0 p1 p2)) sF (evd_call (eva_cons (evd_var rfl) (eva_cons tri eva_nil)) ⟨true, p0, p1, p2, rfl, rfl⟩) ?_)
        have sum_ : ∀ {ρ : Rh} (n : Nat), ρ[5]? = some (some (.lst [bitD a, bitD b, bitD c])) → EvT K (tTest (tOp rEq (tCB (rSum K) (tCons (tVar 5) tNil)) (tC (.int (n : Nat))))) ρ (decide (a.toNat + b.toNat + c.toNat = n)) := fun n h =>
          (evt_test (evd_op (evd_callB (d := .int ([(a.toNat : Int), (b.toNat : Int), (c.toNat : Int)].sum)) (eva_cons (evd_var h) eva_nil) (rc_sum (ns := [(a.toNat : Int), (b.toNat : Int), (c.toNat : Int)]))) (evd_c fun _ => .int _) rvd_eqI)).is (by
            refine decide_eq_decide.mpr ?_
            simp only [List.sum_cons, List.sum_nil]
            omega)
        refine nx_seq (nx_if (b := decide (a.toNat + b.toNat + c.toNat = 0)) sF (sum_ 0 rfl) (fun q => ?_) fun q => ?_)
        · have e : lastWay true a b c = (4, app true p0 p1 p2) := by unfold lastWay; rw [if_pos (of_decide_eq_true q)]
          rw [e] at k
          exact nx_ret (d := toldD (4, app true p0 p1 p2)) sF (evd_tup (eva_cons evd_str (eva_cons (evd_var rfl) eva_nil)) (by show 2 ≤ 100000; decide)) fun v H oc ex hv => k v H oc ex hv
        refine nx_seq (nx_if (b := decide (a.toNat + b.toNat + c.toNat = 3)) sF (sum_ 3 rfl) (fun q2 => ?_) fun q2 => ?_)
        · have e : lastWay true a b c = (5, app true p0 p1 p2) := by unfold lastWay; rw [if_neg (of_decide_eq_false q), if_pos (of_decide_eq_true q2)]
          rw [e] at k
          exact nx_ret (d := toldD (5, app true p0 p1 p2)) sF (evd_tup (eva_cons evd_str (eva_cons (evd_var rfl) eva_nil)) (by show 2 ≤ 100000; decide)) fun v H oc ex hv => k v H oc ex hv
        obtain ⟨j, hj2, hj0, hjn, X, Y, W, hset, hl⟩ : ∃ j : Nat, j ≤ 2 ∧ [(a.toNat : Int), (b.toNat : Int), (c.toNat : Int)][j]? = some 0 ∧ (∀ m, m < j → [(a.toNat : Int), (b.toNat : Int), (c.toNat : Int)][m]? ≠ some 0) ∧
            ∃ X Y W : Tm, [tmD p0, tmD p1, tmD p2].set (2 - j) (tmD (app true p0 p1 p2)) = [tmD X, tmD Y, tmD W] ∧ lastWay true a b c = (4, app true X Y W) := by
          have g1 := of_decide_eq_false q
          have g2 := of_decide_eq_false q2
          unfold lastWay
          rw [if_neg g1, if_neg g2]
          cases a with
          | false => exact ⟨0, by decide, rfl, fun m h => absurd h (Nat.not_lt_zero m), p0, p1, app true p0 p1 p2, rfl, rfl⟩
          | true =>
            cases b with
            | false => exact ⟨1, by decide, rfl, fun m h => by
                match m, h with
                | 0, _ => cases c <;> decide, p0, app true p0 p1 p2, p2, rfl, rfl⟩
            | true =>
              cases c with
              | false => exact ⟨2, by decide, rfl, fun m h => by
                  match m, h with
                  | 0, _ => decide
                  | 1, _ => decide, app true p0 p1 p2, p1, p2, rfl, rfl⟩
              | true => exact absurd rfl g2
        rw [hl] at k
        refine nx_seq (nx_own sF (evn_lst (eva_cons evd_int (eva_cons evd_int (eva_cons evd_int eva_nil))) (by show 3 ≤ 100000; decide)) fun l H' f' hn hz => ?_)
        have h0l : H0 l = none := Evl.fresh_back f' hn
        refine nx_seq (nx_setL (l := l) (j := 2 - j) (d := tmD (app true p0 p1 p2)) (F2 := fun H => Evl.Ex H0 H ∧ Own K (l :: Z) l [tmD X, tmD Y, tmD W] H) (sF.and Own.stb) List.mem_cons_self (evd_var rfl) rfl
          ((evd_i0 (evd_int (i := 2)) (evd_lstIdx (ns := [(a.toNat : Int), (b.toNat : Int), (c.toNat : Int)]) (i := 0) (j := j) hj0 hjn (evd_var rfl) (eva_cons evd_int eva_nil))).is (by congr 1; omega)) (fun H f => ?_) (fun H v vs f hvs hv => ?_) ?_)
        · obtain ⟨_, vs, q1, q2⟩ := f
          refine ⟨vs, q1, ?_⟩
          have e := q2.length
          rw [e]
          show 2 - j < 3
          omega
        · obtain ⟨f1, vs', q1, q2⟩ := f
          rw [hvs] at q1; cases q1
          refine ⟨f1.mut h0l, _, upd_same, ?_⟩
          rw [er_upd List.mem_cons_self, ← hset]
          exact q2.set _ hv
        refine nx_rel (i := 4) (F2 := Evl.Ex H0) (ds := [tmD X, tmD Y, tmD W]) hz (fun H f => f) rfl ?_
        exact nx_ret (d := toldD (4, app true X Y W)) (stb_ex H0) (evd_tup (eva_cons evd_str (eva_cons (evd_call (d := tmD (app true X Y W)) (eva_cons (evd_var rfl) (eva_cons (evd_callB (eva_cons (evd_var rfl) eva_nil) rc_tupL) eva_nil)) ⟨true, X, Y, W, rfl, rfl⟩) eva_nil)) (by show 2 ≤ 100000; decide)) fun v H oc ex hv => k v H oc ex hv
    · subst q
      have hut : u = t := by rw [← hsd]; unfold still; rw [htu]; rfl
      subst hut
      refine nx_seq (nx_asg (d := .tup (readsD u)) (stb_ex H0) (evd_call (eva_cons (evd_var rfl) eva_nil) ⟨u, hs, rfl, rfl⟩) ?_)
      refine nx_seq (nx_for (ds := readsD u) (stb_ex H0) (src_tup (evd_var rfl)) (fun _ => [3, 4]) (fun d => match d with | .tup [a, b] => [a, b] | _ => []) (fun d hd => ?_)
        (fun i ρ F => F = Evl.Ex H0 ∧ (0 < i → ¬ bit u 1 = bit u 6) ∧ (1 < i → ¬ bit u 2 = bit u 5) ∧ (2 < i → ¬ bit u 4 = bit u 3) ∧ ∃ x y, ρ = [some (rowD u), some (.bl false), some (.tup (readsD u)), x, y, none, none, none]) ⟨rfl, fun h => absurd h (Nat.not_lt_zero _), fun h => absurd h (Nat.not_lt_zero _), fun h => absurd h (Nat.not_lt_zero _), _, _, rfl⟩ ?_ ?_)
      · rcases List.mem_cons.mp hd with e | hd
        · rw [e]; exact gd_pair
        rcases List.mem_cons.mp hd with e | hd
        · rw [e]; exact gd_pair
        · rw [List.mem_singleton.mp hd]; exact gd_pair
      · rintro LF sL i d ρ F hi ⟨rfl, n1, n2, n3, x, y, rfl⟩ sF
        -- one turn, its bits and parts told
        have word : ∀ {ρ : Rh} (a b : Bool), ρ[3]? = some (some (.tup [bitD a, bitD b])) → EvD K (tOp (rIx K) (tTup (tCons (tC (.str "and")) (tCons (tC (.str "or")) tNil))) (tOp (rIx K) (tVar 3) (tC (.int 0)))) ρ (.str (wordAt (if a then 3 else 2))) := fun a b h =>
          evd_op (evd_tup (eva_cons evd_str (eva_cons evd_str eva_nil)) (by show 2 ≤ 100000; decide)) (evd_op (evd_var h) evd_int (rvd_ixt (n := 0) (d := bitD a) rfl rfl)) (rvd_ixt (n := a.toNat) rfl (by cases a <;> rfl))
        have eqt : ∀ {ρ : Rh} (a b : Bool), ρ[3]? = some (some (.tup [bitD a, bitD b])) → EvT K (tTest (tOp rEq (tOp (rIx K) (tVar 3) (tC (.int 0))) (tOp (rIx K) (tVar 3) (tC (.int 1))))) ρ (decide (a = b)) := fun a b h =>
          (evt_test (evd_op (evd_op (evd_var h) evd_int (rvd_ixt (n := 0) (d := bitD a) rfl rfl)) (evd_op (evd_var h) evd_int (rvd_ixt (n := 1) (d := bitD b) rfl rfl)) rvd_eqI)).is (bitI a b)
        have ret : ∀ {ρ : Rh} (a b : Bool) (x y z : Tm), ρ[3]? = some (some (.tup [bitD a, bitD b])) → ρ[4]? = some (some (.tup [tmD x, tmD y, tmD z])) → ρ[1]? = some (some (.bl false)) →
            EvD K (tTup (tCons (tOp (rIx K) (tTup (tCons (tC (.str "and")) (tCons (tC (.str "or")) tNil))) (tOp (rIx K) (tVar 3) (tC (.int 0)))) (tCons (tCall (PureSp K R_applied) [] E0 (tCons (tVar 1) (tCons (tVar 4) tNil))) tNil))) ρ (toldD (if a then 3 else 2, app false x y z)) := fun a b x y z h3 h4 h1 =>
          evd_tup (eva_cons (word a b h3) (eva_cons (evd_call (d := tmD (app false x y z)) (eva_cons (evd_var h1) (eva_cons (evd_var h4) eva_nil)) ⟨false, x, y, z, rfl, rfl⟩) eva_nil)) (by show 2 ≤ 100000; decide)
        match i, hi with
        | 0, hi =>
          cases hi
          refine nx_if (b := decide (bit u 1 = bit u 6)) (sF.andZ sL) (eqt _ _ rfl) (fun q => ?_) fun q => ?_
          · refine nx_ret (sF.andZ sL) (ret _ _ p0 p0 p1 rfl rfl rfl) fun v H oc ex hv => k v H oc ex.1 ?_
            unfold tailOf
            rw [if_pos (of_decide_eq_true q)]; exact hv
          · exact as_in ⟨rfl, fun _ => of_decide_eq_false q, fun h => absurd h (by decide), fun h => absurd h (by decide), _, _, rfl⟩ sF
        | 1, hi =>
          cases hi
          refine nx_if (b := decide (bit u 2 = bit u 5)) (sF.andZ sL) (eqt _ _ rfl) (fun q => ?_) fun q => ?_
          · refine nx_ret (sF.andZ sL) (ret _ _ p0 p1 p0 rfl rfl rfl) fun v H oc ex hv => k v H oc ex.1 ?_
            unfold tailOf
            rw [if_neg (n1 (by decide)), if_pos (of_decide_eq_true q)]; exact hv
          · exact as_in ⟨rfl, fun _ => n1 (by decide), fun _ => of_decide_eq_false q, fun h => absurd h (by decide), _, _, rfl⟩ sF
        | 2, hi =>
          cases hi
          refine nx_if (b := decide (bit u 4 = bit u 3)) (sF.andZ sL) (eqt _ _ rfl) (fun q => ?_) fun q => ?_
          · refine nx_ret (sF.andZ sL) (ret _ _ p1 p0 p0 rfl rfl rfl) fun v H oc ex hv => k v H oc ex.1 ?_
            unfold tailOf
            rw [if_neg (n1 (by decide)), if_neg (n2 (by decide)), if_pos (of_decide_eq_true q)]; exact hv
          · exact as_in ⟨rfl, fun _ => n1 (by decide), fun _ => n2 (by decide), fun _ => of_decide_eq_false q, _, _, rfl⟩ sF
        | i + 3, hi => cases hi
      · rintro ρ F ⟨rfl, n1, n2, n3, x, y, rfl⟩ sF
        have el : tailOf false u = lastWay false (bit u 1) (bit u 2) (bit u 4) := by
          unfold tailOf
          rw [if_neg (n1 (show 0 < 3 by decide)), if_neg (n2 (show 1 < 3 by decide)), if_neg (n3 (show 2 < 3 by decide))]
        rw [el] at k
        refine nx_seq (nx_asg (d := .lst [bitD (bit u 1), bitD (bit u 2), bitD (bit u 4)]) sF (EvN.toD (evn_lcP (α := (Bool × Bool) × Dt) [((bit u 1, bit u 6), .tup [tmD p0, tmD p0, tmD p1]), ((bit u 2, bit u 5), .tup [tmD p0, tmD p1, tmD p0]), ((bit u 4, bit u 3), .tup [tmD p1, tmD p0, tmD p0])] (fun q => .tup [bitD q.1.1, bitD q.1.2]) (fun q => q.2) (fun q => bitD q.1.1)
          (src_tup (evd_var rfl)) (by show 3 ≤ 100000; decide) fun i q hq => evd_op (evd_var rfl) evd_int (rvd_ixt (n := 0) rfl rfl))) ?_)
        clear n1 n2 n3 el
        generalize bit u 1 = a at k ⊢
        generalize bit u 2 = b at k ⊢
        generalize bit u 4 = c at k ⊢
        have tri : ∀ {ρ : Rh}, EvD K (tTup (tCons (tC (.int 0)) (tCons (tC (.int 1)) (tCons (tC (.int 2)) tNil)))) ρ (.tup [tmD p0, tmD p1, tmD p2]) := evd_tup (eva_cons evd_int (eva_cons evd_int (eva_cons evd_int eva_nil))) (by show 3 ≤ 100000; decide)
        refine nx_seq (nx_asg (d := tmD (app false p0 p1 p2)) sF (evd_call (eva_cons (evd_var rfl) (eva_cons tri eva_nil)) ⟨false, p0, p1, p2, rfl, rfl⟩) ?_)
        have sum_ : ∀ {ρ : Rh} (n : Nat), ρ[5]? = some (some (.lst [bitD a, bitD b, bitD c])) → EvT K (tTest (tOp rEq (tCB (rSum K) (tCons (tVar 5) tNil)) (tC (.int (n : Nat))))) ρ (decide (a.toNat + b.toNat + c.toNat = n)) := fun n h =>
          (evt_test (evd_op (evd_callB (d := .int ([(a.toNat : Int), (b.toNat : Int), (c.toNat : Int)].sum)) (eva_cons (evd_var h) eva_nil) (rc_sum (ns := [(a.toNat : Int), (b.toNat : Int), (c.toNat : Int)]))) (evd_c fun _ => .int _) rvd_eqI)).is (by
            refine decide_eq_decide.mpr ?_
            simp only [List.sum_cons, List.sum_nil]
            omega)
        refine nx_seq (nx_if (b := decide (a.toNat + b.toNat + c.toNat = 0)) sF (sum_ 0 rfl) (fun q => ?_) fun q => ?_)
        · have e : lastWay false a b c = (4, app false p0 p1 p2) := by unfold lastWay; rw [if_pos (of_decide_eq_true q)]
          rw [e] at k
          exact nx_ret (d := toldD (4, app false p0 p1 p2)) sF (evd_tup (eva_cons evd_str (eva_cons (evd_var rfl) eva_nil)) (by show 2 ≤ 100000; decide)) fun v H oc ex hv => k v H oc ex hv
        refine nx_seq (nx_if (b := decide (a.toNat + b.toNat + c.toNat = 3)) sF (sum_ 3 rfl) (fun q2 => ?_) fun q2 => ?_)
        · have e : lastWay false a b c = (5, app false p0 p1 p2) := by unfold lastWay; rw [if_neg (of_decide_eq_false q), if_pos (of_decide_eq_true q2)]
          rw [e] at k
          exact nx_ret (d := toldD (5, app false p0 p1 p2)) sF (evd_tup (eva_cons evd_str (eva_cons (evd_var rfl) eva_nil)) (by show 2 ≤ 100000; decide)) fun v H oc ex hv => k v H oc ex hv
        obtain ⟨j, hj2, hj0, hjn, X, Y, W, hset, hl⟩ : ∃ j : Nat, j ≤ 2 ∧ [(a.toNat : Int), (b.toNat : Int), (c.toNat : Int)][j]? = some 0 ∧ (∀ m, m < j → [(a.toNat : Int), (b.toNat : Int), (c.toNat : Int)][m]? ≠ some 0) ∧
            ∃ X Y W : Tm, [tmD p0, tmD p1, tmD p2].set (2 - j) (tmD (app false p0 p1 p2)) = [tmD X, tmD Y, tmD W] ∧ lastWay false a b c = (4, app false X Y W) := by
          have g1 := of_decide_eq_false q
          have g2 := of_decide_eq_false q2
          unfold lastWay
          rw [if_neg g1, if_neg g2]
          cases a with
          | false => exact ⟨0, by decide, rfl, fun m h => absurd h (Nat.not_lt_zero m), p0, p1, app false p0 p1 p2, rfl, rfl⟩
          | true =>
            cases b with
            | false => exact ⟨1, by decide, rfl, fun m h => by
                match m, h with
                | 0, _ => cases c <;> decide, p0, app false p0 p1 p2, p2, rfl, rfl⟩
            | true =>
              cases c with
              | false => exact ⟨2, by decide, rfl, fun m h => by
                  match m, h with
                  | 0, _ => decide
                  | 1, _ => decide, app false p0 p1 p2, p1, p2, rfl, rfl⟩
              | true => exact absurd rfl g2
        rw [hl] at k
        refine nx_seq (nx_own sF (evn_lst (eva_cons evd_int (eva_cons evd_int (eva_cons evd_int eva_nil))) (by show 3 ≤ 100000; decide)) fun l H' f' hn hz => ?_)
        have h0l : H0 l = none := Evl.fresh_back f' hn
        refine nx_seq (nx_setL (l := l) (j := 2 - j) (d := tmD (app false p0 p1 p2)) (F2 := fun H => Evl.Ex H0 H ∧ Own K (l :: Z) l [tmD X, tmD Y, tmD W] H) (sF.and Own.stb) List.mem_cons_self (evd_var rfl) rfl
          ((evd_i0 (evd_int (i := 2)) (evd_lstIdx (ns := [(a.toNat : Int), (b.toNat : Int), (c.toNat : Int)]) (i := 0) (j := j) hj0 hjn (evd_var rfl) (eva_cons evd_int eva_nil))).is (by congr 1; omega)) (fun H f => ?_) (fun H v vs f hvs hv => ?_) ?_)
        · obtain ⟨_, vs, q1, q2⟩ := f
          refine ⟨vs, q1, ?_⟩
          have e := q2.length
          rw [e]
          show 2 - j < 3
          omega
        · obtain ⟨f1, vs', q1, q2⟩ := f
          rw [hvs] at q1; cases q1
          refine ⟨f1.mut h0l, _, upd_same, ?_⟩
          rw [er_upd List.mem_cons_self, ← hset]
          exact q2.set _ hv
        refine nx_rel (i := 4) (F2 := Evl.Ex H0) (ds := [tmD X, tmD Y, tmD W]) hz (fun H f => f) rfl ?_
        exact nx_ret (d := toldD (4, app false X Y W)) (stb_ex H0) (evd_tup (eva_cons evd_str (eva_cons (evd_call (d := tmD (app false X Y W)) (eva_cons (evd_var rfl) (eva_cons (evd_callB (eva_cons (evd_var rfl) eva_nil) rc_tupL) eva_nil)) ⟨false, X, Y, W, rfl, rfl⟩) eva_nil)) (by show 2 ≤ 100000; decide)) fun v H oc ex hv => k v H oc ex hv
end
end Ec
/-! for i, x in enumerate(t), t a tuple. -/
namespace PySem
open Sem (wp)
/-- enumerate(v) with no start, v told by how its iterator begins -/
theorem meets_enumV {v : Value} {o : Obj} {G : Heap → Prop} (B : Begins v o G) : Meets (Builtin.«enumerate.__new__» ⟨[.type "enumerate", v], []⟩) (fun _ R s => G s.heap ∧
    R (.ok (.ret (.ref (s.heap.push o).objs.size))) { s with heap := (s.heap.push o).push { cls := .type "enumerate", data := .fields #[.none, .bool false, .ref s.heap.objs.size, rawInt 0, .none, .none] } }) :=
  .of_wp fun prog w A R s h => by
    obtain ⟨hp, g, d, tk, os⟩ := s
    obtain ⟨hG, h⟩ := h
    have hsub := sub_enumerate
    have it : ∀ {A' : Around} {E : Value → Shared → Prop} {Q : Value → Shared → Prop}, Q (.ref hp.objs.size) ⟨hp.push o, g, d, tk, os⟩ → wpAny (model prog w) A' (pyIter v) Q E ⟨hp, g, d, tk, os⟩ := fun q => B.iter prog w _ _ _ _ hG q
    wp_walk using it
    refine wpAny_stack_any fun st => wpAny_pure ?_
    split
    · rename_i c _ _ _ _ _
      cases (c == Value.type "enumerate") <;> (wp_walk using it; exact ⟨_, rfl, h⟩)
    · wp_walk using it
      exact ⟨_, rfl, h⟩
theorem call_enumV {prog : Program} {w : World} {A : Around} {E : Value → Shared → Prop} {s : Shared} {v : Value} {o : Obj} {G : Heap → Prop} {Q : Value → Shared → Prop} (B : Begins v o G) (hG : G s.heap)
    (h : ∀ h', IsEnum h' (s.heap.objs.size + 1) s.heap.objs.size 0 .none → h'.get? s.heap.objs.size = some o → (∀ b u, s.heap.get? b = some u → h'.get? b = some u) → Q (.ref (s.heap.objs.size + 1)) { s with heap := h' }) :
    wpAny (model prog w) A (call (.type "enumerate") [v]) Q E s := by
  refine callType_new F.called_enumerate (by decide) (F.typeCall_enumerate_1 _) (F.newCall_enumerate_1 _) (fun obj => F.args_object_init_2 obj _) F.entry_enumerate_new (meets_enumV B) ⟨hG, ?_⟩
  have hz : (s.heap.push o).objs.size = s.heap.objs.size + 1 := Heap.size_push ..
  show _ ∧ _
  rw [hz]
  have he : IsEnum ((s.heap.push o).push { cls := .type "enumerate", data := .fields #[.none, .bool false, .ref s.heap.objs.size, rawInt 0, .none, .none] }) (s.heap.objs.size + 1) s.heap.objs.size 0 .none := by
    have q := Heap.get?_push_size (s.heap.push o) (o := { cls := .type "enumerate", data := .fields #[.none, .bool false, .ref s.heap.objs.size, rawInt 0, .none, .none] }) rfl
    rw [hz] at q; exact q
  exact ⟨⟨_, he, rfl⟩, h _ he (Heap.get?_push_of_some _ (Heap.get?_push_size _ B.free)) fun b u x => Heap.get?_push_of_some _ (Heap.get?_push_of_some _ x)⟩
end PySem
namespace Ec
open PySem L2
/-- the tuple at a, each item in a new pair with its number -/
def IteT (K : PySem.W.Frag) (a : Addr) : It :=
  ⟨fun i H => ∃ (xs : List V) (x : V), SqT K H a xs ∧ xs[i]? = some x, fun i H v H' => ∃ T x, v = .ref T ∧ H T = none ∧ H' = upd H T (.tup [.int (i : Nat), x]) ∧ ∀ xs, SqT K H a xs → xs[i]? = some x, fun i H => ∃ xs : List V, SqT K H a xs ∧ xs.length = i⟩
theorem turn_enumT {P : Program} {w : World} {K : PySem.W.Frag} {elts : List Expr} {kk : Nat} {tpos : Pos} (a e it : Addr) :
    Turn P w K (.Tuple elts kk tpos) (IteT K a) [e, it] e (fun i h => (∃ old, IsEnum h e it ((i : Nat) : Int) old) ∧ h.IsTupleIter it a i ∧ e ≠ it ∧ a ≠ it ∧ a ≠ e) where
  mem := by simp
  obj := fun i h st b hb => by
    obtain ⟨⟨old, he⟩, ⟨o, ho, hc, hd⟩, _⟩ := st
    rcases List.mem_cons.mp hb with z | z
    · rw [z]; exact ⟨_, he, fun v q => nomatch q⟩
    · rw [List.mem_singleton.mp z]; exact ⟨o, ho, fun v q => by rw [hd] at q; cases q⟩
  keep := fun i h h' st k => let ⟨⟨old, he⟩, hi, n⟩ := st; ⟨⟨old, k e (by simp) _ he⟩, hi.at fun o q => k it (by simp) o q, n⟩
  item := by
    intro X hP hw hK hc i pins s σ H E I hf st hg
    subst hP hw hK
    obtain ⟨⟨old, he⟩, hit, hne, nai, nae⟩ := st
    obtain ⟨xs, x, hq, hx⟩ := hg
    obtain ⟨its, rv, p, hz⟩ := I.tuple hq
    obtain ⟨u, hu, ru⟩ := rv.get hx
    have hel : e < s.heap.objs.size := Heap.lt_size he
    have hil : it < s.heap.objs.size := by obtain ⟨_, q, _⟩ := hit; exact Heap.lt_size q
    have hh : X.A.in1.handled = none := I.ok.hd hc
    have D := Draws.tuple (prog := X.prog) (w := X.w) (A := X.A.in1) hh it a nai its.toArray
    have hlt : i < its.toArray.size := by
      have := (List.getElem?_eq_some_iff.mp hu).1
      rw [List.size_toArray]; exact this
    refine wpAny_pyNext_enum_itemD D he ⟨hit, p⟩ hlt hne (by simp [hne, Ne.symm nae]) fun y h' tk hy ho st' hT hsz hk => ?_
    have ey : y = u := by
      have q : its[i]? = some y := by simpa using hy
      rw [hu] at q; exact (Option.some.inj q).symm
    subst ey
    refine ⟨_, rfl, wpAny_letOwnedTupleGo_enum ho fun h'' he' sb => ?_⟩
    have hT2 : h''.get? s.heap.objs.size = some { cls := .type "tuple", data := .seq #[.int i tk, y] } := (sb.2 _ (Nat.ne_of_gt hel)).trans hT
    have new : ObjOk X.prog X.w (upd H s.heap.objs.size (.tup [.int (i : Nat), x])) h'' s.heap.objs.size (.tup [.int (i : Nat), x]) :=
      ⟨by show 2 ≤ sizeLine; decide, [.int i tk, y], .cons ⟨_, rfl⟩ (.cons ru .nil), ⟨_, hT2, rfl, _, rfl⟩⟩
    have I1 : Inv X pins σ (upd H s.heap.objs.size (.tup [.int (i : Nat), x])) { s with heap := h'', toks := tk + 1 } :=
      I.turnedNew (ch := [e, it]) (fun b ob hb q => (sb.2 b (fun z => hb (by simp [z]))).trans (hk b ob (fun z => hb (by simp [z])) (fun z => hb (by simp [z])) q)) hf (Nat.le_refl _) new
    refine ⟨.ref s.heap.objs.size, _, I1, rfl, ⟨_, x, rfl, I.hok.fresh (Nat.le_refl _), rfl, fun ys hy => by rw [I.tuple_inj hy hq]; exact hx⟩, ⟨⟨y, ?_⟩, st'.1.at fun o q => (sb.2 it (Ne.symm hne)).trans q, hne, nai, nae⟩, fun b hb => ?_⟩
    · have e1 : ((i + 1 : Nat) : Int) = (i : Int) + 1 := by omega
      rw [e1]; exact he'
    · have hb' : b < s.heap.objs.size := by
        rcases List.mem_cons.mp hb with z | z
        · rw [z]; exact hel
        · rw [List.mem_singleton.mp z]; exact hil
      rw [upd_ne (Nat.ne_of_lt hb')]
      exact (hf b hb).1
  done := by
    intro X hP hw hK hc i pins s σ H E I hf st hg
    subst hP hw hK
    obtain ⟨⟨old, he⟩, hit, hne, nai, nae⟩ := st
    obtain ⟨xs, hq, hx⟩ := hg
    obtain ⟨its, rv, p, hz⟩ := I.tuple hq
    obtain ⟨f0, f1, f2, f3, f4, f5⟩ := hf it (by simp)
    have hl := rv.length
    have D := Draws.tuple (prog := X.prog) (w := X.w) (A := X.A.in1) (I.ok.hd hc) it a nai its.toArray
    have ei : i = its.toArray.size := by rw [List.size_toArray]; omega
    subst ei
    exact wpAny_pyNext_enum_endD D he ⟨hit, p⟩ fun h' eb => ⟨rfl, I.turned (t' := s.toks) (fun b o hb q => eb b o hb q) f0 f1 f3 f4 f5⟩
  self := fun A i s Q E st h => let ⟨⟨_, he⟩, _⟩ := st; wpAny_pyIter_enum he h
def iEnumT (K : PySem.W.Frag) (ta : TA) : TI := fun σ H R => ta σ H fun vs H1 => ∃ a xs, vs = [.ref a] ∧ SqT K H1 a xs ∧ R (IteT K a) H1
theorem pi_enumT {X : Cx} {K : PySem.W.Frag} {e : Expr} {ta : TA} {p pos tpos : Pos} {elts : List Expr} {kk : Nat} (hK : X.K = K) (hg : Gl X "enumerate") (hm : X.mg "enumerate" = none) (ha : PA X [e] ta) (hs : starEach [e] X.env = [(false, eval e X.env)] := by rfl) :
    PI X (.Tuple elts kk tpos) (.Call (.Name "enumerate" p) [e] [] pos) (iEnumT K ta) := by
  subst hK
  refine ⟨fun pins s σ H R I h => ?_⟩
  refine PyProof.Rows.Call_ (ld_blt I hg hm (by decide +kernel : PySem.bootBuiltins "enumerate" = some (.type "enumerate")) (PyProof.Rows.callWith_type1 (thn (ha.run pos pins s σ H _ I h) fun us s1 ⟨vs, H1, I1, r1, q1⟩ => ?_) hs rfl))
  obtain ⟨a, xs, ex, hq, q⟩ := q1
  subst ex
  rw [Vals.ref1 r1]
  obtain ⟨its, rv, p', hz⟩ := I1.tuple hq
  have ha1 : a < s1.heap.objs.size := by obtain ⟨o, e1, _⟩ := p'; exact Heap.lt_size e1
  refine call_enumV (begins_tuple a its.toArray) p' fun h' he hit hk => wpAny_pyIter_enum he ?_
  have I2 : Inv X pins σ H1 { s1 with heap := h' } := I1.kept (t' := s1.toks) hk
  refine ⟨s1.heap.objs.size + 1, [s1.heap.objs.size + 1, s1.heap.objs.size], _, _, H1, rfl, I2, turn_enumT a (s1.heap.objs.size + 1) s1.heap.objs.size, ⟨⟨.none, he⟩, ⟨_, hit, rfl, rfl⟩, Nat.succ_ne_self _, Nat.ne_of_lt ha1, Nat.ne_of_lt (Nat.lt_succ_of_lt ha1)⟩, fun b hb => ?_, q⟩
  have hle : s1.heap.objs.size ≤ b := by
    rcases List.mem_cons.mp hb with z | z
    · rw [z]; exact Nat.le_succ _
    · rw [List.mem_singleton.mp z]; exact Nat.le_refl _
  exact I1.fpOk hle (I1.hok.fresh hle)
section
variable {K : PySem.W.Frag} {ρ : Rh} {ta : TA} {ds : List Dt}
theorem src_enumT (h : EvA K ta ρ [.tup ds]) : SrcD K (iEnumT K ta) ρ (ds.zipIdx.map fun p => .tup [.int (p.2 : Nat), p.1]) := fun Z σ H R oc sd k => h Z σ H _ oc sd fun vs H1 e1 hv => by
  obtain ⟨v, rfl, hv1⟩ := ddl1 hv
  obtain ⟨a, xs, rfl, h1, h2⟩ := hv1.sqT
  have hl : (ds.zipIdx.map fun p => Dt.tup [.int (p.2 : Nat), p.1]).length = xs.length := by rw [List.length_map, List.length_zipIdx, h2.length]
  refine ⟨a, xs, rfl, Evl.ex_t er_sub h1, k (IteT K a) H1 (fun H => SqT K H a xs) (fun i H x H' => ∃ T y, x = .ref T ∧ H T = none ∧ H' = upd H T (.tup [.int (i : Nat), y]) ∧ xs[i]? = some y) e1 ?_ (fun Z' H2 e => Evl.ex_t er_sub (Evl.ex_t e h1)) ?_⟩
  · rw [hl]
    refine ⟨fun i _ hi q => ⟨xs, xs[i], q, List.getElem?_eq_getElem hi⟩, fun _ q => ⟨xs, q, rfl⟩, fun i H x H' _ q y => ?_⟩
    obtain ⟨T, z, e1, e2, e3, e4⟩ := y
    exact ⟨T, z, e1, e2, e3, e4 xs q⟩
  · intro Z' i H2 x H3 d hd e oc2 y
    obtain ⟨T, z, rfl, hT, rfl, hz⟩ := y
    obtain ⟨d1, q1, q2⟩ := h2.of hz
    rw [List.getElem?_map, List.getElem?_zipIdx, q1] at hd
    have ed : Dt.tup [.int ((0 + i : Nat) : Nat), d1] = d := Option.some.inj hd
    rw [Nat.zero_add] at ed
    subst ed
    have ex := Evl.Ex.new (o := .tup [.int (i : Nat), z]) hT
    exact ⟨ex, .tup (SqT.of (er_newT oc2 hT)) (.cons (.int _) (.cons (q2.mono (e.trans (er_ex ex))) .nil))⟩
end
end Ec
/-! break_of, kept_by. -/
namespace Ec
open PySem L2
/-! ### comprehensions with a test, by the place -/
section
variable {K : PySem.W.Frag} {ρ : Rh} {te ta tb : TE} {ds es : List Dt} {tt : TT} {d : Dt}
theorem range_filter_succ (p : Nat → Bool) (f : Nat → Dt) (i : Nat) : ((List.range (i + 1)).filter p).map f = ((List.range i).filter p).map f ++ (if p i then [f i] else []) := by
  rw [List.range_succ, List.filter_append, List.map_append, List.filter_cons]
  cases p i <;> rfl
theorem evn_lcI {wi : TI} {j : Nat} {vs : List Nat} (hw : SrcD K wi ρ ds) (f : Nat → Dt) (p : Nat → Bool) (hz : ds.length ≤ 100000)
    (ht : ∀ (i : Nat) d, ds[i]? = some d → EvT K tt ((wp ρ vs).set j (some d)) (p i)) (he : ∀ (i : Nat) d, ds[i]? = some d → p i = true → EvD K te ((wp ρ vs).set j (some d)) (f i)) (hj : j ∈ vs := by decide) :
    EvN K (tLc wi (gName j) tt te vs) ρ (((List.range ds.length).filter p).map f) := fun Z σ H Q oc sd k =>
  hw Z σ H _ oc sd fun J H1 G Y e1 w sG hy => fun A hA => by
    have hid : ∀ {H4 : Hp}, Evl.Ex H1 H4 → Evl.Ex (er Z H1) (er (A :: Z) H4) := fun {H4} e4 b o q => by
      obtain ⟨q1, q2⟩ := er_some q
      have hne : b ≠ A := ne_of_none q2 hA
      rw [er_out (by simp [hne, q1])]; exact e4 _ _ q2
    have occ : ∀ {H4 : Hp} {vs : List V}, Evl.Ex H1 H4 → H4 A = some (.lst vs) → Occ (A :: Z) H4 := fun e4 ha => (oc.ex (e1.trans e4)).add ha
    refine lc_it w (fun i H2 => ∃ acc, Evl.Ex H1 H2 ∧ H2 A = some (.lst acc) ∧ DdL K (er (A :: Z) H2) acc (((List.range i).filter p).map f))
      ⟨[], Evl.Ex.new hA, upd_same, .nil⟩ (fun i H2 _ q => by obtain ⟨_, e, _⟩ := q; exact sG _ H2 (hid e)) (fun i x H2 H3 hi q y => ?_) (fun H2 q => ?_)
    · obtain ⟨acc, e2, h2, hd2⟩ := q
      obtain ⟨d, hd⟩ : ∃ d, ds[i]? = some d := ⟨ds[i], List.getElem?_eq_getElem hi⟩
      obtain ⟨e3, hx⟩ := hy (A :: Z) i H2 x H3 d hd (hid e2) (occ e2 h2) y
      have e13 := e2.trans e3
      have h3 := e3 _ _ h2
      refine ⟨wipe_one hj _ _, ?_⟩
      have s3 : Sd K (er (A :: Z) H3) ((wipe σ vs).set j (some x)) ((wp ρ vs).set j (some d)) := (((sd.mono (er_ex e1)).mono (hid e13)).wipe vs).set hx
      refine ht i d hd (A :: Z) _ H3 _ (occ e13 h3) s3 fun H4 e4 => ?_
      have e14 := e13.trans e4
      have h4 := e4 _ _ h3
      cases hp : p i with
      | false =>
        show ∃ acc, _
        exact ⟨acc, e14, h4, by rw [range_filter_succ, hp]; simpa using hd2.mono (er_ex (e3.trans e4))⟩
      | true =>
        show te _ H4 _
        refine he i d hd hp (A :: Z) _ H4 _ (occ e14 h4) (s3.mono (er_ex e4)) fun v H5 e5 hv => ?_
        have h5 := e5 _ _ h4
        have hd5 : DdL K (er (A :: Z) H5) acc (((List.range i).filter p).map f) := hd2.mono (er_ex ((e3.trans e4).trans e5))
        refine ⟨acc, h5, Evl.sz_lt ?_, acc ++ [v], (e14.trans e5).mut hA, upd_same, ?_⟩
        · rw [hd5.length, List.length_map]
          have := List.length_filter_le p (List.range i)
          rw [List.length_range] at this
          omega
        rw [er_upd List.mem_cons_self, range_filter_succ, hp]
        exact hd5.append (.cons hv .nil)
    · obtain ⟨acc, e2, h2, hd2⟩ := q
      exact k A acc H2 (Evl.fresh_back e1 hA) (e1.trans e2) h2 hd2
/-- a call whose defaults fill up -/
theorem evd_callF {R : List Dt → Dt → Prop} {E : XK} {ta : TA} {dvs : List V} {des : List Dt} (h : EvA K ta ρ ds) (hd : ∀ H, DdL K H dvs des) (hr : R (ds ++ des) d) : EvD K (tCall (PureSp K R) dvs E ta) ρ d := fun Z σ H Q oc sd k =>
  h Z σ H _ oc sd fun vs H1 e1 hv => ⟨Z, ds ++ des, d, oc.ex e1, hv.append (hd _), hr, fun v H2 e2 hv2 => k v H2 (e1.trans e2) hv2⟩
/-- l == [] -/
theorem rvd_eqNil {is : List Int} : RvD K (rEqD K) (.lst (is.map .int)) (.lst []) (.bl is.isEmpty) := fun Z H x y Q oc hx hy k => by
  have p1 : (Dt.lst (is.map .int)).pure = true := pureL_map Dt.int is fun _ => rfl
  have s1 : SeqAt.shaped (Dt.lst (is.map .int)).py = true := by
    show SeqAt.shaped (.list (Dt.pyL (is.map .int))) = true
    refine shaped_of ?_ ?_
    · unfold PyData.canLay0; exact canAll Dt.int is fun _ => rfl
    · have := depAll Dt.int is 0 fun b => by show PyData.depth (.int _) ≤ 0; simp [PyData.depth]
      simp only [PyData.depth]; omega
  refine ⟨_, _, (hx.mono er_sub).dp p1, (hy.mono er_sub).dp rfl, s1, by decide +kernel, ?_⟩
  have e : PyData.eqv (Dt.lst (is.map .int)).py (Dt.lst []).py = is.isEmpty := by
    show PyData.eqv (.list (Dt.pyL (is.map .int))) (.list []) = _
    unfold PyData.eqv
    cases is with
    | nil => rfl
    | cons i is => rfl
  rw [e]
  exact k _ H (Evl.Ex.refl H) (.bl _)
end
/-! ### the tables of the six, by their words -/
def TbAt (K : PySem.W.Frag) (w : World) (a : Addr) : Prop := ∀ i, i < 6 → ∃ v, KDct K w a (wordAt i) v ∧ ∀ H, Dd K H v (rowD (sixT i))
structure Tbs (K : PySem.W.Frag) (w : World) (mg : Str → Option Value) : Prop where
  ex : ∃ a, mg "TABLES" = some (.ref a) ∧ TbAt K w a
def tTbs (K : PySem.W.Frag) (w : World) : TE := fun _ H Q => ∀ a, TbAt K w a → Q (.ref a) H
theorem pe_tbs {X : Cx} {K : PySem.W.Frag} {w : World} {pos : Pos} {mg : Str → Option Value} (hK : X.K = K) (hw : X.w = w) (c : Tbs K w mg) (hg : Gl X "TABLES") (hm : X.mg = mg := by rfl) : PE X (.Name "TABLES" pos) (tTbs K w) := by
  subst hK hw hm
  exact ⟨fun _ _ _ H _ I h => by
    obtain ⟨a, hm, k⟩ := c.ex
    exact ld_glob I hg hm ⟨.ref a, H, I, rfl, h a k⟩ (by decide)⟩
theorem evd_tbs {K : PySem.W.Frag} {w : World} {ρ : Rh} {tb : TE} {i : Nat} (hi : i < 6) (hb : EvD K tb ρ (.str (wordAt i))) : EvD K (tOp (rIxD K w) (tTbs K w) tb) ρ (rowD (sixT i)) := fun Z σ H Q oc sd k a ka =>
  hb Z σ H _ oc sd fun y H1 e1 hy => by
    obtain ⟨v, k1, k2⟩ := ka i hi
    cases hy
    exact ⟨a, wordAt i, v, rfl, rfl, k1, k v H1 e1 (k2 _)⟩
theorem dueNon (o : Option (Nat × List Row)) (H : Hp) {K : PySem.W.Frag} (v : V) (hv : Dd K H v (dueD o)) : decide (v = V.non) = o.isNone := by
  cases o with
  | none => exact isNon H v hv
  | some p => exact tupNot H v hv
section
variable {P : Program} {w : World} {K : PySem.W.Frag} {mg : Str → Option Value} {base : Heap} {f : Addr} {fd : FuncData}
abbrev s_break_of : Stmt := topS 18
theorem sc_break_of : FnScope ["book", "table", "number", "relation", "rows", "m"] ["book", "table"] (defScope s_break_of) := ⟨rfl, rfl, rfl, by decide +kernel, rfl, by decide +kernel, by decide +kernel⟩
-- slots: book 0, table 1c, number 2, relation 3, rows 4, m 5
def R_breakof (B C : Addr) (ds : List Dt) (r : Dt) : Prop := ∃ (bk : List (Nat × List Row)) (t : Row) (m : Nat), Fit bk ∧ bk.length ≤ 6 ∧ 1 ≤ m ∧ m ≤ 3 ∧ t.length = 2 ^ m ∧ ds = [bookD B C bk, rowD t] ∧ r = dueD (due m t 0 (bk.map (·.2)))
theorem ok_break_of {B C : Addr} (T : Txt K mg) (cB : ClsF K B ["relations", "plain"]) (C_is_table : C8.Cal P w K mg base 2 "is_table" (PureSp K R_istable) []) (C_break_in : C8.Cal P w K mg base 4 "break_in" (PureSp K (R_breakin C)) [])
    (Fn : Fun K "break_of" "break_of" s_break_of f fd) : FnOk P w K mg base CX0 5 f fd ["book", "table"] (PureSp K (R_breakof B C)) := by
  refine pure_ok Fn sc_break_of (fun ds r h => ?_) fun ds r h cdv A outer s H E hr => ?_
  · obtain ⟨_, _, _, _, _, _, _, _, rfl, _⟩ := h; rfl
  · obtain ⟨bk, t, m, hf, hz, h1, hm, ht, rfl, rfl⟩ := h
    have hu : A.units + 3 + 64 < cLine := by have := hr.un; show A.units + 3 + 64 < cLine; exact Nat.lt_of_le_of_lt (by show A.units + 3 + 64 ≤ A.units + 3 + 16 * 4 + 200; omega) this
    refine ⟨_, (pss_cons (ps_if (pt_cmpR (r := rEqD K) (op_eqD hu) (pe_lc (own := [("m", 5)]) (g := (gName 5)) rfl sc_break_of.nd (pi_range2 rfl T.range (pa_cons pe_int (pa_cons pe_int pa_nil))) (blkOk_by (by kernel_rfl)) (fun _ _ _ _ _ => (pg_name (i := 5) sc_break_of.nd rfl (Or.inl rfl))) (fun _ _ _ _ _ => pts_one (pt_val (C8.pe_c C_is_table hr (by decide) rfl (pa_cons (pv 1) (pa_cons (pv 5) pa_nil))))) (fun _ _ _ _ _ => (pv 5))) (pe_lst pa_nil) (nomark _)) (pss_one ps_never) pss_nil)
      (pss_cons (ps_for PassesOwn.never rfl (pi_enumT (K := K) rfl rfl T.enumerate (pa_cons (pe_fldK (K := K) rfl (pv 0) rfl) pa_nil)) (pg_tupK (K := K) rfl rfl (pgs_cons (pg_name (i := 2) sc_break_of.nd rfl (Or.inl rfl)) (pgs_cons (pg_name (i := 3) sc_break_of.nd rfl (Or.inl rfl)) pgs_nil)))
        (pss_cons (ps_set (i := 4) sc_break_of.nd rfl (Or.inl rfl) (C8.pe_c C_break_in hr (by decide) rfl (pa_cons (pv 3) (pa_cons (pv 1) pa_nil))))
        (pss_one (ps_if (pt_cmpR op_notN (pv 4) pe_non (nomark _)) (pss_one (ps_ret (pe_tup (pa_cons (pv 2) (pa_cons (pv 4) pa_nil))))) pss_nil))))
      (pss_one (ps_ret pe_non)))), fun Z H0 D k => ?_⟩
    have ht8 : t.length ≤ 8 := by rw [ht]; exact Nat.le_trans (Nat.pow_le_pow_right (by decide) hm) (by decide)
    have hne : (((List.range 4).filter fun i => decide (t.length = 2 ^ (i + 1))).map fun i : Nat => ((i : Int) + 1)).isEmpty = false := by
      have hmem : m - 1 ∈ (List.range 4).filter fun i => decide (t.length = 2 ^ (i + 1)) := by
        rw [List.mem_filter, List.mem_range]
        exact ⟨by omega, decide_eq_true (by rw [ht, show m - 1 + 1 = m by omega])⟩
      cases h : (List.range 4).filter fun i => decide (t.length = 2 ^ (i + 1)) with
      | nil => rw [h] at hmem; cases hmem
      | cons _ _ => rfl
    have at_ : ∀ (i : Nat) d, (upTo 1 4)[i]? = some d → i < 4 ∧ d = .int ((i + 1 : Nat) : Int) := fun i d h => by
      obtain ⟨q1, q2⟩ := upTo_of h
      exact ⟨q1, by rw [q2]; congr 1; omega⟩
    refine nx_seq (nx_ifF (stb_ex H0) ((evt_test (evd_op (EvN.toD (evn_lcI (ds := upTo 1 4) (src_rng2 (lo := 1) (hi := 5) (eva_cons evd_int (eva_cons evd_int eva_nil)) (by decide)) (fun i : Nat => .int ((i : Int) + 1)) (fun i => decide (t.length = 2 ^ (i + 1))) (by decide) (fun i d hd => ?_) fun i d hd _ => ?_)) (EvN.toD (evn_lst eva_nil (by decide))) ?_)).is hne) ?_)
    · obtain ⟨q1, rfl⟩ := at_ i d hd
      exact evt_B (evd_call (d := .bl (decide (t.length = 2 ^ (i + 1)))) (eva_cons (evd_var rfl) (eva_cons (evd_var rfl) eva_nil)) ⟨t, i + 1, by omega, by omega, rfl, rfl⟩)
    · obtain ⟨q1, rfl⟩ := at_ i d hd
      exact (evd_var rfl).is (by congr 1)
    · have e : ((List.range (upTo 1 4).length).filter fun i => decide (t.length = 2 ^ (i + 1))).map (fun i : Nat => Dt.int ((i : Int) + 1)) = ((((List.range 4).filter fun i => decide (t.length = 2 ^ (i + 1))).map fun i : Nat => ((i : Int) + 1)).map .int) := by
        rw [List.map_map]; rfl
      rw [e]
      exact rvd_eqNil
    refine nx_seq (nx_for (ds := (bk.map (relD C)).zipIdx.map fun p => .tup [.int (p.2 : Nat), p.1]) (stb_ex H0) (src_enumT (eva_cons (evd_fld1 (evd_var (d := bookD B C bk) rfl) cB) eva_nil)) (fun _ => [2, 3]) (fun d => match d with | .tup [a, b] => [a, b] | _ => []) (fun d hd => ?_)
      (fun i ρ F => F = Evl.Ex H0 ∧ (∀ j rl, j < i → bk[j]? = some rl → brk rl.2 t m = none) ∧ ∃ x y z u, ρ = [some (bookD B C bk), some (rowD t), x, y, z, u]) ⟨rfl, fun k _ hk => absurd hk (Nat.not_lt_zero k), _, _, _, _, rfl⟩ ?_ ?_)
    · obtain ⟨p, _, rfl⟩ := List.mem_map.mp hd
      exact gd_pair
    · rintro LF sL i d ρ F hi ⟨rfl, hb, x, y, z, u, rfl⟩ sF
      rw [List.getElem?_map, List.getElem?_zipIdx, List.getElem?_map] at hi
      obtain ⟨p, hp, rfl⟩ := Option.map_eq_some_iff.mp hi
      obtain ⟨q, hq, rfl⟩ := Option.map_eq_some_iff.mp hp
      obtain ⟨rl, hrl, rfl⟩ := Option.map_eq_some_iff.mp hq
      obtain ⟨q1, q2⟩ := hf rl (List.mem_of_getElem? hrl)
      have ei : (0 + i : Nat) = i := Nat.zero_add i
      show Nx K Z _ [some (bookD B C bk), some (rowD t), some (.int ((0 + i : Nat) : Nat)), some (relD C rl), z, u] _
      rw [ei]
      refine nx_seq (nx_asg (d := resD (brk rl.2 t m)) (sF.andZ sL) (evd_call (eva_cons (evd_var rfl) (eva_cons (evd_var rfl) eva_nil)) ⟨rl, t, m, q1, q2, h1, hm, ht, rfl, rfl⟩) ?_)
      refine nx_if (sF.andZ sL) (evt_test (evd_notN (evd_var rfl) (resNon _))) (fun q => ?_) fun q => ?_
      · cases hbk : brk rl.2 t m with
        | none => rw [hbk] at q; cases q
        | some one =>
          refine nx_ret (d := .tup [.int (i : Int), rowsT one]) (sF.andZ sL) (evd_tup (eva_cons (evd_var rfl) (eva_cons (evd_var (by show _ = some (some (resD (some one))); rw [← hbk]; rfl)) eva_nil)) (by show 2 ≤ 100000; decide)) fun v H oc ex hv => k v H oc ex.1 ?_
          have e := due_shift (k := 0) (bk := bk.map (·.2)) (i := i) (rs := rl.2) (by rw [List.getElem?_map, hrl]; rfl) hbk fun j qs hj e => by
            obtain ⟨rj, h1, rfl⟩ := Option.map_eq_some_iff.mp (by rw [List.getElem?_map] at e; exact e)
            exact hb j rj hj h1
          rw [e, Nat.zero_add]
          exact hv
      · have hn : brk rl.2 t m = none := by
          cases h : brk rl.2 t m with
          | none => rfl
          | some one => rw [h] at q; cases q
        refine as_in ⟨rfl, fun j rj hj e => ?_, _, _, _, _, rfl⟩ sF
        by_cases hji : j = i
        · subst hji
          rw [hrl] at e; cases e
          exact hn
        · exact hb j rj (by omega) e
    · rintro ρ F ⟨rfl, hb, x, y, z, u, rfl⟩ sF
      refine nx_ret sF evd_non fun v H oc ex hv => k v H oc ex ?_
      have e : due m t 0 (bk.map (·.2)) = none := due_none_of fun j qs e => by
        obtain ⟨rj, h1, rfl⟩ := Option.map_eq_some_iff.mp (by rw [List.getElem?_map] at e; exact e)
        exact hb j rj (by
          rw [List.length_map, List.length_zipIdx, List.length_map]
          exact (List.getElem?_eq_some_iff.mp h1).1) h1
      rw [e]; exact hv
abbrev s_kept_by : Stmt := topS 19
theorem sc_kept_by : FnScope ["book", "fixed", "words", "word"] ["book", "fixed"] (defScope s_kept_by) := ⟨rfl, rfl, rfl, by decide +kernel, rfl, by decide +kernel, by decide +kernel⟩
-- slots: book 0c, fixed 1, words 2, word 3
def keptW (bk : List (Nat × List Row)) : List Nat := (List.range 6).filter fun i => (due (sixM i) (sixT i) 0 (bk.map (·.2))).isNone
def R_keptby (B C : Addr) (ds : List Dt) (r : Dt) : Prop := ∃ bk : List (Nat × List Row), Fit bk ∧ bk.length ≤ 6 ∧ ds = [bookD B C bk, .bl false] ∧ r = .tup ((keptW bk).map fun i => .str (wordAt i))
theorem six_len : ∀ i, (sixT i).length = 2 ^ sixM i
  | 0 => rfl
  | 1 => rfl
  | 2 => rfl
  | 3 => rfl
  | 4 => rfl
  | _ + 5 => rfl
theorem six_m : ∀ i, 1 ≤ sixM i ∧ sixM i ≤ 3
  | 0 => by decide
  | 1 => by decide
  | 2 => by decide
  | 3 => by decide
  | i + 4 => ⟨by show 1 ≤ 3; decide, by show 3 ≤ 3; decide⟩
theorem words_at {i : Nat} {d : Dt} (h : (words.map Dt.str)[i]? = some d) : i < 6 ∧ d = .str (wordAt i) := by
  have hl : i < 6 := by
    have q := (List.getElem?_eq_some_iff.mp h).1
    rw [List.length_map] at q; exact q
  rw [wordD i hl] at h
  exact ⟨hl, (Option.some.inj h).symm⟩
theorem ok_kept_by {B C : Addr} (T : Txt K mg) (Tb : Tbs K w mg) (C_break_of : C8.Cal P w K mg base 5 "break_of" (PureSp K (R_breakof B C)) []) {kws : List (Str × V)}
    (Fn : FunD K "kept_by" "kept_by" (defArgs s_kept_by) (defBody s_kept_by) (defScope s_kept_by) [] kws f fd) : FnOk P w K mg base CX0 6 f fd ["book", "fixed"] (PureSp K (R_keptby B C)) := by
  refine Fn.ok sc_kept_by (fun vs H Q E q => ?_) fun cdv A outer s H vs Q E hr q => ?_
  · obtain ⟨Z, ds, r, _, hd, ⟨_, _, _, rfl, _⟩, _⟩ := q
    rw [hd.length]; rfl
  · obtain ⟨Z, ds, r, oc, hd, ⟨bk, hf, hz, rfl, rfl⟩, k⟩ := q
    have rd : ∃ t, PSs (cxOf CX0 P w K mg base ["book", "fixed", "words", "word"] "kept_by" (defScope s_kept_by) f cdv A outer s H E).nox (defBody s_kept_by) t ∧ PureBody K t (startD ["book", "fixed", "words", "word"] [bookD B C bk, .bl false]) (.tup ((keptW bk).map fun i => .str (wordAt i))) := by
      refine ⟨_, (pss_cons (ps_set (i := 2) sc_kept_by.nd rfl (Or.inl rfl) (pe_cnK (K := K) rfl T.WORDS rfl))
        (pss_cons (ps_if (pt_val (pv 1)) (pss_one (ps_set (i := 2) sc_kept_by.nd rfl (Or.inl rfl) (pe_slice sl_list (pe_cnK (K := K) rfl T.WORDS rfl) (po_some pe_int) po_none))) pss_nil)
        (pss_one (ps_ret (pe_callTy (r := rTupO K) call_tuple_of (by rfl) T.tuple (by decide +kernel) (pa_cons (pe_lc (own := [("word", 3)]) (g := (gName 3)) rfl sc_kept_by.nd (pi_tupK (K := K) rfl (pv 2)) (blkOk_by (by kernel_rfl)) (fun _ _ _ _ _ => (pg_name (i := 3) sc_kept_by.nd rfl (Or.inl rfl))) (fun _ _ _ _ _ => pts_one (pt_cmpR op_isN (C8.pe_c C_break_of hr (by decide) rfl (pa_cons (pv 0) (pa_cons (pe_ix (r := rIxD K w) ix_kdict (pe_tbs (K := K) (w := w) rfl rfl Tb rfl) (pv 3) (fun _ _ => rfl)) pa_nil))) pe_non (nomark _))) (fun _ _ _ _ _ => (pv 3))) pa_nil)))))), fun Z H0 D k => ?_⟩
      refine nx_seq (nx_asg (d := .tup (words.map .str)) (stb_ex H0) evd_cn ?_)
      refine nx_seq (nx_ifF (stb_ex H0) (evt_B (evd_var rfl)) ?_)
      refine nx_ret (stb_ex H0) (evd_callB (eva_cons (EvN.toD (evn_lcI (ds := words.map Dt.str) (src_tup (evd_var rfl)) (fun i => .str (wordAt i)) (fun i => (due (sixM i) (sixT i) 0 (bk.map fun rl : Nat × List Row => rl.2)).isNone) (by decide) (fun i d hd => ?_) fun i d hd _ => ?_)) eva_nil) rc_tupL) fun v H oc ex hv => k v H oc ex hv
      · obtain ⟨q1, rfl⟩ := words_at hd
        obtain ⟨m1, m2⟩ := six_m i
        exact evt_test (evd_isN (evd_call (d := dueD (due (sixM i) (sixT i) 0 (bk.map (·.2)))) (eva_cons (evd_var rfl) (eva_cons (evd_tbs q1 (evd_var rfl)) eva_nil)) ⟨bk, sixT i, sixM i, hf, hz, m1, m2, six_len i, rfl, rfl⟩) fun H v hv => dueNon _ H v hv)
      · obtain ⟨q1, rfl⟩ := words_at hd
        exact evd_var rfl
    obtain ⟨t, h1, h2⟩ := rd
    exact ⟨t, h1.nox, h2 Z H _ (fun v H2 _ e2 hv => k v H2 e2 hv) _ H oc (sd_start hd) (Evl.Ex.refl H)⟩
end
end Ec
/-! Dict comprehensions whose keys are tuples; sorted(dict) of such a one. -/
namespace Ec
open PySem L2 PyProof.Rows
section
variable {X : Cx}
/-- D[b] = v within a comprehension, b a new tuple -/
theorem dT_store {ps : List (Addr × Obj)} {σ : L2.St} {H : Hp} {t : Shared} {E : Value → Shared → Prop} {D b : Addr} {kvs : List (List Key × V)} {k : List Key} {v : V} {u r : Value} {Q : Unit → Shared → Prop} (hu : X.A.units < cLine) (I : Inv X ps σ H t)
    (hD : H D = some (.dT kvs)) (hb : H b = some (.tup (k.map kV))) (hz : kvs.length < sizeLine) (ry : RelV (.ref b) u) (rv : RelV v r) (q : ∀ t', Inv X ps σ (upd H D (.dT (putK kvs k v))) t' → Q () t') : wpAny (model X.prog X.w) X.A (dictSet D u r) Q E t := by
  cases (show u = Value.ref b from ry)
  obtain ⟨hz1, hsys, tab, rel, dof⟩ := dt_of I.hok hD
  have hle : (putK kvs k v).length ≤ sizeLine := Nat.le_trans (length_putK kvs k v) hz
  refine wpAny_dictSet_heap (hsz := (Paired.length rel) ▸ hz1) hu (key_of I.hok hb) dof fun hp dof' only => q _ ?_
  obtain ⟨o, es, ep, g1, g2, g3, g4, _, g5⟩ := dof'
  refine d_write I (by rw [hD]; exact True.intro) only ⟨o, g1⟩ ⟨hle, hsys, _, (rel.put k hb rv).keeps fun c zs hc => ?_, o, es, ep, g1, g2, g3, g4, g5⟩
  rw [upd_ne (ne_of hc hD fun z => nomatch z)]; exact hc
/-- {k: v for target in iter if ..}, the keys new tuples: D the new dict -/
def tDcT (wi : TI) (g : TG) (tt : TT) (tk tv : TE) (vs : List Nat) : TE := fun σ H Q => wi σ H fun J H1 => ∀ D, H1 D = none → ∃ W : Nat → Nat → Hp → Prop, (∃ m, W 0 m (upd H1 D (.dT []))) ∧ ∀ i m H, W i m H →
  (J.stop i H ∧ Q (.ref D) H) ∨ (J.go i H ∧ ∃ Nx : Hp → Prop, (∀ H', Nx H' → ∃ m', m' < m ∧ W (i + 1) m' H') ∧ ∀ x H', J.yld i H x H' → g x (wipe σ vs) H' fun σ2 H2 => wipe σ2 vs = wipe σ vs ∧ tt σ2 H2 fun b H3 =>
    if b = true then tk σ2 H3 fun y H4 => tv σ2 H4 fun z H5 => ∃ (a : Addr) (kvs : List (List Key × V)) (k : List Key), y = .ref a ∧ H5 a = some (.tup (k.map kV)) ∧ H5 D = some (.dT kvs) ∧ kvs.length < sizeLine ∧ Nx (upd H5 D (.dT (putK kvs k z))) else Nx H3)
abbrev Blks (X : Cx) (scope : Scope) (F : Cx → Prop) : Prop := ∀ (s : Shared) (H : Hp) (C : Addr) (cl : List (Str × Addr)) (fp : List Addr), F (X.blk s H scope (compEnvC scope cl C X.env) fp)
theorem dcT_run {ps : List (Addr × Obj)} {t0 : Shared} {σ : L2.St} {H : Hp} {Q : VK} {ke ve tg src : Expr} {ifs : List Expr} {scope : Scope} {own : List (Str × Nat)} {pos pos' : Pos} {wi : TI} {g : TG} {tt : TT} {tk tv : TE} {use : Option (Value → Sem Unit)} {Qf : Value → Shared → Prop}
    (hu : X.A.units < cLine) (hc : X.calm = true) (hN : X.N.Nodup) (I : Inv X ps σ H t0) (pi : PI X tg src wi) (bk : BlkOk X.N X.env.scope scope own)
    (fg : Blks X scope fun Y => PG Y tg g) (ft : Blks X scope fun Y => PTs Y ifs tt) (fk : Blks X scope fun Y => PE Y ke tk) (fv : Blks X scope fun Y => PE Y ve tv) (hfo : ∀ x, foldedSetIterable src X.env x = pure x) (h : tDcT wi g tt tk tv (own.map fun p => p.2) σ H Q)
    (fin : ∀ D C t' m H', Inv X ps σ H' t' → Q (.ref D) H' → t'.heap.Ns C m → FpOk X ps H' C → compPost (model X.prog X.w) X.A X.xe use Qf (.ref D) C (.ok .next) t') :
    wpAny (model X.prog X.w) X.A (comprehension (.DictComp ke ve [⟨tg, src, ifs, 0⟩] scope pos) scope X.env pos' newDict false (eval src X.env) use) Qf X.xe t0 := by
  have cells : ∀ y ∈ scope.names, y.2 = .free → ∃ c, X.env.cells.lookup y.1 = some c := fun y hy e => (bk.free y hy e).elim (fun k => I.ok.has _ (.inl k)) fun k => I.ok.has _ (.inr k)
  refine wpAny_comprehension_free (use := use) rfl hfo (closure_ok cells) bk.kind (fun y hy e => by rw [bk.uniq y hy, e]) (thn (pi.run ps t0 σ H _ I h) fun xv t1 hx => thn hx fun itv t2 got => ?_)
  obtain ⟨it, fp, tn, J, H2, rfl, I2, T, st2, f2, q⟩ := got
  refine wpAny_newObj_type (newEnv_comp ?_)
  generalize eD : t2.heap.objs.size = D
  have nD : H2 D = none := I2.hok.fresh (Nat.le_of_eq eD)
  obtain ⟨W, ⟨m0, w0⟩, step⟩ := q D nD
  -- the dict is laid
  generalize e3 : ({ t2 with heap := t2.heap.push { cls := .type "dict", data := .dict #[] } } : Shared) = t3
  have hp3 : t3.heap = t2.heap.push { cls := .type "dict", data := .dict #[] } := by rw [← e3]
  have I3 : Inv X ps σ (upd H2 D (.dT [])) t3 := by
    rw [← e3]
    exact I2.laid (t' := t2.toks) (fun _ _ z => Heap.get?_push_of_some _ z) (Nat.le_of_eq eD) (eD ▸ dt_empty t2.heap I2.big)
  have low : ∀ b ∈ fp, b < t2.heap.objs.size := fun b hb => (T.obj _ _ st2 b hb).elim fun o z => Heap.lt_size z.1
  have f3 : ∀ b ∈ fp, FpOk X ps (upd H2 D (.dT [])) b ∧ b < t3.heap.objs.size := fun b hb => by
    refine ⟨⟨?_, (f2 b hb).2⟩, by rw [hp3, Heap.size_push]; exact Nat.lt_succ_of_lt (low b hb)⟩
    rw [upd_ne (eD ▸ Nat.ne_of_lt (low b hb))]; exact (f2 b hb).1
  have st3 : tn 0 t3.heap := T.keep _ _ _ st2 fun b _ o z => hp3 ▸ Heap.get?_push_of_some _ z
  have I4 := block_start I3 bk hN f3
  have qg := fg t3 (upd H2 D (.dT [])) t3.heap.objs.size (cellsFrom (t3.heap.objs.size + 1) scope.names (cloFrom X.env.cells scope.names [])) fp
  have qt := ft t3 (upd H2 D (.dT [])) t3.heap.objs.size (cellsFrom (t3.heap.objs.size + 1) scope.names (cloFrom X.env.cells scope.names [])) fp
  have qk := fk t3 (upd H2 D (.dT [])) t3.heap.objs.size (cellsFrom (t3.heap.objs.size + 1) scope.names (cloFrom X.env.cells scope.names [])) fp
  have qv := fv t3 (upd H2 D (.dT [])) t3.heap.objs.size (cellsFrom (t3.heap.objs.size + 1) scope.names (cloFrom X.env.cells scope.names [])) fp
  show codeAny _ _ (.compStart (.DictComp ke ve [⟨tg, src, ifs, 0⟩] scope pos) 0 (.ref it) (.ref D) (compEnvC scope (cellsFrom (t3.heap.objs.size + 1) scope.names (cloFrom X.env.cells scope.names [])) t3.heap.objs.size X.env)) (compPost (model X.prog X.w) X.A X.xe use Qf (.ref D) t3.heap.objs.size) { t3 with heap := pushCells (t3.heap.push { cls := .type "dict", data := .dict #[] }) scope.names }
  have nfp : ∀ b ∈ fp, (upd H2 D (.dT [])) b = none := fun b hb => (f3 b hb).1.1
  generalize ece : compEnvC scope (cellsFrom (t3.heap.objs.size + 1) scope.names (cloFrom X.env.cells scope.names [])) t3.heap.objs.size X.env = ce at I4 qg qt qk qv ⊢
  have cl : ce.locals = t3.heap.objs.size := by subst ece; rfl
  generalize eH3 : upd H2 D (.dT []) = H3 at I3 I4 qg qt qk qv w0 nfp f3
  generalize e4 : ({ t3 with heap := pushCells (t3.heap.push { cls := .type "dict", data := .dict #[] }) scope.names } : Shared) = t4 at I4 ⊢
  have st4 : tn 0 t4.heap := T.keep _ _ _ st3 fun b _ o z => e4 ▸ pushCells_keeps _ _ _ _ (Heap.get?_push_of_some _ z)
  have rest : ∀ {σ' : L2.St} {H' : Hp} {t' : Shared}, Inv (X.blk t3 H3 scope ce fp) [] σ' H' t' → (∀ b ∈ fp, H' b = none) → ∀ b ∈ fp, FpOk (X.blk t3 H3 scope ce fp) [] H' b := fun {_ _ _} I' no b hb =>
    ⟨no b hb, (I'.ok.exf b hb).1, I'.ok.exfs b hb, .inl hb, fun x c z => (I'.ok.exf b hb).2 x c z, fun p hp => absurd (show p ∈ ([] : List (Addr × Obj)) ++ [] from hp) (by simp)⟩
  have go : codeAny (model X.prog X.w) X.A (.compLoop (.DictComp ke ve [⟨tg, src, ifs, 0⟩] scope pos) 0 (.ref it) (.ref D) ce) (compPost (model X.prog X.w) X.A X.xe use Qf (.ref D) t3.heap.objs.size) t4 := by
    refine compLoop_anyD (fun n t => ∃ i K, Inv (X.blk t3 H3 scope ce fp) [] (wipe σ (own.map fun p => p.2)) K t ∧ tn i t.heap ∧ (∀ b ∈ fp, K b = none) ∧ W i n K) ?_ m0 ⟨0, H3, I4, st4, nfp, w0⟩
    rintro n t5 ⟨i, H5, I5, st5, n5, w5⟩
    rcases step i n H5 w5 with ⟨stop, last⟩ | ⟨goes, Nx, hNx, one⟩
    · refine thnF (T.done (X.blk t3 H3 scope ce fp) rfl rfl rfl hc i [] t5 _ H5 (fun _ _ => False) I5 (rest I5 n5) st5 stop) fun r t6 ⟨er, I6⟩ => ?_
      subst er
      -- the def's own context again
      have I7 : Inv X ps σ H5 t6 := I3.call' (ch := fp) I6.os I6.base I6.hok I6.bare fun b hb => ⟨(f3 b hb).1.2.2.2.1, (f3 b hb).1.2.1, (f3 b hb).1.2.2.2.2.1, (f3 b hb).1.2.2.2.2.2⟩
      have nC : H5 t3.heap.objs.size = none := cl ▸ (show H5 ce.locals = none from I6.free)
      obtain ⟨m, hn, _⟩ := I6.loc
      exact fin D t3.heap.objs.size t6 m H5 I7 last (cl ▸ (show t6.heap.Ns ce.locals m from hn)) (I3.fpOk (Nat.le_refl _) nC)
    · refine thnF (T.item (X.blk t3 H3 scope ce fp) rfl rfl rfl hc i [] t5 _ H5 (fun _ _ => False) I5 (rest I5 n5) st5 goes) fun r t6 ⟨u, er, h6⟩ => ?_
      subst er
      refine thnF h6 fun _ t7 ⟨x, H7, I7, r7, y7, st7, n7⟩ => ?_
      have I8 := I7.pinned (rest I7 n7) (T.obj _ _ st7)
      refine thnF (qg.run _ t7 _ H7 x u _ I8 r7 (one x H7 y7)) fun _ t8 ⟨σ8, H8, I9, w8, q8⟩ => thnF (qt.run _ t8 σ8 H8 _ I9 q8) fun b t9 ⟨H9, I10, q9⟩ => ?_
      have close : ∀ {t' : Shared} {H' : Hp}, Inv (X.blk t3 H3 scope ce fp) ([] ++ pinsAt fp t7.heap) σ8 H' t' → Nx H' → ∃ m, m < n ∧ ∃ i K, Inv (X.blk t3 H3 scope ce fp) [] (wipe σ (own.map fun p => p.2)) K t' ∧ tn i t'.heap ∧ (∀ b ∈ fp, K b = none) ∧ W i m K := fun {t' H'} I' nx => by
        obtain ⟨m', hm, w'⟩ := hNx H' nx
        have pins : ∀ b ∈ fp, ∀ o, t7.heap.get? b = some o → t'.heap.get? b = some o ∧ H' b = none := fun b hb o z =>
          have y := I'.pin (b, o) (List.mem_append_right _ (List.mem_append_right _ (mem_pinsAt hb z)))
          ⟨y.1, y.2.1⟩
        refine ⟨m', hm, i + 1, H', (I'.unpinned (pins := [])).weak (by rw [← w8, wipe_length]) (fun j v z => ?_), T.keep _ _ _ st7 fun b hb o z => (pins b hb o z).1, fun b hb => (T.obj _ _ st7 b hb).elim fun o z => (pins b hb o z.1).2, w'⟩
        exact (wipe_some (w8 ▸ z)).1
      cases b with
      | false =>
        simp only [Bool.false_eq_true, if_false] at q9 ⊢
        exact close I10 q9
      | true =>
        simp only [if_true] at q9 ⊢
        refine thnF (qk.run _ t9 σ8 H9 _ I10 q9) fun kv t10 ⟨yk, H10, I11, r10, q10⟩ => thnF (qv.run _ t10 σ8 H10 _ I11 q10) fun vv t11 ⟨yv, H11, I12, r11, a, kvs, k, ek, ha, hD11, hz11, nx⟩ => ?_
        subst ek
        exact dT_store (X := X.blk t3 H3 scope ce fp) hu I12 hD11 ha hz11 r10 r11 fun t12 I13 => close I13 nx
  exact codeAny_compStart_dict go (T.self X.A 0 _ _ _ st4 go)
theorem pe_dcT {ke ve tg src : Expr} {ifs : List Expr} {scope : Scope} {own : List (Str × Nat)} {pos : Pos} {wi : TI} {g : TG} {tt : TT} {tk tv : TE} (hc : X.calm = true) (hN : X.N.Nodup) (pi : PI X tg src wi) (bk : BlkOk X.N X.env.scope scope own)
    (fg : Blks X scope fun Y => PG Y tg g) (ft : Blks X scope fun Y => PTs Y ifs tt) (fk : Blks X scope fun Y => PE Y ke tk) (fv : Blks X scope fun Y => PE Y ve tv) (hu : X.A.units < cLine) (hfo : ∀ x, foldedSetIterable src X.env x = pure x := by intro _; rfl) :
    PE X (.DictComp ke ve [⟨tg, src, ifs, 0⟩] scope pos) (tDcT wi g tt tk tv (own.map fun p => p.2)) := ⟨fun ps t σ H Q I h => by
  rw [arm_eval_DictComp]
  refine dcT_run hu hc hN I pi bk fg ft fk fv hfo h fun D C t' m H' I' q hn f => ⟨m, hn, fun h'' sb => ?_⟩
  obtain ⟨g0, g1, g2, g3, g4, g5⟩ := f
  exact ⟨.ref D, H', I'.turned (t' := t'.toks) (fun b o hb z => (sb.2 b hb).trans z) g0 g1 g3 g4 g5, rfl, q⟩⟩
end
/-! ### sorted(d), the keys of d new tuples of ints -/
theorem kt_at {H : Hp} : ∀ {kvs : List (List Key × V)} {tab : List (List Key × Addr × Value)}, KT H kvs tab → ∀ {i : Nat} {y : List Key × Addr × Value}, tab[i]? = some y → ∃ p, kvs[i]? = some p ∧ H y.2.1 = some (.tup (p.1.map kV))
  | _, _, .nil, i, y, e => by simp at e
  | _, _, .cons h t, 0, y, e => by
    simp at e; subst e
    exact ⟨_, rfl, h.2.1⟩
  | _, _, .cons h t, i + 1, y, e => by
    obtain ⟨p, q1, q2⟩ := kt_at t (by simpa using e)
    exact ⟨p, by simpa using q1, q2⟩
theorem kV_ints (ns : List Int) : (ns.map (Sum.inl : Int → Key)).map kV = ns.map V.int := by rw [List.map_map]; rfl
def refOf : Value → Addr
  | .ref a => a
  | _ => 0
def rSortDT (d : Nat) (B : Int) : List V → Hp → VK → Prop := fun vs H Q => ∃ (a : Addr) (kvs : List (List Key × V)) (kss : List (List Int)), vs = [.ref a] ∧ H a = some (.dT kvs) ∧ (kvs.map fun p => p.1) = (kss.map fun ns => ns.map Sum.inl) ∧ kss.length < 64 ∧ (∀ ns ∈ kss, ns.length = d ∧ TS.Bd B ns) ∧
  ∀ (qs : List (Addr × List Int)) (p : Addr), (qs.map fun q => q.2).Perm kss → qs.Pairwise (fun q r => TS.code B q.2 ≤ TS.code B r.2) → (∀ q ∈ qs, H q.1 = some (.tup (q.2.map V.int))) → H p = none → Q (.ref p) (upd H p (.lst (qs.map fun q => .ref q.1)))
theorem cr_sortDT {X : Cx} {d : Nat} {B : Int} (hd : 1 ≤ d) (hc : X.calm = true) : CallR X (.builtin "sorted") (rSortDT d B) := by
  intro ps s σ H vs us Q I r h
  obtain ⟨a, kvs, kss, rfl, ha, hk, h64, hb, q⟩ := h
  rw [Vals.ref1 r]
  obtain ⟨hz, lo, tab, rel, dof⟩ := dt_of I.hok ha
  obtain ⟨es, ep, raw, hsz, hes⟩ := dof.raw
  have l1 : kvs.length = kss.length := by have e := congrArg List.length hk; rw [List.length_map, List.length_map] at e; exact e
  have l2 : kvs.length = tab.length := Paired.length rel
  have at_ : ∀ i (hi : i < es.size), ∃ b ns, es[i].key = .ref b ∧ kss[i]? = some ns ∧ H b = some (.tup (ns.map V.int)) := fun i hi => by
    obtain ⟨y, g1, g2, _, _⟩ := hes i hi
    obtain ⟨p, g3, g4⟩ := kt_at rel g1
    have e1 : (kvs.map fun p => p.1)[i]? = some p.1 := by rw [List.getElem?_map, g3]; rfl
    rw [hk, List.getElem?_map] at e1
    obtain ⟨ns, g5, g6⟩ := Option.map_eq_some_iff.mp e1
    exact ⟨y.2.1, ns, g2, g5, by rw [g4, ← g6, kV_ints]⟩
  refine Calls.call_function_entry kind_sorted plain_sorted entry_sorted (args_sorted1 _) ?_
  unfold Builtin.«sorted»
  refine wpAny_bind (m := checkCount "sorted" 1 1 _) (wpAny_pure ?_)
  refine wpAny_bind (PySem.W.kdu_collect (A := X.A.in1) (KdlSrc.rawDict (es := es) (ep := ep) lo) (I.ok.hd hc) raw (by rw [hsz, ← l2]; exact hz) fun h' tk acc keep hacc => ?_)
  have I1 : Inv X ps σ H { s with heap := h', toks := tk } := I.kept keep
  have al : acc.toList.length = kss.length := by rw [Array.length_toList, hacc.1, hsz]; omega
  have it : ∀ (i : Nat) (v : Value), acc.toList[i]? = some v → ∃ b ns, v = .ref b ∧ kss[i]? = some ns ∧ H b = some (.tup (ns.map V.int)) := fun i v e => by
    obtain ⟨hi, ev⟩ := hacc.2 i v (by rw [← Array.getElem?_toList]; exact e)
    obtain ⟨b, ns, g1, g2, g3⟩ := at_ i hi
    exact ⟨b, ns, ev.trans g1, g2, g3⟩
  refine wpAny_bind (wpAny_newList ?_ (by rw [al, sizeLine_eq]; omega))
  have hoL : (h'.push (seqObj "list" acc.toList.toArray 0)).get? h'.objs.size = some (seqObj "list" acc.toList.toArray 0) := Heap.get?_push_size _ rfl
  have tup : ∀ b ns, H b = some (.tup (ns.map V.int)) → TS.TupInts (h'.push (seqObj "list" acc.toList.toArray 0)) (.ref b) ns := fun b ns e => (tupI_raw I1 (SqT.of e)).keeps fun c o z _ => Heap.get?_push_of_some _ z
  have of : ∀ v, v ∈ acc.toList → ∃ b ns, v = .ref b ∧ ns ∈ kss ∧ H b = some (.tup (ns.map V.int)) := fun v hv => by
    obtain ⟨i, hi⟩ := List.mem_iff_getElem?.mp hv
    obtain ⟨b, ns, g1, g2, g3⟩ := it i v hi
    exact ⟨b, ns, g1, List.mem_of_getElem? g2, g3⟩
  have ok : TS.TupsOk (h'.push (seqObj "list" acc.toList.toArray 0)) d B acc.toList := fun v hv => by
    obtain ⟨b, ns, rfl, g2, g3⟩ := of v hv
    exact ⟨ns, tup b ns g3, hb ns g2⟩
  show wpAny _ _ _ _ _ { s with heap := h'.push (seqObj "list" acc.toList.toArray 0), toks := tk }
  refine wpAny_bind (wpAny_holding (TS.call_sort_tups (s := { s with heap := h'.push (seqObj "list" acc.toList.toArray 0), toks := tk }) hoL (by rw [al]; exact h64) hd ok fun out a1 a2 => ?_))
  obtain ⟨c, hat⟩ := sortedHeap_at (vs := acc.toList) (out := out) hoL
  have kss_eq : acc.toList.map (TS.intsOf (h'.push (seqObj "list" acc.toList.toArray 0))) = kss := List.ext_getElem? fun i => by
    rw [List.getElem?_map]
    cases e : acc.toList[i]? with
    | none =>
      have := List.getElem?_eq_none_iff.mp e
      rw [Option.map_none]
      exact (List.getElem?_eq_none (by omega)).symm
    | some v =>
      obtain ⟨b, ns, rfl, g2, g3⟩ := it i v e
      rw [Option.map_some, (tup b ns g3).ints, g2]
  have qv : out.toList.map bkV = (out.toList.map fun u => (refOf u, TS.intsOf (h'.push (seqObj "list" acc.toList.toArray 0)) u)).map fun q => V.ref q.1 := by
    rw [List.map_map]
    refine List.map_congr_left fun u hu => ?_
    obtain ⟨b, ns, rfl, _, _⟩ := of u (a1.mem_iff.mp hu)
    rfl
  have hol : out.toList.length = kss.length := a1.length_eq.trans al
  have fits : (out.toList.map bkV).length ≤ sizeLine := by rw [List.length_map, hol, sizeLine_eq]; omega
  refine wpAny_pure ⟨_, rfl, .ref h'.objs.size, upd H h'.objs.size (.lst (out.toList.map bkV)), I1.laid (t' := tk) (fun b u e => ?_) (Nat.le_refl _) ⟨fits, out.toList, c, bkV_vals fun u hu => ?_, by rw [Array.toArray_toList]; exact hat⟩, rfl, ?_⟩
  · have hlt := Heap.lt_size e
    show (sortedHeap (h'.push (seqObj "list" acc.toList.toArray 0)) h'.objs.size acc.toList out).get? b = some u
    rw [sortedHeap_old (Nat.ne_of_lt hlt) (by rw [size_push']; exact Nat.lt_succ_of_lt hlt)]
    exact Heap.get?_push_of_some _ e
  · obtain ⟨b, ns, e, _, _⟩ := of u (a1.mem_iff.mp hu)
    exact ⟨b, e⟩
  · rw [qv]
    refine q _ _ ?_ ?_ (fun z hz => ?_) (I1.hok.fresh (Nat.le_refl _))
    · rw [List.map_map, ← kss_eq]
      exact a1.map _
    · rw [List.pairwise_map]
      exact a2
    · obtain ⟨u, hu, rfl⟩ := List.mem_map.mp hz
      obtain ⟨b, ns, rfl, _, g3⟩ := of u (a1.mem_iff.mp hu)
      show H b = some (.tup ((TS.intsOf _ (.ref b)).map V.int))
      rw [(tup b ns g3).ints]
      exact g3
end Ec
/-! Rows in their order; sorted(..) of rows. -/
namespace Ec
open PySem L2
def asc (rs : List Row) : Prop := rs.Pairwise fun a b => num a < num b
def ibs (r : Row) : List Int := r.map fun b => (b.toNat : Int)
theorem ibs_len (r : Row) : (ibs r).length = r.length := List.length_map _
theorem ibs_bd (r : Row) : TS.Bd 2 (ibs r) := fun m hm => by
  obtain ⟨b, _, rfl⟩ := List.mem_map.mp hm
  cases b <;> decide
theorem rowV (r : Row) : r.map bitD = (ibs r).map Dt.int := by unfold ibs; rw [List.map_map]; rfl
theorem code_num : ∀ r : Row, TS.code 2 (ibs r) = (num r : Int) := by
  have key : ∀ (r : Row) (n : Nat), ((r.foldl (fun n b => 2 * n + b.toNat) n : Nat) : Int) = (n : Int) * 2 ^ r.length + TS.code 2 (ibs r) := fun r => by
    induction r with
    | nil =>
      intro n
      show (n : Int) = n * 2 ^ 0 + 0
      rw [Int.pow_zero]; omega
    | cons b r ih =>
      intro n
      rw [List.foldl_cons, ih]
      show ((2 * n + b.toNat : Nat) : Int) * 2 ^ r.length + TS.code 2 (ibs r) = (n : Int) * 2 ^ (r.length + 1) + ((b.toNat : Int) * 2 ^ (ibs r).length + TS.code 2 (ibs r))
      rw [ibs_len, Int.pow_succ, Int.natCast_add, Int.natCast_mul, Int.add_mul, Int.mul_assoc, ← Int.add_assoc]
      congr 2
      generalize (2 : Int) ^ r.length = X
      show 2 * ((n : Int) * X) = n * (X * 2)
      rw [Int.mul_comm X 2, ← Int.mul_assoc, ← Int.mul_assoc, Int.mul_comm 2]
  intro r
  have q := key r 0
  rw [show ((0 : Nat) : Int) = 0 from rfl, Int.zero_mul, Int.zero_add] at q
  exact q.symm
theorem num_cons (b : Bool) (r : Row) : num (b :: r) = b.toNat * 2 ^ r.length + num r := by
  have q1 := code_num (b :: r)
  have q2 := code_num r
  have e : TS.code 2 (ibs (b :: r)) = (b.toNat : Int) * 2 ^ (ibs r).length + TS.code 2 (ibs r) := rfl
  rw [e, q2, ibs_len] at q1
  have q3 : ((b.toNat * 2 ^ r.length + num r : Nat) : Int) = (num (b :: r) : Int) := by
    rw [Int.natCast_add, Int.natCast_mul, Int.natCast_pow]; exact q1
  exact (Int.ofNat.inj q3).symm
theorem num_inj : ∀ {a b : Row}, a.length = b.length → num a = num b → a = b
  | [], [], _, _ => rfl
  | [], _ :: _, h, _ => by cases h
  | _ :: _, [], h, _ => by cases h
  | x :: a, y :: b, h, e => by
    have hl : a.length = b.length := by simpa using h
    rw [num_cons, num_cons, hl] at e
    have h1 := num_lt a
    have h2 := num_lt b
    rw [hl] at h1
    have hxy : x = y := by cases x <;> cases y <;> first | rfl | (simp at e; omega)
    subst hxy
    rw [num_inj hl (by omega)]
theorem asc.nodup {rs : List Row} (h : asc rs) : rs.Nodup := h.imp fun {a b} q e => by rw [e] at q; omega
theorem ibs_inj : ∀ {a b : Row}, ibs a = ibs b → a = b
  | [], [], _ => rfl
  | [], _ :: _, h => by cases h
  | _ :: _, [], h => by cases h
  | x :: a, y :: b, h => by
    unfold ibs at h
    rw [List.map_cons, List.map_cons] at h
    injection h with h1 h2
    rw [ibs_inj (a := a) (b := b) h2]
    cases x <;> cases y <;> first | rfl | cases h1
/-- what is in order and the same rows is the same -/
theorem asc_eq {rs ss : List Row} {n : Nat} (hn : ∀ r ∈ rs, r.length = n) (h : asc rs) (hp : ss.Perm rs) (hs : ss.Pairwise fun a b => num a ≤ num b) : ss = rs := by
  refine List.Perm.eq_of_pairwise (le := fun a b => num a ≤ num b) (fun a b ha hb q1 q2 => ?_) hs (h.imp fun {a b} q => Nat.le_of_lt q) hp
  exact num_inj ((hn a (hp.mem_iff.mp ha)).trans (hn b hb).symm) (by omega)
/-- distinct and in order -/
theorem asc_of {rs : List Row} {n : Nat} (hn : ∀ r ∈ rs, r.length = n) (hd : rs.Nodup) (hs : rs.Pairwise fun a b => num a ≤ num b) : asc rs := by
  have q := List.Pairwise.and hd hs
  refine List.Pairwise.imp_of_mem (fun {a b} ha hb z => ?_) q
  have := z.1
  have h2 := z.2
  by_cases e : num a = num b
  · exact absurd (num_inj ((hn a ha).trans (hn b hb).symm) e) this
  · omega
/-- lists of ibs that are rows -/
theorem rows_of {kss : List (List Int)} {rs : List Row} (h : kss.Perm (rs.map ibs)) : ∃ ss : List Row, kss = ss.map ibs ∧ ss.Perm rs := by
  have e : ∀ l : List (List Int), (∀ k ∈ l, ∃ r, k = ibs r) → ∃ ss : List Row, l = ss.map ibs := fun l => by
    induction l with
    | nil => intro _; exact ⟨[], rfl⟩
    | cons k l ih =>
      intro q
      obtain ⟨r, rfl⟩ := q k List.mem_cons_self
      obtain ⟨ss, rfl⟩ := ih fun j hj => q j (List.mem_cons_of_mem _ hj)
      exact ⟨r :: ss, rfl⟩
  obtain ⟨ss, rfl⟩ := e kss fun k hk => by
    obtain ⟨r, _, e⟩ := List.mem_map.mp (h.mem_iff.mp hk)
    exact ⟨r, e.symm⟩
  refine ⟨ss, rfl, List.perm_iff_count.mpr fun a => ?_⟩
  have inj : Function.Injective ibs := fun a b => ibs_inj
  have q := List.perm_iff_count.mp h (ibs a)
  have c : ∀ l : List Row, (l.map ibs).count (ibs a) = l.count a := fun l => by
    induction l with
    | nil => rfl
    | cons b l ih =>
      rw [List.map_cons, List.count_cons, List.count_cons, ih]
      by_cases e : b = a
      · subst e; simp
      · have e2 : ibs b ≠ ibs a := fun z => e (ibs_inj z)
        simp [e, e2]
  rw [c, c] at q
  exact q
theorem inl_inj : ∀ {a b : List Int}, a.map (Sum.inl : Int → Key) = b.map Sum.inl → a = b
  | [], [], _ => rfl
  | [], _ :: _, h => by cases h
  | _ :: _, [], h => by cases h
  | x :: a, y :: b, h => by
    rw [List.map_cons, List.map_cons] at h
    injection h with h1 h2
    injection h1 with h1
    rw [h1, inl_inj h2]
section
variable {K : PySem.W.Frag} {ρ : Rh} {te ta : TE}
theorem rowH_of {H : Hp} {a : Addr} {r : Row} (h : H a = some (.tup ((ibs r).map V.int))) : Dd K H (.ref a) (rowH r) := by
  unfold rowH; rw [rowV]
  exact .tpl h (DdL.ofInts _)
theorem rowH_at {H : Hp} {v : V} {r : Row} (h : Dd K H v (rowH r)) : ∃ a, v = .ref a ∧ H a = some (.tup ((ibs r).map V.int)) := by
  unfold rowH at h; rw [rowV] at h
  obtain ⟨a, xs, rfl, h1, h2⟩ := h.tplT
  cases h2.ints
  exact ⟨a, rfl, h1⟩
/-- sorted({row: True for row in rows}), rows in their order: a new list of them -/
theorem evn_sortedDc {wi : TI} {j : Nat} {vs : List Nat} {rs : List Row} {n : Nat} (hw : SrcD K wi ρ (rs.map rowH)) (ha : asc rs) (hn : ∀ r ∈ rs, r.length = n) (h64 : rs.length < 64) (hjl : j < ρ.length) (hj : j ∈ vs := by decide) :
    EvN K (tCB (rSortDT n 2) (tCons (tDcT wi (gName j) tYes (tVar j) (tC (.bl true)) vs) tNil)) ρ (rs.map rowH) := fun Z σ H Q oc sd k =>
  hw Z σ H _ oc sd fun J H1 G Y e1 w sG hy => fun D hD => by
    have ln : (rs.map rowH).length = rs.length := List.length_map _
    have ocD : ∀ {H4 : Hp} {u : List (List Key × V)}, Evl.Ex H1 H4 → H4 D = some (.dT u) → Occ (D :: Z) H4 := fun {H4 u} e4 hd z hz => by
      rcases List.mem_cons.mp hz with q | q
      · subst q
        exact ⟨_, hd, fun ys e => by cases e⟩
      · exact (oc.ex (e1.trans e4)) z q
    have hid : ∀ {H4 : Hp}, Evl.Ex H1 H4 → Evl.Ex (er Z H1) (er (D :: Z) H4) := fun {H4} e4 b o q => by
      obtain ⟨q1, q2⟩ := er_some q
      have hne : b ≠ D := ne_of_none q2 hD
      rw [er_out (by simp [hne, q1])]; exact e4 _ _ q2
    have sl : σ.length = ρ.length := sd.1
    refine ⟨fun i m H2 => m = rs.length - i ∧ i ≤ rs.length ∧ ∃ kvs : List (List Key × V), Evl.Ex H1 H2 ∧ H2 D = some (.dT kvs) ∧ (kvs.map fun p => p.1) = (rs.take i).map fun r => (ibs r).map Sum.inl,
      ⟨rs.length, rfl, Nat.zero_le _, [], Evl.Ex.new hD, upd_same, rfl⟩, ?_⟩
    rintro i m H2 ⟨rfl, hi, kvs, e2, hd2, hk⟩
    have gH := sG _ H2 (hid e2)
    by_cases hlt : i < rs.length
    · refine .inr ⟨w.goes i H2 (by rw [ln]; exact hlt) gH, fun H' => ∃ kvs : List (List Key × V), Evl.Ex H1 H' ∧ H' D = some (.dT kvs) ∧ (kvs.map fun p => p.1) = (rs.take (i + 1)).map fun r => (ibs r).map Sum.inl, fun H' p' => ⟨rs.length - (i + 1), by omega, rfl, hlt, p'⟩, fun x H3 y => ?_⟩
      obtain ⟨r, hr⟩ : ∃ r, rs[i]? = some r := ⟨rs[i], List.getElem?_eq_getElem hlt⟩
      have hd : (rs.map rowH)[i]? = some (rowH r) := by rw [List.getElem?_map, hr]; rfl
      obtain ⟨e3, hx⟩ := hy (D :: Z) i H2 x H3 _ hd (hid e2) (ocD e2 hd2) (w.yields i H2 x H3 (by rw [ln]; exact hlt) gH y)
      obtain ⟨b, rfl, hb⟩ := rowH_at hx
      have hb3 := er_sub _ _ hb
      have hd3 := e3 _ _ hd2
      have nk : valV kvs ((ibs r).map Sum.inl) = none := by
        cases q : valV kvs ((ibs r).map (Sum.inl : Int → Key)) with
        | none => rfl
        | some z =>
          have q2 : (kvs.any fun kv => decide (kv.1 = (ibs r).map Sum.inl)) = true := by rw [valV_any, q]; rfl
          obtain ⟨kv, m1, m2⟩ := List.any_eq_true.mp q2
          have m3 : (ibs r).map (Sum.inl : Int → Key) ∈ kvs.map fun p => p.1 := List.mem_map.mpr ⟨kv, m1, of_decide_eq_true m2⟩
          rw [hk] at m3
          obtain ⟨r', m4, m5⟩ := List.mem_map.mp m3
          have er' : ibs r' = ibs r := inl_inj m5
          cases ibs_inj er'
          obtain ⟨l, hl⟩ := List.mem_iff_getElem?.mp m4
          rw [List.getElem?_take] at hl
          split at hl
          · rename_i hli
            have nd := ha.nodup
            have e5 : rs[l]? = rs[i]? := by rw [hl, hr]
            have := (List.getElem?_inj (by omega) nd).mp e5
            omega
          · cases hl
      have kl : kvs.length = i := by
        have e := congrArg List.length hk
        rw [List.length_map, List.length_map, List.length_take] at e
        omega
      refine ⟨wipe_one hj _ _, ?_⟩
      unfold tYes
      simp only [if_true]
      refine ⟨.ref b, by rw [List.getElem?_set_self (by rw [wipe_length, sl]; exact hjl)], ?_⟩
      refine ⟨b, kvs, (ibs r).map Sum.inl, rfl, by rw [kV_ints]; exact hb3, hd3, ?_, putK kvs ((ibs r).map Sum.inl) (.bl true), (e2.trans e3).mut hD, upd_same, ?_⟩
      · rw [PySem.sizeLine_eq]; omega
      · rw [putK_new _ nk, List.map_append, hk, List.take_succ, hr, List.map_append]; rfl
    · have ei : i = rs.length := by omega
      subst ei
      rw [List.take_length] at hk
      refine .inl ⟨by rw [← ln]; exact w.stops H2 gH, ?_⟩
      refine ⟨D, kvs, rs.map ibs, rfl, hd2, by rw [hk, List.map_map]; rfl, by rw [List.length_map]; exact h64, fun ns hns => ?_, fun qs p hp hs hq hpn => ?_⟩
      · obtain ⟨r, hr, rfl⟩ := List.mem_map.mp hns
        exact ⟨by rw [ibs_len]; exact hn r hr, ibs_bd r⟩
      · obtain ⟨ss, e, hss⟩ := rows_of hp
        have q1 : ss.Pairwise fun a b => num a ≤ num b := by
          have q2 : (qs.map fun q => q.2).Pairwise fun a b => TS.code 2 a ≤ TS.code 2 b := List.pairwise_map.mpr hs
          rw [e] at q2
          refine (List.pairwise_map.mp q2).imp fun {a b} z => ?_
          rw [code_num, code_num] at z
          omega
        have ess : ss = rs := asc_eq hn ha hss q1
        subst ess
        have exH : Evl.Ex H (upd H2 p (.lst (qs.map fun q => .ref q.1))) := (e1.trans e2).trans (Evl.Ex.new hpn)
        refine k p _ _ (Evl.fresh_back (e1.trans e2) hpn) exH upd_same ?_
        have all : ∀ (l : List (Addr × List Int)) (ts : List Row), (l.map fun q => q.2) = ts.map ibs → (∀ q ∈ l, H2 q.1 = some (.tup (q.2.map V.int))) → DdL K (er (p :: Z) (upd H2 p (.lst (qs.map fun q => .ref q.1)))) (l.map fun q => .ref q.1) (ts.map rowH) := fun l => by
          induction l with
          | nil =>
            intro ts h _
            cases ts with
            | nil => exact .nil
            | cons _ _ => cases h
          | cons q l ih =>
            intro ts h hq
            cases ts with
            | nil => cases h
            | cons t ts =>
              rw [List.map_cons, List.map_cons] at h
              injection h with h1 h2
              have hq1 := hq q List.mem_cons_self
              have hne : q.1 ≠ p := ne_of_none hq1 hpn
              have ocz : q.1 ∉ Z := (oc.ex (e1.trans e2)).noTup hq1
              refine .cons (rowH_of ?_) (ih ts h2 fun z hz => hq z (List.mem_cons_of_mem _ hz))
              rw [er_out (by simp [hne, ocz]), upd_ne hne, ← h1]
              exact hq1
        exact all qs ss e hq
end
end Ec
/-! Objects made: what an __init__ promises, its fields set; isinstance with two classes. -/
namespace Ec
open PySem L2
section
variable {K : PySem.W.Frag} {Z : List Addr} {F F2 : Hp → Prop} {ρ : Rh} {te : TE} {ta : TA} {d : Dt} {ds : List Dt} {D : Ends} {i : Nat}
/-- an __init__ that sets these fields of the new instance -/
def InitSp (K : PySem.W.Frag) (C : Addr) (fs : List Str) (R : List Dt → List Dt → Prop) : Sp := fun vs H Q _ => ∃ (Z : List Addr) (p dx : Addr) (ws : List V) (ds rs : List Dt), vs = .ref p :: ws ∧ p ∉ Z ∧ H p = some (.ins C dx []) ∧ Occ (p :: Z) H ∧ DdL K (er (p :: Z) H) ws ds ∧ R ds rs ∧
  ∀ H2 xs, Evl.Ex (er [p] H) (er [p] H2) → H2 p = some (.ins C dx (fs.zip xs)) → fs.length = xs.length → DdL K (er (p :: Z) H2) xs rs → Q .non H2
theorem evd_make {C : Addr} {fs : List Str} {R : List Dt → List Dt → Prop} {rs : List Dt} {E : XK} (h : EvA K ta ρ ds) (hr : R ds rs) : EvD K (tMake C (InitSp K C fs R) [] E ta) ρ (.obj C fs rs) := fun Z σ H Q oc sd k =>
  h Z σ H _ oc sd fun vs H1 e1 hv => fun x dx hx hdx hne => by
    show InitSp K C fs R (.ref x :: (vs ++ [])) _ _ _
    rw [List.append_nil]
    have oc1 := oc.ex e1
    have hxZ := oc1.fresh hx
    have step : ∀ b o, H1 b = some o → (upd (upd H1 dx (.own x)) x (.ins C dx [])) b = some o := fun b o hb => by
      rw [upd_ne (ne_of_none hb hx), upd_ne (ne_of_none hb hdx)]; exact hb
    refine ⟨Z, x, dx, vs, ds, rs, rfl, hxZ, upd_same, fun z hz => ?_, hv.mono fun b o hb => ?_, hr, fun H2 xs e2 hp hl hd => ⟨rfl, k (.ref x) H2 (fun b o hb => ?_) ?_⟩⟩
    · rcases List.mem_cons.mp hz with q | q
      · subst q
        exact ⟨_, upd_same, fun ys e => by cases e⟩
      · obtain ⟨u, h1, h2⟩ := oc1 z q
        exact ⟨u, step _ _ h1, h2⟩
    · obtain ⟨h1, h2⟩ := er_some hb
      rw [er_out (by simp [ne_of_none h2 hx, h1])]
      exact step _ _ h2
    · have hb1 := e1 _ _ hb
      have hbx := ne_of_none hb1 hx
      exact er_sub _ _ (e2 b o (by rw [er_out (by simp [hbx])]; exact step _ _ hb1))
    · exact .obj (by rw [er_out hxZ]; exact hp) hl (hd.mono (er_less fun z hz => List.mem_cons_of_mem _ hz))
/-- self.f = value -/
theorem nx_fld {f : Str} {C dx p : Addr} (sF : Stb F) (hp : p ∈ Z) (he : EvD K te ρ d) (hi : ρ[i]? = some (some (.raw (.ref p)))) (cl : Cls K C) (na : NoAttr K C f)
    (hF : ∀ H v, F H → Dd K (er Z H) v d → ∃ gs, H p = some (.ins C dx gs) ∧ gs.length < 1000 ∧ F2 (upd H p (.ins C dx (putF f v gs)))) (k : Nx K Z F2 ρ D.nx) : Nx K Z F ρ (sFld K (tVar i) te f D) := fun σ H o s f0 =>
  he Z σ H _ o s fun v H1 e1 hv => by
    have s1 := s.mono (er_ex e1)
    obtain ⟨u, h1, h2⟩ := s1.2 i _ hi
    cases h2.toRaw
    obtain ⟨gs, g1, g2, g3⟩ := hF H1 v (sF _ _ e1 f0) hv
    refine ⟨_, h1, p, C, dx, gs, rfl, g1, cl, na, g2, ?_⟩
    refine k σ _ ((o.ex e1).upd fun ys z => by cases z) ?_ g3
    rw [er_upd hp]
    exact s1
/-- isinstance(x, (list, tuple)) -/
theorem rc_isiT {t u1 u2 : String} {b : Bool} (ht : TyD d t) (hb : PySem.W.kitAny K (.type t) [.type u1, .type u2] = some b) : RcD K (rIsiT K) [d, .tpl [.raw (.ty u1), .raw (.ty u2)]] (.bl b) := fun Z H vs Q oc h k => by
  obtain ⟨v, w, rfl, hv, hw⟩ := ddl2 h
  obtain ⟨a, xs, rfl, h1, h2⟩ := hw.tplT
  obtain ⟨x, y, rfl, q1, q2⟩ := ddl2 h2
  cases q1.toRaw; cases q2.toRaw
  exact ⟨v, a, [.ty u1, .ty u2], .type t, [.type u1, .type u2], b, rfl, er_sub _ _ h1, .cons (.ty u1) (.cons (.ty u2) .nil), tyx_of hv ht, hb, k _ H (Evl.Ex.refl H) (.bl b)⟩
theorem kit_lt {t : String} (h : t = "list" ∨ t = "tuple") : PySem.W.kitAny K (.type t) [.type "list", .type "tuple"] = some true := by
  rcases h with rfl | rfl
  · exact kitAny_cons (b := true) (kit_ty (by decide +kernel)) (fun z => nomatch z) fun _ => rfl
  · exact kitAny_cons (b := false) (kit_ty (by decide +kernel)) (fun _ => kitAny_cons (b := true) (kit_ty (by decide +kernel)) (fun z => nomatch z) fun _ => rfl) fun z => nomatch z
theorem evd_isLT {t : String} {tx t1 t2 : TE} (hx : EvD K tx ρ d) (ht : TyD d t) (h : t = "list" ∨ t = "tuple") (h1 : EvD K t1 ρ (.raw (.ty "list"))) (h2 : EvD K t2 ρ (.raw (.ty "tuple"))) : EvD K (tCB (rIsiT K) (tCons tx (tCons (tTup (tCons t1 (tCons t2 tNil))) tNil))) ρ (.bl true) :=
  evd_callB (eva_cons hx (eva_cons (evd_tpl (eva_cons h1 (eva_cons h2 eva_nil)) (by show 2 ≤ 100000; decide)) eva_nil)) (rc_isiT ht (kit_lt h))
/-- isinstance(x, C), C the class of x -/
def rIsC (C : Addr) : List V → Hp → VK → Prop := fun xs H Q => ∃ a dx fs, xs = [.ref a, .ref C] ∧ H a = some (.ins C dx fs) ∧ Q (.bl true) H
theorem rc_isC {C : Addr} {fs : List Str} : RcD K (rIsC C) [.obj C fs ds, .raw (.ref C)] (.bl true) := fun Z H vs Q oc h k => by
  obtain ⟨v, w, rfl, hv, hw⟩ := ddl2 h
  cases hw.toRaw
  cases hv with
  | obj h1 h2 h3 => exact ⟨_, _, _, rfl, er_sub _ _ h1, k _ H (Evl.Ex.refl H) (.bl true)⟩
theorem init_ok {P : Program} {w : World} {mg : Str → Option Value} {base : Heap} {qual : Str} {st : Stmt} {f C : Addr} {fd : FuncData} {N ps : List Str} {k : Nat} {fs : List Str} {R : List Dt → List Dt → Prop}
    (Fn : Fun K "__init__" qual st f fd) (S : FnScope N ps (defScope st)) (hl : ∀ ds rs, R ds rs → ds.length + 1 = ps.length)
    (h : ∀ ds rs, R ds rs → ∀ (cdv : Value) (A : Around) (outer : List Env) (s : Shared) (H : Hp) (E : XK), Room k (A.deeper (PyProof.Rows.envOfC qual (defScope st) s.heap.objs.size f cdv)) →
      ∃ t, PSs (cxOf CX0 P w K mg base N qual (defScope st) f cdv A outer s H E).nox (defBody st) t ∧ ∀ (Z : List Addr) (p dx : Addr) (D : Ends), p ∉ Z → H p = some (.ins C dx []) →
        (∀ ρ, Nx K (p :: Z) (fun H2 => Evl.Ex (er [p] H) (er [p] H2) ∧ ∃ xs, H2 p = some (.ins C dx (fs.zip xs)) ∧ fs.length = xs.length ∧ DdL K (er (p :: Z) H2) xs rs) ρ D.nx) →
        Nx K (p :: Z) (fun H2 => H2 p = some (.ins C dx []) ∧ Evl.Ex (er [p] H) (er [p] H2)) (startD N (.raw (.ref p) :: ds)) (t D)) : FnOk P w K mg base CX0 (k + 1) f fd ps (InitSp K C fs R) :=
  Fn.ok S (fun vs H Q E q => by
    obtain ⟨Z, p, dx, ws, ds, rs, rfl, _, _, _, hd, hr, _⟩ := q
    rw [List.length_cons, hd.length]; exact hl ds rs hr) fun cdv A outer s H vs Q E hr q => by
    obtain ⟨Z, p, dx, ws, ds, rs, rfl, hpZ, hp, oc, hd, hR, k⟩ := q
    obtain ⟨t, h1, h2⟩ := h ds rs hR cdv A outer s H E hr
    have fin : ∀ ρ, Nx K (p :: Z) (fun H2 => Evl.Ex (er [p] H) (er [p] H2) ∧ ∃ xs, H2 p = some (.ins C dx (fs.zip xs)) ∧ fs.length = xs.length ∧ DdL K (er (p :: Z) H2) xs rs) ρ (fun _ H' => Q .non H') := fun ρ σ H2 _ _ f => by
      obtain ⟨e, xs, g1, g2, g3⟩ := f
      exact k H2 xs e g1 g2 g3
    exact ⟨t, h1, h2 Z p dx { nx := fun _ H' => Q .non H', rt := Q } hpZ hp fin _ H oc (sd_start (ds := .raw (.ref p) :: ds) (.cons (.raw _) hd)) ⟨hp, Evl.Ex.refl _⟩⟩
end
section
variable {X : Cx} {K : PySem.W.Frag}
theorem ps_fldK {o value : Expr} {f : Str} {pos pos' : Pos} {ta tv : TE} (hK : X.K = K) (ha : PE X o ta) (hv : PE X value tv) (hs : swapsWith value (some (.Attribute o f pos')) pos.line X.env = pure false) : PS X (.Assign [.Attribute o f pos'] value pos) (sFld K ta tv f) := by subst hK; exact ps_fld ha hv hs
theorem call_isCo {C : Addr} (hK : X.K = K) (c : C8.InsC K C) : CallR X (.builtin "isinstance") (rIsC C) := by subst hK; exact C8.call_isC c
end
end Ec
/-! Relations and books made. -/
namespace Ec
open PySem L2
section
variable {P : Program} {w : World} {K : PySem.W.Frag} {mg : Str → Option Value} {base : Heap} {f : Addr} {fd : FuncData}
abbrev s_is_below : Stmt := topS 34
theorem sc_is_below : FnScope ["value", "limit"] ["value", "limit"] (defScope s_is_below) := ⟨rfl, rfl, rfl, by decide +kernel, rfl, by decide +kernel, by decide +kernel⟩
-- slots: value 0, limit 1
def R_isbelow (ds : List Dt) (r : Dt) : Prop := ∃ a l : Int, 0 ≤ a ∧ a < l ∧ ds = [.int a, .int l] ∧ r = .bl true
theorem ok_is_below (T : Txt K mg) (Fn : Fun K "is_below" "is_below" s_is_below f fd) : FnOk P w K mg base CX0 1 f fd ["value", "limit"] (PureSp K R_isbelow) := by
  refine pure_ok Fn sc_is_below (fun ds r h => ?_) fun ds r h cdv A outer s H E hr => ?_
  · obtain ⟨_, _, _, _, rfl, _⟩ := h; rfl
  · obtain ⟨a, l, h1, h2, rfl, rfl⟩ := h
    refine ⟨_, (pss_one (ps_ret (pe_and (pe_callB (r := rIsi K) call_isi (by rfl) T.isinstance (by decide +kernel) (pa_cons (pv 0) (pa_cons (pe_bltn (v := .ty "int") (by rfl) T.int (by decide +kernel) rfl) pa_nil))) (pe_and (pe_not (pe_callB (r := rIsi K) call_isi (by rfl) T.isinstance (by decide +kernel) (pa_cons (pv 0) (pa_cons (pe_bltn (v := .ty "bool") (by rfl) T.bool (by decide +kernel) rfl) pa_nil)))) (pe_one (pe_chain op_le op_lt pe_int (pv 0) (pv 1))))))), fun Z H0 D k => ?_⟩
    refine nx_ret (stb_ex H0) ((evd_andV (evd_callB (eva_cons (evd_var rfl) (eva_cons evd_ty eva_nil)) (rc_isi (d := .int a) (t := "int") (b := true) rfl (kit_ty (by decide +kernel)))) fun _ => evd_andV (evd_notV (evd_callB (eva_cons (evd_var rfl) (eva_cons evd_ty eva_nil)) (rc_isi (d := .int a) (t := "int") (b := false) rfl (kit_ty (by decide +kernel))))) fun _ =>
      (evd_chain (evd_int (i := 0)) (evd_var (d := .int a) rfl) (rvd_I0 fun _ => .bl _) (fun _ => evd_var (d := .int l) rfl) fun _ => rvd_I0 fun _ => .bl _)).is ?_) fun v H oc ex hv => k v H oc ex hv
    rw [decide_eq_true h1, decide_eq_true h2]; rfl
abbrev s_is_row : Stmt := topS 35
theorem sc_is_row : FnScope ["value", "size", "one"] ["value", "size"] (defScope s_is_row) := ⟨rfl, rfl, rfl, by decide +kernel, rfl, by decide +kernel, by decide +kernel⟩
-- slots: value 0, size 1, one 2
def R_isrow (ds : List Dt) (r : Dt) : Prop := ∃ q : Row, ds = [rowH q, .int (q.length : Int)] ∧ r = .bl true
theorem ok_is_row (T : Txt K mg) (C_is_below : C8.Cal P w K mg base 1 "is_below" (PureSp K R_isbelow) []) (Fn : Fun K "is_row" "is_row" s_is_row f fd) : FnOk P w K mg base CX0 2 f fd ["value", "size"] (PureSp K R_isrow) := by
  refine pure_ok Fn sc_is_row (fun ds r h => ?_) fun ds r h cdv A outer s H E hr => ?_
  · obtain ⟨_, rfl, _⟩ := h; rfl
  · obtain ⟨q, rfl, rfl⟩ := h
    refine ⟨_, (pss_cons (ps_if (PW.pt (pw_or (pt_not (pt_val (pe_callB (r := rIsi K) call_isi (by rfl) T.isinstance (by decide +kernel) (pa_cons (pv 0) (pa_cons (pe_bltn (v := .ty "tuple") (by rfl) T.tuple (by decide +kernel) rfl) pa_nil))))) (pw_or1 (pt_cmpR op_ne (pe_callB (r := rLen K) call_len_seq (by rfl) T.len PySem.boot_len (pa_cons (pv 0) pa_nil)) (pv 1) (nomark _))))) (pss_one (ps_ret pe_bl)) pss_nil)
      (pss_cons (ps_for PassesOwn.never rfl (pi_tupK (K := K) rfl (pv 0)) (pg_name (i := 2) sc_is_row.nd rfl (Or.inl rfl))
        (pss_one (ps_if (pt_not (pt_val (C8.pe_c C_is_below hr (by decide) rfl (pa_cons (pv 2) (pa_cons pe_int pa_nil))))) (pss_one (ps_ret pe_bl)) pss_nil)))
      (pss_one (ps_ret pe_bl)))), fun Z H0 D k => ?_⟩
    have hlen : (q.map bitD).length = q.length := List.length_map _
    have lowV : EvD K (tVar 0) [some (rowH q), some (.int (q.length : Int)), none] (rowD q) := (evd_var (d := rowH q) rfl).wk fun _ _ => lowR
    refine nx_seq (nx_ifF (stb_ex H0) ((evt_or (evt_not (evt_B (evd_callB (eva_cons lowV (eva_cons evd_ty eva_nil)) (rc_isi (t := "tuple") rfl (kit_ty (r := true) (by decide +kernel)))))) fun _ =>
      evt_test (evd_op (evd_callB (eva_cons lowV eva_nil) rc_lenT) (evd_var rfl) rvd_neI)).is (by rw [hlen]; simp)) ?_)
    refine nx_seq (nx_forN (stb_ex H0) (src_tup lowV) (fun i ρ F => F = Evl.Ex H0 ∧ ∃ x, ρ = [some (rowH q), some (.int (q.length : Int)), x]) ⟨rfl, _, rfl⟩ ?_ ?_)
    · rintro LF sL i d ρ F hi ⟨rfl, x, rfl⟩ sF
      obtain ⟨c, hc, rfl⟩ := map_at hi
      refine nx_ifF (sF.andZ sL) (evt_not (evt_B (evd_call (d := .bl true) (eva_cons (evd_var (d := bitD c) rfl) (eva_cons (evd_int (i := 2)) eva_nil)) ⟨(c.toNat : Int), 2, by cases c <;> decide, by cases c <;> decide, rfl, rfl⟩))) ?_
      exact as_in ⟨rfl, _, rfl⟩ sF
    · rintro ρ F ⟨rfl, x, rfl⟩ sF
      exact nx_ret sF evd_bl fun v H oc ex hv => k v H oc ex hv
abbrev s_are_rows : Stmt := topS 36
theorem sc_are_rows : FnScope ["rows", "size", "row"] ["rows", "size"] (defScope s_are_rows) := ⟨rfl, rfl, rfl, by decide +kernel, rfl, by decide +kernel, by decide +kernel⟩
-- slots: rows 0, size 1, row 2
def R_arerows (ds : List Dt) (r : Dt) : Prop := ∃ (rs : List Row) (n : Nat), rs ≠ [] ∧ (∀ q ∈ rs, q.length = n) ∧ ds = [rowsHT rs, .int (n : Int)] ∧ r = .bl true
theorem ok_are_rows (T : Txt K mg) (C_is_row : C8.Cal P w K mg base 2 "is_row" (PureSp K R_isrow) []) (Fn : Fun K "are_rows" "are_rows" s_are_rows f fd) : FnOk P w K mg base CX0 3 f fd ["rows", "size"] (PureSp K R_arerows) := by
  refine pure_ok Fn sc_are_rows (fun ds r h => ?_) fun ds r h cdv A outer s H E hr => ?_
  · obtain ⟨_, _, _, _, rfl, _⟩ := h; rfl
  · obtain ⟨rs, n, hne, hn, rfl, rfl⟩ := h
    refine ⟨_, (pss_cons (ps_if (PW.pt (pw_or (pt_not (pt_val (pe_callB (r := rIsiT K) call_isiT (by rfl) T.isinstance (by decide +kernel) (pa_cons (pv 0) (pa_cons (pe_tup (pa_cons (pe_bltn (v := .ty "list") (by rfl) T.list (by decide +kernel) rfl) (pa_cons (pe_bltn (v := .ty "tuple") (by rfl) T.tuple (by decide +kernel) rfl) pa_nil))) pa_nil))))) (pw_or1 (pt_cmpR op_eq (pe_callB (r := rLen K) call_len_seq (by rfl) T.len PySem.boot_len (pa_cons (pv 0) pa_nil)) pe_int (nomark _))))) (pss_one (ps_ret pe_bl)) pss_nil)
      (pss_cons (ps_for PassesOwn.never rfl (pi_tupK (K := K) rfl (pv 0)) (pg_name (i := 2) sc_are_rows.nd rfl (Or.inl rfl))
        (pss_one (ps_if (pt_not (pt_val (C8.pe_c C_is_row hr (by decide) rfl (pa_cons (pv 2) (pa_cons (pv 1) pa_nil))))) (pss_one (ps_ret pe_bl)) pss_nil)))
      (pss_one (ps_ret pe_bl)))), fun Z H0 D k => ?_⟩
    have hlen : (rs.map rowH).length = rs.length := List.length_map _
    have hpos : rs.length ≠ 0 := fun z => hne (List.length_eq_zero_iff.mp z)
    refine nx_seq (nx_ifF (stb_ex H0) ((evt_or (evt_not (evt_B (evd_isLT (t := "tuple") (evd_var (d := rowsHT rs) rfl) rfl (.inr rfl) evd_ty evd_ty))) fun _ =>
      evt_test (evd_op (evd_callB (eva_cons (evd_var (d := rowsHT rs) rfl) eva_nil) rc_lenT) evd_int rvd_eqI)).is (by rw [hlen]; simpa using hne)) ?_)
    refine nx_seq (nx_forN (stb_ex H0) (src_tup (ds := rs.map rowH) (evd_var rfl)) (fun i ρ F => F = Evl.Ex H0 ∧ ∃ x, ρ = [some (rowsHT rs), some (.int (n : Int)), x]) ⟨rfl, _, rfl⟩ ?_ ?_)
    · rintro LF sL i d ρ F hi ⟨rfl, x, rfl⟩ sF
      obtain ⟨c, hc, rfl⟩ := map_at hi
      refine nx_ifF (sF.andZ sL) (evt_not (evt_B (evd_call (d := .bl true) (eva_cons (evd_var (d := rowH c) rfl) (eva_cons (evd_var (d := .int (n : Int)) rfl) eva_nil)) ⟨c, by rw [hn c (List.mem_of_getElem? hc)], rfl⟩))) ?_
      exact as_in ⟨rfl, _, rfl⟩ sF
    · rintro ρ F ⟨rfl, x, rfl⟩ sF
      exact nx_ret sF evd_bl fun v H oc ex hv => k v H oc ex hv
abbrev s_Relation___init__ : Stmt := inClass (topS 37) 0
theorem sc_Relation___init__ : FnScope ["self", "size", "rows", "row"] ["self", "size", "rows"] (defScope s_Relation___init__) := ⟨rfl, rfl, rfl, by decide +kernel, rfl, by decide +kernel, by decide +kernel⟩
-- slots: self 0, size 1, rows 2, row 3
/-- a relation with which a book is made -/
def Good (rl : Nat × List Row) : Prop := 1 ≤ rl.1 ∧ rl.1 ≤ 4 ∧ rl.2 ≠ [] ∧ asc rl.2 ∧ (∀ q ∈ rl.2, q.length = rl.1) ∧ rl.2.length < 64
def rlHD (rl : Nat × List Row) : Dt := .tup [.int (rl.1 : Int), rowsHT rl.2]
def R_relation (ds rs : List Dt) : Prop := ∃ rl : Nat × List Row, Good rl ∧ ds = [.int (rl.1 : Int), rowsHT rl.2] ∧ rs = [.int (rl.1 : Int), rowsT rl.2]
theorem ok_relation {C : Addr} (T : Txt K mg) (cR : ClsF K C ["size", "rows"]) (C_is_below : C8.Cal P w K mg base 1 "is_below" (PureSp K R_isbelow) []) (C_are_rows : C8.Cal P w K mg base 3 "are_rows" (PureSp K R_arerows) [])
    (Fn : Fun K "__init__" "Relation.__init__" s_Relation___init__ f fd) : FnOk P w K mg base CX0 4 f fd ["self", "size", "rows"] (InitSp K C ["size", "rows"] R_relation) := by
  refine init_ok Fn sc_Relation___init__ (fun ds rs h => ?_) fun ds rs h cdv A outer s H E hr => ?_
  · obtain ⟨_, _, rfl, _⟩ := h; rfl
  · obtain ⟨⟨n, rs⟩, ⟨h1, h4, hne, ha, hn, h64⟩, rfl, rfl⟩ := h
    have hu : A.units + 3 < cLine := by have := hr.un; show A.units + 3 < cLine; exact Nat.lt_of_le_of_lt (by show A.units + 3 ≤ A.units + 3 + 16 * 3 + 200; omega) this
    refine ⟨_, (pss_cons (ps_if (PW.pt (pw_or (pt_not (pt_val (C8.pe_c C_is_below hr (by decide) rfl (pa_cons (pv 1) (pa_cons (pe_op op_add (pe_cnK (K := K) rfl T.MOST_PLACES rfl) pe_int) pa_nil))))) (pw_or (pt_cmpR op_eq (pv 1) pe_int (nomark _)) (pw_or1 (pt_not (pt_val (C8.pe_c C_are_rows hr (by decide) rfl (pa_cons (pv 2) (pa_cons (pv 1) pa_nil))))))))) (pss_one ps_never) pss_nil)
      (pss_cons (ps_fldK (K := K) rfl (pv 0) (pv 1) rfl)
      (pss_one (ps_fldK (K := K) rfl (pv 0) (pe_callTy (r := rTupO K) call_tuple_of (by rfl) T.tuple (by decide +kernel) (pa_cons (pe_callB (r := rSortDT n 2) (cr_sortDT h1 rfl) (by rfl) T.sorted (by decide +kernel) (pa_cons (pe_dcT (own := [("row", 3)]) (g := (gName 3)) (tt := tYes) rfl sc_Relation___init__.nd (pi_tupK (K := K) rfl (pv 2)) (blkOk_by (by kernel_rfl)) (fun _ _ _ _ _ => (pg_name (i := 3) sc_Relation___init__.nd rfl (Or.inl rfl))) (fun _ _ _ _ _ => pts_nil) (fun _ _ _ _ _ => (pv 3)) (fun _ _ _ _ _ => pe_bl) hu) pa_nil)) pa_nil)) rfl)))), fun Z p dx D hpZ hp fin => ?_⟩
    have sF0 : Stb fun H2 => H2 p = some (.ins C dx []) ∧ Evl.Ex (er [p] H) (er [p] H2) := fun A B e z => ⟨e _ _ z.1, z.2.trans (er_ex e)⟩
    refine nx_seq (nx_ifF sF0 ((evt_or (evt_not (evt_B (evd_call (d := .bl true) (eva_cons (evd_var (d := .int (n : Int)) rfl) (eva_cons (evd_i0 (f := fun i j => i + j) evd_cn (evd_int (i := 1))) eva_nil)) ⟨(n : Int), 5, by omega, by show (n : Int) < 5; have : n ≤ 4 := h4; omega, rfl, rfl⟩))) fun _ =>
      evt_or (evt_test (evd_op (evd_var (d := .int (n : Int)) rfl) evd_int rvd_eqI)) fun _ => evt_not (evt_B (evd_call (d := .bl true) (eva_cons (evd_var (d := rowsHT rs) rfl) (eva_cons (evd_var (d := .int (n : Int)) rfl) eva_nil)) ⟨rs, n, hne, hn, rfl, rfl⟩))).is (by
        have : n ≠ 0 := by have h1' : 1 ≤ n := h1; omega
        simpa using this)) ?_)
    refine nx_seq (nx_fld (C := C) (dx := dx) (F2 := fun H2 => (∃ v, H2 p = some (.ins C dx [("size", v)]) ∧ v = .int (n : Int)) ∧ Evl.Ex (er [p] H) (er [p] H2)) sF0 List.mem_cons_self (evd_var (d := .int (n : Int)) rfl) rfl cR.cl (cR.no _ (by simp)) (fun H2 v f hv => ?_) ?_)
    · refine ⟨[], f.1, by decide, ⟨v, upd_same, hv.toInt⟩, ?_⟩
      rw [er_upd (by simp)]; exact f.2
    have sF1 : Stb fun H2 => (∃ v, H2 p = some (.ins C dx [("size", v)]) ∧ v = V.int (n : Int)) ∧ Evl.Ex (er [p] H) (er [p] H2) := fun A B e z => ⟨let ⟨v, h1, h2⟩ := z.1; ⟨v, e _ _ h1, h2⟩, z.2.trans (er_ex e)⟩
    refine nx_fld (C := C) (dx := dx) (d := rowsT rs) sF1 List.mem_cons_self ((evd_callB (eva_cons (EvN.toD (evn_sortedDc (src_tup (ds := rs.map rowH) (evd_var rfl)) ha hn h64 (by show 3 < 4; decide))) eva_nil) rc_tupL).wk fun _ _ => lowT) rfl cR.cl (cR.no _ (by simp)) (fun H2 v f hv => ?_) (fin _)
    obtain ⟨⟨u, g1, rfl⟩, g2⟩ := f
    have e : putF "rows" v [("size", V.int (n : Int))] = ([("size", V.int (n : Int)), ("rows", v)] : List (Str × V)) := by
      unfold putF
      rw [if_neg (by decide +kernel)]
      rfl
    refine ⟨_, g1, by show 1 < 1000; decide, ?_, [.int (n : Int), v], by rw [upd_same, e]; rfl, rfl, ?_⟩
    · rw [er_upd (by simp)]; exact g2
    · rw [er_upd List.mem_cons_self]
      exact .cons (.int _) (.cons hv .nil)
abbrev s_are_relations : Stmt := topS 40
theorem sc_are_relations : FnScope ["relations", "relation"] ["relations"] (defScope s_are_relations) := ⟨rfl, rfl, rfl, by decide +kernel, rfl, by decide +kernel, by decide +kernel⟩
-- slots: relations 0, relation 1
def R_arerels (C : Addr) (ds : List Dt) (r : Dt) : Prop := ∃ bk : List (Nat × List Row), 1 ≤ bk.length ∧ bk.length ≤ 6 ∧ ds = [.lst (bk.map (relD C))] ∧ r = .bl true
theorem ok_are_relations {C : Addr} (T : Txt K mg) (iR : C8.InsC K C) (M_Relation : mg "Relation" = some (.ref C)) (Fn : Fun K "are_relations" "are_relations" s_are_relations f fd) : FnOk P w K mg base CX0 1 f fd ["relations"] (PureSp K (R_arerels C)) := by
  refine pure_ok Fn sc_are_relations (fun ds r h => ?_) fun ds r h cdv A outer s H E hr => ?_
  · obtain ⟨_, _, _, rfl, _⟩ := h; rfl
  · obtain ⟨bk, h1, h6, rfl, rfl⟩ := h
    refine ⟨_, (pss_cons (ps_if (PW.pt (pw_or (pt_not (pt_val (pe_callB (r := rIsiT K) call_isiT (by rfl) T.isinstance (by decide +kernel) (pa_cons (pv 0) (pa_cons (pe_tup (pa_cons (pe_bltn (v := .ty "list") (by rfl) T.list (by decide +kernel) rfl) (pa_cons (pe_bltn (v := .ty "tuple") (by rfl) T.tuple (by decide +kernel) rfl) pa_nil))) pa_nil))))) (pw_or1 (pt_not (pt_chain op_le op_le pe_int (pe_callB (r := rLen K) call_len_seq (by rfl) T.len PySem.boot_len (pa_cons (pv 0) pa_nil)) (pe_cnK (K := K) rfl T.MOST_RELATIONS rfl)))))) (pss_one (ps_ret pe_bl)) pss_nil)
      (pss_cons (ps_for PassesOwn.never rfl (pi_listK (K := K) rfl (pv 0)) (pg_name (i := 1) sc_are_relations.nd rfl (Or.inl rfl))
        (pss_one (ps_if (pt_not (pt_val (pe_callB (r := rIsC C) (call_isCo (K := K) rfl iR) (by rfl) T.isinstance (by decide +kernel) (pa_cons (pv 1) (pa_cons (pe_glob (v := .ref C) rfl M_Relation rfl) pa_nil))))) (pss_one (ps_ret pe_bl)) pss_nil)))
      (pss_one (ps_ret pe_bl)))), fun Z H0 D k => ?_⟩
    have hlen : (bk.map (relD C)).length = bk.length := List.length_map _
    refine nx_seq (nx_ifF (stb_ex H0) ((evt_or (evt_not (evt_B (evd_isLT (t := "list") (evd_var (d := .lst (bk.map (relD C))) rfl) rfl (.inl rfl) evd_ty evd_ty))) fun _ =>
      evt_not (evt_test (evd_chain (evd_int (i := 1)) (evd_callB (eva_cons (evd_var (d := .lst (bk.map (relD C))) rfl) eva_nil) rc_lenL) (rvd_I0 fun _ => .bl _) (fun _ => evd_cn (d := .int 6)) fun _ => rvd_I0 fun _ => .bl _))).is (by
        rw [hlen, decide_eq_true (show (1 : Int) ≤ bk.length by omega), decide_eq_true (show (bk.length : Int) ≤ 6 by omega)]; rfl)) ?_)
    refine nx_seq (nx_forN (stb_ex H0) (src_list (ds := bk.map (relD C)) (evd_var rfl)) (fun i ρ F => F = Evl.Ex H0 ∧ ∃ x, ρ = [some (.lst (bk.map (relD C))), x]) ⟨rfl, _, rfl⟩ ?_ ?_)
    · rintro LF sL i d ρ F hi ⟨rfl, x, rfl⟩ sF
      obtain ⟨c, hc, rfl⟩ := map_at hi
      refine nx_ifF (sF.andZ sL) (evt_not (evt_B (evd_callB (d := .bl true) (eva_cons (evd_var (d := relD C c) rfl) (eva_cons (evd_c (d := .raw (.ref C)) fun _ => .raw _) eva_nil)) rc_isC))) ?_
      exact as_in ⟨rfl, _, rfl⟩ sF
    · rintro ρ F ⟨rfl, x, rfl⟩ sF
      exact nx_ret sF evd_bl fun v H oc ex hv => k v H oc ex hv
abbrev s_Book___init__ : Stmt := inClass (topS 41) 0
theorem sc_Book___init__ : FnScope ["self", "relations", "relation"] ["self", "relations"] (defScope s_Book___init__) := ⟨rfl, rfl, rfl, by decide +kernel, rfl, by decide +kernel, by decide +kernel⟩
-- slots: self 0, relations 1, relation 2
def R_book (C : Addr) (ds rs : List Dt) : Prop := ∃ bk : List (Nat × List Row), 1 ≤ bk.length ∧ bk.length ≤ 6 ∧ ds = [.lst (bk.map (relD C))] ∧ rs = [.tup (bk.map (relD C)), .tup (bk.map rlD)]
theorem ok_book {B C : Addr} (T : Txt K mg) (cR : ClsF K C ["size", "rows"]) (cB : ClsF K B ["relations", "plain"]) (C_are_relations : C8.Cal P w K mg base 1 "are_relations" (PureSp K (R_arerels C)) [])
    (Fn : Fun K "__init__" "Book.__init__" s_Book___init__ f fd) : FnOk P w K mg base CX0 2 f fd ["self", "relations"] (InitSp K B ["relations", "plain"] (R_book C)) := by
  refine init_ok Fn sc_Book___init__ (fun ds rs h => ?_) fun ds rs h cdv A outer s H E hr => ?_
  · obtain ⟨_, _, _, rfl, _⟩ := h; rfl
  · obtain ⟨bk, h1, h6, rfl, rfl⟩ := h
    refine ⟨_, (pss_cons (ps_if (pt_not (pt_val (C8.pe_c C_are_relations hr (by decide) rfl (pa_cons (pv 1) pa_nil)))) (pss_one ps_never) pss_nil)
      (pss_cons (ps_fldK (K := K) rfl (pv 0) (pe_callTy (r := rTupO K) call_tuple_of (by rfl) T.tuple (by decide +kernel) (pa_cons (pv 1) pa_nil)) rfl)
      (pss_one (ps_fldK (K := K) rfl (pv 0) (pe_callTy (r := rTupO K) call_tuple_of (by rfl) T.tuple (by decide +kernel) (pa_cons (pe_lc (own := [("relation", 2)]) (g := (gName 2)) (tt := tYes) rfl sc_Book___init__.nd (pi_listK (K := K) rfl (pv 1)) (blkOk_by (by kernel_rfl)) (fun _ _ _ _ _ => (pg_name (i := 2) sc_Book___init__.nd rfl (Or.inl rfl))) (fun _ _ _ _ _ => pts_nil) (fun _ _ _ _ _ => (pe_tup (pa_cons (pe_fldK (K := K) rfl (pv 2) rfl) (pa_cons (pe_fldK (K := K) rfl (pv 2) rfl) pa_nil))))) pa_nil)) rfl)))), fun Z p dx D hpZ hp fin => ?_⟩
    have sF0 : Stb fun H2 => H2 p = some (.ins B dx []) ∧ Evl.Ex (er [p] H) (er [p] H2) := fun _ _ e z => ⟨e _ _ z.1, z.2.trans (er_ex e)⟩
    refine nx_seq (nx_ifF sF0 (evt_not (evt_B (evd_call (d := .bl true) (eva_cons (evd_var (d := .lst (bk.map (relD C))) rfl) eva_nil) ⟨bk, h1, h6, rfl, rfl⟩))) ?_)
    refine nx_seq (nx_fld (C := B) (dx := dx) (F2 := fun H2 => (∃ v, H2 p = some (.ins B dx [("relations", v)]) ∧ Dd K (er (p :: Z) H2) v (.tup (bk.map (relD C)))) ∧ Evl.Ex (er [p] H) (er [p] H2)) sF0 List.mem_cons_self (evd_callB (eva_cons (evd_var (d := .lst (bk.map (relD C))) rfl) eva_nil) rc_tupL) rfl cB.cl (cB.no _ (by simp)) (fun H2 v f hv => ?_) ?_)
    · refine ⟨[], f.1, by decide, ⟨v, upd_same, by rw [er_upd List.mem_cons_self]; exact hv⟩, ?_⟩
      rw [er_upd (by simp)]; exact f.2
    have sF1 : Stb fun H2 => (∃ v, H2 p = some (.ins B dx [("relations", v)]) ∧ Dd K (er (p :: Z) H2) v (.tup (bk.map (relD C)))) ∧ Evl.Ex (er [p] H) (er [p] H2) := fun _ _ e z => ⟨let ⟨v, h1, h2⟩ := z.1; ⟨v, e _ _ h1, h2.mono (er_ex e)⟩, z.2.trans (er_ex e)⟩
    refine nx_fld (C := B) (dx := dx) (d := .tup (bk.map rlD)) sF1 List.mem_cons_self (evd_callB (eva_cons (EvN.toD (evn_lcM bk (relD C) rlD (src_list (evd_var rfl)) (Nat.le_trans h6 (by decide)) fun i rl hrl => ?_)) eva_nil) rc_tupL) rfl cB.cl (cB.no _ (by simp)) (fun H2 v f hv => ?_) (fin _)
    · exact evd_tup (eva_cons (evd_fld1 (evd_var (d := relD C rl) rfl) cR) (eva_cons (evd_fld2 (evd_var (d := relD C rl) rfl) cR nsz) eva_nil)) (by show 2 ≤ 100000; decide)
    · obtain ⟨⟨u, g1, g3⟩, g2⟩ := f
      have e : putF "plain" v [("relations", u)] = ([("relations", u), ("plain", v)] : List (Str × V)) := by
        unfold putF
        rw [if_neg (by decide +kernel)]
        rfl
      refine ⟨_, g1, by show 1 < 1000; decide, ?_, [u, v], by rw [upd_same, e]; rfl, rfl, ?_⟩
      · rw [er_upd (by simp)]; exact g2
      · rw [er_upd List.mem_cons_self]
        exact .cons g3 (.cons hv .nil)
abbrev s__law_book : Stmt := topS 55
theorem sc__law_book : FnScope ["_law_book_here", "_law_size", "_law_rows_here"] ["_law_book_here"] (defScope s__law_book) := ⟨rfl, rfl, rfl, by decide +kernel, rfl, by decide +kernel, by decide +kernel⟩
-- slots: _law_book_here 0, _law_size 1, _law_rows_here 2
def R_lbook (B C : Addr) (ds : List Dt) (r : Dt) : Prop := ∃ bk : List (Nat × List Row), 1 ≤ bk.length ∧ bk.length ≤ 6 ∧ (∀ rl ∈ bk, Good rl) ∧ ds = [.lst (bk.map rlHD)] ∧ r = bookD B C bk
theorem ok__law_book {B C : Addr} (T : Txt K mg) (C_Relation : C8.Mak P w K mg base 4 "Relation" C (InitSp K C ["size", "rows"] R_relation) []) (C_Book : C8.Mak P w K mg base 2 "Book" B (InitSp K B ["relations", "plain"] (R_book C)) [])
    (Fn : Fun K "_law_book" "_law_book" s__law_book f fd) : FnOk P w K mg base CX0 6 f fd ["_law_book_here"] (PureSp K (R_lbook B C)) := by
  refine pure_ok Fn sc__law_book (fun ds r h => ?_) fun ds r h cdv A outer s H E hr => ?_
  · obtain ⟨_, _, _, _, rfl, _⟩ := h; rfl
  · obtain ⟨bk, h1, h6, hg, rfl, rfl⟩ := h
    refine ⟨_, (pss_one (ps_ret (C8.pe_mk C_Book hr (by decide) rfl (pa_cons (pe_lc (own := [("_law_size", 1), ("_law_rows_here", 2)]) (g := (gTup K 2 (gCons (gName 1) (gCons (gName 2) gNil)))) (tt := tYes) rfl sc__law_book.nd (pi_listK (K := K) rfl (pv 0)) (blkOk_by (by kernel_rfl)) (fun _ _ _ _ _ => (pg_tupK (K := K) rfl rfl (pgs_cons (pg_name (i := 1) sc__law_book.nd rfl (Or.inl rfl)) (pgs_cons (pg_name (i := 2) sc__law_book.nd rfl (Or.inl rfl)) pgs_nil)))) (fun _ _ _ _ _ => pts_nil) (fun _ _ _ _ _ => (C8.pe_mk C_Relation hr (by decide) rfl (pa_cons (pv 1) (pa_cons (pv 2) pa_nil))))) pa_nil)))), fun Z H0 D k => ?_⟩
    refine nx_ret (stb_ex H0) (evd_make (eva_cons (EvN.toD (evn_lcP bk (fun rl : Nat × List Row => .int (rl.1 : Int)) (fun rl : Nat × List Row => rowsHT rl.2) (relD C) (src_list (ds := bk.map rlHD) (evd_var rfl)) (Nat.le_trans h6 (by decide)) fun i rl hrl => ?_)) eva_nil) ⟨bk, h1, h6, rfl, rfl⟩) fun v H oc ex hv => k v H oc ex hv
    exact evd_make (eva_cons (evd_var rfl) (eva_cons (evd_var rfl) eva_nil)) ⟨rl, hg rl (List.mem_of_getElem? hrl), rfl, rfl⟩
end
end Ec
/-! The hand of draws, a list that the defs change; values that are known by a property alone. -/
namespace Ec
open PySem L2
section
variable {K : PySem.W.Frag} {Z : List Addr} {F F2 : Hp → Prop} {ρ : Rh} {te ta tb tc : TE} {d e : Dt} {ds : List Dt} {D : Ends} {i : Nat} {PA PB PC : Dt → Prop} {tt : TT} {t u : TS}
/-- what evaluates, under F, to data with the property -/
def EvX (K : PySem.W.Frag) (Z : List Addr) (F : Hp → Prop) (te : TE) (ρ : Rh) (Pr : Dt → Prop) : Prop := ∀ (σ : L2.St) (H : Hp) (Q : VK), Occ Z H → Sd K (er Z H) σ ρ → F H →
  (∀ v r H2, Pr r → Evl.Ex (er Z H) (er Z H2) → Occ Z H2 → F H2 → Dd K (er Z H2) v r → Q v H2) → te σ H Q
def EvXA (K : PySem.W.Frag) (Z : List Addr) (F : Hp → Prop) (ta : TA) (ρ : Rh) (Pr : List Dt → Prop) : Prop := ∀ (σ : L2.St) (H : Hp) (Q : List V → Hp → Prop), Occ Z H → Sd K (er Z H) σ ρ → F H →
  (∀ vs rs H2, Pr rs → Evl.Ex (er Z H) (er Z H2) → Occ Z H2 → F H2 → DdL K (er Z H2) vs rs → Q vs H2) → ta σ H Q
def EvXT (K : PySem.W.Frag) (Z : List Addr) (F : Hp → Prop) (tt : TT) (ρ : Rh) (Pr : Bool → Prop) : Prop := ∀ (σ : L2.St) (H : Hp) (Q : Bool → Hp → Prop), Occ Z H → Sd K (er Z H) σ ρ → F H →
  (∀ b H2, Pr b → Evl.Ex (er Z H) (er Z H2) → Occ Z H2 → F H2 → Q b H2) → tt σ H Q
theorem EvD.x (h : EvD K te ρ d) (sF : Stb F) : EvX K Z F te ρ (· = d) := fun σ H Q o s f k => h Z σ H Q o s fun v H2 ex hv => k v d H2 rfl (er_ex ex) (o.ex ex) (sF _ _ ex f) hv
theorem EvX.imp (h : EvX K Z F te ρ PA) (g : ∀ r, PA r → PB r) : EvX K Z F te ρ PB := fun σ H Q o s f k => h σ H Q o s f fun v r H2 p => k v r H2 (g r p)
theorem evxa_nil : EvXA K Z F tNil ρ (· = []) := fun σ H Q o s f k => k [] [] H rfl (Evl.Ex.refl _) o f .nil
theorem evxa_cons {tr : TA} {PR PL : List Dt → Prop} (h : EvX K Z F te ρ PA) (hr : EvXA K Z F tr ρ PR) (hp : ∀ a rs, PA a → PR rs → PL (a :: rs)) : EvXA K Z F (tCons te tr) ρ PL := fun σ H Q o s f k =>
  h σ H _ o s f fun v r H1 p e1 o1 f1 hv => hr σ H1 _ o1 (s.mono e1) f1 fun vs rs H2 p2 e2 o2 f2 hvs => k (v :: vs) (r :: rs) H2 (hp r rs p p2) (e1.trans e2) o2 f2 (.cons (hv.mono e2) hvs)
theorem evxa_one (h : EvX K Z F te ρ PA) : EvXA K Z F (tCons te tNil) ρ (fun l => ∃ a, PA a ∧ l = [a]) := evxa_cons h evxa_nil fun a rs p q => ⟨a, p, by rw [q]⟩
theorem evx_op {r : R2} (sF : Stb F) (ha : EvX K Z F ta ρ PA) (hb : EvX K Z F tb ρ PB) (hr : ∀ x y, PA x → PB y → ∃ z, PC z ∧ RvD K r x y z) : EvX K Z F (tOp r ta tb) ρ PC := fun σ H Q o s f k =>
  ha σ H _ o s f fun x a H1 p e1 o1 f1 hx => hb σ H1 _ o1 (s.mono e1) f1 fun y b H2 q e2 o2 f2 hy => by
    obtain ⟨z, hz, rv⟩ := hr a b p q
    exact rv Z H2 x y Q o2 (hx.mono e2) hy fun v H3 e3 hv => k v z H3 hz ((e1.trans e2).trans (er_ex e3)) (o2.ex e3) (sF _ _ e3 f2) hv
theorem evx_callB {r : List V → Hp → VK → Prop} {tl : TA} {PL : List Dt → Prop} (sF : Stb F) (h : EvXA K Z F tl ρ PL) (hr : ∀ l, PL l → ∃ z, PC z ∧ RcD K r l z) : EvX K Z F (tCB r tl) ρ PC := fun σ H Q o s f k =>
  h σ H _ o s f fun vs rs H1 p e1 o1 f1 hv => by
    obtain ⟨z, hz, rc⟩ := hr rs p
    exact rc Z H1 vs Q o1 hv fun v H2 e2 hv2 => k v z H2 hz (e1.trans (er_ex e2)) (o1.ex e2) (sF _ _ e2 f1) hv2
theorem evx_call {R : List Dt → Dt → Prop} {E : XK} {tl : TA} {PL : List Dt → Prop} (sF : Stb F) (h : EvXA K Z F tl ρ PL) (hr : ∀ l, PL l → ∃ z, PC z ∧ R l z) : EvX K Z F (tCall (PureSp K R) [] E tl) ρ PC := fun σ H Q o s f k =>
  h σ H _ o s f fun vs rs H1 p e1 o1 f1 hv => by
    obtain ⟨z, hz, rc⟩ := hr rs p
    show PureSp K R (vs ++ []) H1 Q E
    rw [List.append_nil]
    exact ⟨Z, rs, z, o1, hv, rc, fun v H2 e2 hv2 => k v z H2 hz (e1.trans (er_ex e2)) (o1.ex e2) (sF _ _ e2 f1) hv2⟩
/-- a def that makes new things alone, its answer known by a property -/
def PureSpN (K : PySem.W.Frag) (R : List Dt → (Dt → Prop) → Prop) : Sp := fun vs H Q _ => ∃ (Z : List Addr) (ds : List Dt) (Pr : Dt → Prop), Occ Z H ∧ DdL K (er Z H) vs ds ∧ R ds Pr ∧ ∀ v r H2, Pr r → Evl.Ex H H2 → Dd K (er Z H2) v r → Q v H2
theorem evx_callN {R : List Dt → (Dt → Prop) → Prop} {E : XK} {tl : TA} {PL : List Dt → Prop} (sF : Stb F) (h : EvXA K Z F tl ρ PL) (hr : ∀ l, PL l → R l PC) : EvX K Z F (tCall (PureSpN K R) [] E tl) ρ PC := fun σ H Q o s f k =>
  h σ H _ o s f fun vs rs H1 p e1 o1 f1 hv => by
    show PureSpN K R (vs ++ []) H1 Q E
    rw [List.append_nil]
    exact ⟨Z, rs, PC, o1, hv, hr rs p, fun v r H2 hz e2 hv2 => k v r H2 hz (e1.trans (er_ex e2)) (o1.ex e2) (sF _ _ e2 f1) hv2⟩
def PureBodyN (K : PySem.W.Frag) (t : TS) (ρ : Rh) (Pr : Dt → Prop) : Prop := ∀ (Z : List Addr) (H0 : Hp) (D : Ends), (∀ v r H, Pr r → Occ Z H → Evl.Ex H0 H → Dd K (er Z H) v r → D.rt v H) → Nx K Z (Evl.Ex H0) ρ (t D)
theorem pureN_ok {P : Program} {w : World} {mg : Str → Option Value} {base : Heap} {x qual : Str} {st : Stmt} {f : Addr} {fd : FuncData} {N ps : List Str} {k : Nat} {R : List Dt → (Dt → Prop) → Prop}
    (Fn : Fun K x qual st f fd) (S : FnScope N ps (defScope st)) (hl : ∀ ds r, R ds r → ds.length = ps.length)
    (h : ∀ ds r, R ds r → ∀ (cdv : Value) (A : Around) (outer : List Env) (s : Shared) (H : Hp) (E : XK), Room k (A.deeper (PyProof.Rows.envOfC qual (defScope st) s.heap.objs.size f cdv)) →
      ∃ t, PSs (cxOf CX0 P w K mg base N qual (defScope st) f cdv A outer s H E).nox (defBody st) t ∧ PureBodyN K t (startD N ds) r) : FnOk P w K mg base CX0 (k + 1) f fd ps (PureSpN K R) :=
  Fn.ok S (fun vs H Q E q => by
    obtain ⟨Z, ds, r, _, hd, hr, _⟩ := q
    rw [hd.length]; exact hl ds r hr) fun cdv A outer s H vs Q E hr q => by
    obtain ⟨Z, ds, r, oc, hd, hR, k⟩ := q
    obtain ⟨t, h1, h2⟩ := h ds r hR cdv A outer s H E hr
    exact ⟨t, h1, h2 Z H _ (fun v r H2 hp _ e2 hv => k v r H2 hp e2 hv) _ H oc (sd_start hd) (Evl.Ex.refl H)⟩
/-! ### tests, statements -/
theorem EvT.x {b : Bool} (h : EvT K tt ρ b) (sF : Stb F) : EvXT K Z F tt ρ (· = b) := fun σ H Q o s f k => h Z σ H Q o s fun H2 ex => k b H2 rfl (er_ex ex) (o.ex ex) (sF _ _ ex f)
theorem evxt_test {PT : Bool → Prop} (h : EvX K Z F te ρ PA) (hp : ∀ r, PA r → ∃ b, PT b ∧ r = .bl b) : EvXT K Z F (tTest te) ρ PT := fun σ H Q o s f k => h σ H _ o s f fun v r H2 p e2 o2 f2 hv => by
  obtain ⟨b, pb, rfl⟩ := hp r p
  exact ⟨b, hv.toBl, k b H2 pb e2 o2 f2⟩
theorem evxt_B {PT : Bool → Prop} (h : EvX K Z F te ρ PA) (hp : ∀ r, PA r → ∃ b, PT b ∧ r = .bl b) : EvXT K Z F (tB te) ρ PT := fun σ H Q o s f k => h σ H _ o s f fun v r H2 p e2 o2 f2 hv => by
  obtain ⟨b, pb, rfl⟩ := hp r p
  exact ⟨b, hv.toBl, k b H2 pb e2 o2 f2⟩
theorem nx_ifX {PT : Bool → Prop} (hc : EvXT K Z F tt ρ PT) (h1 : PT true → Nx K Z F ρ (t D)) (h2 : PT false → Nx K Z F ρ (u D)) : Nx K Z F ρ (tIfS tt t u D) := fun σ H o s f =>
  hc σ H _ o s f fun b H1 p e1 o1 f1 => by
    cases b with
    | true =>
      show t D σ H1
      exact h1 p σ H1 o1 (s.mono e1) f1
    | false =>
      show u D σ H1
      exact h2 p σ H1 o1 (s.mono e1) f1
theorem nx_asgX (he : EvX K Z F te ρ PA) (k : ∀ r, PA r → Nx K Z F (ρ.set i (some r)) D.nx) : Nx K Z F ρ (tAsg te (gName i) D) := fun σ H o s f =>
  he σ H _ o s f fun v r H1 p e1 o1 f1 hv => k r p _ H1 o1 ((s.mono e1).set hv) f1
theorem nx_retX (he : EvX K Z F te ρ PA) (k : ∀ v r H, PA r → Occ Z H → F H → Dd K (er Z H) v r → D.rt v H) : Nx K Z F ρ (tRet te D) := fun σ H o s f =>
  he σ H _ o s f fun v r H1 p e1 o1 f1 hv => k v r H1 p o1 f1 hv
theorem nx_ex {α : Type} {G : α → Hp → Prop} {P : L2.St → Hp → Prop} (h : ∀ a, Nx K Z (G a) ρ P) : Nx K Z (fun H => ∃ a, G a H) ρ P := fun σ H o s f => let ⟨a, g⟩ := f; h a σ H o s g
/-! ### the hand: the list at a holds the list of draws at b and a place -/
def Hand (a b : Addr) (H : Hp) : Prop := a ≠ b ∧ ∃ (p : Nat) (ns : List Int), H a = some (.lst [.ref b, .int (p : Int)]) ∧ H b = some (.lst (ns.map V.int))
theorem Hand.stb {a b : Addr} : Stb (Hand a b) := fun _ _ e ⟨n, p, ns, h1, h2⟩ => ⟨n, p, ns, e _ _ h1, e _ _ h2⟩
/-- a def that draws: the hand the first of its arguments -/
def HandSp (K : PySem.W.Frag) (R : List Dt → (Dt → Prop) → Prop) : Sp := fun vs H Q _ => ∃ (Z : List Addr) (a b : Addr) (ws : List V) (ds : List Dt) (Pr : Dt → Prop), vs = .ref a :: ws ∧ a ∈ Z ∧ Occ Z H ∧ Hand a b H ∧ DdL K (er Z H) ws ds ∧ R ds Pr ∧
  ∀ v r H2, Pr r → Evl.Ex (er [a] H) (er [a] H2) → Hand a b H2 → Dd K (er Z H2) v r → Q v H2
/-- what stands whatever is drawn -/
def Keep (a b : Addr) (F : Hp → Prop) : Prop := (∀ H, F H → Hand a b H) ∧ ∀ H H', Evl.Ex (er [a] H) (er [a] H') → Hand a b H' → F H → F H'
theorem er_hand {a : Addr} {H H' : Hp} (ha : a ∈ Z) (e : Evl.Ex (er [a] H) (er [a] H')) : Evl.Ex (er Z H) (er Z H') := fun c o h => by
  obtain ⟨h1, h2⟩ := er_some h
  have hne : c ≠ a := fun z => h1 (z ▸ ha)
  rw [er_out h1]
  exact er_sub _ _ (e c o (by rw [er_out (by simpa using hne)]; exact h2))
theorem occ_hand {a b : Addr} {H H' : Hp} (o : Occ Z H) (e : Evl.Ex (er [a] H) (er [a] H')) (h : Hand a b H') : Occ Z H' := fun z hz => by
  by_cases q : z = a
  · subst q
    obtain ⟨_, p, ns, h1, _⟩ := h
    exact ⟨_, h1, fun ys e => by cases e⟩
  · obtain ⟨u, h1, h2⟩ := o z hz
    exact ⟨u, er_sub _ _ (e z u (by rw [er_out (by simpa using q)]; exact h1)), h2⟩
theorem evx_hand {R : List Dt → (Dt → Prop) → Prop} {E : XK} {tl : TA} {PL : List Dt → Prop} {a b : Addr} (kp : Keep a b F) (ha : a ∈ Z) (hi : ρ[i]? = some (some (.raw (.ref a)))) (h : EvXA K Z F tl ρ PL) (hr : ∀ l, PL l → R l PC) : EvX K Z F (tCall (HandSp K R) [] E (tCons (tVar i) tl)) ρ PC := fun σ H Q o s f k => by
  obtain ⟨u, h1, h2⟩ := s.2 i _ hi
  cases h2.toRaw
  refine ⟨_, h1, ?_⟩
  refine h σ H _ o s f fun vs rs H1 p e1 o1 f1 hv => ?_
  show HandSp K R ((.ref a :: vs) ++ []) H1 Q E
  rw [List.append_nil]
  exact ⟨Z, a, b, vs, rs, PC, rfl, ha, o1, kp.1 _ f1, hv, hr rs p, fun v r H2 hz e2 hh hv2 => k v r H2 hz (e1.trans (er_hand ha e2)) (occ_hand o1 e2 hh) (kp.2 _ _ e2 hh f1) hv2⟩
def HandBody (K : PySem.W.Frag) (t : TS) (N : List Str) (ds : List Dt) (Pr : Dt → Prop) : Prop := ∀ (Z : List Addr) (a b : Addr) (H0 : Hp) (D : Ends), a ∈ Z → Hand a b H0 → (∀ v r H, Pr r → Occ Z H → Evl.Ex (er [a] H0) (er [a] H) → Hand a b H → Dd K (er Z H) v r → D.rt v H) →
  Nx K Z (fun H => Evl.Ex (er [a] H0) (er [a] H) ∧ Hand a b H) (startD N (.raw (.ref a) :: ds)) (t D)
theorem hand_ok {P : Program} {w : World} {mg : Str → Option Value} {base : Heap} {x qual : Str} {st : Stmt} {f : Addr} {fd : FuncData} {N ps : List Str} {k : Nat} {R : List Dt → (Dt → Prop) → Prop}
    (Fn : Fun K x qual st f fd) (S : FnScope N ps (defScope st)) (hl : ∀ ds r, R ds r → ds.length + 1 = ps.length)
    (h : ∀ ds r, R ds r → ∀ (cdv : Value) (A : Around) (outer : List Env) (s : Shared) (H : Hp) (E : XK), Room k (A.deeper (PyProof.Rows.envOfC qual (defScope st) s.heap.objs.size f cdv)) →
      ∃ t, PSs (cxOf CX0 P w K mg base N qual (defScope st) f cdv A outer s H E).nox (defBody st) t ∧ HandBody K t N ds r) : FnOk P w K mg base CX0 (k + 1) f fd ps (HandSp K R) :=
  Fn.ok S (fun vs H Q E q => by
    obtain ⟨Z, a, b, ws, ds, r, rfl, _, _, _, hd, hr, _⟩ := q
    rw [List.length_cons, hd.length]; exact hl ds r hr) fun cdv A outer s H vs Q E hr q => by
    obtain ⟨Z, a, b, ws, ds, r, rfl, ha, oc, hh, hd, hR, k⟩ := q
    obtain ⟨t, h1, h2⟩ := h ds r hR cdv A outer s H E hr
    exact ⟨t, h1, h2 Z a b H _ ha hh (fun v r H2 hp _ e2 hh2 hv => k v r H2 hp e2 hh2 hv) _ H oc (sd_start (ds := .raw (.ref a) :: ds) (.cons (.raw _) hd)) ⟨Evl.Ex.refl _, hh⟩⟩
/-- where a def that draws begins -/
def Base (a b : Addr) (H0 : Hp) (H : Hp) : Prop := Evl.Ex (er [a] H0) (er [a] H) ∧ Hand a b H
theorem base_stb {a b : Addr} {H0 : Hp} : Stb (Base a b H0) := fun _ _ e h => ⟨h.1.trans (er_ex e), Hand.stb _ _ e h.2⟩
theorem base_keep {a b : Addr} {H0 : Hp} : Keep a b (Base a b H0) := ⟨fun _ h => h.2, fun _ _ e hh h => ⟨h.1.trans e, hh⟩⟩
/-- a place that was free then may be written -/
theorem base_upd {a b l : Addr} {H0 H1 H : Hp} {u : HO} (h1 : Base a b H0 H1) (hl : H1 l = none) (h : Base a b H0 H) : Base a b H0 (upd H l u) := by
  obtain ⟨hne, p, ns, g1, g2⟩ := h.2
  obtain ⟨_, p1, ns1, k1, k2⟩ := h1.2
  have la : a ≠ l := ne_of_none k1 hl
  have lb : b ≠ l := ne_of_none k2 hl
  refine ⟨fun c o hc => ?_, hne, p, ns, by rw [upd_ne la]; exact g1, by rw [upd_ne lb]; exact g2⟩
  obtain ⟨q1, q2⟩ := er_some hc
  have cl : c ≠ l := ne_of_none (er_sub _ _ (h1.1 _ _ hc)) hl
  rw [er_out q1, upd_ne cl]
  exact er_sub _ _ (h.1 _ _ hc)
theorem base_ne {a b l : Addr} {H0 H1 : Hp} (h1 : Base a b H0 H1) (hl : H1 l = none) : l ≠ a ∧ l ≠ b := by
  obtain ⟨_, p1, ns1, k1, k2⟩ := h1.2
  exact ⟨(ne_of_none k1 hl).symm, (ne_of_none k2 hl).symm⟩
/-- an own list stands whatever is drawn -/
theorem own_keep {a b l : Addr} {G : Hp → Prop} (ha : a ∈ Z) (hl : l ≠ a) (kp : Keep a b G) : Keep a b fun H => G H ∧ Own K Z l ds H :=
  ⟨fun H h => kp.1 H h.1, fun H H' e hh h => ⟨kp.2 H H' e hh h.1, let ⟨vs, h1, h2⟩ := h.2; ⟨vs, er_sub _ _ (e l _ (by rw [er_out (by simpa using hl)]; exact h1)), h2.mono (er_hand ha e)⟩⟩⟩
theorem keep_and {a b : Addr} {G L : Hp → Prop} (ha : a ∈ Z) (kp : Keep a b G) (sL : StbZ Z L) : Keep a b fun H => G H ∧ L H :=
  ⟨fun H h => kp.1 H h.1, fun H H' e hh h => ⟨kp.2 H H' e hh h.1, sL H H' (er_hand ha e) h.2⟩⟩
/-! ### loops -/
def SrcX (K : PySem.W.Frag) (Z : List Addr) (F : Hp → Prop) (wi : TI) (ρ : Rh) (Pr : List Dt → Prop) : Prop := ∀ (σ : L2.St) (H : Hp) (R : It → Hp → Prop), Occ Z H → Sd K (er Z H) σ ρ → F H →
  (∀ (ds : List Dt) (J : It) (H1 : Hp) (G : Hp → Prop) (Y : Nat → Hp → V → Hp → Prop), Pr ds → Evl.Ex (er Z H) (er Z H1) → Occ Z H1 → F H1 → Walk J ds.length G Y → (∀ Z' H2, Evl.Ex (er Z H1) (er Z' H2) → G H2) →
    (∀ (Z' : List Addr) (i : Nat) (H2 : Hp) (x : V) (H3 : Hp) (d : Dt), ds[i]? = some d → Evl.Ex (er Z H1) (er Z' H2) → Occ Z' H2 → Y i H2 x H3 → Evl.Ex H2 H3 ∧ Dd K (er Z' H3) x d) → R J H1) → wi σ H R
theorem srcx_list {tl : TE} (h : EvX K Z F tl ρ PA) {PL : List Dt → Prop} (hp : ∀ r, PA r → ∃ ds, PL ds ∧ r = .lst ds) : SrcX K Z F (iList K tl) ρ PL := fun σ H R o s f k => h σ H _ o s f fun v r H1 p e1 o1 f1 hv => by
  obtain ⟨ds, pd, rfl⟩ := hp r p
  obtain ⟨a, xs, rfl, h1, h2⟩ := hv.sqL
  exact ⟨a, rfl, ⟨xs, SqL.of (er_sub _ _ h1)⟩, k ds _ H1 (fun H => SqL K H a xs) _ pd e1 o1 f1 (h2.length ▸ walk_list (xs := xs)) (fun Z' H2 e => SqL.of (er_sub _ _ (e _ _ h1))) fun Z' i H2 x H3 d hd e _ y => yat_ok h2 hd e y⟩
theorem srcx_rng1 {tl : TA} {PL : List Dt → Prop} {PN : Nat → Prop} (h : EvXA K Z F tl ρ PL) (hp : ∀ l, PL l → ∃ n : Nat, PN n ∧ n ≤ 100000 ∧ l = [.int (n : Int)]) : SrcX K Z F (iRng1 tl) ρ (fun ds => ∃ n, PN n ∧ ds = upTo 0 n) := fun σ H R o s f k => h σ H _ o s f fun vs rs H1 p e1 o1 f1 hv => by
  obtain ⟨n, pn, hn, rfl⟩ := hp rs p
  obtain ⟨v, rfl, q⟩ := ddl1 hv
  cases q.toInt
  refine ⟨(n : Int), rfl, by omega, by omega, ?_⟩
  rw [Int.toNat_natCast]
  refine k (upTo 0 n) _ H1 (fun _ => True) _ ⟨n, pn, rfl⟩ e1 o1 f1 (by rw [upTo_len]; exact walk_range) (fun _ _ _ => trivial) fun Z' i H2 x H3 d hd _ _ y => ?_
  obtain ⟨q1, q2⟩ := y
  obtain ⟨_, q3⟩ := upTo_of hd
  subst q1 q2 q3
  exact ⟨Evl.Ex.refl _, .int _⟩
theorem SrcD.x {wi : TI} (h : SrcD K wi ρ ds) (sF : Stb F) : SrcX K Z F wi ρ (· = ds) := fun σ H R o s f k => h Z σ H R o s fun J H1 G Y e1 w sG hy => k ds J H1 G Y rfl (er_ex e1) (o.ex e1) (sF _ _ e1 f) w sG hy
theorem nx_forX {wi : TI} {g : TG} {bd : TS} {PL : List Dt → Prop} (hw : SrcX K Z F wi ρ PL) (js : Dt → List Nat) (es : Dt → List Dt) (P : List Dt → Nat → Rh → (Hp → Prop) → Prop) (hg : ∀ ds, PL ds → ∀ d ∈ ds, Gd K g d (js d) (es d)) (h0 : ∀ ds, PL ds → P ds 0 ρ F) (sF : Stb F)
    (hs : ∀ ds, PL ds → ∀ LF, StbZ Z LF → ∀ (i : Nat) (d : Dt) (ρ' : Rh) (F' : Hp → Prop), ds[i]? = some d → P ds i ρ' F' → Stb F' →
      Nx K Z (fun H => F' H ∧ LF H) (setD ρ' (js d) (es d)) (bd { D with nx := AsL K Z LF (P ds (i + 1)), ct := AsL K Z LF (P ds (i + 1)), bk := D.nx }))
    (hd : ∀ ds, PL ds → ∀ (ρ' : Rh) (F' : Hp → Prop), P ds ds.length ρ' F' → Stb F' → Nx K Z F' ρ' D.nx) : Nx K Z F ρ (tFor wi g bd D) := fun σ H o s f =>
  hw σ H _ o s f fun ds J H1 G Y pd e1 o1 f1 w sG hy => for_it w (fun i => AsL K Z (fun H2 => Evl.Ex (er Z H1) (er Z H2)) (P ds i)) ⟨ρ, F, h0 ds pd, sF, o1, s.mono e1, f1, Evl.Ex.refl _⟩ (fun i σ' H' _ a => by
    obtain ⟨_, _, _, _, _, _, _, q⟩ := a
    exact sG Z H' q)
    (fun i x σ' H2 H3 hi a y => by
      obtain ⟨ρ', F', p, sF', o', s', f', q⟩ := a
      obtain ⟨d, hd'⟩ : ∃ d, ds[i]? = some d := ⟨ds[i], List.getElem?_eq_getElem hi⟩
      obtain ⟨e3, hx⟩ := hy Z i H2 x H3 d hd' q o' y
      refine hg ds pd d (List.mem_of_getElem? hd') Z σ' H3 x _ hx fun vs hvs => ?_
      exact hs ds pd _ (StbZ.of H1) i d ρ' F' hd' p sF' _ H3 (o'.ex e3) ((s'.mono (er_ex e3)).sets hvs) ⟨sF' _ _ e3 f', q.trans (er_ex e3)⟩)
    (fun σ' H' a => by
      obtain ⟨ρ', F', p, sF', o', s', f', q⟩ := a
      exact hd ds pd ρ' F' p sF' σ' H' o' s' f')
/-- [elt for j in ..], the elements draw -/
theorem evx_lc {wi : TI} {j : Nat} {vs : List Nat} (hw : SrcD K wi ρ ds) (sF : Stb F) (hF : ∀ A H1, F H1 → H1 A = none → ∀ H u, F H → F (upd H A u)) (hz : ds.length ≤ 100000)
    (he : ∀ A H1, F H1 → H1 A = none → ∀ acc (i : Nat) d, ds[i]? = some d → EvX K (A :: Z) (fun H => F H ∧ H A = some (.lst acc)) te ((wp ρ vs).set j (some d)) PA) (hj : j ∈ vs := by decide) : EvX K Z F (tLc wi (gName j) tYes te vs) ρ (fun r => ∃ rs, rs.length = ds.length ∧ (∀ q ∈ rs, PA q) ∧ r = .lst rs) := fun σ H Q oc sd f k =>
  hw Z σ H _ oc sd fun J H1 G Y e1 w sG hy => fun A hA => by
    have f1 := sF _ _ e1 f
    have oc1 := oc.ex e1
    have hAZ := oc1.fresh hA
    have new : Evl.Ex (er Z H1) (er (A :: Z) (upd H1 A (.lst []))) := er_new hA
    refine lc_it w (fun i H2 => ∃ acc rs, Evl.Ex (er Z H1) (er (A :: Z) H2) ∧ Occ (A :: Z) H2 ∧ F H2 ∧ H2 A = some (.lst acc) ∧ rs.length = i ∧ i ≤ ds.length ∧ (∀ q ∈ rs, PA q) ∧ DdL K (er (A :: Z) H2) acc rs)
      ⟨[], [], new, (oc1.ex (Evl.Ex.new hA)).add upd_same, hF A H1 f1 hA _ _ f1, upd_same, rfl, Nat.zero_le _, (fun q hq => absurd hq (by simp)), DdL.nil⟩ (fun i H2 _ q => by obtain ⟨_, _, e, _⟩ := q; exact sG _ H2 e) (fun i x H2 H3 hi q y => ?_) (fun H2 q => ?_)
    · obtain ⟨acc, rs, e2, o2, f2, h2, hl, hle, hp, hd2⟩ := q
      obtain ⟨d, hd⟩ : ∃ d, ds[i]? = some d := ⟨ds[i], List.getElem?_eq_getElem hi⟩
      obtain ⟨e3, hx⟩ := hy (A :: Z) i H2 x H3 d hd e2 o2 y
      refine ⟨wipe_one hj _ _, ?_⟩
      have s3 : Sd K (er (A :: Z) H3) ((wipe σ vs).set j (some x)) ((wp ρ vs).set j (some d)) := (((sd.mono (er_ex e1)).mono (e2.trans (er_ex e3))).wipe vs).set hx
      show te _ H3 _
      refine he A H1 f1 hA acc i d hd _ H3 _ (o2.ex e3) s3 ⟨sF _ _ e3 f2, e3 _ _ h2⟩ fun v r H5 pr e5 o5 f5 hv => ?_
      have hd5 : DdL K (er (A :: Z) H5) acc rs := hd2.mono ((er_ex e3).trans e5)
      refine ⟨acc, f5.2, Evl.sz_lt (by rw [hd5.length, hl]; omega), acc ++ [v], rs ++ [r], ?_, o5.upd (fun ys z => by cases z), hF A H1 f1 hA _ _ f5.1, upd_same, by rw [List.length_append, hl]; rfl, hi, fun q hq => ?_, ?_⟩
      · rw [er_upd List.mem_cons_self]
        exact (e2.trans (er_ex e3)).trans e5
      · rcases List.mem_append.mp hq with m | m
        · exact hp q m
        · rw [List.mem_singleton.mp m]; exact pr
      · rw [er_upd List.mem_cons_self]
        exact hd5.append (.cons hv .nil)
    · obtain ⟨acc, rs, e2, o2, f2, h2, hl, hle, hp, hd2⟩ := q
      have less : Evl.Ex (er (A :: Z) H2) (er Z H2) := er_less fun z hz => List.mem_cons_of_mem _ hz
      refine k _ (.lst rs) H2 ⟨rs, hl, hp, rfl⟩ ((er_ex e1).trans (e2.trans less)) (fun z hz => o2 z (List.mem_cons_of_mem _ hz)) f2 (.lst (by rw [er_out hAZ]; exact h2) (hd2.mono less))
end
end Ec
/-! Own lists read and written under what is known of them. -/
namespace Ec
open PySem L2
section
variable {K : PySem.W.Frag} {Z : List Addr} {F F2 : Hp → Prop} {ρ : Rh} {te ta tb tc tx : TE} {d e : Dt} {ds : List Dt} {D : Ends} {i j : Nat} {PA PB PC PX : Dt → Prop} {tt : TT} {t u : TS} {l : Addr}
/-- l[x], l an own list -/
theorem evx_ownIx (hi : ρ[i]? = some (some (.raw (.ref l)))) (hb : EvX K Z F tb ρ PB) (hL : ∀ H r, F H → PB r → ∃ (vs : List V) (n : Nat) (v : V) (z : Dt), r = .int (n : Int) ∧ H l = some (.lst vs) ∧ vs[n]? = some v ∧ Dd K (er Z H) v z ∧ PC z) : EvX K Z F (tOp (rIx K) (tVar i) tb) ρ PC := fun σ H Q o s f k => by
  obtain ⟨u, h1, h2⟩ := s.2 i _ hi
  cases h2.toRaw
  refine ⟨_, h1, ?_⟩
  refine hb σ H _ o s f fun y r H1 p e1 o1 f1 hy => ?_
  obtain ⟨vs, n, v, z, rfl, g1, g2, g3, g4⟩ := hL H1 r f1 p
  cases hy.toInt
  exact .inl ⟨l, vs, _, v, rfl, rfl, SqL.of g1, at_of rfl g2, k v z H1 g4 e1 o1 f1 g3⟩
/-- l[x] = e -/
theorem nx_setX (hl : l ∈ Z) (he : EvX K Z F te ρ PA) (hi : ρ[i]? = some (some (.raw (.ref l)))) (hx : EvX K Z F tx ρ PX)
    (hL : ∀ H v a x, F H → PA a → PX x → Dd K (er Z H) v a → ∃ (n : Nat) (vs : List V), x = .int (n : Int) ∧ H l = some (.lst vs) ∧ n < vs.length ∧ F2 (upd H l (.lst (vs.set n v)))) (k : Nx K Z F2 ρ D.nx) : Nx K Z F ρ (tAsg te (gSub (tVar i) tx rSetL) D) := fun σ H o s f =>
  he σ H _ o s f fun v a H1 pa e1 o1 f1 hv => by
    obtain ⟨u, h1, h2⟩ := (s.mono e1).2 i _ hi
    cases h2.toRaw
    refine ⟨_, h1, ?_⟩
    refine hx σ H1 _ o1 (s.mono e1) f1 fun y x H2 px e2 o2 f2 hy => ?_
    obtain ⟨n, vs, rfl, g1, g2, g3⟩ := hL H2 v a x f2 pa px (hv.mono e2)
    cases hy.toInt
    refine ⟨l, vs, (n : Int), n, rfl, rfl, g1, Evl.ixN_nat g2, ?_⟩
    refine k σ _ (o2.upd fun ys z => by cases z) ?_ g3
    rw [er_upd hl]
    exact s.mono (e1.trans e2)
/-- l.append(e) -/
theorem nx_appX (hl : l ∈ Z) (hi : ρ[i]? = some (some (.raw (.ref l)))) (he : EvX K Z F te ρ PA) (h0 : ∀ H, F H → ∃ vs, H l = some (.lst vs)) (hL : ∀ H v a, F H → PA a → Dd K (er Z H) v a → ∃ vs, H l = some (.lst vs) ∧ vs.length < 100000 ∧ F2 (upd H l (.lst (vs ++ [v])))) (k : Nx K Z F2 ρ D.nx) :
    Nx K Z F ρ (tDrop (tBM K "list" rAppend (tVar i) (tCons te tNil)) D) := fun σ H o s f => by
  obtain ⟨u, h1, h2⟩ := s.2 i _ hi
  cases h2.toRaw
  refine ⟨_, h1, ?_⟩
  obtain ⟨vs0, q0⟩ := h0 H f
  refine ⟨.inl ⟨rfl, vs0, SqL.of q0⟩, ?_⟩
  refine he σ H _ o s f fun v a H1 pa e1 o1 f1 hv => ?_
  obtain ⟨vs, g1, g2, g3⟩ := hL H1 v a f1 pa hv
  refine ⟨l, vs, v, rfl, rfl, g1, Evl.sz_lt g2, ?_⟩
  refine k σ _ (o1.upd fun ys z => by cases z) ?_ g3
  rw [er_upd hl]
  exact s.mono e1
theorem evxt_and {t u : TT} {P1 P2 : Bool → Prop} (h1 : EvXT K Z F t ρ P1) (h2 : EvXT K Z F u ρ P2) : EvXT K Z F (tAnd t u) ρ fun _ => True := fun σ H Q o s f k => h1 σ H _ o s f fun b H1 p e1 o1 f1 => by
  cases b with
  | true =>
    show u σ H1 Q
    exact h2 σ H1 Q o1 (s.mono e1) f1 fun b2 H2 p2 e2 o2 f2 => k b2 H2 trivial (e1.trans e2) o2 f2
  | false =>
    show Q false H1
    exact k false H1 trivial e1 o1 f1
/-- t and (x not in l), l an own list of rows -/
theorem evxt_andR {t u : TT} {a : Bool} {P2 : Bool → Prop} (sF : Stb F) (h1 : EvT K t ρ a) (h2 : a = true → EvXT K Z F u ρ P2) : EvXT K Z F (tAnd t u) ρ fun b => (b = true → a = true ∧ P2 true) ∧ (b = false → a = true → P2 false) := fun σ H Q o s f k =>
  h1 Z σ H _ o s fun H1 e1 => by
    cases a with
    | true =>
      show u σ H1 Q
      exact h2 rfl σ H1 Q (o.ex e1) (s.mono (er_ex e1)) (sF _ _ e1 f) fun b2 H2 p2 e2 o2 f2 => k b2 H2 ⟨fun z => ⟨rfl, z ▸ p2⟩, fun z _ => z ▸ p2⟩ ((er_ex e1).trans e2) o2 f2
    | false =>
      show Q false H1
      exact k false H1 ⟨fun z => (nomatch z), fun _ z => (nomatch z)⟩ (er_ex e1) (o.ex e1) (sF _ _ e1 f)
theorem evx_notInOwn {r : Row} {rs : List Row} (hi : ρ[i]? = some (some (rowH r))) (hj : ρ[j]? = some (some (.raw (.ref l)))) (hL : ∀ H, F H → Own K Z l (rs.map rowH) H) : EvX K Z F (tOp (rNotInD K) (tVar i) (tVar j)) ρ (· = .bl (decide (r ∉ rs))) := fun σ H Q o s f k => by
  obtain ⟨u, h1, h2⟩ := s.2 i _ hi
  obtain ⟨w, h3, h4⟩ := s.2 j _ hj
  cases h4.toRaw
  refine ⟨_, h1, _, h3, ?_⟩
  obtain ⟨vs, g1, g2⟩ := hL H f
  exact ⟨_, _, ((lowR h2).mono er_sub).dp (row_pure r), Dd.dp (rowsL_pure rs) (.lst g1 ((lowRs g2).mono er_sub)), row_sh r, rowsL_sh rs, by rw [any_row, ← decide_not]; exact k _ _ H rfl (Evl.Ex.refl _) o f (.bl _)⟩
end
section
variable {K : PySem.W.Frag} {Z : List Addr} {F : Hp → Prop} {ρ : Rh} {D : Ends} {t u : TS}
/-- an assignment ahead of the rest -/
theorem nx_asgS {te : TE} {i : Nat} {d : Dt} (sF : Stb F) (he : EvD K te ρ d) (k : Nx K Z F (ρ.set i (some d)) (u D)) : Nx K Z F ρ (tSeq (tAsg te (gName i)) u D) := nx_seq (nx_asg sF he k)
theorem nx_asgXS {te : TE} {i : Nat} {PA : Dt → Prop} (he : EvX K Z F te ρ PA) (k : ∀ r, PA r → Nx K Z F (ρ.set i (some r)) (u D)) : Nx K Z F ρ (tSeq (tAsg te (gName i)) u D) := nx_seq (nx_asgX he k)
/-- a statement whose roads meet again -/
theorem nx_cut (P : Rh → (Hp → Prop) → Prop) (h1 : ∀ N : L2.St → Hp → Prop, (∀ ρ' F', P ρ' F' → Nx K Z F' ρ' N) → Nx K Z F ρ (t { D with nx := N })) (h2 : ∀ ρ' F', P ρ' F' → Nx K Z F' ρ' (u D)) : Nx K Z F ρ (tSeq t u D) := h1 _ h2
end
section
variable {K : PySem.W.Frag} {ρ : Rh} {ta tb : TE} {i j : Int}
theorem evd_mul (ha : EvD K ta ρ (.int i)) (hb : EvD K tb ρ (.int j)) (h : CMul i j) : EvD K (tOp (rI CMul fun i j => .int (i * j)) ta tb) ρ (.int (i * j)) := evd_i (f := fun a b => a * b) ha hb h
theorem evd_mod (ha : EvD K ta ρ (.int i)) (hb : EvD K tb ρ (.int j)) (h : 0 < j) : EvD K (tOp (rI (fun _ j => 0 < j) fun i j => .int (i % j)) ta tb) ρ (.int (i % j)) := evd_i (f := fun a b => a % b) ha hb h
theorem evd_fdv (ha : EvD K ta ρ (.int i)) (hb : EvD K tb ρ (.int j)) (h : CDivN i j) : EvD K (tOp (rI CDivN fun i j => .int (i.fdiv j)) ta tb) ρ (.int (i.fdiv j)) := evd_i (f := fun a b => a.fdiv b) ha hb h
theorem evd_add (ha : EvD K ta ρ (.int i)) (hb : EvD K tb ρ (.int j)) : EvD K (tOp (rI0 fun i j => .int (i + j)) ta tb) ρ (.int (i + j)) := evd_i0 (f := fun a b => a + b) ha hb
theorem evd_int1 (ha : EvD K ta ρ (.int i)) : EvD K (tCB rInt1 (tCons ta tNil)) ρ (.int i) := evd_callB (eva_cons ha eva_nil) rc_int
theorem evd_lenS {α : Type} {g : α → Dt} {l : List α} (h : EvD K ta ρ (.scr (l.map g))) : EvD K (tCB (rLen K) (tCons ta tNil)) ρ (.int (l.length : Int)) := (evd_callB (eva_cons h eva_nil) rc_lenS).is (by rw [List.length_map])
theorem evd_lenL {α : Type} {g : α → Dt} {l : List α} (h : EvD K ta ρ (.lst (l.map g))) : EvD K (tCB (rLen K) (tCons ta tNil)) ρ (.int (l.length : Int)) := (evd_callB (eva_cons h eva_nil) rc_lenL).is (by rw [List.length_map])
theorem evd_lenT {α : Type} {g : α → Dt} {l : List α} (h : EvD K ta ρ (.tup (l.map g))) : EvD K (tCB (rLen K) (tCons ta tNil)) ρ (.int (l.length : Int)) := (evd_callB (eva_cons h eva_nil) rc_lenT).is (by rw [List.length_map])
end
theorem pe_c0 {X : Cx} {k j : Nat} {x : Str} {sp : Sp} {dvs : List V} {p pos : Pos} (c : C8.Cal X.prog X.w X.K X.mg X.base k x sp dvs) (hr : Room j X.A) (hk : k ≤ j) (hg : Gl X x) (hdb : (x == ("__debug__" : Str)) = false := by decide) : PE X (.Call (.Name x p) [] [] pos) (tCall sp dvs C8.E0 tNil) := by
  obtain ⟨f, fd, ps, ds, F, hm, kp, b, d⟩ := c.ex
  exact pe_call0 F (hr.mono hk) hg hm kp b d C8.pass0 hdb
/-- an own list of so many ints -/
def OwnI (l : Addr) (n : Nat) (H : Hp) : Prop := ∃ xs : List Int, H l = some (.lst (xs.map V.int)) ∧ xs.length = n
theorem OwnI.stb {l : Addr} {n : Nat} : Stb (OwnI l n) := fun _ _ e ⟨xs, h1, h2⟩ => ⟨xs, e _ _ h1, h2⟩
theorem OwnI.upd {l m : Addr} {n : Nat} {H : Hp} {u : HO} (h : OwnI l n H) (hne : l ≠ m) : OwnI l n (upd H m u) := by
  obtain ⟨xs, h1, h2⟩ := h
  exact ⟨xs, by rw [upd_ne hne]; exact h1, h2⟩
end Ec
/-! The draws. -/
namespace Ec
open PySem L2
section
variable {P : Program} {w : World} {K : PySem.W.Frag} {mg : Str → Option Value} {base : Heap} {f : Addr} {fd : FuncData}
theorem own_ints {l : Addr} {Z : List Addr} {xs : List Int} {H : Hp} (h : Own K Z l (xs.map .int) H) : OwnI l xs.length H := by
  obtain ⟨vs, h1, h2⟩ := h
  cases h2.ints
  exact ⟨xs, h1, rfl⟩
theorem mod_small {x m : Int} (h : 0 < m) (hm : m < 2 ^ 64) : -(2 ^ 64) < x % m ∧ x % m < 2 ^ 64 := by
  have h1 := Int.emod_nonneg x (show m ≠ 0 by omega)
  have h2 := Int.emod_lt_of_pos x h
  constructor <;> omega
abbrev s__law_draws : Stmt := topS 43
theorem sc__law_draws : FnScope ["_law_script", "_law_many", "_law_rests", "_law_draws_here", "_law_k", "_law_cell", "_law_at", "_law_mixed"] ["_law_script", "_law_many"] (defScope s__law_draws) := ⟨rfl, rfl, rfl, by decide +kernel, rfl, by decide +kernel, by decide +kernel⟩
-- slots: _law_script 0, _law_many 1, _law_rests 2, _law_draws_here 3, _law_k 4, _law_cell 5, _law_at 6, _law_mixed 7
def R_draws (ds : List Dt) (Pr : Dt → Prop) : Prop := ∃ ns : List Int, ns.length ≤ 1000 ∧ ds = [.scr (ns.map .int), .int 300] ∧ Pr = fun r => ∃ xs : List Int, r = .lst (xs.map .int)
theorem ok__law_draws (T : Txt K mg) (Fn : Fun K "_law_draws" "_law_draws" s__law_draws f fd) : FnOk P w K mg base CX0 1 f fd ["_law_script", "_law_many"] (PureSpN K R_draws) := by
  refine pureN_ok Fn sc__law_draws (fun ds r h => ?_) fun ds r h cdv A outer s H E hr => ?_
  · obtain ⟨_, _, rfl, _⟩ := h; rfl
  · obtain ⟨ns, hz, rfl, rfl⟩ := h
    refine ⟨_, (pss_cons (ps_setLc (i := 2) (own := [("_law_cell", 5)]) (g := (gName 5)) (tt := tYes) rfl sc__law_draws.nd rfl rfl (sw_true rfl rfl rfl (by decide +kernel)) (pi_listK (K := K) rfl (pv 0)) (blkOk_by (by kernel_rfl)) (fun _ _ _ _ _ => (pg_name (i := 5) sc__law_draws.nd rfl (Or.inl rfl))) (fun _ _ _ _ _ => pts_nil) (fun _ _ _ _ _ => (pe_callB call_abs (by rfl) T.abs (by decide +kernel) (pa_cons (pe_callTy (r := rInt1) call_int1 (by rfl) T.int (by decide +kernel) (pa_cons (pv 5) pa_nil)) pa_nil))))
      (pss_cons (ps_set (i := 3) sc__law_draws.nd rfl (Or.inl rfl) (pe_lst pa_nil))
      (pss_cons (ps_for PassesOwn.never rfl (pi_range1 rfl T.range (pa_cons (pv 1) pa_nil)) (pg_name (i := 4) sc__law_draws.nd rfl (Or.inl rfl))
        (pss_cons (ps_set (i := 5) sc__law_draws.nd rfl (Or.inl rfl) (pv 4))
        (pss_cons (ps_if (pt_cmpR op_gt (pe_callB (r := rLen K) call_len_seq (by rfl) T.len PySem.boot_len (pa_cons (pv 0) pa_nil)) pe_int (nomark _)) (pss_cons (ps_set (i := 6) sc__law_draws.nd rfl (Or.inl rfl) (pe_op op_mod (pv 4) (pe_callB (r := rLen K) call_len_seq (by rfl) T.len PySem.boot_len (pa_cons (pv 0) pa_nil))))
          (pss_cons (ps_set (i := 5) sc__law_draws.nd rfl (Or.inl rfl) (pe_callTy (r := rInt1) call_int1 (by rfl) T.int (by decide +kernel) (pa_cons (pe_ix (r := rIx K) ix_seq (pv 0) (pv 6) (fun _ _ => rfl)) pa_nil)))
          (pss_one (ps_if (PW.pt (pw_and (pt_cmpR op_ge (pv 5) (pe_op op_pow pe_int pe_int) (nomark _)) (pw_and1 (pt_cmpR op_gt (pe_ix (r := rIx K) ix_seq (pv 2) (pv 6) (fun _ _ => rfl)) pe_int (nomark _))))) (pss_cons (ps_expr (pe_bmC (K := K) rfl (pe_bm PySem.F.plainAttrs_list PySem.F.slot_list_append PySem.F.type_list_append mt_append (pv 3) (pa_cons (pe_op op_mod (pe_callTy (r := rInt1) call_int1 (by rfl) T.int (by decide +kernel) (pa_cons (pe_ix (r := rIx K) ix_seq (pv 2) (pv 6) (fun _ _ => rfl)) pa_nil)) pe_int) pa_nil))))
            (pss_cons (ps_asg (pe_op op_fdivN (pe_callTy (r := rInt1) call_int1 (by rfl) T.int (by decide +kernel) (pa_cons (pe_ix (r := rIx K) ix_seq (pv 2) (pv 6) (fun _ _ => rfl)) pa_nil)) pe_int) (pg_sub (pv 2) (pv 6) set_list))
            (pss_one ps_continue))) pss_nil)))) pss_nil)
        (pss_cons (ps_set (i := 7) sc__law_draws.nd rfl (Or.inl rfl) (pe_op op_mod (pe_callTy (r := rInt1) call_int1 (by rfl) T.int (by decide +kernel) (pa_cons (pe_op op_add (pe_op op_add (pe_op op_mul (pv 5) pe_int) (pe_op op_mul (pv 4) pe_int)) pe_int) pa_nil)) pe_int))
        (pss_cons (ps_set (i := 7) sc__law_draws.nd rfl (Or.inl rfl) (pe_op op_mod (pe_callTy (r := rInt1) call_int1 (by rfl) T.int (by decide +kernel) (pa_cons (pe_op op_add (pe_op op_fdivN (pe_op op_mul (pv 7) (pv 7)) pe_int) (pv 7)) pa_nil)) pe_int))
        (pss_one (ps_expr (pe_bmC (K := K) rfl (pe_bm PySem.F.plainAttrs_list PySem.F.slot_list_append PySem.F.type_list_append mt_append (pv 3) (pa_cons (pe_op op_mod (pe_callTy (r := rInt1) call_int1 (by rfl) T.int (by decide +kernel) (pa_cons (pe_op op_add (pe_op op_fdivN (pe_op op_mul (pv 7) (pv 7)) pe_int) (pe_op op_mul (pv 4) pe_int)) pa_nil)) pe_int) pa_nil))))))))))
      (pss_one (ps_ret (pv 3)))))), fun Z H0 D k => ?_⟩
    have hlen : (ns.map Dt.int).length = ns.length := List.length_map _
    refine nx_seq (nx_own (ds := (ns.map fun n => if n < 0 then -n else n).map .int) (stb_ex H0) (by
      rw [List.map_map]
      exact evn_lcM ns Dt.int (fun n => .int (if n < 0 then -n else n)) (src_scr (evd_var rfl)) (Nat.le_trans hz (by decide)) fun i n hn => evd_callB (eva_cons (evd_callB (eva_cons (evd_var rfl) eva_nil) rc_int) eva_nil) rc_abs) fun l1 H1 x1 n1 z1 => ?_)
    refine Nx.pre (F' := fun H => Evl.Ex H0 H ∧ OwnI l1 ns.length H) ?_ fun H h => ⟨h.1, by have q := own_ints h.2; rw [List.length_map] at q; exact q⟩
    refine nx_seq (nx_own (ds := ([] : List Int).map .int) ((stb_ex H0).and OwnI.stb) (evn_lst eva_nil (by decide)) fun l2 H2 x2 n2 z2 => ?_)
    have f1 : H0 l1 = none := Evl.fresh_back x1 n1
    have f2 : H0 l2 = none := Evl.fresh_back x2.1 n2
    have ne : l1 ≠ l2 := fun e => z2 (by rw [e]; exact List.mem_cons_self)
    have m1 : l1 ∈ l2 :: l1 :: Z := by simp
    have m2 : l2 ∈ l2 :: l1 :: Z := by simp
    let G : Nat → Hp → Prop := fun k H => Evl.Ex H0 H ∧ OwnI l1 ns.length H ∧ OwnI l2 k H
    have sG : ∀ k, Stb (G k) := fun k => (stb_ex H0).and (OwnI.stb.and OwnI.stb)
    refine Nx.pre (F' := G 0) ?_ fun H h => ⟨h.1.1, h.1.2, own_ints h.2⟩
    refine nx_seq (nx_forN (sG 0) (src_rangeM (n := 300) (eva_cons (evd_var rfl) eva_nil) (by decide)) (fun i ρ F => F = G i ∧ ∃ k c x y, ρ = [some (.scr (ns.map .int)), some (.int 300), some (.raw (.ref l1)), some (.raw (.ref l2)), k, c, x, y]) ⟨rfl, _, _, _, _, rfl⟩ ?_ ?_)
    · rintro LF sL i d ρ F hi ⟨rfl, k0, c0, x0, y0, rfl⟩ sF
      obtain ⟨j, hj, rfl⟩ := map_at hi
      have hji : j = i := by
        have hlt := (List.getElem?_eq_some_iff.mp hj).1
        rw [List.length_range] at hlt
        rw [List.getElem?_range hlt] at hj
        exact (Option.some.inj hj).symm
      subst hji
      have hj300 : j < 300 := by
        have := (List.getElem?_eq_some_iff.mp hj).1
        rw [List.length_range] at this; exact this
      have kL : ∀ {l : Addr} {H : Hp} {u : HO}, l ∈ l2 :: l1 :: Z → LF H → LF (upd H l u) := fun {l H u} hl h => sL H _ (by rw [er_upd hl]; exact Evl.Ex.refl _) h
      have sGL : ∀ k, Stb fun H => G k H ∧ LF H := fun k => (sG k).andZ sL
      -- the place of a draw is appended
      have app : ∀ (H : Hp) (v : V) (a : Dt), (G j H ∧ LF H) → (∃ z : Int, a = .int z) → Dd K (er (l2 :: l1 :: Z) H) v a → ∃ vs, H l2 = some (.lst vs) ∧ vs.length < 100000 ∧ (G (j + 1) (upd H l2 (.lst (vs ++ [v]))) ∧ LF (upd H l2 (.lst (vs ++ [v])))) := fun H v a h ha hv => by
        obtain ⟨z, rfl⟩ := ha
        cases hv.toInt
        obtain ⟨⟨e, o1, xs, g1, g2⟩, hl⟩ := h
        refine ⟨_, g1, by rw [List.length_map, g2]; omega, ⟨e.mut f2, o1.upd ne, xs ++ [z], by rw [upd_same, List.map_append]; rfl, by rw [List.length_append, g2]; rfl⟩, kL m2 hl⟩
      refine nx_asgS (d := .int (j : Int)) (sF.andZ sL) (evd_var rfl) ?_
      refine nx_cut (fun ρ F => F = (fun H => G j H ∧ LF H) ∧ ∃ (c : Int) (x : Option Dt) (y : Option Dt), ρ = [some (.scr (ns.map .int)), some (.int 300), some (.raw (.ref l1)), some (.raw (.ref l2)), some (.int (j : Int)), some (.int c), x, y]) (fun N hN => ?_) ?_
      · refine nx_if (b := decide (0 < (ns.length : Int))) (sGL j) (evt_test (evd_op (evd_lenS (l := ns) (evd_var rfl)) (evd_int (i := 0)) (rvd_I0 fun _ => .bl _))) (fun q => ?_) fun q => hN _ _ ⟨rfl, _, _, _, rfl⟩
        have hpos : 0 < ns.length := by have := of_decide_eq_true q; omega
        have hm : j % ns.length < ns.length := Nat.mod_lt _ hpos
        obtain ⟨c, hc⟩ : ∃ c, ns[j % ns.length]? = some c := ⟨ns[j % ns.length], List.getElem?_eq_getElem hm⟩
        refine nx_seq (nx_asg (d := .int ((j % ns.length : Nat) : Int)) (sGL j) (by
          rw [Int.natCast_emod]
          exact evd_mod (evd_var rfl) (evd_lenS (l := ns) (evd_var rfl)) (by show 0 < (ns.length : Int); omega)) ?_)
        refine nx_seq (nx_asg (d := .int c) (sGL j) (evd_callB (eva_cons (evd_op (evd_var (d := .scr (ns.map .int)) rfl) (evd_var (d := .int ((j % ns.length : Nat) : Int)) rfl) (rvd_ixs rfl (by rw [List.getElem?_map, hc]; rfl))) eva_nil) rc_int) ?_)
        have read : ∀ (H : Hp) (r : Dt), (G j H ∧ LF H) → r = .int ((j % ns.length : Nat) : Int) → ∃ (vs : List V) (n : Nat) (v : V) (z : Dt), r = .int (n : Int) ∧ H l1 = some (.lst vs) ∧ vs[n]? = some v ∧ Dd K (er (l2 :: l1 :: Z) H) v z ∧ ∃ b : Int, z = .int b := fun H r h hr => by
          obtain ⟨⟨_, ⟨xs, g1, g2⟩, _⟩, _⟩ := h
          have hx : j % ns.length < xs.length := by rw [g2]; exact hm
          exact ⟨_, _, _, _, hr, g1, by rw [List.getElem?_map, List.getElem?_eq_getElem hx]; rfl, .int _, _, rfl⟩
        have rd : EvX K (l2 :: l1 :: Z) (fun H => G j H ∧ LF H) (tOp (rIx K) (tVar 2) (tVar 6)) [some (.scr (ns.map .int)), some (.int 300), some (.raw (.ref l1)), some (.raw (.ref l2)), some (.int (j : Int)), some (.int c), some (.int ((j % ns.length : Nat) : Int)), y0] (fun z => ∃ b : Int, z = .int b) :=
          evx_ownIx rfl ((evd_var rfl).x (sGL j)) read
        have rdI : EvX K (l2 :: l1 :: Z) (fun H => G j H ∧ LF H) (tCB rInt1 (tCons (tOp (rIx K) (tVar 2) (tVar 6)) tNil)) [some (.scr (ns.map .int)), some (.int 300), some (.raw (.ref l1)), some (.raw (.ref l2)), some (.int (j : Int)), some (.int c), some (.int ((j % ns.length : Nat) : Int)), y0] (fun z => ∃ b : Int, z = .int b) :=
          evx_callB (sGL j) (evxa_one rd) fun l hl => by
            obtain ⟨_, ⟨b, rfl⟩, rfl⟩ := hl
            exact ⟨_, ⟨b, rfl⟩, rc_int⟩
        refine nx_ifX (evxt_and (P1 := fun _ => True) (P2 := fun _ => True) (evxt_test (PA := fun z => ∃ b, z = .bl b) (evx_op (sGL j) ((evd_var (d := .int c) rfl).x (sGL j)) ((evd_i (f := fun a b => a ^ b.toNat) (evd_int (i := 10)) (evd_int (i := 18)) ⟨by decide, by decide, by decide⟩).x (sGL j)) (fun x y hx hy => ?_)) fun r hr => ?_)
          (evxt_test (PA := fun z => ∃ b, z = .bl b) (evx_op (sGL j) rd (evd_int.x (sGL j)) (fun x y hx hy => ?_)) fun r hr => ?_)) (fun _ => ?_) fun _ => ?_
        · subst hx hy
          exact ⟨_, ⟨_, rfl⟩, rvd_I0 fun _ => .bl _⟩
        · obtain ⟨b, rfl⟩ := hr
          exact ⟨b, trivial, rfl⟩
        · subst hy
          obtain ⟨b, rfl⟩ := hx
          exact ⟨_, ⟨_, rfl⟩, rvd_I0 fun _ => .bl _⟩
        · obtain ⟨b, rfl⟩ := hr
          exact ⟨b, trivial, rfl⟩
        · refine nx_seq (nx_appX (F2 := fun H => G (j + 1) H ∧ LF H) m2 rfl (evx_op (PC := fun z => ∃ b : Int, z = .int b) (sGL j) rdI ((evd_int (i := 1000003)).x (sGL j)) (fun x y hx hy => ?_)) (fun H h => ?_) app ?_)
          · obtain ⟨b, rfl⟩ := hx
            subst hy
            exact ⟨_, ⟨_, rfl⟩, rvd_I (by show (0 : Int) < 1000003; decide) fun _ => .int _⟩
          · obtain ⟨⟨_, _, xs, g1, _⟩, _⟩ := h
            exact ⟨_, g1⟩
          · have read' : ∀ (H : Hp) (r : Dt), (G (j + 1) H ∧ LF H) → r = .int ((j % ns.length : Nat) : Int) → ∃ (vs : List V) (n : Nat) (v : V) (z : Dt), r = .int (n : Int) ∧ H l1 = some (.lst vs) ∧ vs[n]? = some v ∧ Dd K (er (l2 :: l1 :: Z) H) v z ∧ ∃ b : Int, z = .int b := fun H r h hr => by
              obtain ⟨⟨_, ⟨xs, g1, g2⟩, _⟩, _⟩ := h
              have hx : j % ns.length < xs.length := by rw [g2]; exact hm
              exact ⟨_, _, _, _, hr, g1, by rw [List.getElem?_map, List.getElem?_eq_getElem hx]; rfl, .int _, _, rfl⟩
            refine nx_seq (nx_setX (F2 := fun H => G (j + 1) H ∧ LF H) m1 (evx_op (PC := fun z => ∃ b : Int, z = .int b) (sGL (j + 1)) (evx_callB (PC := fun z => ∃ b : Int, z = .int b) (sGL (j + 1)) (evxa_one (evx_ownIx rfl ((evd_var rfl).x (sGL (j + 1))) read')) fun l hl => ?_) ((evd_int (i := 1000003)).x (sGL (j + 1))) (fun x y hx hy => ?_)) rfl ((evd_var (d := .int ((j % ns.length : Nat) : Int)) rfl).x (sGL (j + 1))) (fun H v a x h ha hx hv => ?_) ?_)
            · obtain ⟨_, ⟨b, rfl⟩, rfl⟩ := hl
              exact ⟨_, ⟨b, rfl⟩, rc_int⟩
            · obtain ⟨b, rfl⟩ := hx
              subst hy
              exact ⟨_, ⟨_, rfl⟩, rvd_I (C := CDivN) (show CDivN b 1000003 from ⟨by decide, by decide⟩) fun _ => .int _⟩
            · subst hx
              obtain ⟨b, rfl⟩ := ha
              cases hv.toInt
              obtain ⟨⟨e, ⟨xs, g1, g2⟩, o2⟩, hl⟩ := h
              refine ⟨_, _, rfl, g1, by rw [List.length_map, g2]; exact hm, ⟨e.mut f1, ⟨xs.set (j % ns.length) b, by rw [upd_same, List.map_set], by rw [List.length_set]; exact g2⟩, o2.upd ne.symm⟩, kL m1 hl⟩
            · dsimp only
              refine nx_cont ?_
              exact as_in ⟨rfl, _, _, _, _, rfl⟩ (sG (j + 1))
        · exact hN _ _ ⟨rfl, _, _, _, rfl⟩
      · rintro ρ F ⟨rfl, c, x, y, rfl⟩
        refine nx_seq (nx_asg (sGL j) (evd_mod (evd_int1 (evd_add (evd_add (evd_mul (evd_var (d := .int c) rfl) (evd_int (i := 48271)) (.inr ⟨by decide, by decide⟩)) (evd_mul (evd_var (d := .int (j : Int)) rfl) (evd_int (i := 69621)) (.inr ⟨by decide, by decide⟩))) (evd_int (i := 11)))) (evd_int (i := 2147483647)) (by decide)) ?_)
        refine nx_seq (nx_asg (sGL j) (evd_mod (evd_int1 (evd_add (evd_fdv (evd_mul (evd_var rfl) (evd_var rfl) (.inl (mod_small (by decide) (by decide)))) (evd_int (i := 4096)) ⟨by decide, by decide⟩) (evd_var rfl))) (evd_int (i := 2147483629)) (by decide)) ?_)
        refine nx_appX (F2 := fun H => G (j + 1) H ∧ LF H) (PA := fun z => ∃ b : Int, z = .int b) m2 rfl (((evd_mod (evd_int1 (evd_add (evd_fdv (evd_mul (evd_var rfl) (evd_var rfl) (.inl (mod_small (by decide) (by decide)))) (evd_int (i := 4096)) ⟨by decide, by decide⟩) (evd_mul (evd_var (d := .int (j : Int)) rfl) (evd_int (i := 7919)) (.inr ⟨by decide, by decide⟩)))) (evd_int (i := 2147483629)) (by decide)).x (sGL j)).imp fun r hr => ⟨_, hr⟩) (fun H h => ?_) app ?_
        · obtain ⟨⟨_, _, xs, g1, _⟩, _⟩ := h
          exact ⟨_, g1⟩
        · exact as_in ⟨rfl, _, _, _, _, rfl⟩ (sG (j + 1))
    · rintro ρ F ⟨rfl, k0, c0, x0, y0, rfl⟩ sF
      refine Nx.pre (F' := fun H => ∃ ys : List Int, Evl.Ex H0 H ∧ H l2 = some (.lst (ys.map V.int))) (nx_ex fun ys => ?_) fun H h => let ⟨e, _, ys, g, _⟩ := h; ⟨ys, e, g⟩
      refine nx_rel z2 (ds := ys.map .int) (fun H h => ⟨h.1, _, h.2, DdL.ofInts ys⟩) (i := 3) rfl ?_
      refine fun σ H o s f => ?_
      have s' : Nx K Z (Evl.Ex H0) [some (.scr (ns.map .int)), some (.int 300), some (.raw (.ref l1)), some (.lst (ys.map .int)), k0, c0, x0, y0] (tRet (tVar 3) D) := nx_ret (stb_ex H0) (evd_var rfl) fun v H oc ex hv => k v _ H ⟨ys, rfl⟩ oc ex hv
      exact s' σ H (fun z hz => o z (List.mem_cons_of_mem _ hz)) (s.mono (er_less fun z hz => List.mem_cons_of_mem _ hz)) f
abbrev s__law_take : Stmt := topS 44
theorem sc__law_take : FnScope ["_law_hand", "_law_many", "_law_at", "_law_draws_here"] ["_law_hand", "_law_many"] (defScope s__law_take) := ⟨rfl, rfl, rfl, by decide +kernel, rfl, by decide +kernel, by decide +kernel⟩
-- slots: _law_hand 0, _law_many 1, _law_at 2, _law_draws_here 3
def R_take (ds : List Dt) (Pr : Dt → Prop) : Prop := ∃ m : Int, 0 < m ∧ ds = [.int m] ∧ Pr = fun r => ∃ i : Int, 0 ≤ i ∧ i < m ∧ r = .int i
theorem ok__law_take (T : Txt K mg) (Fn : Fun K "_law_take" "_law_take" s__law_take f fd) : FnOk P w K mg base CX0 1 f fd ["_law_hand", "_law_many"] (HandSp K R_take) := by
  refine hand_ok Fn sc__law_take (fun ds r h => ?_) fun ds r h cdv A outer s H E hr => ?_
  · obtain ⟨_, _, rfl, _⟩ := h; rfl
  · obtain ⟨m, hm, rfl, rfl⟩ := h
    refine ⟨_, (pss_cons (ps_set (i := 2) sc__law_take.nd rfl (Or.inl rfl) (pe_ix (r := rIx K) ix_seq (pv 0) pe_int (fun _ _ => rfl)))
      (pss_cons (ps_asg (pe_op op_add (pv 2) pe_int) (pg_sub (pv 0) pe_int set_list))
      (pss_cons (ps_set (i := 3) sc__law_take.nd rfl (Or.inl rfl) (pe_ix (r := rIx K) ix_seq (pv 0) pe_int (fun _ _ => rfl)))
      (pss_cons (ps_if (pt_cmpR op_ge (pv 2) (pe_callB (r := rLen K) call_len_seq (by rfl) T.len PySem.boot_len (pa_cons (pv 3) pa_nil)) (nomark _)) (pss_one (ps_ret pe_int)) pss_nil)
      (pss_one (ps_ret (pe_op op_mod (pe_op op_fdivN (pe_callTy (r := rInt1) call_int1 (by rfl) T.int (by decide +kernel) (pa_cons (pe_ix (r := rIx K) ix_seq (pv 3) (pv 2) (fun _ _ => rfl)) pa_nil)) pe_int) (pv 1)))))))), fun Z a b H0 D ha h0 k => ?_⟩
    have sB := base_stb (a := a) (b := b) (H0 := H0)
    have kb := base_keep (a := a) (b := b) (H0 := H0)
    refine nx_seq (nx_asgX (PA := fun r => ∃ p : Nat, r = .int (p : Int)) (evx_ownIx (l := a) rfl ((evd_int (i := 1)).x sB) fun H r f hr => ?_) fun r hr => ?_)
    · obtain ⟨_, _, p, ns, g1, g2⟩ := f
      exact ⟨_, 1, _, _, hr, g1, rfl, .int _, p, rfl⟩
    obtain ⟨p, rfl⟩ := hr
    refine nx_seq (nx_setX (PA := (· = .int ((p : Int) + 1))) (PX := (· = .int 1)) (F2 := Base a b H0) ha ((evd_add (evd_var rfl) evd_int).x sB) rfl ((evd_int (i := 1)).x sB) (fun H v z x f hz hx hv => ?_) ?_)
    · subst hz hx
      cases hv.toInt
      obtain ⟨e, ne, q, ns, g1, g2⟩ := f
      refine ⟨1, _, rfl, g1, by show 1 < 2; decide, fun c o hc => ?_, ne, p + 1, ns, ?_, by rw [upd_ne ne.symm]; exact g2⟩
      · obtain ⟨q1, q2⟩ := er_some (e c o hc)
        rw [er_out q1, upd_ne (by simpa using q1)]
        exact q2
      · rw [upd_same]; rfl
    refine nx_seq (nx_asgX (PA := (· = .raw (.ref b))) (evx_ownIx (l := a) rfl ((evd_int (i := 0)).x sB) fun H r f hr => ?_) fun r hr => ?_)
    · obtain ⟨_, _, p, ns, g1, g2⟩ := f
      exact ⟨_, 0, _, _, hr, g1, rfl, .raw _, rfl⟩
    subst hr
    -- how many draws there are
    refine Nx.pre (F' := fun H => ∃ ns : List Int, Base a b H0 H ∧ H b = some (.lst (ns.map V.int))) (nx_ex fun ns => ?_) fun H h => let ⟨e, ne, q, ns, g1, g2⟩ := h; ⟨ns, h, g2⟩
    have sG : Stb fun H => Base a b H0 H ∧ H b = some (.lst (ns.map V.int)) := sB.and fun _ _ e h => e _ _ h
    have len : EvX K Z (fun H => Base a b H0 H ∧ H b = some (.lst (ns.map V.int))) (tCB (rLen K) (tCons (tVar 3) tNil)) [some (.raw (.ref a)), some (.int m), some (.int (p : Int)), some (.raw (.ref b))] (· = .int (ns.length : Int)) := fun σ H Q o s f k => by
      obtain ⟨u, h1, h2⟩ := s.2 3 _ rfl
      cases h2.toRaw
      exact ⟨_, h1, b, _, rfl, .inl (SqL.of f.2), k _ _ H rfl (Evl.Ex.refl _) o f (by rw [List.length_map]; exact .int _)⟩
    refine nx_seq (nx_ifX (PT := fun c => c = decide ((ns.length : Int) ≤ p)) (evxt_test (PA := fun r => r = .bl (decide ((ns.length : Int) ≤ p))) (evx_op sG ((evd_var (d := .int (p : Int)) rfl).x sG) len fun x y hx hy => ?_) fun r hr => ⟨_, rfl, hr⟩) (fun q => ?_) fun q => ?_)
    · subst hx hy
      exact ⟨_, rfl, rvd_I0 fun _ => .bl _⟩
    · exact nx_ret sG (evd_int (i := 0)) fun v H oc f hv => k v _ H ⟨0, Int.le_refl 0, hm, rfl⟩ oc f.1.1 f.1.2 hv
    · have hp : p < ns.length := by
        have := of_decide_eq_false q.symm
        omega
      have at_ : EvX K Z (fun H => Base a b H0 H ∧ H b = some (.lst (ns.map V.int))) (tOp (rIx K) (tVar 3) (tVar 2)) [some (.raw (.ref a)), some (.int m), some (.int (p : Int)), some (.raw (.ref b))] (fun r => ∃ z : Int, r = .int z) :=
        evx_ownIx (l := b) rfl ((evd_var (d := .int (p : Int)) rfl).x sG) fun H r f hr => ⟨_, p, .int ns[p], _, hr, f.2, by rw [List.getElem?_map, List.getElem?_eq_getElem hp]; rfl, .int _, _, rfl⟩
      refine nx_retX (PA := fun r => ∃ i : Int, 0 ≤ i ∧ i < m ∧ r = .int i) (evx_op (PA := fun r => ∃ z : Int, r = .int z) sG (evx_op (PA := fun r => ∃ z : Int, r = .int z) sG (evx_callB sG (evxa_one at_) fun l hl => ?_) ((evd_int (i := 7)).x sG) fun x y hx hy => ?_) ((evd_var (d := .int m) rfl).x sG) fun x y hx hy => ?_) fun v r H hr oc f hv => k v r H hr oc f.1.1 f.1.2 hv
      · obtain ⟨_, ⟨z, rfl⟩, rfl⟩ := hl
        exact ⟨_, ⟨z, rfl⟩, rc_int⟩
      · obtain ⟨z, rfl⟩ := hx
        subst hy
        exact ⟨_, ⟨_, rfl⟩, rvd_I (C := CDivN) (show CDivN z 7 from ⟨by decide, by decide⟩) fun _ => .int _⟩
      · obtain ⟨z, rfl⟩ := hx
        subst hy
        exact ⟨_, ⟨z % m, Int.emod_nonneg z (by omega), Int.emod_lt_of_pos z hm, rfl⟩, rvd_I (C := fun _ j => 0 < j) hm fun _ => .int _⟩
end
end Ec
/-! Rows drawn, rows closed. -/
namespace Ec
open PySem L2
section
variable {K : PySem.W.Frag} {Z : List Addr} {F : Hp → Prop} {ρ : Rh} {te : TE}
theorem ddl_perm {H : Hp} {xs ys : List V} (p : xs.Perm ys) : ∀ {rs : List Row}, DdL K H xs (rs.map rowH) → ∃ ss : List Row, ss.Perm rs ∧ DdL K H ys (ss.map rowH) := by
  induction p with
  | nil =>
    intro rs h
    exact ⟨rs, .refl _, h⟩
  | cons x p ih =>
    intro rs h
    cases rs with
    | nil => cases h
    | cons r rs =>
      cases h with
      | cons h1 h2 =>
        obtain ⟨ss, q1, q2⟩ := ih h2
        exact ⟨r :: ss, q1.cons r, .cons h1 q2⟩
  | swap x y l =>
    intro rs h
    cases rs with
    | nil => cases h
    | cons r rs =>
      cases h with
      | cons h1 h2 =>
        cases rs with
        | nil => cases h2
        | cons q rs =>
          cases h2 with
          | cons h2 h3 => exact ⟨q :: r :: rs, .swap r q rs, .cons h2 (.cons h1 h3)⟩
  | trans p1 p2 ih1 ih2 =>
    intro rs h
    obtain ⟨s1, a1, a2⟩ := ih1 h
    obtain ⟨s2, b1, b2⟩ := ih2 a2
    exact ⟨s2, b1.trans a1, b2⟩
theorem rows_up {H H' : Hp} (e : Evl.Ex H H') : ∀ {ys : List V} {ss : List Row}, DdL K H ys (ss.map rowH) → ys.Pairwise (fun x y => ∀ n m, TupI K H' x n → TupI K H' y m → TS.code 2 n ≤ TS.code 2 m) → ss.Pairwise fun a b => num a ≤ num b
  | _, [], h, _ => .nil
  | _, s :: ss, h, p => by
    cases h with
    | cons h1 h2 =>
      obtain ⟨q1, q2⟩ := List.pairwise_cons.mp p
      refine List.pairwise_cons.mpr ⟨fun b hb => ?_, rows_up e h2 q2⟩
      obtain ⟨i, hi⟩ := List.mem_iff_getElem?.mp hb
      obtain ⟨v, v1, v2⟩ := h2.at (by rw [List.getElem?_map, hi]; rfl)
      obtain ⟨a1, rfl, t1⟩ := rowH_at h1
      obtain ⟨a2, rfl, t2⟩ := rowH_at v2
      have q := q1 _ (List.mem_of_getElem? v1) _ _ ⟨a1, rfl, SqT.of (e _ _ t1)⟩ ⟨a2, rfl, SqT.of (e _ _ t2)⟩
      rw [code_num, code_num] at q
      omega
/-- sorted(l), l a list of distinct rows -/
theorem evx_sorted {rs : List Row} {n : Nat} (sF : Stb F) (h : EvX K Z F te ρ (· = rowsHL rs)) (hn : ∀ r ∈ rs, r.length = n) (nd : rs.Nodup) (h64 : rs.length < 64) : EvX K Z F (tCB (rSortU K n 2) (tCons te tNil)) ρ (fun r => ∃ ss : List Row, ss.Perm rs ∧ asc ss ∧ r = rowsHL ss) := fun σ H Q o s f k =>
  h σ H _ o s f fun v r H1 p e1 o1 f1 hv => by
    subst p
    obtain ⟨a, xs, rfl, h1, h2⟩ := hv.sqL
    have hl := h2.length
    rw [List.length_map] at hl
    refine ⟨a, xs, rfl, SqL.of (er_sub _ _ h1), by omega, fun x hx => ?_, fun ys p hp pw fresh => ?_⟩
    · obtain ⟨i, hi⟩ := List.mem_iff_getElem?.mp hx
      obtain ⟨d, d1, d2⟩ := h2.of hi
      obtain ⟨r, r1, rfl⟩ := map_at d1
      obtain ⟨b, rfl, t⟩ := rowH_at d2
      exact ⟨ibs r, ⟨b, rfl, SqT.of (er_sub _ _ t)⟩, by rw [ibs_len]; exact hn r (List.mem_of_getElem? r1), ibs_bd r⟩
    · obtain ⟨ss, s1, s2⟩ := ddl_perm hp.symm h2
      have up := rows_up er_sub s2 pw
      have hns : ∀ r ∈ ss, r.length = n := fun r hr => hn r (s1.mem_iff.mp hr)
      have ex := Evl.Ex.new (o := .lst ys) fresh
      exact k _ _ _ ⟨ss, s1, asc_of hns (s1.nodup_iff.mpr nd) up, rfl⟩ (e1.trans (er_ex ex)) (o1.ex ex) (sF _ _ ex f1) (.lst (er_newT o1 fresh) (s2.mono (er_ex ex)))
end
section
variable {P : Program} {w : World} {K : PySem.W.Frag} {mg : Str → Option Value} {base : Heap} {f : Addr} {fd : FuncData}
abbrev s__law_six : Stmt := topS 51
theorem sc__law_six : FnScope [] [] (defScope s__law_six) := ⟨rfl, rfl, rfl, by decide +kernel, rfl, by decide +kernel, by decide +kernel⟩
-- slots: 
def R_six (ds : List Dt) (r : Dt) : Prop := ds = [] ∧ r = .lst ((List.range 6).map fun i => .tup [.str (wordAt i), rowD (sixT i)])
theorem ok__law_six (T : Txt K mg) (Fn : Fun K "_law_six" "_law_six" s__law_six f fd) : FnOk P w K mg base CX0 1 f fd [] (PureSp K R_six) := by
  refine pure_ok Fn sc__law_six (fun ds r h => ?_) fun ds r h cdv A outer s H E hr => ?_
  · obtain ⟨rfl, _⟩ := h; rfl
  · obtain ⟨rfl, rfl⟩ := h
    refine ⟨_, (pss_one (ps_ret (pe_lst (pa_cons (pe_tup (pa_cons pe_str (pa_cons (pe_tup (pa_cons pe_int (pa_cons pe_int pa_nil))) pa_nil))) (pa_cons (pe_tup (pa_cons pe_str (pa_cons (pe_tup (pa_cons pe_int (pa_cons pe_int pa_nil))) pa_nil))) (pa_cons (pe_tup (pa_cons pe_str (pa_cons (pe_tup (pa_cons pe_int (pa_cons pe_int (pa_cons pe_int (pa_cons pe_int pa_nil))))) pa_nil))) (pa_cons (pe_tup (pa_cons pe_str (pa_cons (pe_tup (pa_cons pe_int (pa_cons pe_int (pa_cons pe_int (pa_cons pe_int pa_nil))))) pa_nil))) (pa_cons (pe_tup (pa_cons pe_str (pa_cons (pe_tup (pa_cons pe_int (pa_cons pe_int (pa_cons pe_int (pa_cons pe_int (pa_cons pe_int (pa_cons pe_int (pa_cons pe_int (pa_cons pe_int pa_nil))))))))) pa_nil))) (pa_cons (pe_tup (pa_cons pe_str (pa_cons (pe_tup (pa_cons pe_int (pa_cons pe_int (pa_cons pe_int (pa_cons pe_int (pa_cons pe_int (pa_cons pe_int (pa_cons pe_int (pa_cons pe_int pa_nil))))))))) pa_nil))) pa_nil))))))))), fun Z H0 D k => ?_⟩
    have t2 : ∀ {ta : TA} {ds : List Dt} {x : Str} {ρ : Rh}, EvA K ta ρ ds → ds.length ≤ 100000 → EvD K (tTup (tCons (tC (.str x)) (tCons (tTup ta) tNil))) ρ (.tup [.str x, .tup ds]) := fun h hz => evd_tup (eva_cons evd_str (eva_cons (evd_tup h hz) eva_nil)) (by show 2 ≤ 100000; decide)
    have i2 : ∀ {a b : Int} {ρ : Rh}, EvA K (tCons (tC (.int a)) (tCons (tC (.int b)) tNil)) ρ [.int a, .int b] := eva_cons evd_int (eva_cons evd_int eva_nil)
    have i4 : ∀ {a b c d : Int} {ρ : Rh}, EvA K (tCons (tC (.int a)) (tCons (tC (.int b)) (tCons (tC (.int c)) (tCons (tC (.int d)) tNil)))) ρ [.int a, .int b, .int c, .int d] := eva_cons evd_int (eva_cons evd_int i2)
    have i8 : ∀ {a b c d a' b' c' d' : Int} {ρ : Rh}, EvA K (tCons (tC (.int a)) (tCons (tC (.int b)) (tCons (tC (.int c)) (tCons (tC (.int d)) (tCons (tC (.int a')) (tCons (tC (.int b')) (tCons (tC (.int c')) (tCons (tC (.int d')) tNil)))))))) ρ [.int a, .int b, .int c, .int d, .int a', .int b', .int c', .int d'] := eva_cons evd_int (eva_cons evd_int (eva_cons evd_int (eva_cons evd_int i4)))
    exact nx_ret (stb_ex H0) (EvN.toD (evn_lst (eva_cons (t2 i2 (by decide)) (eva_cons (t2 i2 (by decide)) (eva_cons (t2 i4 (by decide)) (eva_cons (t2 i4 (by decide)) (eva_cons (t2 i8 (by decide)) (eva_cons (t2 i8 (by decide)) eva_nil)))))) (by show 6 ≤ 100000; decide))) fun v H oc ex hv => k v H oc ex hv
abbrev s__law_places_of : Stmt := topS 52
theorem sc__law_places_of : FnScope ["_law_table"] ["_law_table"] (defScope s__law_places_of) := ⟨rfl, rfl, rfl, by decide +kernel, rfl, by decide +kernel, by decide +kernel⟩
-- slots: _law_table 0
def R_lplaces (ds : List Dt) (r : Dt) : Prop := ∃ (t : Row) (m : Nat), 1 ≤ m ∧ m ≤ 3 ∧ t.length = 2 ^ m ∧ ds = [rowD t] ∧ r = .int (m : Int)
theorem ok__law_places_of (T : Txt K mg) (Fn : Fun K "_law_places_of" "_law_places_of" s__law_places_of f fd) : FnOk P w K mg base CX0 1 f fd ["_law_table"] (PureSp K R_lplaces) := by
  refine pure_ok Fn sc__law_places_of (fun ds r h => ?_) fun ds r h cdv A outer s H E hr => ?_
  · obtain ⟨_, _, _, _, _, rfl, _⟩ := h; rfl
  · obtain ⟨t, m, h1, h3, ht, rfl, rfl⟩ := h
    refine ⟨_, (pss_one (ps_ret (pe_ix (r := rIx K) ix_seq (pe_lst (pa_cons pe_int (pa_cons pe_int (pa_cons pe_int (pa_cons pe_int pa_nil))))) (pe_bmC (K := K) rfl (pe_bm PySem.F.plainAttrs_list PySem.F.slot_list_index PySem.F.type_list_index mt_index (pe_lst (pa_cons pe_int (pa_cons pe_int (pa_cons pe_int (pa_cons pe_int pa_nil))))) (pa_cons (pe_callB (r := rLen K) call_len_seq (by rfl) T.len PySem.boot_len (pa_cons (pv 0) pa_nil)) pa_nil))) (fun _ _ => rfl)))), fun Z H0 D k => ?_⟩
    have i4 : ∀ {a b c d : Int} {ρ : Rh}, EvD K (tLst (tCons (tC (.int a)) (tCons (tC (.int b)) (tCons (tC (.int c)) (tCons (tC (.int d)) tNil))))) ρ (.lst ([a, b, c, d].map .int)) := EvN.toD (evn_lst (eva_cons evd_int (eva_cons evd_int (eva_cons evd_int (eva_cons evd_int eva_nil)))) (by show 4 ≤ 100000; decide))
    have e1 : ([2, 4, 8, 16] : List Int)[m - 1]? = some ((t.length : Nat) : Int) := by
      rw [ht]
      match m, h1, h3 with
      | 1, _, _ => rfl
      | 2, _, _ => rfl
      | 3, _, _ => rfl
    have e2 : (([1, 2, 3, 4] : List Int).map Dt.int)[m - 1]? = some (.int (m : Int)) := by
      match m, h1, h3 with
      | 1, _, _ => rfl
      | 2, _, _ => rfl
      | 3, _, _ => rfl
    have e3 : ∀ k, k < m - 1 → ([2, 4, 8, 16] : List Int)[k]? ≠ some ((t.length : Nat) : Int) := by
      rw [ht]
      match m, h1, h3 with
      | 1, _, _ => intro k hk; omega
      | 2, _, _ => intro k hk; have : k = 0 := by omega
                   subst this; decide
      | 3, _, _ => intro k hk; have : k = 0 ∨ k = 1 := by omega
                   rcases this with rfl | rfl <;> decide
    exact nx_ret (stb_ex H0) (evd_op i4 (evd_lstIdx e1 e3 i4 (eva_cons (evd_lenT (l := t) (evd_var (d := rowD t) rfl)) eva_nil)) (rvd_ixl rfl e2)) fun v H oc ex hv => k v H oc ex hv
abbrev s__law_rows : Stmt := topS 46
theorem sc__law_rows : FnScope ["_law_hand", "_law_size", "_law_most", "_law_every_here", "_law_rows_here", "_law_k", "_law_row"] ["_law_hand", "_law_size", "_law_most"] (defScope s__law_rows) := ⟨rfl, rfl, rfl, by decide +kernel, rfl, by decide +kernel, by decide +kernel⟩
-- slots: _law_hand 0, _law_size 1, _law_most 2, _law_every_here 3, _law_rows_here 4, _law_k 5, _law_row 6
def R_rows (ds : List Dt) (Pr : Dt → Prop) : Prop := ∃ n m : Nat, 1 ≤ n ∧ n ≤ 4 ∧ 1 ≤ m ∧ m ≤ 7 ∧ ds = [.int (n : Int), .int (m : Int)] ∧ Pr = fun r => ∃ rs : List Row, rs ≠ [] ∧ (∀ q ∈ rs, q.length = n) ∧ asc rs ∧ rs.length ≤ 7 ∧ r = rowsHT rs
theorem ok__law_rows (T : Txt K mg) (C__law_every : C8.Cal P w K mg base 1 "_law_every" (PureSp K R_every) []) (C__law_take : C8.Cal P w K mg base 1 "_law_take" (HandSp K R_take) []) (Fn : Fun K "_law_rows" "_law_rows" s__law_rows f fd) : FnOk P w K mg base CX0 2 f fd ["_law_hand", "_law_size", "_law_most"] (HandSp K R_rows) := by
  refine hand_ok Fn sc__law_rows (fun ds r h => ?_) fun ds r h cdv A outer s H E hr => ?_
  · obtain ⟨_, _, _, _, _, _, rfl, _⟩ := h; rfl
  · obtain ⟨n, m, n1, n4, m1, m7, rfl, rfl⟩ := h
    have hu : A.units + 3 + 65 < cLine := by have := hr.un; show A.units + 3 + 65 < cLine; exact Nat.lt_of_le_of_lt (by show A.units + 3 + 65 ≤ A.units + 3 + 16 * 1 + 200; omega) this
    refine ⟨_, (pss_cons (ps_set (i := 3) sc__law_rows.nd rfl (Or.inl rfl) (C8.pe_c C__law_every hr (by decide) rfl (pa_cons (pv 1) pa_nil)))
      (pss_cons (ps_set (i := 4) sc__law_rows.nd rfl (Or.inl rfl) (pe_lst pa_nil))
      (pss_cons (ps_for PassesOwn.never rfl (pi_range1 rfl T.range (pa_cons (pe_op op_add pe_int (C8.pe_c C__law_take hr (by decide) rfl (pa_cons (pv 0) (pa_cons (pv 2) pa_nil)))) pa_nil)) (pg_name (i := 5) sc__law_rows.nd rfl (Or.inl rfl))
        (pss_cons (ps_set (i := 6) sc__law_rows.nd rfl (Or.inl rfl) (pe_ix (r := rIx K) ix_seq (pv 3) (C8.pe_c C__law_take hr (by decide) rfl (pa_cons (pv 0) (pa_cons (pe_callB (r := rLen K) call_len_seq (by rfl) T.len PySem.boot_len (pa_cons (pv 3) pa_nil)) pa_nil))) (fun _ _ => rfl)))
        (pss_one (ps_if (pt_cmpR (r := rNotInD K) (op_notInD hu) (pv 6) (pv 4) (by rfl)) (pss_one (ps_expr (pe_bmC (K := K) rfl (pe_bm PySem.F.plainAttrs_list PySem.F.slot_list_append PySem.F.type_list_append mt_append (pv 4) (pa_cons (pv 6) pa_nil))))) pss_nil))))
      (pss_one (ps_ret (pe_callTy (r := rTupO K) call_tuple_of (by rfl) T.tuple (by decide +kernel) (pa_cons (pe_callB (r := rSortU K n 2) (cr_sortT n1) (by rfl) T.sorted (by decide +kernel) (pa_cons (pv 4) pa_nil)) pa_nil))))))), fun Z a b H0 D ha h0 k => ?_⟩
    have sB := base_stb (a := a) (b := b) (H0 := H0)
    have kb := base_keep (a := a) (b := b) (H0 := H0)
    have he : (every n).length = 2 ^ n := every_len n
    have hpos : 0 < (every n).length := by rw [he]; exact Nat.two_pow_pos n
    refine nx_seq (nx_asg (d := rowsHL (every n)) sB (evd_call (eva_cons (evd_var (d := .int (n : Int)) rfl) eva_nil) ⟨n, n4, rfl, rfl⟩) ?_)
    refine nx_seq (nx_own (ds := ([] : List Row).map rowH) sB (evn_lst eva_nil (by decide)) fun l H1 f1 n1' z1 => ?_)
    have la := (base_ne f1 n1').1
    have ha' : a ∈ l :: Z := List.mem_cons_of_mem _ ha
    have hl' : l ∈ l :: Z := List.mem_cons_self
    have sO : ∀ rs : List Row, Stb fun H => Base a b H0 H ∧ Own K (l :: Z) l (rs.map rowH) H := fun rs => sB.and Own.stb
    have kO : ∀ rs : List Row, Keep a b fun H => Base a b H0 H ∧ Own K (l :: Z) l (rs.map rowH) H := fun rs => own_keep ha' la kb
    have tk : ∀ {G : Hp → Prop} {ρ : Rh} {te : TE} {c : Nat}, Keep a b G → 0 < c → ρ[0]? = some (some (.raw (.ref a))) → EvX K (l :: Z) G te ρ (· = .int (c : Int)) → EvX K (l :: Z) G (tCall (HandSp K R_take) [] C8.E0 (tCons (tVar 0) (tCons te tNil))) ρ (fun r => ∃ i : Nat, i < c ∧ r = .int (i : Int)) := fun {G ρ te c} kp hc h0 h =>
      (evx_hand (PC := fun r => ∃ i : Int, 0 ≤ i ∧ i < (c : Int) ∧ r = .int i) kp ha' h0 (evxa_one h) fun l hl => by
        obtain ⟨_, rfl, rfl⟩ := hl
        exact ⟨(c : Int), by omega, rfl, rfl⟩).imp fun r hr => by
        obtain ⟨i, i0, i1, rfl⟩ := hr
        exact ⟨i.toNat, by omega, by rw [Int.toNat_of_nonneg i0]⟩
    refine nx_seq (nx_forX (PL := fun ds => ∃ c, (1 ≤ c ∧ c ≤ m) ∧ ds = upTo 0 c) (srcx_rng1 (PN := fun c => 1 ≤ c ∧ c ≤ m) (PL := fun l => ∃ c : Nat, (1 ≤ c ∧ c ≤ m) ∧ l = [.int (c : Int)]) (evxa_cons (evx_op (PC := fun r => ∃ c : Nat, (1 ≤ c ∧ c ≤ m) ∧ r = .int (c : Int)) (sO []) ((evd_int (i := 1)).x (sO [])) (tk (kO []) (c := m) m1 rfl ((evd_var rfl).x (sO []))) fun x y hx hy => ?_) evxa_nil fun x rs hx hr => ?_) fun l hl => ?_)
      (fun _ => [5]) (fun d => [d]) (fun ds k ρ F => ∃ rs : List Row, F = (fun H => Base a b H0 H ∧ Own K (l :: Z) l (rs.map rowH) H) ∧ rs.Nodup ∧ (∀ q ∈ rs, q.length = n) ∧ rs.length ≤ k ∧ (0 < k → rs ≠ []) ∧ ∃ x y, ρ = [some (.raw (.ref a)), some (.int (n : Int)), some (.int (m : Int)), some (rowsHL (every n)), some (.raw (.ref l)), x, y]) (fun _ _ _ _ => gd_name) (fun ds hds => ⟨[], rfl, List.nodup_nil, (fun q hq => absurd hq (by simp)), Nat.le_refl _, (fun h => absurd h (Nat.lt_irrefl _)), _, _, rfl⟩) (sO []) ?_ ?_)
    · subst hx
      obtain ⟨i, hi, rfl⟩ := hy
      exact ⟨_, ⟨1 + i, ⟨by omega, by omega⟩, rfl⟩, rvd_I0 fun _ => by rw [Int.natCast_add]; exact .int _⟩
    · obtain ⟨c, hc, rfl⟩ := hx
      exact ⟨c, hc, by rw [hr]⟩
    · obtain ⟨c, hc, rfl⟩ := hl
      exact ⟨c, hc, by omega, rfl⟩
    · rintro ds ⟨c, ⟨c1, c2⟩, rfl⟩ LF sL i d ρ F hi ⟨rs, rfl, nd, hn, hlen, hne, x, y, rfl⟩ sF
      obtain ⟨hic, rfl⟩ := upTo_of hi
      have kG : Keep a b fun H => (Base a b H0 H ∧ Own K (l :: Z) l (rs.map rowH) H) ∧ LF H := keep_and ha' (kO rs) sL
      have sG : Stb fun H => (Base a b H0 H ∧ Own K (l :: Z) l (rs.map rowH) H) ∧ LF H := (sO rs).andZ sL
      refine nx_seq (nx_asgX (PA := fun r => ∃ q ∈ every n, r = rowH q) (evx_op sG ((evd_var (d := rowsHL (every n)) rfl).x sG) (tk kG hpos rfl ((evd_lenL (l := every n) (evd_var rfl)).x sG)) fun x y hx hy => ?_) fun r hr => ?_)
      · subst hx
        obtain ⟨i, hi, rfl⟩ := hy
        exact ⟨_, ⟨(every n)[i], List.getElem_mem hi, rfl⟩, rvd_ixl rfl (by rw [List.getElem?_map, List.getElem?_eq_getElem hi]; rfl)⟩
      obtain ⟨q, hq, rfl⟩ := hr
      refine nx_ifX (PT := fun c => c = decide (q ∉ rs)) (evxt_test (evx_notInOwn (rs := rs) (l := l) rfl rfl fun H h => h.1.2) fun r hr => ⟨_, rfl, hr⟩) (fun e => ?_) fun e => ?_
      · have hqr : q ∉ rs := of_decide_eq_true e.symm
        refine nx_appX (F2 := fun H => (Base a b H0 H ∧ Own K (l :: Z) l ((rs ++ [q]).map rowH) H) ∧ LF H) hl' rfl ((evd_var (d := rowH q) rfl).x sG) (fun H h => ?_) (fun H v z h hz hv => ?_) ?_
        · obtain ⟨vs, g, _⟩ := h.1.2
          exact ⟨vs, g⟩
        · subst hz
          obtain ⟨⟨hb, vs, g1, g2⟩, hL⟩ := h
          have gl := g2.length
          rw [List.length_map] at gl
          refine ⟨vs, g1, by omega, ⟨base_upd f1 n1' hb, vs ++ [v], upd_same, ?_⟩, sL H _ (by rw [er_upd hl']; exact Evl.Ex.refl _) hL⟩
          rw [er_upd hl', List.map_append]
          exact g2.append (.cons hv .nil)
        · refine as_in ⟨rs ++ [q], rfl, ?_, fun z hz => ?_, ?_, fun _ => by simp, _, _, rfl⟩ (sO _)
          · exact List.nodup_append.mpr ⟨nd, by simp, fun x hx y hy => by rw [List.mem_singleton.mp hy]; exact fun z => hqr (z ▸ hx)⟩
          · rcases List.mem_append.mp hz with hz | hz
            · exact hn z hz
            · rw [List.mem_singleton.mp hz]; exact every_row hq
          · rw [List.length_append]; simpa using hlen
      · have hqr : q ∈ rs := by
          have := of_decide_eq_false e.symm
          simpa using this
        exact as_in ⟨rs, rfl, nd, hn, by omega, (fun _ z => by rw [z] at hqr; cases hqr), _, _, rfl⟩ (sO rs)
    · rintro ds ⟨c, ⟨c1, c2⟩, rfl⟩ ρ F ⟨rs, rfl, nd, hn, hlen, hne, x, y, rfl⟩ sF
      rw [upTo_len] at hlen hne
      refine nx_rel z1 (fun H h => h) (i := 4) rfl ?_
      refine nx_retX (PA := fun r => ∃ rs : List Row, rs ≠ [] ∧ (∀ q ∈ rs, q.length = n) ∧ asc rs ∧ rs.length ≤ 7 ∧ r = rowsHT rs) (evx_callB sB (evxa_one (evx_sorted sB ((evd_var (d := rowsHL rs) rfl).x sB) hn nd (by omega))) fun l hl => ?_) fun v r H hr oc f hv => k v r H hr oc f.1 f.2 hv
      obtain ⟨_, ⟨ss, s1, s2, rfl⟩, rfl⟩ := hl
      refine ⟨_, ⟨ss, fun z => hne c1 ?_, fun q hq => hn q (s1.mem_iff.mp hq), s2, by rw [s1.length_eq]; omega, rfl⟩, rc_tupL⟩
      rw [z] at s1
      exact List.perm_nil.mp s1.symm
end
end Ec
/-! Rows closed under a table; books and terms drawn. -/
namespace Ec
open PySem L2
section
variable {P : Program} {w : World} {K : PySem.W.Frag} {mg : Str → Option Value} {base : Heap} {f : Addr} {fd : FuncData}
abbrev s__law_closed : Stmt := topS 54
theorem sc__law_closed : FnScope ["_law_rows_here", "_law_table", "_law_m", "_law_kept", "_law_step", "_law_more", "_law_one", "_law_row"] ["_law_rows_here", "_law_table"] (defScope s__law_closed) := ⟨rfl, rfl, rfl, by decide +kernel, rfl, by decide +kernel, by decide +kernel⟩
-- slots: _law_rows_here 0, _law_table 1, _law_m 2, _law_kept 3, _law_step 4, _law_more 5, _law_one 6, _law_row 7
/-- rows of one length, one at least, each once, in order, seven at most -/
def Nice (rs : List Row) (n : Nat) : Prop := rs ≠ [] ∧ (∀ q ∈ rs, q.length = n) ∧ asc rs ∧ rs.length ≤ 7
theorem Nice.even {rs : List Row} {n : Nat} (h : Nice rs n) (hn : n ≤ 4) : Even rs n := ⟨h.1, h.2.1, by omega⟩
def R_closed (ds : List Dt) (Pr : Dt → Prop) : Prop := ∃ (rs : List Row) (n m : Nat) (t : Row), Nice rs n ∧ 1 ≤ n ∧ n ≤ 4 ∧ 1 ≤ m ∧ m ≤ 3 ∧ t.length = 2 ^ m ∧ ds = [rowsHT rs, rowD t] ∧ Pr = fun r => ∃ ss : List Row, Nice ss n ∧ r = rowsHT ss
theorem made_len {rs one : List Row} {t : Row} {n m : Nat} (he : Even rs n) (hm : 1 ≤ m) (ho : one ∈ tups rs m) : (made t one).length = n := by
  obtain ⟨e1, e2⟩ := he.tup hm ho
  obtain ⟨_, _, _, h⟩ := e1.head
  rw [made_length, h]
theorem ok__law_closed (T : Txt K mg) (C__law_places_of : C8.Cal P w K mg base 1 "_law_places_of" (PureSp K R_lplaces) []) (C__law_tuples : C8.Cal P w K mg base 1 "_law_tuples" (PureSp K R_ltuples) []) (C__law_made : C8.Cal P w K mg base 2 "_law_made" (PureSp K R_lmade) [])
    (Fn : Fun K "_law_closed" "_law_closed" s__law_closed f fd) : FnOk P w K mg base CX0 3 f fd ["_law_rows_here", "_law_table"] (PureSpN K R_closed) := by
  refine pureN_ok Fn sc__law_closed (fun ds r h => ?_) fun ds r h cdv A outer s H E hr => ?_
  · obtain ⟨_, _, _, _, _, _, _, _, _, _, rfl, _⟩ := h; rfl
  · obtain ⟨rs, n, m, t, hrs, n1, hn4, m1, m3, ht, rfl, rfl⟩ := h
    have hu : A.units + 3 + 65 < cLine := by have := hr.un; show A.units + 3 + 65 < cLine; exact Nat.lt_of_le_of_lt (by show A.units + 3 + 65 ≤ A.units + 3 + 16 * 2 + 200; omega) this
    refine ⟨_, (pss_cons (ps_set (i := 2) sc__law_closed.nd rfl (Or.inl rfl) (C8.pe_c C__law_places_of hr (by decide) rfl (pa_cons (pv 1) pa_nil)))
      (pss_cons (ps_set (i := 3) sc__law_closed.nd rfl (Or.inl rfl) (pe_callTy (r := rLstO K) call_list_of (by rfl) T.list (by decide +kernel) (pa_cons (pv 0) pa_nil)))
      (pss_cons (ps_for PassesOwn.never rfl (pi_range1 rfl T.range (pa_cons pe_int pa_nil)) (pg_name (i := 4) sc__law_closed.nd rfl (Or.inl rfl))
        (pss_cons (ps_if (pt_cmpR op_gt (pe_callB (r := rLen K) call_len_seq (by rfl) T.len PySem.boot_len (pa_cons (pv 3) pa_nil)) pe_int (nomark _)) (pss_one (ps_ret (pv 0))) pss_nil)
        (pss_cons (ps_set (i := 5) sc__law_closed.nd rfl (Or.inl rfl) (pe_lst pa_nil))
        (pss_cons (ps_for PassesOwn.never rfl (pi_listK (K := K) rfl (C8.pe_c C__law_tuples hr (by decide) rfl (pa_cons (pv 3) (pa_cons (pv 2) pa_nil)))) (pg_name (i := 6) sc__law_closed.nd rfl (Or.inl rfl))
          (pss_cons (ps_set (i := 7) sc__law_closed.nd rfl (Or.inl rfl) (C8.pe_c C__law_made hr (by decide) rfl (pa_cons (pv 1) (pa_cons (pv 6) pa_nil))))
          (pss_one (ps_if (PW.pt (pw_and (pt_cmpR (r := rNotInD K) (op_notInD hu) (pv 7) (pv 3) (by rfl)) (pw_and1 (pt_cmpR (r := rNotInD K) (op_notInD hu) (pv 7) (pv 5) (by rfl))))) (pss_one (ps_expr (pe_bmC (K := K) rfl (pe_bm PySem.F.plainAttrs_list PySem.F.slot_list_append PySem.F.type_list_append mt_append (pv 5) (pa_cons (pv 7) pa_nil))))) pss_nil))))
        (pss_cons (ps_if (pt_cmpR op_eq (pe_callB (r := rLen K) call_len_seq (by rfl) T.len PySem.boot_len (pa_cons (pv 5) pa_nil)) pe_int (nomark _)) (pss_one ps_break) pss_nil)
        (pss_one (ps_set (i := 3) sc__law_closed.nd rfl (Or.inl rfl) (pe_op op_cat (pv 3) (pv 5)))))))))
      (pss_one (ps_ret (pe_callTy (r := rTupO K) call_tuple_of (by rfl) T.tuple (by decide +kernel) (pa_cons (pe_callB (r := rSortU K n 2) (cr_sortT n1) (by rfl) T.sorted (by decide +kernel) (pa_cons (pv 3) pa_nil)) pa_nil))))))), fun Z H0 D k => ?_⟩
    have sE := stb_ex H0
    -- behind the loop
    have fin : ∀ (kept : List Row) (x y z u : Option Dt), kept ≠ [] → kept.Nodup → (∀ q ∈ kept, q.length = n) → kept.length ≤ 5 → Nx K Z (Evl.Ex H0) [some (rowsHT rs), some (rowD t), some (.int (m : Int)), some (rowsHL kept), x, y, z, u] (tRet (tCB (rTupO K) (tCons (tCB (rSortU K n 2) (tCons (tVar 3) tNil)) tNil)) D) := fun kept x y z u hne nd hn h5 => by
      refine nx_retX (PA := fun r => ∃ ss : List Row, Nice ss n ∧ r = rowsHT ss) (evx_callB sE (evxa_one (evx_sorted sE ((evd_var (d := rowsHL kept) rfl).x sE) hn nd (by omega))) fun l hl => ?_) fun v r H hr oc f hv => k v r H hr oc f hv
      obtain ⟨_, ⟨ss, s1, s2, rfl⟩, rfl⟩ := hl
      refine ⟨_, ⟨ss, ⟨fun z => hne ?_, fun q hq => hn q (s1.mem_iff.mp hq), s2, by rw [s1.length_eq]; omega⟩, rfl⟩, rc_tupL⟩
      rw [z] at s1
      exact List.perm_nil.mp s1.symm
    refine nx_seq (nx_asg (d := .int (m : Int)) sE (evd_call (eva_cons (evd_var (d := rowD t) rfl) eva_nil) ⟨t, m, m1, m3, ht, rfl, rfl⟩) ?_)
    refine nx_seq (nx_asg (d := rowsHL rs) sE (evd_callB (eva_cons (evd_var (d := rowsHT rs) rfl) eva_nil) rc_lstT) ?_)
    refine nx_seq (nx_forN sE (src_rangeM (n := 6) (eva_cons (evd_int (i := 6)) eva_nil) (by decide)) (fun i ρ F => F = Evl.Ex H0 ∧ i < 6 ∧ ∃ kept : List Row, i + 1 ≤ kept.length ∧ kept.Nodup ∧ (∀ q ∈ kept, q.length = n) ∧ ∃ x y z u, ρ = [some (rowsHT rs), some (rowD t), some (.int (m : Int)), some (rowsHL kept), x, y, z, u])
      ⟨rfl, by decide, rs, List.length_pos_iff.mpr hrs.1, hrs.2.2.1.nodup, hrs.2.1, _, _, _, _, rfl⟩ ?_ ?_)
    · rintro LF sL i d ρ F hi ⟨rfl, hi6, kept, hk, nd, hn, x, y, z, u, rfl⟩ sF
      have sEL := sE.andZ sL
      refine nx_seq (nx_if (b := decide ((5 : Int) < (kept.length : Int))) sEL (evt_test (evd_op (evd_lenL (l := kept) (evd_var (d := rowsHL kept) rfl)) (evd_int (i := 5)) (rvd_I0 fun _ => .bl _))) (fun q => ?_) fun q => ?_)
      · exact nx_ret sEL (evd_var (d := rowsHT rs) rfl) fun v H oc ex hv => k v _ H ⟨rs, hrs, rfl⟩ oc ex.1 hv
      have k5 : kept.length ≤ 5 := by
        have := of_decide_eq_false q
        omega
      have hke : Even kept n := ⟨fun e => by rw [e] at hk; simp at hk, hn, by omega⟩
      refine nx_seq (nx_own (ds := ([] : List Row).map rowH) sEL (evn_lst eva_nil (by decide)) fun l H1 x1 f1 z1 => ?_)
      have hl' : l ∈ l :: Z := List.mem_cons_self
      have f0 : H0 l = none := Evl.fresh_back x1.1 f1
      have sO : ∀ more : List Row, Stb fun H => (Evl.Ex H0 H ∧ LF H) ∧ Own K (l :: Z) l (more.map rowH) H := fun more => sEL.and Own.stb
      refine nx_seq (nx_forN (sO []) (src_list (ds := (tups kept m).map rowsT) (evd_call (eva_cons ((evd_var (d := rowsHL kept) rfl).wk fun _ _ => lowL) (eva_cons (evd_var (d := .int (m : Int)) rfl) eva_nil)) ⟨kept, m, by omega, m3, .inr rfl, rfl⟩))
        (fun j ρ F => ∃ more : List Row, F = (fun H => (Evl.Ex H0 H ∧ LF H) ∧ Own K (l :: Z) l (more.map rowH) H) ∧ more.Nodup ∧ (∀ q ∈ more, q.length = n ∧ q ∉ kept) ∧ more.length ≤ j ∧ ∃ x y z, ρ = [some (rowsHT rs), some (rowD t), some (.int (m : Int)), some (rowsHL kept), x, some (.raw (.ref l)), y, z])
        ⟨[], rfl, List.nodup_nil, (fun q hq => absurd hq (by simp)), Nat.le_refl _, _, _, _, rfl⟩ ?_ ?_)
      · rintro LG sG j d ρ F hj ⟨more, rfl, nm, hm, ml, x, y, z, rfl⟩ sF2
        obtain ⟨one, ho, rfl⟩ := map_at hj
        have hom := List.mem_of_getElem? ho
        have hjl : j < (tups kept m).length := (List.getElem?_eq_some_iff.mp ho).1
        have tl := tups_le (rs := kept) (m := m) (by omega) m3
        obtain ⟨eo, lo⟩ := hke.tup m1 hom
        have sOL : ∀ more : List Row, Stb fun H => ((Evl.Ex H0 H ∧ LF H) ∧ Own K (l :: Z) l (more.map rowH) H) ∧ LG H := fun more => (sO more).andZ sG
        refine nx_seq (nx_asg (d := rowH (made t one)) (sOL more) (evd_call (eva_cons (evd_var (d := rowD t) rfl) (eva_cons (evd_var (d := rowsT one) rfl) eva_nil)) ⟨t, one, n, eo, by omega, by rw [lo]; exact ht, rfl, rfl⟩) ?_)
        refine nx_ifX (evxt_andR (a := decide (made t one ∉ kept)) (P2 := fun c => c = decide (made t one ∉ more)) (sOL more) (evt_test (evd_op ((evd_var (d := rowH (made t one)) rfl).wk fun _ _ => lowR) ((evd_var (d := rowsHL kept) rfl).wk fun _ _ => lowL) rvd_notInL)) fun _ => evxt_test (evx_notInOwn (rs := more) (l := l) rfl rfl fun H h => h.1.2) fun r hr => ⟨_, rfl, hr⟩) (fun c => ?_) fun c => ?_
        · obtain ⟨c1, c2⟩ := c.1 rfl
          have q1 := of_decide_eq_true c1
          have q2 := of_decide_eq_true c2.symm
          refine nx_appX (F2 := fun H => ((Evl.Ex H0 H ∧ LF H) ∧ Own K (l :: Z) l ((more ++ [made t one]).map rowH) H) ∧ LG H) hl' rfl ((evd_var (d := rowH (made t one)) rfl).x (sOL more)) (fun H h => ?_) (fun H v a h hz hv => ?_) ?_
          · obtain ⟨vs, g, _⟩ := h.1.2
            exact ⟨vs, g⟩
          · subst hz
            obtain ⟨⟨⟨e, hL⟩, vs, g1, g2⟩, hG⟩ := h
            have gl := g2.length
            rw [List.length_map] at gl
            refine ⟨vs, g1, by omega, ⟨⟨e.mut f0, ?_⟩, vs ++ [v], upd_same, ?_⟩, sG H _ (by rw [er_upd hl']; exact Evl.Ex.refl _) hG⟩
            · exact sL.fr H1 l x1.2 f1 H _ hL
            · rw [er_upd hl', List.map_append]
              exact g2.append (.cons hv .nil)
          · refine as_in ⟨more ++ [made t one], rfl, ?_, fun q hq => ?_, ?_, _, _, _, rfl⟩ (sO _)
            · exact List.nodup_append.mpr ⟨nm, by simp, fun x hx y hy => by rw [List.mem_singleton.mp hy]; exact fun z => q2 (z ▸ hx)⟩
            · rcases List.mem_append.mp hq with hq | hq
              · exact hm q hq
              · rw [List.mem_singleton.mp hq]; exact ⟨made_len hke m1 hom, q1⟩
            · rw [List.length_append]; simpa using ml
        · exact as_in ⟨more, rfl, nm, hm, by omega, _, _, _, rfl⟩ (sO more)
      · rintro ρ F ⟨more, rfl, nm, hm, ml, x, y, z, rfl⟩ sF2
        have ml' : more.length ≤ 4096 := Nat.le_trans ml (by rw [List.length_map]; exact tups_le (rs := kept) (m := m) (by omega) m3)
        refine nx_rel z1 (fun H h => h) (i := 5) rfl ?_
        refine nx_seq (nx_if (b := decide ((more.length : Int) = 0)) sEL (evt_test (evd_op (evd_lenL (l := more) (evd_var (d := rowsHL more) rfl)) (evd_int (i := 0)) rvd_eqI)) (fun q => ?_) fun q => ?_)
        · refine nx_break ?_
          exact (fin kept _ _ _ _ (fun e => by rw [e] at hk; simp at hk) nd hn k5).pre fun H h => h.1
        have mne : more.length ≠ 0 := by
          have := of_decide_eq_false q
          omega
        have cat : EvD K (tOp rCat (tVar 3) (tVar 5)) [some (rowsHT rs), some (rowD t), some (.int (m : Int)), some (rowsHL kept), x, some (rowsHL more), y, z] (rowsHL (kept ++ more)) := by
          unfold rowsHL
          rw [List.map_append]
          exact EvN.toD (evn_cat (evd_var rfl) (evd_var rfl) (by rw [List.length_map, List.length_map]; omega))
        show Nx K Z _ _ (tAsg (tOp rCat (tVar 3) (tVar 5)) (gName 3) _)
        refine nx_asg (d := rowsHL (kept ++ more)) sEL cat ?_
        refine as_in ⟨rfl, ?_, kept ++ more, ?_, ?_, fun q hq => ?_, _, _, _, _, rfl⟩ sE
        · omega
        · rw [List.length_append]; omega
        · exact List.nodup_append.mpr ⟨nd, nm, fun a ha b hb e => (hm b hb).2 (e ▸ ha)⟩
        · rcases List.mem_append.mp hq with hq | hq
          · exact hn q hq
          · exact (hm q hq).1
    · rintro ρ F ⟨rfl, h6, _⟩ sF
      rw [List.length_map, List.length_range] at h6
      exact absurd h6 (Nat.lt_irrefl _)
/-- one draw -/
theorem evx_take {Z : List Addr} {F : Hp → Prop} {ρ : Rh} {te : TE} {a b : Addr} {i c : Nat} (kp : Keep a b F) (ha : a ∈ Z) (hc : 0 < c) (h0 : ρ[i]? = some (some (.raw (.ref a)))) (h : EvX K Z F te ρ (· = .int (c : Int))) : EvX K Z F (tCall (HandSp K R_take) [] C8.E0 (tCons (tVar i) (tCons te tNil))) ρ (fun r => ∃ j : Nat, j < c ∧ r = .int (j : Int)) :=
  (evx_hand (PC := fun r => ∃ i : Int, 0 ≤ i ∧ i < (c : Int) ∧ r = .int i) kp ha h0 (evxa_one h) fun l hl => by
    obtain ⟨_, rfl, rfl⟩ := hl
    exact ⟨(c : Int), by omega, rfl, rfl⟩).imp fun r hr => by
    obtain ⟨i, i0, i1, rfl⟩ := hr
    exact ⟨i.toNat, by omega, by rw [Int.toNat_of_nonneg i0]⟩
/-- one of a list of numbers, drawn -/
theorem evx_pick {Z : List Addr} {F : Hp → Prop} {ρ : Rh} {te tl : TE} {a b : Addr} {i : Nat} {l : List Nat} {lo hi : Nat} (sF : Stb F) (kp : Keep a b F) (ha : a ∈ Z) (hl : 0 < l.length) (h0 : ρ[i]? = some (some (.raw (.ref a)))) (hd : EvD K tl ρ (.lst (l.map fun n : Nat => .int (n : Int)))) (h : EvX K Z F te ρ (· = .int (l.length : Int)))
    (ok : ∀ n ∈ l, lo ≤ n ∧ n ≤ hi) : EvX K Z F (tOp (rIx K) tl (tCall (HandSp K R_take) [] C8.E0 (tCons (tVar i) (tCons te tNil)))) ρ (fun r => ∃ n : Nat, (lo ≤ n ∧ n ≤ hi) ∧ r = .int (n : Int)) :=
  evx_op sF (hd.x sF) (evx_take kp ha hl h0 h) fun x y hx hy => by
    subst hx
    obtain ⟨j, hj, rfl⟩ := hy
    exact ⟨_, ⟨l[j], ok _ (List.getElem_mem hj), rfl⟩, rvd_ixl rfl (by rw [List.getElem?_map, List.getElem?_eq_getElem hj]; rfl)⟩
abbrev s__law_drawn_book : Stmt := topS 53
theorem sc__law_drawn_book : FnScope ["_law_hand", "_law_book_here", "_law_k", "_law_size", "_law_rows_here"] ["_law_hand"] (defScope s__law_drawn_book) := ⟨rfl, rfl, rfl, by decide +kernel, rfl, by decide +kernel, by decide +kernel⟩
-- slots: _law_hand 0, _law_book_here 1, _law_k 2, _law_size 3, _law_rows_here 4
/-- a relation that is drawn -/
def Drawn (rl : Nat × List Row) : Prop := Nice rl.2 rl.1 ∧ 1 ≤ rl.1 ∧ rl.1 ≤ 4
def R_dbook (ds : List Dt) (Pr : Dt → Prop) : Prop := ds = [] ∧ Pr = fun r => ∃ bk : List (Nat × List Row), 1 ≤ bk.length ∧ bk.length ≤ 3 ∧ (∀ rl ∈ bk, Drawn rl) ∧ r = .lst (bk.map rlHD)
theorem ok__law_drawn_book (T : Txt K mg) (C__law_take : C8.Cal P w K mg base 1 "_law_take" (HandSp K R_take) []) (C__law_rows : C8.Cal P w K mg base 2 "_law_rows" (HandSp K R_rows) []) (C__law_six : C8.Cal P w K mg base 1 "_law_six" (PureSp K R_six) []) (C__law_closed : C8.Cal P w K mg base 3 "_law_closed" (PureSpN K R_closed) [])
    (Fn : Fun K "_law_drawn_book" "_law_drawn_book" s__law_drawn_book f fd) : FnOk P w K mg base CX0 4 f fd ["_law_hand"] (HandSp K R_dbook) := by
  refine hand_ok Fn sc__law_drawn_book (fun ds r h => ?_) fun ds r h cdv A outer s H E hr => ?_
  · obtain ⟨rfl, _⟩ := h; rfl
  · obtain ⟨rfl, rfl⟩ := h
    refine ⟨_, (pss_cons (ps_set (i := 1) sc__law_drawn_book.nd rfl (Or.inl rfl) (pe_lst pa_nil))
      (pss_cons (ps_for PassesOwn.never rfl (pi_range1 rfl T.range (pa_cons (pe_ix (r := rIx K) ix_seq (pe_lst (pa_cons pe_int (pa_cons pe_int (pa_cons pe_int (pa_cons pe_int (pa_cons pe_int (pa_cons pe_int pa_nil))))))) (C8.pe_c C__law_take hr (by decide) rfl (pa_cons (pv 0) (pa_cons pe_int pa_nil))) (fun _ _ => rfl)) pa_nil)) (pg_name (i := 2) sc__law_drawn_book.nd rfl (Or.inl rfl))
        (pss_cons (ps_set (i := 3) sc__law_drawn_book.nd rfl (Or.inl rfl) (pe_ix (r := rIx K) ix_seq (pe_lst (pa_cons pe_int (pa_cons pe_int (pa_cons pe_int (pa_cons pe_int (pa_cons pe_int (pa_cons pe_int pa_nil))))))) (C8.pe_c C__law_take hr (by decide) rfl (pa_cons (pv 0) (pa_cons pe_int pa_nil))) (fun _ _ => rfl)))
        (pss_cons (ps_set (i := 4) sc__law_drawn_book.nd rfl (Or.inl rfl) (C8.pe_c C__law_rows hr (by decide) rfl (pa_cons (pv 0) (pa_cons (pv 3) (pa_cons (pe_ix (r := rIx K) ix_seq (pe_lst (pa_cons pe_int (pa_cons pe_int (pa_cons pe_int pa_nil)))) (C8.pe_c C__law_take hr (by decide) rfl (pa_cons (pv 0) (pa_cons pe_int pa_nil))) (fun _ _ => rfl)) pa_nil)))))
        (pss_cons (ps_if (pt_cmpR op_eq (C8.pe_c C__law_take hr (by decide) rfl (pa_cons (pv 0) (pa_cons pe_int pa_nil))) pe_int (nomark _)) (pss_one (ps_set (i := 4) sc__law_drawn_book.nd rfl (Or.inl rfl) (C8.pe_c C__law_closed hr (by decide) rfl (pa_cons (pv 4) (pa_cons (pe_ix (r := rIx K) ix_seq (pe_ix (r := rIx K) ix_seq (pe_c0 C__law_six hr (by decide) rfl) (C8.pe_c C__law_take hr (by decide) rfl (pa_cons (pv 0) (pa_cons pe_int pa_nil))) (fun _ _ => rfl)) pe_int (fun _ _ => rfl)) pa_nil))))) pss_nil)
        (pss_one (ps_expr (pe_bmC (K := K) rfl (pe_bm PySem.F.plainAttrs_list PySem.F.slot_list_append PySem.F.type_list_append mt_append (pv 1) (pa_cons (pe_tup (pa_cons (pv 3) (pa_cons (pv 4) pa_nil))) pa_nil)))))))))
      (pss_one (ps_ret (pv 1))))), fun Z a b H0 D ha h0 k => ?_⟩
    have sB := base_stb (a := a) (b := b) (H0 := H0)
    have kb := base_keep (a := a) (b := b) (H0 := H0)
    refine nx_seq (nx_own (ds := ([] : List (Nat × List Row)).map rlHD) sB (evn_lst eva_nil (by decide)) fun l H1 f1 n1' z1 => ?_)
    have la := (base_ne f1 n1').1
    have ha' : a ∈ l :: Z := List.mem_cons_of_mem _ ha
    have hl' : l ∈ l :: Z := List.mem_cons_self
    have sO : ∀ bk : List (Nat × List Row), Stb fun H => Base a b H0 H ∧ Own K (l :: Z) l (bk.map rlHD) H := fun bk => sB.and Own.stb
    have kO : ∀ bk : List (Nat × List Row), Keep a b fun H => Base a b H0 H ∧ Own K (l :: Z) l (bk.map rlHD) H := fun bk => own_keep ha' la kb
    have l6 : ∀ {a b c d e f : Int} {ρ : Rh}, EvD K (tLst (tCons (tC (.int a)) (tCons (tC (.int b)) (tCons (tC (.int c)) (tCons (tC (.int d)) (tCons (tC (.int e)) (tCons (tC (.int f)) tNil))))))) ρ (.lst [.int a, .int b, .int c, .int d, .int e, .int f]) := EvN.toD (evn_lst (eva_cons evd_int (eva_cons evd_int (eva_cons evd_int (eva_cons evd_int (eva_cons evd_int (eva_cons evd_int eva_nil)))))) (by show 6 ≤ 100000; decide))
    have l3 : ∀ {a b c : Int} {ρ : Rh}, EvD K (tLst (tCons (tC (.int a)) (tCons (tC (.int b)) (tCons (tC (.int c)) tNil)))) ρ (.lst [.int a, .int b, .int c]) := EvN.toD (evn_lst (eva_cons evd_int (eva_cons evd_int (eva_cons evd_int eva_nil))) (by show 3 ≤ 100000; decide))
    refine nx_seq (nx_forX (PL := fun ds => ∃ c, (1 ≤ c ∧ c ≤ 3) ∧ ds = upTo 0 c) (srcx_rng1 (PN := fun c => 1 ≤ c ∧ c ≤ 3) (PL := fun l => ∃ a, (∃ c : Nat, (1 ≤ c ∧ c ≤ 3) ∧ a = .int (c : Int)) ∧ l = [a]) (evxa_one (evx_pick (l := [1, 1, 1, 2, 2, 3]) (lo := 1) (hi := 3) (sO []) (kO []) ha' (by decide) rfl l6 ((evd_int (i := 6)).x (sO [])) (by decide))) fun l hl => ?_)
      (fun _ => [2]) (fun d => [d]) (fun ds k ρ F => ∃ bk : List (Nat × List Row), F = (fun H => Base a b H0 H ∧ Own K (l :: Z) l (bk.map rlHD) H) ∧ bk.length = k ∧ (∀ rl ∈ bk, Drawn rl) ∧ ∃ x y z, ρ = [some (.raw (.ref a)), some (.raw (.ref l)), x, y, z]) (fun _ _ _ _ => gd_name) (fun ds hds => ⟨[], rfl, rfl, (fun q hq => absurd hq (by simp)), _, _, _, rfl⟩) (sO []) ?_ ?_)
    · obtain ⟨_, ⟨c, hc, rfl⟩, rfl⟩ := hl
      exact ⟨c, hc, by omega, rfl⟩
    · rintro ds ⟨c, ⟨c1, c2⟩, rfl⟩ LF sL i d ρ F hi ⟨bk, rfl, hbl, hbk, x, y, z, rfl⟩ sF
      obtain ⟨hic, rfl⟩ := upTo_of hi
      have kG : Keep a b fun H => (Base a b H0 H ∧ Own K (l :: Z) l (bk.map rlHD) H) ∧ LF H := keep_and ha' (kO bk) sL
      have sG : Stb fun H => (Base a b H0 H ∧ Own K (l :: Z) l (bk.map rlHD) H) ∧ LF H := (sO bk).andZ sL
      refine nx_seq (nx_asgX (evx_pick (l := [1, 2, 2, 3, 3, 4]) (lo := 1) (hi := 4) sG kG ha' (by decide) rfl l6 ((evd_int (i := 6)).x sG) (by decide)) fun r hr => ?_)
      obtain ⟨n, ⟨n1, n4⟩, rfl⟩ := hr
      refine nx_asgXS (PA := fun r => ∃ rs : List Row, Nice rs n ∧ r = rowsHT rs) ((evx_hand (PL := fun l => ∃ m : Nat, (1 ≤ m ∧ m ≤ 7) ∧ l = [.int (n : Int), .int (m : Int)]) (PC := fun r => ∃ rs : List Row, rs ≠ [] ∧ (∀ q ∈ rs, q.length = n) ∧ asc rs ∧ rs.length ≤ 7 ∧ r = rowsHT rs) kG ha' rfl (evxa_cons ((evd_var (d := .int (n : Int)) rfl).x sG) (evxa_one (evx_pick (l := [2, 4, 7]) (lo := 1) (hi := 7) sG kG ha' (by decide) rfl l3 ((evd_int (i := 3)).x sG) (by decide))) fun x rs hx hr => ?_) fun l hl => ?_).imp fun r hr => ?_) fun r hr => ?_
      · subst hx
        obtain ⟨_, ⟨m, hm, rfl⟩, rfl⟩ := hr
        exact ⟨m, hm, rfl⟩
      · obtain ⟨m, ⟨m1, m7⟩, rfl⟩ := hl
        exact ⟨n, m, n1, n4, m1, m7, rfl, rfl⟩
      · obtain ⟨rs, h1, h2, h3, h4, rfl⟩ := hr
        exact ⟨rs, ⟨h1, h2, h3, h4⟩, rfl⟩
      obtain ⟨rs, hrs, rfl⟩ := hr
      refine nx_cut (fun ρ F => F = (fun H => (Base a b H0 H ∧ Own K (l :: Z) l (bk.map rlHD) H) ∧ LF H) ∧ ∃ ss : List Row, Nice ss n ∧ ∃ x, ρ = [some (.raw (.ref a)), some (.raw (.ref l)), x, some (.int (n : Int)), some (rowsHT ss)]) (fun N hN => ?_) ?_
      · refine nx_ifX (PT := fun _ => True) (evxt_test (PA := fun z => ∃ b, z = .bl b) (evx_op sG (evx_take (c := 2) kG ha' (by decide) rfl ((evd_int (i := 2)).x sG)) ((evd_int (i := 0)).x sG) fun x y hx hy => ?_) fun r hr => ?_) (fun _ => ?_) fun _ => hN _ _ ⟨rfl, rs, hrs, _, rfl⟩
        · obtain ⟨j, _, rfl⟩ := hx
          subst hy
          exact ⟨_, ⟨_, rfl⟩, rvd_eqI⟩
        · obtain ⟨b, rfl⟩ := hr
          exact ⟨b, trivial, rfl⟩
        · refine nx_asgX (PA := fun r => ∃ ss : List Row, Nice ss n ∧ r = rowsHT ss) (evx_callN (PL := fun l => ∃ i, i < 6 ∧ l = [rowsHT rs, rowD (sixT i)]) sG (evxa_cons ((evd_var (d := rowsHT rs) rfl).x sG) (evxa_one (evx_op (PA := fun r => ∃ i, i < 6 ∧ r = .tup [.str (wordAt i), rowD (sixT i)]) (PC := fun r => ∃ i, i < 6 ∧ r = rowD (sixT i)) sG (evx_op sG ((evd_call eva_nil ⟨rfl, rfl⟩).x sG) (evx_take (c := 6) kG ha' (by decide) rfl ((evd_int (i := 6)).x sG)) fun x y hx hy => ?_) ((evd_int (i := 1)).x sG) fun x y hx hy => ?_)) fun x l hx hl => ?_) fun l hl => ?_) fun r hr => ?_
          · subst hx
            obtain ⟨j, hj, rfl⟩ := hy
            exact ⟨_, ⟨j, hj, rfl⟩, rvd_ixl rfl (by rw [List.getElem?_map, List.getElem?_range hj]; rfl)⟩
          · obtain ⟨i, hi, rfl⟩ := hx
            subst hy
            exact ⟨_, ⟨i, hi, rfl⟩, rvd_ixt (n := 1) rfl rfl⟩
          · subst hx
            obtain ⟨_, ⟨i, hi, rfl⟩, rfl⟩ := hl
            exact ⟨i, hi, rfl⟩
          · obtain ⟨i, hi, rfl⟩ := hl
            obtain ⟨m1, m3⟩ := six_m i
            exact ⟨rs, n, sixM i, sixT i, hrs, n1, n4, m1, m3, six_len i, rfl, rfl⟩
          · obtain ⟨ss, hss, rfl⟩ := hr
            exact hN _ _ ⟨rfl, ss, hss, _, rfl⟩
      · rintro ρ F ⟨rfl, ss, hss, x, rfl⟩
        refine nx_appX (PA := (· = rlHD (n, ss))) (F2 := fun H => (Base a b H0 H ∧ Own K (l :: Z) l ((bk ++ [(n, ss)]).map rlHD) H) ∧ LF H) hl' rfl ((evd_tup (eva_cons (evd_var (d := .int (n : Int)) rfl) (eva_cons (evd_var (d := rowsHT ss) rfl) eva_nil)) (by show 2 ≤ 100000; decide)).x sG) (fun H h => ?_) (fun H v q h hq hv => ?_) ?_
        · obtain ⟨vs, g, _⟩ := h.1.2
          exact ⟨vs, g⟩
        · subst hq
          obtain ⟨⟨hb, vs, g1, g2⟩, hL⟩ := h
          have gl := g2.length
          rw [List.length_map] at gl
          refine ⟨vs, g1, by omega, ⟨base_upd f1 n1' hb, vs ++ [v], upd_same, ?_⟩, sL H _ (by rw [er_upd hl']; exact Evl.Ex.refl _) hL⟩
          rw [er_upd hl', List.map_append]
          exact g2.append (.cons hv .nil)
        · refine as_in ⟨bk ++ [(n, ss)], rfl, by rw [List.length_append, hbl]; rfl, fun rl hrl => ?_, _, _, _, rfl⟩ (sO _)
          rcases List.mem_append.mp hrl with hrl | hrl
          · exact hbk rl hrl
          · rw [List.mem_singleton.mp hrl]; exact ⟨hss, n1, n4⟩
    · rintro ds ⟨c, ⟨c1, c2⟩, rfl⟩ ρ F ⟨bk, rfl, hbl, hbk, x, y, z, rfl⟩ sF
      rw [upTo_len] at hbl
      refine nx_rel z1 (fun H h => h) (i := 1) rfl ?_
      exact nx_ret sB (evd_var (d := .lst (bk.map rlHD)) rfl) fun v H oc f hv => k v _ H ⟨bk, by omega, by omega, hbk, rfl⟩ oc f.1 f.2 hv
abbrev s__law_drawn_term : Stmt := topS 58
theorem sc__law_drawn_term : FnScope ["_law_hand", "_law_depth", "_law_k"] ["_law_hand", "_law_depth"] (defScope s__law_drawn_term) := ⟨rfl, rfl, rfl, by decide +kernel, rfl, by decide +kernel, by decide +kernel⟩
-- slots: _law_hand 0c, _law_depth 1c, _law_k 2
def R_dterm (n : Nat) (ds : List Dt) (Pr : Dt → Prop) : Prop := ∃ d : Nat, d < n ∧ ds = [.int (d : Int)] ∧ Pr = fun r => ∃ tm : Tm, tm.ok = true ∧ tm.depth ≤ d ∧ r = tmD tm
theorem evxt_or {Z : List Addr} {F : Hp → Prop} {ρ : Rh} {t u : TT} {a : Bool} {P2 : Bool → Prop} (sF : Stb F) (h1 : EvT K t ρ a) (h2 : EvXT K Z F u ρ P2) : EvXT K Z F (tOr t u) ρ fun b => b = false → a = false := fun σ H Q o s f k =>
  h1 Z σ H _ o s fun H1 e1 => by
    cases a with
    | true =>
      show Q true H1
      exact k true H1 (fun z => nomatch z) (er_ex e1) (o.ex e1) (sF _ _ e1 f)
    | false =>
      show u σ H1 Q
      exact h2 σ H1 Q (o.ex e1) (s.mono (er_ex e1)) (sF _ _ e1 f) fun b2 H2 p2 e2 o2 f2 => k b2 H2 (fun _ => rfl) ((er_ex e1).trans e2) o2 f2
theorem ok__law_drawn_term (T : Txt K mg) (C__law_take : C8.Cal P w K mg base 1 "_law_take" (HandSp K R_take) []) (hm : mg "_law_drawn_term" = some (.ref f)) (b : Binds K fd ["_law_hand", "_law_depth"] [])
    (Fn : Fun K "_law_drawn_term" "_law_drawn_term" s__law_drawn_term f fd) : ∀ n, C8.Cal P w K mg base (n + 1) "_law_drawn_term" (HandSp K (R_dterm n)) []
  | 0 => ⟨f, fd, ["_law_hand", "_law_depth"], [], ⟨fun vs H Q E h => by obtain ⟨_, _, _, _, _, _, _, _, _, _, _, ⟨_, h, _⟩, _⟩ := h; exact absurd h (Nat.not_lt_zero _), fun A outer s H args us vs Q E _ _ _ _ h => by obtain ⟨_, _, _, _, _, _, _, _, _, _, _, ⟨_, h, _⟩, _⟩ := h; exact absurd h (Nat.not_lt_zero _)⟩, hm, Fn.kp, b, .nil⟩
  | n + 1 => by
    have C__law_drawn_term := ok__law_drawn_term T C__law_take hm b Fn n
    refine ⟨f, fd, _, [], hand_ok Fn sc__law_drawn_term (fun ds r h => ?_) (fun ds r h cdv A outer s H E hr => ?_), hm, Fn.kp, b, .nil⟩
    · obtain ⟨_, _, rfl, _⟩ := h; rfl
    obtain ⟨d, hd, rfl, rfl⟩ := h
    have le1 : 1 ≤ n + 1 := by omega
    refine ⟨_, (pss_cons (ps_if (PW.pt (pw_or (pt_cmpR op_eq (pv 1) pe_int (nomark _)) (pw_or1 (pt_cmpR op_eq (C8.pe_c C__law_take hr le1 rfl (pa_cons (pv 0) (pa_cons pe_int pa_nil))) pe_int (nomark _))))) (pss_one (ps_ret (C8.pe_c C__law_take hr le1 rfl (pa_cons (pv 0) (pa_cons pe_int pa_nil))))) pss_nil)
      (pss_one (ps_ret (pe_callTy (r := rTupO K) call_tuple_of (by rfl) T.tuple (by decide +kernel) (pa_cons (pe_lc (own := [("_law_k", 2)]) (g := (gName 2)) (tt := tYes) rfl sc__law_drawn_term.nd (pi_range1 rfl T.range (pa_cons pe_int pa_nil)) (blkOk_by (by kernel_rfl)) (fun _ _ _ _ _ => (pg_name (i := 2) sc__law_drawn_term.nd rfl (Or.inl rfl))) (fun _ _ _ _ _ => pts_nil) (fun _ _ _ _ _ => (C8.pe_c C__law_drawn_term hr (Nat.le_refl _) rfl (pa_cons (pv 0) (pa_cons (pe_op op_sub (pv 1) pe_int) pa_nil))))) pa_nil))))), fun Z a b H0 D ha h0 k => ?_⟩
    have sB := base_stb (a := a) (b := b) (H0 := H0)
    have kb := base_keep (a := a) (b := b) (H0 := H0)
    refine nx_seq (nx_ifX (PT := fun c => c = false → decide ((d : Int) = 0) = false) (evxt_or (P2 := fun _ => True) sB (evt_test (evd_op (evd_var (d := .int (d : Int)) rfl) (evd_int (i := 0)) rvd_eqI)) (evxt_test (PA := fun z => ∃ b, z = .bl b) (evx_op sB (evx_take (c := 3) kb ha (by decide) rfl ((evd_int (i := 3)).x sB)) ((evd_int (i := 0)).x sB) fun x y hx hy => ?_) fun r hr => ?_)) (fun _ => ?_) fun q => ?_)
    · obtain ⟨j, _, rfl⟩ := hx
      subst hy
      exact ⟨_, ⟨_, rfl⟩, rvd_eqI⟩
    · obtain ⟨b, rfl⟩ := hr
      exact ⟨b, trivial, rfl⟩
    · refine nx_retX (evx_take (c := 3) kb ha (by decide) rfl ((evd_int (i := 3)).x sB)) fun v r H hr oc f hv => ?_
      obtain ⟨j, hj, rfl⟩ := hr
      exact k v _ H ⟨.pl j, decide_eq_true hj, Nat.zero_le _, rfl⟩ oc f.1 f.2 hv
    · have hd0 : d ≠ 0 := by
        have := of_decide_eq_false (q rfl)
        omega
      refine nx_retX (PA := fun r => ∃ tm : Tm, tm.ok = true ∧ tm.depth ≤ d ∧ r = tmD tm) (evx_callB sB (evxa_one (evx_lc (PA := fun r => ∃ tm : Tm, tm.ok = true ∧ tm.depth ≤ d - 1 ∧ r = tmD tm) (src_rangeM (n := 3) (eva_cons (evd_int (i := 3)) eva_nil) (by decide)) sB (fun A H1 h1 hA H u h => base_upd h1 hA h) (by decide) fun A H1 h1 hA acc i x hx => ?_)) fun l hl => ?_) fun v r H hr oc f hv => k v r H hr oc f.1 f.2 hv
      · have sA : Stb fun H => Base a b H0 H ∧ H A = some (.lst acc) := sB.and fun _ _ e h => e _ _ h
        have kA : Keep a b fun H => Base a b H0 H ∧ H A = some (.lst acc) := ⟨fun H h => kb.1 H h.1, fun H H' e hh h => ⟨kb.2 H H' e hh h.1, er_sub _ _ (e A _ (by rw [er_out (by simpa using (base_ne h1 hA).1)]; exact h.2))⟩⟩
        obtain ⟨j, hj, rfl⟩ := map_at hx
        refine evx_hand kA (List.mem_cons_of_mem _ ha) rfl (evxa_one ((evd_i0 (f := fun a b => a - b) (evd_var (d := .int (d : Int)) rfl) (evd_int (i := 1))).x sA)) fun l hl => ?_
        obtain ⟨_, rfl, rfl⟩ := hl
        exact ⟨d - 1, by omega, by rw [show ((d - 1 : Nat) : Int) = (d : Int) - 1 by omega], rfl⟩
      · obtain ⟨_, ⟨rs, hlen, hrs, rfl⟩, rfl⟩ := hl
        match rs, hlen, hrs with
        | [x, y, z], _, hrs =>
          obtain ⟨t1, o1, d1, rfl⟩ := hrs x (by simp)
          obtain ⟨t2, o2, d2, rfl⟩ := hrs y (by simp)
          obtain ⟨t3, o3, d3, rfl⟩ := hrs z (by simp)
          refine ⟨_, ⟨.ap t1 t2 t3, ?_, ?_, rfl⟩, rc_tupL⟩
          · show (t1.ok && t2.ok && t3.ok) = true
            rw [o1, o2, o3]; rfl
          · show max t1.depth (max t2.depth t3.depth) + 1 ≤ d
            omega
end
end Ec
/-! The law's def entered from the claim's caller, whose guards are known: so repr of data is known. -/
namespace Ec
open PySem L2 PyProof.Rows
theorem deep_guards {A : Around} {env : Env} : (A.deeper env).guards = A.guards := rfl
/-- a def's call, its body run at this one entry -/
theorem run_at {cx : CXT} {P : Program} {w : World} {K : PySem.W.Frag} {mg : Str → Option Value} {base : Heap} {k : Nat} {f : Addr} {nm ql : Str} {prm : Arguments} {bd : List Stmt} {sc : Scope} {dV kV doc pm cdv ct oc : Value} {an od : Option Addr} {osl : Array (Option Value)}
    {N ps : List Str} {A : Around} {out : List Env} {t0 : Shared} {H : Hp} {args : Args} {us : List Value} {vs : List V} {Q : VK} {E : XK} (lk : K.lookup f = some ⟨oc, od, .func (PySem.W.fnOf nm ql prm bd sc dV kV doc pm an cdv ct), osl⟩) (cd : PySem.W.codeIn K cdv ql = true) (S : FnScope N ps sc)
    (room : Room (k + 1) A) (e0 : Env0 P w K mg base A out t0 H) (bt : BindsTo t0 (PySem.W.fnOf nm ql prm bd sc dV kV doc pm an cdv ct) args (ps.zip us)) (rel : Vals vs us) (len : vs.length = ps.length)
    (h : ∃ t, PSs (cxOf cx P w K mg base N ql sc f cdv A out t0 H E) bd t ∧ t { nx := fun _ H' => Q .non H', rt := Q } (L2.start N vs) H) : codeAny (model P w) A (.call (.ref f) args) (CR cx out P w H t0 Q E) t0 := by
  have kin : K.In t0.heap := e0.mod.kin.keeps fun b o z => (e0.bs b o z).1
  have nolim : t0.heap.NoLimit := e0.mod.nolimit.keeps fun b o z => (e0.bs b o z).1
  obtain ⟨t, h1, h2⟩ := h
  refine codeAny_call_function room.depth (kin _ _ lk) rfl S.co S.gen rfl (PySem.W.codeRec_of kin cd) (bt _ _ _ _ ?_)
  refine wpAny_newFunctionEnv_cells S.kind (fun ⟨n, v⟩ hy => (S.par n (List.of_mem_zip hy).1).elim .inl fun q => .inr ⟨q, PySem.W.cellsFrom_some _ _ _ (.inl q)⟩) fun env eenv t1 inn => ?_
  subst eenv
  refine ⟨nolim.keeps inn.toInCall.keep, codeAny_func ?_⟩
  have I : Inv (cxOf cx P w K mg base N ql sc f cdv A out t0 H E) [] (L2.start N vs) H t1 := inv_start S room.hd e0 len rel inn
  refine wpAny_mono (h1.run [] t1 (L2.start N vs) H _ I h2) (fun fl t2 hs => ?_) fun e t2 hs => hs
  have back : ∀ {σ' : L2.St} {H' : Hp} {v : V} {u : Value}, Inv (cxOf cx P w K mg base N ql sc f cdv A out t0 H E) [] σ' H' t2 → RelV v u → Q v H' → CE out P w H t0 Q u t2 := fun {_ H' v _} J rv q => ⟨v, H', J.os, J.bare, J.base, J.hok, rv, q⟩
  cases fl with
  | ret u => exact let ⟨v, σ', H', J, rv, q⟩ := hs; back J rv q
  | next => exact let ⟨σ', H', J, q⟩ := hs; back (v := V.non) (u := Value.none) J rfl q
  | brk => exact let ⟨_, _, _, q⟩ := hs; False.elim q
  | cont => exact let ⟨_, _, _, q⟩ := hs; False.elim q
/-- the law called behind the top -/
theorem law_at {P : Program} {w : World} {K : PySem.W.Frag} {mg mb : Str → Option Value} {fa a : Addr} {t1 : Shared} {vs : List Value} {ns : List Int} (kin : K.In t1.heap) (gl : t1.heap.Ns mainGlobals mg) (bl : t1.heap.Ns builtinsNs mb) (bb : ∀ x : Str, x ≠ "__name__" → mb x = bootBuiltins x)
    (nolim : t1.heap.NoLimit) (gens : t1.gens = #[]) (ha : t1.heap.get? a = some { cls := .type "list", data := .seq vs.toArray }) (hi : IntsAre vs ns) (hz : ns.length ≤ sizeLine)
    (run : ∀ base : Heap, K.In base → base.Ns mainGlobals mg → ∀ H : Hp, SqL K H a (ns.map V.int) → Env0 P w K mg base callerA [] t1 H → codeAny (model P w) callerA (.call (.ref fa) ⟨[.ref a], []⟩) (CR CX0 [] P w H t1 (fun v _ => v = .bl true) fun _ _ _ => False) t1) :
    codeAny (model P w) callerA (.call (.ref fa) ⟨[.ref a], []⟩) (fun r t2 => r = .ok (.ret (.bool true)) ∧ PySem.OldK t1.heap t2.heap ∧ t2.os = t1.os ∧ AllBare t2.gens) t1 := by
  have rv := vals_ints hi
  -- the heap that is told: nothing, or the script alone
  have go : ∀ H : Hp, Only H → SqL K H a (ns.map V.int) → HOk P w H t1.heap → (∀ b, H b ≠ none → b = a ∧ K.lookup b = none) →
      codeAny (model P w) callerA (.call (.ref fa) ⟨[.ref a], []⟩) (fun r t2 => r = .ok (.ret (.bool true)) ∧ PySem.OldK t1.heap t2.heap ∧ t2.os = t1.os ∧ AllBare t2.gens) t1 := fun H only sq hok alone => by
    have free : ∀ {b : Addr}, (b = a → K.lookup b = none → False) → H b = none := fun {b} q => by
      cases z : H b with
      | none => rfl
      | some u => exact let ⟨z1, z2⟩ := alone b (by rw [z]; simp); (q z1 z2).elim
    have names : ∀ {b : Addr} {m : Str → Option Value}, t1.heap.Ns b m → (hidT t1.heap H).Ns b m := fun {b m} ⟨o, es, ep, e, d, r⟩ => ⟨o, es, ep, hidT_get e (free fun z _ => by
      subst z
      rw [ha] at e
      cases e
      exact nomatch (show Data.seq vs.toArray _ = Data.dict es ep from d)), d, r⟩
    have kb : K.In (hidT t1.heap H) := fun b o e => hidT_get (kin b o e) (free fun _ z => by rw [e] at z; cases z)
    have e0 : Env0 P w K mg (hidT t1.heap H) callerA [] t1 H := ⟨rfl, ⟨kb, names gl, ⟨mb, names bl, bb⟩, let ⟨mc, q1, q2⟩ := nolim; ⟨mc, names q1, q2⟩⟩, fun b o e => of_hidT e, Nat.le_of_eq (hidT_size _ _), trivial, (fun b hb => nomatch (show b ∈ ([] : List Addr) from hb)), hok, .of_eq gens⟩
    refine codeAny_mono (run _ kb (names gl) H sq e0) fun r t2 h => ?_
    match r, h with
    | .error e, h => exact False.elim h
    | .ok .next, h => exact False.elim h
    | .ok .brk, h => exact False.elim h
    | .ok .cont, h => exact False.elim h
    | .ok (.ret u), h =>
      obtain ⟨v, H', os, bare, un, hok', ru, (rfl : v = .bl true)⟩ := h
      obtain rfl : u = Value.bool true := ru
      refine ⟨rfl, PySem.OldK.of_keep fun b o e => ?_, os, bare⟩
      rcases only b with z | ⟨ob, xs, z⟩
      · exact un.keep b o e z (by intro q; exact absurd (show b ∈ ([] : List Addr) from q) (by simp)) (by simp)
      · obtain ⟨g1, _⟩ := hok b _ z
        obtain ⟨g2, _⟩ := hok' b _ (un.frzs b ob _ z)
        rw [e] at g1
        cases g1
        exact g2
  cases hk : K.lookup a with
  | some o =>
    have e := kin a o hk
    rw [ha] at e
    cases e
    exact go (fun _ => none) (fun _ => .inl rfl) (.inr ⟨_, vs.toArray, _, hk, rfl, rfl, rfl, by rw [List.size_toArray, hi.length]; exact hz, by simpa using rv⟩) (fun b u z => nomatch (show (none : Option HO) = some u from z)) fun b z => absurd rfl z
  | none =>
    refine go (upd (fun _ => none) a (.frz { cls := .type "list", data := .seq vs.toArray } (.lst (ns.map V.int)))) (fun b => ?_) (.inl (.inr ⟨{ cls := .type "list", data := .seq vs.toArray }, upd_same⟩)) (fun b u z => ?_) fun b z => ?_
    · by_cases hb : b = a
      · subst hb
        exact .inr ⟨_, _, upd_same⟩
      · exact .inl (upd_ne hb)
    · by_cases hb : b = a
      · subst hb
        rw [upd_same] at z
        cases z
        exact ⟨ha, by rw [List.length_map]; exact hz, vs, _, rv, ha⟩
      · rw [upd_ne hb] at z
        cases z
    · by_cases hb : b = a
      · exact ⟨hb, hb ▸ hk⟩
      · exact absurd (upd_ne hb) z
/-! ### repr of data -/
/-- repr(v), v data: None or a tuple -/
def rRep (K : PySem.W.Frag) : List V → Hp → VK → Prop := fun xs H Q => ∃ (v : V) (d : PyData), xs = [v] ∧ Dp K H v d ∧ ((v = .non ∧ d = .none) ∨ ∃ a, v = .ref a) ∧ d.showable = true ∧ d.hasDict = false ∧ d.depth ≤ 60 ∧ d.shown.length ≤ sizeLine ∧ Q (.str d.shown) H
theorem call_rep {X : Cx} (hg : X.A.guards = some []) (hu : X.A.units + 64 < cLine) : CallR X (.builtin "repr") (rRep X.K) := by
  intro ps s σ H xs us Q I r h
  obtain ⟨v, d, rfl, hd, hv, h1, h2, h3, h4, q⟩ := h
  obtain ⟨u, rfl, rx⟩ := vals1 r
  rcases hv with ⟨rfl, rfl⟩ | ⟨a, rfl⟩
  · cases rx
    exact PySem.P.repr_of_none ⟨.str "None", H, I.tok _, ⟨_, rfl⟩, q⟩
  · obtain ⟨as, rd⟩ := Dp.reads I d _ u hd rx
    cases (show u = Value.ref a from rx)
    exact repr_of_reads' rd h1 (PyData.noDict_hsm h2) hg (by omega) (fun _ _ e => e) (fun h' u tk keep => ⟨.str d.shown, H, I.kept (t' := tk) keep, ⟨u, rfl⟩, q⟩) h4
/-- data that repr tells -/
def Told (d : Dt) : Prop := d.pure = true ∧ (d = .non ∨ ∃ ds, d = .tup ds) ∧ d.py.showable = true ∧ d.py.hasDict = false ∧ d.py.depth ≤ 60 ∧ d.py.shown.length ≤ sizeLine
theorem rc_rep {K : PySem.W.Frag} {d : Dt} (t : Told d) : RcD K (rRep K) [d] (.str d.py.shown) := fun Z H vs Q oc h k => by
  obtain ⟨v, rfl, hv⟩ := ddl1 h
  obtain ⟨t1, t2, t3, t4, t5, t6⟩ := t
  refine ⟨v, d.py, rfl, (hv.mono er_sub).dp t1, ?_, t3, t4, t5, t6, k _ H (Evl.Ex.refl H) (.str _)⟩
  rcases t2 with rfl | ⟨ds, rfl⟩
  · cases hv
    exact .inl ⟨rfl, rfl⟩
  · obtain ⟨a, _, rfl, _, _⟩ := hv.sqT
    exact .inr ⟨a, rfl⟩
theorem showAll {α : Type} (f : α → Dt) (l : List α) (h : ∀ a ∈ l, (f a).py.showable = true) : PyData.showableAll (Dt.pyL (l.map f)) = true := by
  induction l with
  | nil => rfl
  | cons a l ih =>
    show (PyData.showable (f a).py && PyData.showableAll (Dt.pyL (l.map f))) = true
    rw [h a List.mem_cons_self, ih fun b hb => h b (List.mem_cons_of_mem _ hb)]; rfl
theorem noDictAll {α : Type} (f : α → Dt) (l : List α) (h : ∀ a ∈ l, (f a).py.hasDict = false) : PyData.hasDictAll (Dt.pyL (l.map f)) = false := by
  induction l with
  | nil => rfl
  | cons a l ih =>
    show (PyData.hasDict (f a).py || PyData.hasDictAll (Dt.pyL (l.map f))) = false
    rw [h a List.mem_cons_self, ih fun b hb => h b (List.mem_cons_of_mem _ hb)]; rfl
theorem shortAll {α : Type} (f : α → Dt) (l : List α) (h : ∀ a ∈ l, (f a).py.leavesShort 13 = true) : PyData.leavesShortAll 13 (Dt.pyL (l.map f)) = true := by
  induction l with
  | nil => rfl
  | cons a l ih =>
    show (PyData.leavesShort 13 (f a).py && PyData.leavesShortAll 13 (Dt.pyL (l.map f))) = true
    rw [h a List.mem_cons_self, ih fun b hb => h b (List.mem_cons_of_mem _ hb)]; rfl
theorem weighAll {α : Type} (f : α → Dt) (l : List α) (n : Nat) (h : ∀ a ∈ l, (f a).py.weight ≤ n) : PyData.weightAll (Dt.pyL (l.map f)) ≤ l.length * (n + 1) := by
  induction l with
  | nil => exact Nat.zero_le _
  | cons a l ih =>
    have q := ih fun b hb => h b (List.mem_cons_of_mem _ hb)
    have q1 := h a List.mem_cons_self
    show PyData.weight (f a).py + 1 + PyData.weightAll (Dt.pyL (l.map f)) ≤ (l.length + 1) * (n + 1)
    rw [Nat.add_mul, Nat.one_mul]
    omega
theorem bit_show (b : Bool) : (bitD b).py.showable = true := by cases b <;> rfl
theorem bit_short (b : Bool) : (bitD b).py.leavesShort 13 = true := by cases b <;> decide +kernel
theorem bit_weight (b : Bool) : (bitD b).py.weight ≤ 1 := by cases b <;> decide +kernel
theorem row_show (r : Row) : (rowD r).py.showable = true := showAll bitD r fun b _ => bit_show b
theorem row_noDict (r : Row) : (rowD r).py.hasDict = false := noDictAll bitD r fun b _ => rfl
theorem row_short (r : Row) : (rowD r).py.leavesShort 13 = true := shortAll bitD r fun b _ => bit_short b
theorem row_weight (r : Row) : (rowD r).py.weight ≤ r.length * 2 := weighAll bitD r 1 fun b _ => bit_weight b
theorem told_row {r : Row} (h : r.length ≤ 1000) : Told (rowD r) := by
  have w := row_weight r
  exact ⟨row_pure r, .inr ⟨_, rfl⟩, row_show r, row_noDict r, Nat.le_trans (row_dep r) (by decide), PyData.shown_fits (B := 13) (by decide) (by decide) (row_short r) (by omega)⟩
theorem nat_short {k : Nat} (h : k < 1000) : (Dt.int (k : Int)).py.showable = true ∧ (Dt.int (k : Int)).py.leavesShort 13 = true ∧ (Dt.int (k : Int)).py.weight ≤ 10 := by
  have hk : (k : Int).natAbs = k := Int.natAbs_natCast k
  have hl : k.log2 < 10 ∨ k = 0 := by
    by_cases h0 : k = 0
    · exact .inr h0
    · exact .inl ((Nat.log2_lt h0).mpr (by omega))
  have hl2 : k.log2 < 10 := hl.elim id fun z => by subst z; decide
  refine ⟨?_, ?_, ?_⟩
  · show decide ((k : Int).natAbs.log2 < 1920) = true
    rw [hk]
    exact decide_eq_true (by omega)
  · show decide ((PyData.shown (.int (k : Int))).length ≤ 13) = true
    exact decide_eq_true (PyData.shown_int_le (by rw [hk]; omega))
  · show (if (k : Int) == 0 then 0 else (k : Int).natAbs.log2 + 1) ≤ 10
    rw [hk]
    split <;> omega
/-- where the first break is, its tuple is one of the relation's -/
theorem due_of {m : Nat} {t : Row} : ∀ {bk : List (List Row)} {k0 k : Nat} {one : List Row}, due m t k0 bk = some (k, one) → k < k0 + bk.length ∧ ∃ rs ∈ bk, one ∈ tups rs m
  | [], _, _, _, h => by cases h
  | rs :: bk, k0, k, one, h => by
    unfold due at h
    cases hb : brk rs t m with
    | some q =>
      rw [hb] at h
      have h' : some (k0, q) = some (k, one) := h
      cases h'
      exact ⟨by rw [List.length_cons]; omega, rs, List.mem_cons_self, List.mem_of_find?_eq_some hb⟩
    | none =>
      rw [hb] at h
      obtain ⟨h1, rs', h2, h3⟩ := due_of (bk := bk) (k0 := k0 + 1) h
      exact ⟨by rw [List.length_cons]; omega, rs', List.mem_cons_of_mem _ h2, h3⟩
theorem told_due {bk : List (Nat × List Row)} {t : Row} {m : Nat} (hf : Fit bk) (hz : bk.length ≤ 6) (hm : m ≤ 3) : Told (dueD (due m t 0 (bk.map fun rl : Nat × List Row => rl.2))) := by
  cases h : due m t 0 (bk.map fun rl : Nat × List Row => rl.2) with
  | none => exact ⟨rfl, .inl rfl, rfl, rfl, by decide, by decide⟩
  | some p =>
    obtain ⟨k, one⟩ := p
    obtain ⟨h1, rs, h2, h3⟩ := due_of h
    rw [List.length_map] at h1
    obtain ⟨rl, hrl, rfl⟩ := List.mem_map.mp h2
    obtain ⟨fe, _⟩ := hf rl hrl
    obtain ⟨o1, o2⟩ := mem_tups.mp h3
    have ol : ∀ q ∈ one, q.length ≤ 100 := fun q hq => by rw [fe.2.1 q (o2 q hq)]; exact fe.2.2
    obtain ⟨n1, n2, n3⟩ := nat_short (k := k) (by omega)
    have ow : (rowsT one).py.weight ≤ one.length * 201 := weighAll rowD one 200 fun q hq => Nat.le_trans (row_weight q) (by have := ol q hq; omega)
    have od : (rowsT one).py.depth ≤ 2 := by
      show PyData.depth (.tuple (Dt.pyL (one.map rowD))) ≤ 2
      have q := depAll rowD one 1 row_dep
      simp only [PyData.depth]
      omega
    refine ⟨?_, .inr ⟨_, rfl⟩, ?_, ?_, ?_, ?_⟩
    · show (true && ((rowsT one).pure && true)) = true
      rw [rows_pure]; rfl
    · show (PyData.showable (Dt.int (k : Int)).py && (PyData.showable (rowsT one).py && true)) = true
      rw [n1, show (rowsT one).py.showable = true from showAll rowD one fun q _ => row_show q]; rfl
    · show (false || (PyData.hasDict (rowsT one).py || false)) = false
      rw [show (rowsT one).py.hasDict = false from noDictAll rowD one fun q _ => row_noDict q]; rfl
    · show PyData.depth (.tuple [.int (k : Int), (rowsT one).py]) ≤ 60
      simp only [PyData.depth, PyData.depthAll]
      omega
    · refine PyData.shown_fits (B := 13) (by decide) (by decide) ?_ ?_
      · show (PyData.leavesShort 13 (Dt.int (k : Int)).py && (PyData.leavesShort 13 (rowsT one).py && true)) = true
        rw [n2, show (rowsT one).py.leavesShort 13 = true from shortAll rowD one fun q _ => row_short q]; rfl
      · show PyData.weight (Dt.int (k : Int)).py + 1 + (PyData.weight (rowsT one).py + 1 + 0) ≤ 2 ^ 20
        omega
end Ec
/-! The law's body. -/
namespace Ec
open PySem L2
section
variable {K : PySem.W.Frag} {Z : List Addr} {F : Hp → Prop} {ρ : Rh} {te ta tb : TE} {d : Dt} {ds : List Dt} {D : Ends} {i : Nat} {PA PC : Dt → Prop}
theorem nx_ownX {tl : TA} {PL : List Dt → Prop} (sF : Stb F) (he : EvXA K Z F tl ρ PL) (hz : ∀ l, PL l → l.length ≤ 100000) (k : ∀ ds, PL ds → ∀ l H', F H' → H' l = none → l ∉ Z → Nx K (l :: Z) (fun H => F H ∧ Own K (l :: Z) l ds H) (ρ.set i (some (.raw (.ref l)))) D.nx) : Nx K Z F ρ (tAsg (tLst tl) (gName i) D) := fun σ H o s f =>
  he σ H _ o s f fun vs rs H1 p e1 o1 f1 hv => ⟨Evl.sz_of (by rw [hv.length]; exact hz rs p), fun q hq =>
    k rs p q H1 f1 hq (o1.fresh hq) _ (upd H1 q (.lst vs)) ((o1.ex (Evl.Ex.new hq)).add upd_same) (((s.mono e1).mono (er_new hq)).set (.raw _)) ⟨sF _ _ (Evl.Ex.new hq) f1, vs, upd_same, hv.mono (er_new hq)⟩⟩
theorem EvA.x {tl : TA} (h : EvA K tl ρ ds) (sF : Stb F) : EvXA K Z F tl ρ (· = ds) := fun σ H Q o s f k => h Z σ H Q o s fun vs H2 ex hv => k vs ds H2 rfl (er_ex ex) (o.ex ex) (sF _ _ ex f) hv
theorem evx_tup {tl : TA} {PL : List Dt → Prop} (sF : Stb F) (h : EvXA K Z F tl ρ PL) (hz : ∀ l, PL l → l.length ≤ 100000 ∧ PC (.tup l)) : EvX K Z F (tTup tl) ρ PC := fun σ H Q o s f k =>
  h σ H _ o s f fun vs rs H1 p e1 o1 f1 hv => ⟨Evl.sz_of (by rw [hv.length]; exact (hz rs p).1), fun q hq =>
    have ex := Evl.Ex.new (o := .tup vs) hq
    k _ (.tup rs) _ (hz rs p).2 (e1.trans (er_ex ex)) (o1.ex ex) (sF _ _ ex f1) (.tup (SqT.of (er_newT o1 hq)) (hv.mono (er_ex ex)))⟩
theorem cut_take (xs : List V) (n : Nat) : cutV xs none (some (n : Int)) = xs.take n := by
  unfold cutV
  rw [HT.sIx_nat, HT.sIx_none, List.drop_zero, Nat.sub_zero]
  by_cases h : n ≤ xs.length
  · rw [Nat.min_eq_left h]
  · rw [Nat.min_eq_right (by omega), List.take_length, List.take_of_length_le (by omega)]
/-- l[:n], l a list -/
theorem evx_cutL {α : Type} {g : α → Dt} {n : Nat} {PB : List α → Prop} (sF : Stb F) (h : EvX K Z F te ρ (fun r => ∃ l : List α, PB l ∧ r = .lst (l.map g))) : EvX K Z F (tSl (rSlL K) te tNoPart (tPart (tC (.int (n : Int))))) ρ (fun r => ∃ l : List α, PB l ∧ r = .lst ((l.take n).map g)) := fun σ H Q o s f k =>
  h σ H _ o s f fun v r H1 p e1 o1 f1 hv => by
    obtain ⟨l, hl, rfl⟩ := p
    obtain ⟨a, xs, rfl, h1, h2⟩ := hv.sqL
    refine ⟨_, rfl, a, xs, rfl, SqL.of (er_sub _ _ h1), fun q hq => ?_⟩
    have ex := Evl.Ex.new (o := .lst (cutV xs none (some (n : Int)))) hq
    refine k _ _ _ ⟨l, hl, rfl⟩ (e1.trans (er_ex ex)) (o1.ex ex) (sF _ _ ex f1) (.lst (er_newT o1 hq) ?_)
    have q := (h2.take n).mono (er_ex ex)
    rw [← cut_take, ← List.map_take] at q
    exact q
/-- t[:n], t a tuple -/
theorem evd_cutT {n : Nat} (h : EvD K te ρ (.tup ds)) : EvD K (tSl (rSlA K) te tNoPart (tPart (tC (.int (n : Int))))) ρ (.tup (ds.take n)) := fun Z σ H Q o s k =>
  h Z σ H _ o s fun v H1 e1 hv => by
    obtain ⟨a, xs, rfl, h1, h2⟩ := hv.sqT
    refine ⟨_, rfl, a, xs, rfl, Evl.ex_t er_sub h1, fun whole => ?_, fun _ q hq => ?_⟩
    · have w := whole.2
      rw [HT.sIx_nat] at w
      have hl := h2.length
      have e : ds.take n = ds := List.take_of_length_le (by omega)
      exact k _ H1 e1 (by rw [e]; exact hv)
    · have ex := Evl.Ex.new (o := .tup (cutV xs none (some (n : Int)))) hq
      refine k _ _ (e1.trans ex) (.tup (SqT.of (er_newT (o.ex e1) hq)) ?_)
      have q := (h2.take n).mono (er_ex ex)
      rw [← cut_take] at q
      exact q
theorem rvd_neS {x y : Str} : RvD K rNe (.str x) (.str y) (.bl (!decide (x = y))) := fun Z H u v Q oc hx hy k => by
  cases hx; cases hy
  have e : decide (V.str x = V.str y) = decide (x = y) := by simp
  exact ⟨rfl, k _ H (Evl.Ex.refl H) (by rw [e]; exact .bl _)⟩
theorem any_str {x : Str} : ∀ {ws : List Str} {vs : List V} {H : Hp}, DdL K H vs (ws.map .str) → vs.all flatV = true ∧ inV (.str x) vs = decide (x ∈ ws)
  | [], _, _, h => by cases h; exact ⟨rfl, rfl⟩
  | w :: ws, _, _, h => by
    cases h with
    | cons h1 h2 =>
      cases h1
      obtain ⟨q1, q2⟩ := any_str (x := x) h2
      refine ⟨by rw [List.all_cons, q1]; rfl, ?_⟩
      show ((w == x) || inV (.str x) _) = _
      rw [q2]
      by_cases e : w = x
      · subst e; simp
      · rw [show (w == x) = false from beq_eq_false_iff_ne.mpr e, Bool.false_or]
        exact decide_eq_decide.mpr ⟨fun z => List.mem_cons_of_mem _ z, fun z => (List.mem_cons.mp z).elim (fun q => absurd q.symm e) id⟩
/-- text in tuple of texts -/
theorem rvd_inS {x : Str} {ws : List Str} : RvD K (rIn K false) (.str x) (.tup (ws.map .str)) (.bl (decide (x ∈ ws))) := fun Z H u v Q oc hx hy k => by
  cases hx
  obtain ⟨a, xs, rfl, h1, h2⟩ := hy.sqT
  obtain ⟨q1, q2⟩ := any_str (x := x) h2
  exact ⟨a, xs, rfl, .inr (Evl.ex_t er_sub h1), rfl, q1, by rw [if_neg Bool.false_ne_true, q2]; exact k _ H (Evl.Ex.refl H) (.bl _)⟩
theorem lowBk {H : Hp} {bk : List (Nat × List Row)} {v : V} (h : Dd K H v (.lst (bk.map rlHD))) : Dd K H v (.lst (bk.map rlD)) := by
  obtain ⟨a, xs, rfl, h1, h2⟩ := h.sqL
  refine .lst h1 ?_
  have all : ∀ {l : List (Nat × List Row)} {ys : List V}, DdL K H ys (l.map rlHD) → DdL K H ys (l.map rlD) := fun {l} => by
    induction l with
    | nil => intro ys h; cases h; exact .nil
    | cons rl l ih =>
      intro ys h
      cases h with
      | cons h1 h2 =>
        refine .cons ?_ (ih h2)
        obtain ⟨b, zs, rfl, g1, g2⟩ := h1.sqT
        obtain ⟨x, y, rfl, q1, q2⟩ := ddl2 g2
        exact .tup g1 (.cons q1 (.cons (lowT q2) .nil))
  exact all h2
end
theorem nx_go {K : PySem.W.Frag} {F : Hp → Prop} {ρ : Rh} {σ : L2.St} {H : Hp} {t : L2.St → Hp → Prop} (h : Nx K [] F ρ t) (s : Sd K H σ ρ) (f : F H) : t σ H := h σ H Occ.nil (er_nil.symm ▸ s) f
theorem draw_bit (n j : Nat) : ((n : Int).fdiv (1 * 2 ^ (j : Int).toNat)) % 2 = ((decide (n / 2 ^ j % 2 = 1)).toNat : Int) := by
  rw [Int.toNat_natCast, Int.one_mul, Int.fdiv_eq_ediv_of_nonneg _ (Int.le_of_lt (Int.pow_pos (by decide)))]
  have e : ((n : Int) / 2 ^ j) % 2 = ((n / 2 ^ j % 2 : Nat) : Int) := by
    rw [Int.natCast_emod, Int.natCast_ediv, Int.natCast_pow]; rfl
  rw [e]
  have := Nat.mod_lt (n / 2 ^ j) (show 0 < 2 by decide)
  rcases (show n / 2 ^ j % 2 = 0 ∨ n / 2 ^ j % 2 = 1 by omega) with h | h <;> rw [h] <;> rfl
theorem Nice.take {rs : List Row} {n k : Nat} (h : Nice rs n) (hk : 0 < k) : Nice (rs.take k) n := by
  obtain ⟨h1, h2, h3, h4⟩ := h
  refine ⟨fun e => ?_, fun q hq => h2 q (List.mem_of_mem_take hq), h3.sublist (List.take_sublist _ _), Nat.le_trans (List.length_take_le' _ _) h4⟩
  have := congrArg List.length e
  rw [List.length_take, List.length_nil] at this
  have := List.length_pos_iff.mpr h1
  omega
theorem Drawn.good {rl : Nat × List Row} (h : Drawn rl) : Good rl := ⟨h.2.1, h.2.2, h.1.1, h.1.2.2.1, h.1.2.1, Nat.lt_of_le_of_lt h.1.2.2.2 (by decide)⟩
section
variable {P : Program} {w : World} {K : PySem.W.Frag} {mg : Str → Option Value} {base : Heap} {f : Addr} {fd : FuncData}
abbrev s_law : Stmt := topS 60
theorem sc_law : FnScope ["_law_script", "_law_hand", "_law_number", "_law_table", "_law_book_here", "_law_size", "_law_rows_here", "_law_made_here", "_law_kept", "_law_k", "_law_term", "_law_one", "_law_j"] ["_law_script"] (defScope s_law) := ⟨rfl, rfl, rfl, by decide +kernel, rfl, by decide +kernel, by decide +kernel⟩
-- slots: _law_script 0, _law_hand 1, _law_number 2c, _law_table 3, _law_book_here 4, _law_size 5, _law_rows_here 6, _law_made_here 7, _law_kept 8, _law_k 9, _law_term 10, _law_one 11, _law_j 12
theorem ok_law {B C : Addr} (T : Txt K mg) (C__law_draws : C8.Cal P w K mg base 1 "_law_draws" (PureSpN K R_draws) []) (C__law_take : C8.Cal P w K mg base 1 "_law_take" (HandSp K R_take) []) (C__law_drawn_book : C8.Cal P w K mg base 4 "_law_drawn_book" (HandSp K R_dbook) [])
    (C__law_closed : C8.Cal P w K mg base 3 "_law_closed" (PureSpN K R_closed) []) (C__law_book : C8.Cal P w K mg base 6 "_law_book" (PureSp K (R_lbook B C)) []) (C_break_of : C8.Cal P w K mg base 5 "break_of" (PureSp K (R_breakof B C)) []) (C__law_due : C8.Cal P w K mg base 4 "_law_due" (PureSp K R_ldue) [])
    (C__law_drawn_term : C8.Cal P w K mg base 5 "_law_drawn_term" (HandSp K (R_dterm 4)) []) (C_term_table : C8.Cal P w K mg base 6 "term_table" (PureSp K (R_told 4)) []) (C__law_term_table : C8.Cal P w K mg base 5 "_law_term_table" (PureSp K (R_told 4)) [])
    (C__law_is_plain : C8.Cal P w K mg base 2 "_law_is_plain" (PureSp K R_lplain) []) (C_term_of : C8.Cal P w K mg base 3 "term_of" (PureSp K R_termof) []) (C_kept_by : C8.Cal P w K mg base 6 "kept_by" (PureSp K (R_keptby B C)) [.bl false])
    (Fn : Fun K "law" "law" s_law f fd) (bd : Binds K fd ["_law_script"] []) {t1 : Shared} {H : Hp} {a0 : Addr} {ns : List Int} (hz : ns.length ≤ 1000) (sq : SqL K H a0 (ns.map V.int)) (kin : K.In t1.heap) (e0 : Env0 P w K mg base callerA [] t1 H) :
    codeAny (model P w) callerA (.call (.ref f) ⟨[.ref a0], []⟩) (CR CX0 [] P w H t1 (fun v _ => v = .bl true) fun _ _ _ => False) t1 := by
  have room : Room 7 callerA := ⟨rfl, by decide +kernel, by decide +kernel⟩
  obtain ⟨oc, od, kV, doc, pm, an, cdv, ct, osl, rfl, lk, cd⟩ := Fn.ex
  refine run_at lk cd sc_law room e0 (bd _ [.ref a0] kin rfl) (.cons (show RelV (.ref a0) (.ref a0) from rfl) .nil) rfl ?_
  have hr : Room 6 (callerA.deeper (PyProof.Rows.envOfC "law" (defScope s_law) t1.heap.objs.size f cdv)) := room.deeper _
  have hg : (callerA.deeper (PyProof.Rows.envOfC "law" (defScope s_law) t1.heap.objs.size f cdv)).guards = some [] := rfl
  have hu : (callerA.deeper (PyProof.Rows.envOfC "law" (defScope s_law) t1.heap.objs.size f cdv)).units + 64 < cLine := hr.units
  have rd : ∃ t, PSs (cxOf CX0 P w K mg base ["_law_script", "_law_hand", "_law_number", "_law_table", "_law_book_here", "_law_size", "_law_rows_here", "_law_made_here", "_law_kept", "_law_k", "_law_term", "_law_one", "_law_j"] "law" (defScope s_law) f cdv callerA [] t1 H fun _ _ _ => False).nox (defBody s_law) t ∧
      t { nx := fun _ H' => (V.non = .bl true), rt := fun v _ => v = .bl true } (L2.start ["_law_script", "_law_hand", "_law_number", "_law_table", "_law_book_here", "_law_size", "_law_rows_here", "_law_made_here", "_law_kept", "_law_k", "_law_term", "_law_one", "_law_j"] [.ref a0]) H := by
    refine ⟨_, (pss_cons (ps_set (i := 1) sc_law.nd rfl (Or.inl rfl) (pe_lst (pa_cons (C8.pe_c C__law_draws hr (by decide) rfl (pa_cons (pv 0) (pa_cons pe_int pa_nil))) (pa_cons pe_int pa_nil))))
      (pss_cons (ps_set (i := 2) sc_law.nd rfl (Or.inr rfl) (C8.pe_c C__law_take hr (by decide) rfl (pa_cons (pv 1) (pa_cons pe_int pa_nil))))
      (pss_cons (ps_set (i := 3) sc_law.nd rfl (Or.inl rfl) (pe_callTy (r := rTupO K) call_tuple_of (by rfl) T.tuple (by decide +kernel) (pa_cons (pe_lc (own := [("_law_j", 12)]) (g := (gName 12)) (tt := tYes) rfl sc_law.nd (pi_range1 rfl T.range (pa_cons pe_int pa_nil)) (blkOk_by (by kernel_rfl)) (fun _ _ _ _ _ => (pg_name (i := 12) sc_law.nd rfl (Or.inl rfl))) (fun _ _ _ _ _ => pts_nil) (fun _ _ _ _ _ => (pe_op op_mod (pe_callTy (r := rInt1) call_int1 (by rfl) T.int (by decide +kernel) (pa_cons (pe_op op_fdivN (pv 2) (pe_op op_shl pe_int (pv 12))) pa_nil)) pe_int))) pa_nil)))
      (pss_cons (ps_set (i := 4) sc_law.nd rfl (Or.inl rfl) (pe_lst pa_nil))
      (pss_cons (ps_for PassesOwn.never rfl (pi_listK (K := K) rfl (pe_slice (r := rSlL K) sl_list (C8.pe_c C__law_drawn_book hr (by decide) rfl (pa_cons (pv 1) pa_nil)) po_none (po_some pe_int))) (pg_tupK (K := K) rfl rfl (pgs_cons (pg_name (i := 5) sc_law.nd rfl (Or.inl rfl)) (pgs_cons (pg_name (i := 6) sc_law.nd rfl (Or.inl rfl)) pgs_nil)))
        (pss_one (ps_expr (pe_bmC (K := K) rfl (pe_bm PySem.F.plainAttrs_list PySem.F.slot_list_append PySem.F.type_list_append mt_append (pv 4) (pa_cons (pe_tup (pa_cons (pv 5) (pa_cons (C8.pe_c C__law_closed hr (by decide) rfl (pa_cons (pe_slice (r := rSlA K) sl_tupA (pv 6) po_none (po_some pe_int)) (pa_cons (pv 3) pa_nil))) pa_nil))) pa_nil))))))
      (pss_cons (ps_set (i := 7) sc_law.nd rfl (Or.inl rfl) (C8.pe_c C__law_book hr (by decide) rfl (pa_cons (pv 4) pa_nil)))
      (pss_cons (ps_if (pt_cmpR op_ne (pe_callB (r := rRep K) (call_rep hg hu) (by rfl) T.repr (by decide +kernel) (pa_cons (C8.pe_c C_break_of hr (by decide) rfl (pa_cons (pv 7) (pa_cons (pv 3) pa_nil))) pa_nil)) (pe_callB (r := rRep K) (call_rep hg hu) (by rfl) T.repr (by decide +kernel) (pa_cons (C8.pe_c C__law_due hr (by decide) rfl (pa_cons (pv 4) (pa_cons (pv 3) pa_nil))) pa_nil)) (nomark _)) (pss_one (ps_ret pe_bl)) pss_nil)
      (pss_cons (ps_set (i := 8) sc_law.nd rfl (Or.inl rfl) (pe_cmpR op_isN (C8.pe_c C__law_due hr (by decide) rfl (pa_cons (pv 4) (pa_cons (pv 3) pa_nil))) pe_non (nomark _)))
      (pss_cons (ps_for PassesOwn.never rfl (pi_range1 rfl T.range (pa_cons pe_int pa_nil)) (pg_name (i := 9) sc_law.nd rfl (Or.inl rfl))
        (pss_cons (ps_set (i := 10) sc_law.nd rfl (Or.inl rfl) (C8.pe_c C__law_drawn_term hr (by decide) rfl (pa_cons (pv 1) (pa_cons pe_int pa_nil))))
        (pss_cons (ps_set (i := 11) sc_law.nd rfl (Or.inl rfl) (C8.pe_c C_term_table hr (by decide) rfl (pa_cons (pv 3) (pa_cons (pv 10) pa_nil))))
        (pss_cons (ps_if (pt_cmpR op_ne (pe_callB (r := rRep K) (call_rep hg hu) (by rfl) T.repr (by decide +kernel) (pa_cons (pv 11) pa_nil)) (pe_callB (r := rRep K) (call_rep hg hu) (by rfl) T.repr (by decide +kernel) (pa_cons (C8.pe_c C__law_term_table hr (by decide) rfl (pa_cons (pv 3) (pa_cons (pv 10) pa_nil))) pa_nil)) (nomark _)) (pss_one (ps_ret pe_bl)) pss_nil)
        (pss_one (ps_if (PW.pt (pw_or (PW.pt (pw_and (pt_val (pv 8)) (pw_and1 (pt_cmpR op_notN (C8.pe_c C_break_of hr (by decide) rfl (pa_cons (pv 7) (pa_cons (pv 11) pa_nil))) pe_non (nomark _))))) (pw_or1 (pt_cmpR op_ne (pe_callB (r := rRep K) (call_rep hg hu) (by rfl) T.repr (by decide +kernel) (pa_cons (C8.pe_c C_break_of hr (by decide) rfl (pa_cons (pv 7) (pa_cons (pv 11) pa_nil))) pa_nil)) (pe_callB (r := rRep K) (call_rep hg hu) (by rfl) T.repr (by decide +kernel) (pa_cons (C8.pe_c C__law_due hr (by decide) rfl (pa_cons (pv 4) (pa_cons (pv 11) pa_nil))) pa_nil)) (nomark _))))) (pss_one (ps_ret pe_bl)) pss_nil))))))
      (pss_cons (ps_if (PW.pt (pw_and (pt_val (pv 8)) (pw_and1 (pt_not (pt_val (C8.pe_c C__law_is_plain hr (by decide) rfl (pa_cons (pv 3) pa_nil))))))) (pss_one (ps_ret (pe_cmpR (r := rIn K false) op_in_seq (pe_ix (r := rIx K) ix_seq (C8.pe_c C_term_of hr (by decide) rfl (pa_cons (pv 3) pa_nil)) pe_int (fun _ _ => rfl)) (C8.pe_c C_kept_by hr (by decide) rfl (pa_cons (pv 7) pa_nil)) (by rfl)))) pss_nil)
      (pss_one (ps_ret pe_bl)))))))))))), ?_⟩
    generalize eD : ({ nx := fun _ H' => (V.non = .bl true), rt := fun v _ => v = .bl true } : Ends) = D
    have fin : ∀ v H, v = V.bl true → D.rt v H := fun v H e => by subst eD; exact e
    refine nx_go (F := fun _ => True) (ρ := [some (.scr (ns.map .int)), none, none, none, none, none, none, none, none, none, none, none, none]) ?_ (sd_start (ds := [.scr (ns.map .int)]) (.cons (.scr sq (DdL.ofInts ns)) .nil)) trivial
    have sT : Stb fun _ : Hp => True := fun _ _ _ _ => trivial
    -- the hand
    refine nx_seq (nx_ownX (PL := fun l => ∃ xs : List Int, l = [.lst (xs.map .int), .int 0]) sT (evxa_cons (evx_callN (PC := fun r => ∃ xs : List Int, r = .lst (xs.map .int)) sT ((eva_cons (evd_var (d := .scr (ns.map .int)) rfl) (eva_cons (evd_int (i := 300)) eva_nil)).x sT) fun l hl => ?_) ((eva_cons (evd_int (i := 0)) eva_nil).x sT) fun x l hx hl => ?_) (fun l hl => ?_) fun ds hds a H1 _ nH1 _ => ?_)
    · subst hl
      exact ⟨ns, hz, rfl, rfl⟩
    · obtain ⟨xs, rfl⟩ := hx
      subst hl
      exact ⟨xs, rfl⟩
    · obtain ⟨xs, rfl⟩ := hl
      show 2 ≤ 100000
      decide
    obtain ⟨xs, rfl⟩ := hds
    refine Nx.pre (F' := fun H => ∃ b, Base a b (fun _ => none) H) (nx_ex fun b => ?_) fun H h => ?_
    rotate_left
    · obtain ⟨_, vs, g1, g2⟩ := h
      obtain ⟨x, y, rfl, q1, q2⟩ := ddl2 g2
      cases q2.toInt
      obtain ⟨b, zs, rfl, q3, q4⟩ := q1.sqL
      cases q4.ints
      obtain ⟨hb, q5⟩ := er_some q3
      exact ⟨b, (fun c o h => by
        obtain ⟨_, h⟩ := er_some h
        cases h), (fun e => hb (by rw [e]; simp)), 0, xs, g1, q5⟩
    have sB := base_stb (a := a) (b := b) (H0 := fun _ => none)
    have kb := base_keep (a := a) (b := b) (H0 := fun _ => none)
    have ha : a ∈ [a] := by simp
    -- the table
    refine nx_asgXS (PA := fun r => ∃ n : Nat, n < 256 ∧ r = .int (n : Int)) (evx_take (c := 256) kb ha (by decide) rfl ((evd_int (i := 256)).x sB)) fun r hr => ?_
    obtain ⟨n, hn, rfl⟩ := hr
    have ht : ∃ t : Row, t.length = 8 ∧ t = (List.range 8).map fun j => decide (n / 2 ^ j % 2 = 1) := ⟨_, by rw [List.length_map, List.length_range], rfl⟩
    obtain ⟨t, t8, te⟩ := ht
    refine nx_asgS (d := rowD t) sB (evd_callB (eva_cons (EvN.toD ((evn_lcM (List.range 8) (fun j : Nat => .int (j : Int)) (fun j => bitD (decide (n / 2 ^ j % 2 = 1))) (src_rangeM (n := 8) (eva_cons (evd_int (i := 8)) eva_nil) (by decide)) (by decide) fun i j hj => ?_))) eva_nil) (by rw [te]; unfold rowD; rw [List.map_map]; exact rc_tupL)) ?_
    · have hj8 : j < 8 := List.mem_range.mp (List.mem_of_getElem? hj)
      refine (evd_mod (evd_int1 (evd_fdv (evd_var (d := .int (n : Int)) rfl) (evd_i (C := CPow) (f := fun a b => a * 2 ^ b.toNat) (evd_int (i := 1)) (evd_var (d := .int (j : Int)) rfl) ⟨by omega, by omega, by decide⟩) ?_)) (evd_int (i := 2)) (by decide)).is ?_
      · show CDivN (n : Int) (1 * 2 ^ (j : Int).toNat)
        rw [Int.toNat_natCast, Int.one_mul]
        match j, hj8 with
        | 0, _ => exact ⟨by decide, by decide⟩
        | 1, _ => exact ⟨by decide, by decide⟩
        | 2, _ => exact ⟨by decide, by decide⟩
        | 3, _ => exact ⟨by decide, by decide⟩
        | 4, _ => exact ⟨by decide, by decide⟩
        | 5, _ => exact ⟨by decide, by decide⟩
        | 6, _ => exact ⟨by decide, by decide⟩
        | 7, _ => exact ⟨by decide, by decide⟩
      · rw [draw_bit]; rfl
    clear te
    -- the book
    refine nx_seq (nx_own (ds := ([] : List (Nat × List Row)).map rlHD) sB (evn_lst eva_nil (by decide)) fun l H2 f2 n2 z2 => ?_)
    have la := (base_ne f2 n2).1
    have ha' : a ∈ [l, a] := by simp
    have hl' : l ∈ [l, a] := by simp
    have sO : ∀ bk : List (Nat × List Row), Stb fun H => Base a b (fun _ => none) H ∧ Own K [l, a] l (bk.map rlHD) H := fun bk => sB.and Own.stb
    have kO : ∀ bk : List (Nat × List Row), Keep a b fun H => Base a b (fun _ => none) H ∧ Own K [l, a] l (bk.map rlHD) H := fun bk => own_keep ha' la kb
    refine nx_seq (nx_forX (PL := fun ds => ∃ bk0 : List (Nat × List Row), (1 ≤ bk0.length ∧ ∀ rl ∈ bk0, Drawn rl) ∧ ds = (bk0.take 2).map rlHD) (srcx_list (evx_cutL (g := rlHD) (n := 2) (PB := fun bk0 => 1 ≤ bk0.length ∧ ∀ rl ∈ bk0, Drawn rl) (sO []) ((evx_hand (PC := fun r => ∃ bk : List (Nat × List Row), 1 ≤ bk.length ∧ bk.length ≤ 3 ∧ (∀ rl ∈ bk, Drawn rl) ∧ r = .lst (bk.map rlHD)) (kO []) ha' rfl evxa_nil fun l hl => ?_).imp fun r hr => ?_)) fun r hr => ?_)
      (fun _ => [5, 6]) (fun d => match d with | .tup [a, b] => [a, b] | _ => []) (fun ds k ρ F => ∃ bk : List (Nat × List Row), F = (fun H => Base a b (fun _ => none) H ∧ Own K [l, a] l (bk.map rlHD) H) ∧ bk.length = k ∧ (∀ rl ∈ bk, Drawn rl) ∧ ∃ x y, ρ = [some (.scr (ns.map .int)), some (.raw (.ref a)), some (.int (n : Int)), some (rowD t), some (.raw (.ref l)), x, y, none, none, none, none, none, none])
      (fun ds hds d hd => ?_) (fun ds hds => ⟨[], rfl, rfl, (fun q hq => absurd hq (by simp)), _, _, rfl⟩) (sO []) ?_ ?_)
    · exact ⟨hl, rfl⟩
    · obtain ⟨bk, h1, h3, hd, rfl⟩ := hr
      exact ⟨bk, ⟨h1, hd⟩, rfl⟩
    · obtain ⟨bk0, h0, rfl⟩ := hr
      exact ⟨_, ⟨bk0, h0, rfl⟩, rfl⟩
    · obtain ⟨bk0, h0, rfl⟩ := hds
      obtain ⟨rl, _, rfl⟩ := List.mem_map.mp hd
      exact gd_pair
    · rintro ds ⟨bk0, ⟨h1, h0⟩, rfl⟩ LF sL i d ρ F hi ⟨bk, rfl, hbl, hbk, x, y, rfl⟩ sF
      obtain ⟨rl, hrl, rfl⟩ := map_at hi
      have hrd : Drawn rl := h0 rl (List.mem_of_mem_take (List.mem_of_getElem? hrl))
      have sG : Stb fun H => (Base a b (fun _ => none) H ∧ Own K [l, a] l (bk.map rlHD) H) ∧ LF H := (sO bk).andZ sL
      show Nx K [l, a] _ [some (.scr (ns.map .int)), some (.raw (.ref a)), some (.int (n : Int)), some (rowD t), some (.raw (.ref l)), some (.int (rl.1 : Int)), some (rowsHT rl.2), none, none, none, none, none, none] _
      refine nx_appX (PA := fun r => ∃ ss : List Row, Nice ss rl.1 ∧ r = rlHD (rl.1, ss)) (F2 := fun H => ∃ ss : List Row, Nice ss rl.1 ∧ (Base a b (fun _ => none) H ∧ Own K [l, a] l ((bk ++ [(rl.1, ss)]).map rlHD) H) ∧ LF H) hl' rfl (evx_tup (PL := fun l => ∃ ss : List Row, Nice ss rl.1 ∧ l = [.int (rl.1 : Int), rowsHT ss]) sG (evxa_cons ((evd_var (d := .int (rl.1 : Int)) rfl).x sG) (evxa_one (evx_callN (PC := fun r => ∃ ss : List Row, Nice ss rl.1 ∧ r = rowsHT ss) sG ((eva_cons (evd_cutT (n := 3) (evd_var (d := rowsHT rl.2) rfl)) (eva_cons (evd_var (d := rowD t) rfl) eva_nil)).x sG) fun l hl => ?_)) fun x l hx hl => ?_) fun l hl => ?_) (fun H h => ?_) (fun H v q h hq hv => ?_) ?_
      · subst hl
        exact ⟨rl.2.take 3, rl.1, 3, t, hrd.1.take (by decide), hrd.2.1, hrd.2.2, by decide, by decide, t8, by unfold rowsHT; rw [List.map_take], rfl⟩
      · subst hx
        obtain ⟨_, ⟨ss, hss, rfl⟩, rfl⟩ := hl
        exact ⟨ss, hss, rfl⟩
      · obtain ⟨ss, hss, rfl⟩ := hl
        exact ⟨by show 2 ≤ 100000; decide, ss, hss, rfl⟩
      · obtain ⟨vs, g, _⟩ := h.1.2
        exact ⟨vs, g⟩
      · obtain ⟨ss, hss, rfl⟩ := hq
        obtain ⟨⟨hb, vs, g1, g2⟩, hL⟩ := h
        have gl := g2.length
        rw [List.length_map] at gl
        have hi2 : i < 2 := by
          have := (List.getElem?_eq_some_iff.mp hrl).1
          rw [List.length_take] at this
          omega
        refine ⟨vs, g1, by omega, ss, hss, ⟨base_upd f2 n2 hb, vs ++ [v], upd_same, ?_⟩, sL H _ (by rw [er_upd hl']; exact Evl.Ex.refl _) hL⟩
        rw [er_upd hl', List.map_append]
        exact g2.append (.cons hv .nil)
      · refine nx_ex fun ss => fun σ H o s f => ?_
        obtain ⟨hss, f⟩ := f
        refine as_in (Z := [l, a]) (ρ := [some (.scr (ns.map .int)), some (.raw (.ref a)), some (.int (n : Int)), some (rowD t), some (.raw (.ref l)), some (.int (rl.1 : Int)), some (rowsHT rl.2), none, none, none, none, none, none]) (F := fun H => Base a b (fun _ => none) H ∧ Own K [l, a] l ((bk ++ [(rl.1, ss)]).map rlHD) H) ⟨bk ++ [(rl.1, ss)], rfl, by rw [List.length_append, hbl]; rfl, fun q hq => ?_, _, _, rfl⟩ (sO _) σ H o s f
        rcases List.mem_append.mp hq with hq | hq
        · exact hbk q hq
        · rw [List.mem_singleton.mp hq]; exact ⟨hss, hrd.2⟩
    rintro ds ⟨bk0, ⟨h1, h0⟩, rfl⟩ ρ F ⟨bk, rfl, hbl, hbk, x, y, rfl⟩ sF
    rw [List.length_map, List.length_take] at hbl
    have b1 : 1 ≤ bk.length := by omega
    have b2 : bk.length ≤ 2 := by omega
    clear hbl h0 h1
    refine nx_rel z2 (fun H h => h) (i := 4) rfl ?_
    show Nx K [a] (Base a b fun _ => none) [some (.scr (ns.map .int)), some (.raw (.ref a)), some (.int (n : Int)), some (rowD t), some (.lst (bk.map rlHD)), x, y, none, none, none, none, none, none] _
    -- what the book is for the rules
    have fit : Fit bk := fun rl hrl => ⟨(hbk rl hrl).1.even (hbk rl hrl).2.2, Nat.le_trans (hbk rl hrl).1.2.2.2 (by decide)⟩
    have b6 : bk.length ≤ 6 := by omega
    have kall : ∀ {u : Row}, (due 3 u 0 (bk.map fun rl : Nat × List Row => rl.2)).isNone = true → ∀ rl ∈ bk, Keeps u 3 rl.2 := fun {u} h rl hrl => due_none.mp (Option.isNone_iff_eq_none.mp h) rl.2 (List.mem_map.mpr ⟨rl, hrl, rfl⟩)
    have allk : ∀ {u : Row} {m : Nat}, (∀ rl ∈ bk, Keeps u m rl.2) → (due m u 0 (bk.map fun rl : Nat × List Row => rl.2)).isNone = true := fun {u m} h => Option.isNone_iff_eq_none.mpr (due_none.mpr fun rs hrs => by
      obtain ⟨rl, hrl, rfl⟩ := List.mem_map.mp hrs
      exact h rl hrl)
    refine nx_asgS (d := bookD B C bk) sB (evd_call (eva_cons (evd_var (d := .lst (bk.map rlHD)) rfl) eva_nil) ⟨bk, b1, b6, fun rl hrl => (hbk rl hrl).good, rfl, rfl⟩) ?_
    have brk_ : ∀ {ρ : Rh} {tb tt : TE} {u : Row} {E : XK}, u.length = 8 → EvD K tb ρ (bookD B C bk) → EvD K tt ρ (rowD u) → EvD K (tCall (PureSp K (R_breakof B C)) [] E (tCons tb (tCons tt tNil))) ρ (dueD (due 3 u 0 (bk.map fun rl : Nat × List Row => rl.2))) := fun hu8 h1 h2 => evd_call (eva_cons h1 (eva_cons h2 eva_nil)) ⟨bk, _, 3, fit, b6, by decide, by decide, hu8, rfl, rfl⟩
    have due_ : ∀ {ρ : Rh} {tb tt : TE} {u : Row} {E : XK}, u.length = 8 → EvD K tb ρ (.lst (bk.map rlHD)) → EvD K tt ρ (rowD u) → EvD K (tCall (PureSp K R_ldue) [] E (tCons tb (tCons tt tNil))) ρ (dueD (due 3 u 0 (bk.map fun rl : Nat × List Row => rl.2))) := fun hu8 h1 h2 => evd_call (eva_cons (h1.wk fun _ _ => lowBk) (eva_cons h2 eva_nil)) ⟨bk, _, fit, b6, hu8, rfl, rfl⟩
    have same : ∀ {ρ : Rh} {ta tb : TE} {d : Dt}, Told d → EvD K ta ρ d → EvD K tb ρ d → EvT K (tTest (tOp rNe (tCB (rRep K) (tCons ta tNil)) (tCB (rRep K) (tCons tb tNil)))) ρ false := fun td h1 h2 => (evt_test (evd_op (evd_callB (eva_cons h1 eva_nil) (rc_rep td)) (evd_callB (eva_cons h2 eva_nil) (rc_rep td)) rvd_neS)).is (by simp)
    have bkv : ∀ {ρ : Rh}, ρ[4]? = some (some (.lst (bk.map rlHD))) → EvD K (tVar 4) ρ (.lst (bk.map rlHD)) := fun h => evd_var h
    refine nx_seq (nx_ifF sB (same (told_due (t := t) fit b6 (by decide)) (brk_ t8 (evd_var (d := bookD B C bk) rfl) (evd_var (d := rowD t) rfl)) (due_ t8 (evd_var (d := .lst (bk.map rlHD)) rfl) (evd_var (d := rowD t) rfl))) ?_)
    refine nx_seq (nx_asg (d := .bl (due 3 t 0 (bk.map fun rl : Nat × List Row => rl.2)).isNone) sB (evd_isN (due_ t8 (evd_var (d := .lst (bk.map rlHD)) rfl) (evd_var (d := rowD t) rfl)) fun H v hv => dueNon _ H v hv) ?_)
    refine nx_seq (nx_forN sB (src_rangeM (n := 3) (eva_cons (evd_int (i := 3)) eva_nil) (by decide)) (fun i ρ F => F = Base a b (fun _ => none) ∧ ∃ y z u, ρ = [some (.scr (ns.map .int)), some (.raw (.ref a)), some (.int (n : Int)), some (rowD t), some (.lst (bk.map rlHD)), x, y, some (bookD B C bk), some (.bl (due 3 t 0 (bk.map fun rl : Nat × List Row => rl.2)).isNone), z, u.1, u.2, none]) ⟨rfl, _, _, (none, none), rfl⟩ ?_ ?_)
    · rintro LF sL i d ρ F hi ⟨rfl, y, z, ⟨u1, u2⟩, rfl⟩ sF
      have sG := sB.andZ sL
      have kG := keep_and ha kb sL
      refine nx_seq (nx_asgX (evx_hand (PC := fun r => ∃ tm : Tm, tm.ok = true ∧ tm.depth ≤ 3 ∧ r = tmD tm) kG ha rfl ((eva_cons (evd_int (i := 3)) eva_nil).x sG) fun l hl => ?_) fun r hr => ?_)
      · exact ⟨3, by decide, hl, rfl⟩
      obtain ⟨tm, ok, dp, rfl⟩ := hr
      have u8 : (tell t tm).length = 8 := tell_length t tm
      refine nx_seq (nx_asg (d := rowD (tell t tm)) sG (evd_call (eva_cons (evd_var (d := rowD t) rfl) (eva_cons (evd_var (d := tmD tm) rfl) eva_nil)) ⟨t, tm, t8, ok, by omega, rfl, rfl⟩) ?_)
      refine nx_seq (nx_ifF sG (same (told_row (r := tell t tm) (by omega)) (evd_var (d := rowD (tell t tm)) rfl) (evd_call (eva_cons (evd_var (d := rowD t) rfl) (eva_cons (evd_var (d := tmD tm) rfl) eva_nil)) ⟨t, tm, t8, ok, by omega, rfl, rfl⟩)) ?_)
      refine nx_ifF sG ((evt_or (evt_and (b := !(due 3 (tell t tm) 0 (bk.map fun rl : Nat × List Row => rl.2)).isNone) (evt_B (evd_var rfl)) fun _ => evt_test (evd_notN (brk_ u8 (evd_var (d := bookD B C bk) rfl) (evd_var (d := rowD (tell t tm)) rfl)) fun H v hv => dueNon _ H v hv)) fun _ => same (told_due (t := tell t tm) fit b6 (by decide)) (brk_ u8 (evd_var (d := bookD B C bk) rfl) (evd_var (d := rowD (tell t tm)) rfl)) (due_ u8 (evd_var (d := .lst (bk.map rlHD)) rfl) (evd_var (d := rowD (tell t tm)) rfl))).is ?_) ?_
      · cases hk : (due 3 t 0 (bk.map fun rl : Nat × List Row => rl.2)).isNone with
        | false => rfl
        | true =>
          rw [allk fun rl hrl => keeps_tell (hbk rl hrl).1.2.1 (kall hk rl hrl) tm ok]
          rfl
      · exact as_in ⟨rfl, _, _, (_, _), rfl⟩ sB
    · rintro ρ F ⟨rfl, y, z, ⟨u1, u2⟩, rfl⟩ sF
      refine nx_seq (nx_if (b := (due 3 t 0 (bk.map fun rl : Nat × List Row => rl.2)).isNone && !plain t) sB (evt_and (evt_B (evd_var rfl)) fun _ => evt_not (evt_B (evd_call (eva_cons (evd_var (d := rowD t) rfl) eva_nil) ⟨t, t8, rfl, rfl⟩))) (fun q => ?_) fun q => ?_)
      · rw [Bool.and_eq_true, Bool.not_eq_true'] at q
        obtain ⟨q1, q2⟩ := q
        obtain ⟨w6, _, _⟩ := termOf_ok t8 q2
        have kept : (termOf t).1 ∈ keptW bk := by
          unfold keptW
          exact List.mem_filter.mpr ⟨List.mem_range.mpr w6, allk fun rl hrl => keeps_word (hbk rl hrl).1.2.1 t8 q2 (kall q1 rl hrl)⟩
        have e : Dt.tup ((keptW bk).map fun i => Dt.str (wordAt i)) = .tup (((keptW bk).map wordAt).map .str) := by rw [List.map_map]; rfl
        have kept_ : ∀ {ρ : Rh} {tb : TE} {E : XK}, EvD K tb ρ (bookD B C bk) → EvD K (tCall (PureSp K (R_keptby B C)) [.bl false] E (tCons tb tNil)) ρ (.tup (((keptW bk).map wordAt).map .str)) := fun h => EvD.is (evd_callF (eva_cons h eva_nil) (fun H => .cons (.bl false) .nil) ⟨bk, fit, b6, rfl, rfl⟩) e
        refine nx_ret sB ((evd_op (evd_op (evd_call (d := toldD (termOf t)) (eva_cons (evd_var (d := rowD t) rfl) eva_nil) ⟨t, t8, q2, rfl, rfl⟩) (evd_int (i := 0)) (rvd_ixt (n := 0) rfl rfl)) (kept_ (evd_var (d := bookD B C bk) rfl)) rvd_inS).is (e := .bl true) ?_) fun v H oc f hv => fin v H hv.toBl
        rw [decide_eq_true (List.mem_map.mpr ⟨_, kept, rfl⟩)]
      · exact nx_ret sB evd_bl fun v H oc f hv => fin v H hv.toBl
  obtain ⟨t, h1, h2⟩ := rd
  exact ⟨t, h1.nox, h2⟩
end
end Ec
/-! What the top has written; the last theorem. Printed by mkend.py. -/
namespace Ec
open PySem L2
/-- a def of the module under its name, every parameter given -/
structure Dn (K : PySem.W.Frag) (mg : Str → Option Value) (x : Str) (st : Stmt) (f : Addr) (fd : FuncData) (ps : List Str) : Prop where
  fn : Fun K x x st f fd
  m : mg x = some (.ref f)
  b : Binds K fd ps []
theorem dn_mk {K : PySem.W.Frag} {h : Heap} {mg : Str → Option Value} {x : Str} {st : Stmt} {f : Addr} {oc : Value} {od an : Option Addr} {osl : Array (Option Value)} {kV doc pm cdv ct : Value} {ps : List Str} (X : K.In h) (G : h.Ns mainGlobals mg) (a : PySem.W.nsIn K mainGlobals x = some (some (.ref f)))
    (l : K.lookup f = some ⟨oc, od, .func (PySem.W.fnOf x x (defArgs st) (defBody st) (defScope st) .none kV doc pm an cdv ct), osl⟩) (c : PySem.W.codeIn K cdv x = true) (k : PySem.W.keepIn K (.ref f) = true)
    (hb : ∀ (kV doc pm : Value) (an : Option Addr) (cdv ct : Value) (us : List Value), us.length = ps.length → bindArgs (PySem.W.fnOf x x (defArgs st) (defBody st) (defScope st) .none kV doc pm an cdv ct) ⟨us, []⟩ = pure (ps.zip us)) : Dn K mg x st f (PySem.W.fnOf x x (defArgs st) (defBody st) (defScope st) .none kV doc pm an cdv ct) ps :=
  ⟨fun_mk l c k, PySem.W.mg_of X G a, (fun_mk (st := st) l c k).binds hb⟩
theorem Dn.cal {P : Program} {w : World} {K : PySem.W.Frag} {mg : Str → Option Value} {base : Heap} {x : Str} {st : Stmt} {f : Addr} {fd : FuncData} {ps : List Str} {k : Nat} {sp : Sp} (d : Dn K mg x st f fd ps) (F : FnOk P w K mg base CX0 k f fd ps sp) : C8.Cal P w K mg base k x sp [] := ⟨f, fd, ps, [], F, d.m, d.fn.kp, d.b, .nil⟩
theorem kit_own {K : PySem.W.Frag} {C : Addr} : PySem.W.kitOne K (.ref C) (.ref C) = some true := by
  unfold PySem.W.kitOne
  rw [if_pos (beq_self_eq_true _)]
theorem ktAt_mk {K : PySem.W.Frag} {a : Addr} {its : Array Value} {n : Nat} {sl : Array (Option Value)} {ns : List Int} (l : K.lookup a = some ⟨.type "tuple", none, .seq its n, sl⟩) (hz : its.size ≤ 16) (v : Vals (ns.map V.int) its.toList) : KtAt K a ns := ⟨_, its, n, l, rfl, rfl, rfl, Nat.le_trans hz (by decide), v⟩
theorem row_mk {K : PySem.W.Frag} {a : Addr} {its : Array Value} {n : Nat} {sl : Array (Option Value)} {r : Row} (l : K.lookup a = some ⟨.type "tuple", none, .seq its n, sl⟩) (hz : its.size ≤ 16) (v : Vals ((ibs r).map V.int) its.toList) (H : Hp) : Dd K H (.ref a) (rowD r) := by
  unfold rowD; rw [rowV]
  exact .tup (.inr ⟨_, its, n, l, rfl, rfl, Nat.le_trans hz (by decide), v⟩) (DdL.ofInts _)
theorem cns_tup {K : PySem.W.Frag} {mg : Str → Option Value} {x : Str} {a : Addr} {its : Array Value} {n : Nat} {sl : Array (Option Value)} {vs : List V} {ds : List Dt} (m : mg x = some (.ref a)) (l : K.lookup a = some ⟨.type "tuple", none, .seq its n, sl⟩) (hz : its.size ≤ 16) (v : Vals vs its.toList) (d : ∀ H, DdL K H vs ds) : Cns K mg x (.tup ds) :=
  ⟨.ref a, .ref a, m, rfl, fun H => .tup (.inr ⟨_, its, n, l, rfl, rfl, Nat.le_trans hz (by decide), v⟩) (d H)⟩
theorem cns_int {K : PySem.W.Frag} {mg : Str → Option Value} {x : Str} {i : Int} {t : Tok} (m : mg x = some (.int i t)) : Cns K mg x (.int i) := ⟨.int i, .int i t, m, ⟨t, rfl⟩, fun _ => .int i⟩
theorem walk {l : PySem.W.OpenLaw} {q : Program} {loose : List Str} {XP : (Str → Option Value) → Heap → Prop} {YP : World → Heap → Prop} {d : DefRec} {K : Params → PySem.W.Frag} (hn : l.most = some 63) (hdf : d.params.defaults = []) (hY : ∀ (w : World) (h : Heap), YP w h → (K w.params).In h)
    (F : ∀ (w : World) (mg : Str → Option Value) (fa : Addr) (h : Heap), (K w.params).In h → h.Ns mainGlobals mg → mg d.name = some (.ref fa) → ∀ (base : Heap) (t1 : Shared) (H : Hp) (a : Addr) (ns : List Int), ns.length ≤ 63 → SqL (K w.params) H a (ns.map V.int) → (K w.params).In t1.heap → Env0 l.prog w (K w.params) mg base callerA [] t1 H →
      codeAny (model l.prog w) callerA (.call (.ref fa) ⟨[.ref a], []⟩) (CR CX0 [] l.prog w H t1 (fun v _ => v = .bl true) fun _ _ _ => False) t1) : PySem.W.WalkO q loose XP YP l.row.toRowW d [] (fun f vs => PySem.call f vs) := by
  refine Att.attach_call hn hdf fun w s₀ t1 mg mb fa o pm cd doc a vs ns G Y ho hd hcd hmg hobj hints hlen hg => ?_
  have X := hY w _ Y
  exact law_at X G.T.g G.T.b G.T.builtins G.T.nolimit hg hobj hints (Nat.le_trans hlen (by decide)) fun base _ _ H sq e0 => F w mg fa _ X G.T.g hmg base t1 H a ns hlen sq X e0
theorem all_mk {l : PySem.W.OpenLaw} {w : World} {K : PySem.W.Frag} {h : Heap} {mg : Str → Option Value} {fa : Addr} (X : K.In h) (G : h.Ns mainGlobals mg) (hfa : mg "law" = some (.ref fa))
    {f0 : Addr} {od0 an0 : Option Addr} {sl0 : Array (Option Value)} {oc0 kV0 dc0 pm0 cd0 ct0 : Value}
    {f1 : Addr} {od1 an1 : Option Addr} {sl1 : Array (Option Value)} {oc1 kV1 dc1 pm1 cd1 ct1 : Value}
    {f2 : Addr} {od2 an2 : Option Addr} {sl2 : Array (Option Value)} {oc2 kV2 dc2 pm2 cd2 ct2 : Value}
    {f3 : Addr} {od3 an3 : Option Addr} {sl3 : Array (Option Value)} {oc3 kV3 dc3 pm3 cd3 ct3 : Value}
    {f4 : Addr} {od4 an4 : Option Addr} {sl4 : Array (Option Value)} {oc4 kV4 dc4 pm4 cd4 ct4 : Value}
    {f5 : Addr} {od5 an5 : Option Addr} {sl5 : Array (Option Value)} {oc5 kV5 dc5 pm5 cd5 ct5 : Value}
    {f6 : Addr} {od6 an6 : Option Addr} {sl6 : Array (Option Value)} {oc6 kV6 dc6 pm6 cd6 ct6 : Value}
    {f7 : Addr} {od7 an7 : Option Addr} {sl7 : Array (Option Value)} {oc7 kV7 dc7 pm7 cd7 ct7 : Value}
    {f8 : Addr} {od8 an8 : Option Addr} {sl8 : Array (Option Value)} {oc8 kV8 dc8 pm8 cd8 ct8 : Value}
    {f9 : Addr} {od9 an9 : Option Addr} {sl9 : Array (Option Value)} {oc9 kV9 dc9 pm9 cd9 ct9 : Value}
    {f10 : Addr} {od10 an10 : Option Addr} {sl10 : Array (Option Value)} {oc10 kV10 dc10 pm10 cd10 ct10 : Value}
    {f11 : Addr} {od11 an11 : Option Addr} {sl11 : Array (Option Value)} {oc11 kV11 dc11 pm11 cd11 ct11 : Value}
    {f12 : Addr} {od12 an12 : Option Addr} {sl12 : Array (Option Value)} {oc12 kV12 dc12 pm12 cd12 ct12 : Value}
    {f13 : Addr} {od13 an13 : Option Addr} {sl13 : Array (Option Value)} {oc13 kV13 dc13 pm13 cd13 ct13 : Value}
    {f14 : Addr} {od14 an14 : Option Addr} {sl14 : Array (Option Value)} {oc14 kV14 dc14 pm14 cd14 ct14 : Value}
    {f15 : Addr} {od15 an15 : Option Addr} {sl15 : Array (Option Value)} {oc15 kV15 dc15 pm15 cd15 ct15 : Value}
    {f16 : Addr} {od16 an16 : Option Addr} {sl16 : Array (Option Value)} {oc16 kV16 dc16 pm16 cd16 ct16 : Value}
    {f17 : Addr} {od17 an17 : Option Addr} {sl17 : Array (Option Value)} {oc17 kV17 dc17 pm17 cd17 ct17 : Value}
    {f18 : Addr} {od18 an18 : Option Addr} {sl18 : Array (Option Value)} {oc18 kV18 dc18 pm18 cd18 ct18 : Value}
    {f19 : Addr} {od19 an19 : Option Addr} {sl19 : Array (Option Value)} {oc19 kV19 dc19 pm19 cd19 ct19 : Value}
    {f20 : Addr} {od20 an20 : Option Addr} {sl20 : Array (Option Value)} {oc20 kV20 dc20 pm20 cd20 ct20 : Value}
    {f21 : Addr} {od21 an21 : Option Addr} {sl21 : Array (Option Value)} {oc21 kV21 dc21 pm21 cd21 ct21 : Value}
    {f22 : Addr} {od22 an22 : Option Addr} {sl22 : Array (Option Value)} {oc22 kV22 dc22 pm22 cd22 ct22 : Value}
    {f23 : Addr} {od23 an23 : Option Addr} {sl23 : Array (Option Value)} {oc23 kV23 dc23 pm23 cd23 ct23 : Value}
    {f24 : Addr} {od24 an24 : Option Addr} {sl24 : Array (Option Value)} {oc24 kV24 dc24 pm24 cd24 ct24 : Value}
    {f25 : Addr} {od25 an25 : Option Addr} {sl25 : Array (Option Value)} {oc25 kV25 dc25 pm25 cd25 ct25 : Value}
    {f26 : Addr} {od26 an26 : Option Addr} {sl26 : Array (Option Value)} {oc26 kV26 dc26 pm26 cd26 ct26 : Value}
    {f27 : Addr} {od27 an27 : Option Addr} {sl27 : Array (Option Value)} {oc27 kV27 dc27 pm27 cd27 ct27 : Value}
    {f28 : Addr} {od28 an28 : Option Addr} {sl28 : Array (Option Value)} {oc28 kV28 dc28 pm28 cd28 ct28 : Value}
    {f29 : Addr} {od29 an29 : Option Addr} {sl29 : Array (Option Value)} {oc29 kV29 dc29 pm29 cd29 ct29 : Value}
    {f30 : Addr} {od30 an30 : Option Addr} {sl30 : Array (Option Value)} {oc30 kV30 dc30 pm30 cd30 ct30 : Value}
    {f31 : Addr} {od31 an31 : Option Addr} {sl31 : Array (Option Value)} {oc31 kV31 dc31 pm31 cd31 ct31 : Value}
    {f32 : Addr} {od32 an32 : Option Addr} {sl32 : Array (Option Value)} {oc32 kV32 dc32 pm32 cd32 ct32 : Value}
    {f33 : Addr} {od33 an33 : Option Addr} {sl33 : Array (Option Value)} {oc33 kV33 dc33 pm33 cd33 ct33 : Value}
    {f34 : Addr} {od34 an34 : Option Addr} {sl34 : Array (Option Value)} {oc34 kV34 dc34 pm34 cd34 ct34 : Value}
    {f35 : Addr} {od35 an35 : Option Addr} {sl35 : Array (Option Value)} {oc35 kV35 dc35 pm35 cd35 ct35 : Value}
    {f36 : Addr} {od36 an36 : Option Addr} {sl36 : Array (Option Value)} {oc36 kV36 dc36 pm36 cd36 ct36 : Value}
    {f37 : Addr} {od37 an37 : Option Addr} {sl37 : Array (Option Value)} {oc37 kV37 dc37 pm37 cd37 ct37 : Value}
    {f38 : Addr} {od38 an38 : Option Addr} {sl38 : Array (Option Value)} {oc38 kV38 dc38 pm38 cd38 ct38 : Value}
    {fK D0 : Addr} {odK anK : Option Addr} {slK : Array (Option Value)} {ocK dcK pmK cdK ctK : Value}
    {C : Addr}
    {fiC : Addr} {odiC aniC : Option Addr} {sliC : Array (Option Value)} {ociC kViC dciC pmiC cdiC ctiC : Value}
    {B : Addr}
    {fiB : Addr} {odiB aniB : Option Addr} {sliB : Array (Option Value)} {ociB kViB dciB pmiB cdiB ctiB : Value}
    {tS : Addr} {mS : Nat} {vS : Array (Option Value)} {uS_0 uS_1 uS_2 uS_3 uS_4 : Tok}
    {tW : Addr} {mW : Nat} {vW : Array (Option Value)} {uW_0 uW_1 uW_2 uW_3 uW_4 uW_5 : Tok}
    {tP0 : Addr} {mP0 : Nat} {vP0 : Array (Option Value)} {uP0_0 uP0_1 uP0_2 uP0_3 uP0_4 uP0_5 uP0_6 uP0_7 : Tok}
    {tP1 : Addr} {mP1 : Nat} {vP1 : Array (Option Value)} {uP1_0 uP1_1 uP1_2 uP1_3 uP1_4 uP1_5 uP1_6 uP1_7 : Tok}
    {tP2 : Addr} {mP2 : Nat} {vP2 : Array (Option Value)} {uP2_0 uP2_1 uP2_2 uP2_3 uP2_4 uP2_5 uP2_6 uP2_7 : Tok}
    {tP : Addr} {mP : Nat} {vP : Array (Option Value)}
    {uD : Tok}
    {uM : Tok}
    {uR : Tok}
    {tT0 : Addr} {mT0 : Nat} {vT0 : Array (Option Value)} {uT0_0 uT0_1 : Tok}
    {tT1 : Addr} {mT1 : Nat} {vT1 : Array (Option Value)} {uT1_0 uT1_1 : Tok}
    {tT2 : Addr} {mT2 : Nat} {vT2 : Array (Option Value)} {uT2_0 uT2_1 uT2_2 uT2_3 : Tok}
    {tT3 : Addr} {mT3 : Nat} {vT3 : Array (Option Value)} {uT3_0 uT3_1 uT3_2 uT3_3 : Tok}
    {tT4 : Addr} {mT4 : Nat} {vT4 : Array (Option Value)} {uT4_0 uT4_1 uT4_2 uT4_3 uT4_4 uT4_5 uT4_6 uT4_7 : Tok}
    {tT5 : Addr} {mT5 : Nat} {vT5 : Array (Option Value)} {uT5_0 uT5_1 uT5_2 uT5_3 uT5_4 uT5_5 uT5_6 uT5_7 : Tok}
    {tT mT : Nat} {uT_0 uT_1 uT_2 uT_3 uT_4 uT_5 : Tok}
    (a0 : PySem.W.nsIn K mainGlobals "is_bit" = some (some (.ref f0)))
    (l0 : K.lookup f0 = some ⟨oc0, od0, .func (PySem.W.fnOf "is_bit" "is_bit" (defArgs s_is_bit) (defBody s_is_bit) (defScope s_is_bit) .none kV0 dc0 pm0 an0 cd0 ct0), sl0⟩)
    (c0 : PySem.W.codeIn K cd0 "is_bit" = true)
    (k0 : PySem.W.keepIn K (.ref f0) = true)
    (a1 : PySem.W.nsIn K mainGlobals "is_table" = some (some (.ref f1)))
    (l1 : K.lookup f1 = some ⟨oc1, od1, .func (PySem.W.fnOf "is_table" "is_table" (defArgs s_is_table) (defBody s_is_table) (defScope s_is_table) .none kV1 dc1 pm1 an1 cd1 ct1), sl1⟩)
    (c1 : PySem.W.codeIn K cd1 "is_table" = true)
    (k1 : PySem.W.keepIn K (.ref f1) = true)
    (a2 : PySem.W.nsIn K mainGlobals "number_of" = some (some (.ref f2)))
    (l2 : K.lookup f2 = some ⟨oc2, od2, .func (PySem.W.fnOf "number_of" "number_of" (defArgs s_number_of) (defBody s_number_of) (defScope s_number_of) .none kV2 dc2 pm2 an2 cd2 ct2), sl2⟩)
    (c2 : PySem.W.codeIn K cd2 "number_of" = true)
    (k2 : PySem.W.keepIn K (.ref f2) = true)
    (a3 : PySem.W.nsIn K mainGlobals "spelled" = some (some (.ref f3)))
    (l3 : K.lookup f3 = some ⟨oc3, od3, .func (PySem.W.fnOf "spelled" "spelled" (defArgs s_spelled) (defBody s_spelled) (defScope s_spelled) .none kV3 dc3 pm3 an3 cd3 ct3), sl3⟩)
    (c3 : PySem.W.codeIn K cd3 "spelled" = true)
    (k3 : PySem.W.keepIn K (.ref f3) = true)
    (a4 : PySem.W.nsIn K mainGlobals "made_row" = some (some (.ref f4)))
    (l4 : K.lookup f4 = some ⟨oc4, od4, .func (PySem.W.fnOf "made_row" "made_row" (defArgs s_made_row) (defBody s_made_row) (defScope s_made_row) .none kV4 dc4 pm4 an4 cd4 ct4), sl4⟩)
    (c4 : PySem.W.codeIn K cd4 "made_row" = true)
    (k4 : PySem.W.keepIn K (.ref f4) = true)
    (a5 : PySem.W.nsIn K mainGlobals "tuples_of" = some (some (.ref f5)))
    (l5 : K.lookup f5 = some ⟨oc5, od5, .func (PySem.W.fnOf "tuples_of" "tuples_of" (defArgs s_tuples_of) (defBody s_tuples_of) (defScope s_tuples_of) .none kV5 dc5 pm5 an5 cd5 ct5), sl5⟩)
    (c5 : PySem.W.codeIn K cd5 "tuples_of" = true)
    (k5 : PySem.W.keepIn K (.ref f5) = true)
    (a6 : PySem.W.nsIn K mainGlobals "break_in" = some (some (.ref f6)))
    (l6 : K.lookup f6 = some ⟨oc6, od6, .func (PySem.W.fnOf "break_in" "break_in" (defArgs s_break_in) (defBody s_break_in) (defScope s_break_in) .none kV6 dc6 pm6 an6 cd6 ct6), sl6⟩)
    (c6 : PySem.W.codeIn K cd6 "break_in" = true)
    (k6 : PySem.W.keepIn K (.ref f6) = true)
    (a7 : PySem.W.nsIn K mainGlobals "break_of" = some (some (.ref f7)))
    (l7 : K.lookup f7 = some ⟨oc7, od7, .func (PySem.W.fnOf "break_of" "break_of" (defArgs s_break_of) (defBody s_break_of) (defScope s_break_of) .none kV7 dc7 pm7 an7 cd7 ct7), sl7⟩)
    (c7 : PySem.W.codeIn K cd7 "break_of" = true)
    (k7 : PySem.W.keepIn K (.ref f7) = true)
    (a8 : PySem.W.nsIn K mainGlobals "_is_term" = some (some (.ref f8)))
    (l8 : K.lookup f8 = some ⟨oc8, od8, .func (PySem.W.fnOf "_is_term" "_is_term" (defArgs s__is_term) (defBody s__is_term) (defScope s__is_term) .none kV8 dc8 pm8 an8 cd8 ct8), sl8⟩)
    (c8 : PySem.W.codeIn K cd8 "_is_term" = true)
    (k8 : PySem.W.keepIn K (.ref f8) = true)
    (a9 : PySem.W.nsIn K mainGlobals "put_in" = some (some (.ref f9)))
    (l9 : K.lookup f9 = some ⟨oc9, od9, .func (PySem.W.fnOf "put_in" "put_in" (defArgs s_put_in) (defBody s_put_in) (defScope s_put_in) .none kV9 dc9 pm9 an9 cd9 ct9), sl9⟩)
    (c9 : PySem.W.codeIn K cd9 "put_in" = true)
    (k9 : PySem.W.keepIn K (.ref f9) = true)
    (a10 : PySem.W.nsIn K mainGlobals "_told" = some (some (.ref f10)))
    (l10 : K.lookup f10 = some ⟨oc10, od10, .func (PySem.W.fnOf "_told" "_told" (defArgs s__told) (defBody s__told) (defScope s__told) .none kV10 dc10 pm10 an10 cd10 ct10), sl10⟩)
    (c10 : PySem.W.codeIn K cd10 "_told" = true)
    (k10 : PySem.W.keepIn K (.ref f10) = true)
    (a11 : PySem.W.nsIn K mainGlobals "term_table" = some (some (.ref f11)))
    (l11 : K.lookup f11 = some ⟨oc11, od11, .func (PySem.W.fnOf "term_table" "term_table" (defArgs s_term_table) (defBody s_term_table) (defScope s_term_table) .none kV11 dc11 pm11 an11 cd11 ct11), sl11⟩)
    (c11 : PySem.W.codeIn K cd11 "term_table" = true)
    (k11 : PySem.W.keepIn K (.ref f11) = true)
    (a12 : PySem.W.nsIn K mainGlobals "turned" = some (some (.ref f12)))
    (l12 : K.lookup f12 = some ⟨oc12, od12, .func (PySem.W.fnOf "turned" "turned" (defArgs s_turned) (defBody s_turned) (defScope s_turned) .none kV12 dc12 pm12 an12 cd12 ct12), sl12⟩)
    (c12 : PySem.W.codeIn K cd12 "turned" = true)
    (k12 : PySem.W.keepIn K (.ref f12) = true)
    (a13 : PySem.W.nsIn K mainGlobals "is_plain" = some (some (.ref f13)))
    (l13 : K.lookup f13 = some ⟨oc13, od13, .func (PySem.W.fnOf "is_plain" "is_plain" (defArgs s_is_plain) (defBody s_is_plain) (defScope s_is_plain) .none kV13 dc13 pm13 an13 cd13 ct13), sl13⟩)
    (c13 : PySem.W.codeIn K cd13 "is_plain" = true)
    (k13 : PySem.W.keepIn K (.ref f13) = true)
    (a14 : PySem.W.nsIn K mainGlobals "_applied" = some (some (.ref f14)))
    (l14 : K.lookup f14 = some ⟨oc14, od14, .func (PySem.W.fnOf "_applied" "_applied" (defArgs s__applied) (defBody s__applied) (defScope s__applied) .none kV14 dc14 pm14 an14 cd14 ct14), sl14⟩)
    (c14 : PySem.W.codeIn K cd14 "_applied" = true)
    (k14 : PySem.W.keepIn K (.ref f14) = true)
    (a15 : PySem.W.nsIn K mainGlobals "_readings" = some (some (.ref f15)))
    (l15 : K.lookup f15 = some ⟨oc15, od15, .func (PySem.W.fnOf "_readings" "_readings" (defArgs s__readings) (defBody s__readings) (defScope s__readings) .none kV15 dc15 pm15 an15 cd15 ct15), sl15⟩)
    (c15 : PySem.W.codeIn K cd15 "_readings" = true)
    (k15 : PySem.W.keepIn K (.ref f15) = true)
    (a16 : PySem.W.nsIn K mainGlobals "term_of" = some (some (.ref f16)))
    (l16 : K.lookup f16 = some ⟨oc16, od16, .func (PySem.W.fnOf "term_of" "term_of" (defArgs s_term_of) (defBody s_term_of) (defScope s_term_of) .none kV16 dc16 pm16 an16 cd16 ct16), sl16⟩)
    (c16 : PySem.W.codeIn K cd16 "term_of" = true)
    (k16 : PySem.W.keepIn K (.ref f16) = true)
    (a17 : PySem.W.nsIn K mainGlobals "is_below" = some (some (.ref f17)))
    (l17 : K.lookup f17 = some ⟨oc17, od17, .func (PySem.W.fnOf "is_below" "is_below" (defArgs s_is_below) (defBody s_is_below) (defScope s_is_below) .none kV17 dc17 pm17 an17 cd17 ct17), sl17⟩)
    (c17 : PySem.W.codeIn K cd17 "is_below" = true)
    (k17 : PySem.W.keepIn K (.ref f17) = true)
    (a18 : PySem.W.nsIn K mainGlobals "is_row" = some (some (.ref f18)))
    (l18 : K.lookup f18 = some ⟨oc18, od18, .func (PySem.W.fnOf "is_row" "is_row" (defArgs s_is_row) (defBody s_is_row) (defScope s_is_row) .none kV18 dc18 pm18 an18 cd18 ct18), sl18⟩)
    (c18 : PySem.W.codeIn K cd18 "is_row" = true)
    (k18 : PySem.W.keepIn K (.ref f18) = true)
    (a19 : PySem.W.nsIn K mainGlobals "are_rows" = some (some (.ref f19)))
    (l19 : K.lookup f19 = some ⟨oc19, od19, .func (PySem.W.fnOf "are_rows" "are_rows" (defArgs s_are_rows) (defBody s_are_rows) (defScope s_are_rows) .none kV19 dc19 pm19 an19 cd19 ct19), sl19⟩)
    (c19 : PySem.W.codeIn K cd19 "are_rows" = true)
    (k19 : PySem.W.keepIn K (.ref f19) = true)
    (a20 : PySem.W.nsIn K mainGlobals "are_relations" = some (some (.ref f20)))
    (l20 : K.lookup f20 = some ⟨oc20, od20, .func (PySem.W.fnOf "are_relations" "are_relations" (defArgs s_are_relations) (defBody s_are_relations) (defScope s_are_relations) .none kV20 dc20 pm20 an20 cd20 ct20), sl20⟩)
    (c20 : PySem.W.codeIn K cd20 "are_relations" = true)
    (k20 : PySem.W.keepIn K (.ref f20) = true)
    (a21 : PySem.W.nsIn K mainGlobals "_law_draws" = some (some (.ref f21)))
    (l21 : K.lookup f21 = some ⟨oc21, od21, .func (PySem.W.fnOf "_law_draws" "_law_draws" (defArgs s__law_draws) (defBody s__law_draws) (defScope s__law_draws) .none kV21 dc21 pm21 an21 cd21 ct21), sl21⟩)
    (c21 : PySem.W.codeIn K cd21 "_law_draws" = true)
    (k21 : PySem.W.keepIn K (.ref f21) = true)
    (a22 : PySem.W.nsIn K mainGlobals "_law_take" = some (some (.ref f22)))
    (l22 : K.lookup f22 = some ⟨oc22, od22, .func (PySem.W.fnOf "_law_take" "_law_take" (defArgs s__law_take) (defBody s__law_take) (defScope s__law_take) .none kV22 dc22 pm22 an22 cd22 ct22), sl22⟩)
    (c22 : PySem.W.codeIn K cd22 "_law_take" = true)
    (k22 : PySem.W.keepIn K (.ref f22) = true)
    (a23 : PySem.W.nsIn K mainGlobals "_law_every" = some (some (.ref f23)))
    (l23 : K.lookup f23 = some ⟨oc23, od23, .func (PySem.W.fnOf "_law_every" "_law_every" (defArgs s__law_every) (defBody s__law_every) (defScope s__law_every) .none kV23 dc23 pm23 an23 cd23 ct23), sl23⟩)
    (c23 : PySem.W.codeIn K cd23 "_law_every" = true)
    (k23 : PySem.W.keepIn K (.ref f23) = true)
    (a24 : PySem.W.nsIn K mainGlobals "_law_rows" = some (some (.ref f24)))
    (l24 : K.lookup f24 = some ⟨oc24, od24, .func (PySem.W.fnOf "_law_rows" "_law_rows" (defArgs s__law_rows) (defBody s__law_rows) (defScope s__law_rows) .none kV24 dc24 pm24 an24 cd24 ct24), sl24⟩)
    (c24 : PySem.W.codeIn K cd24 "_law_rows" = true)
    (k24 : PySem.W.keepIn K (.ref f24) = true)
    (a25 : PySem.W.nsIn K mainGlobals "_law_place" = some (some (.ref f25)))
    (l25 : K.lookup f25 = some ⟨oc25, od25, .func (PySem.W.fnOf "_law_place" "_law_place" (defArgs s__law_place) (defBody s__law_place) (defScope s__law_place) .none kV25 dc25 pm25 an25 cd25 ct25), sl25⟩)
    (c25 : PySem.W.codeIn K cd25 "_law_place" = true)
    (k25 : PySem.W.keepIn K (.ref f25) = true)
    (a26 : PySem.W.nsIn K mainGlobals "_law_made" = some (some (.ref f26)))
    (l26 : K.lookup f26 = some ⟨oc26, od26, .func (PySem.W.fnOf "_law_made" "_law_made" (defArgs s__law_made) (defBody s__law_made) (defScope s__law_made) .none kV26 dc26 pm26 an26 cd26 ct26), sl26⟩)
    (c26 : PySem.W.codeIn K cd26 "_law_made" = true)
    (k26 : PySem.W.keepIn K (.ref f26) = true)
    (a27 : PySem.W.nsIn K mainGlobals "_law_tuples" = some (some (.ref f27)))
    (l27 : K.lookup f27 = some ⟨oc27, od27, .func (PySem.W.fnOf "_law_tuples" "_law_tuples" (defArgs s__law_tuples) (defBody s__law_tuples) (defScope s__law_tuples) .none kV27 dc27 pm27 an27 cd27 ct27), sl27⟩)
    (c27 : PySem.W.codeIn K cd27 "_law_tuples" = true)
    (k27 : PySem.W.keepIn K (.ref f27) = true)
    (a28 : PySem.W.nsIn K mainGlobals "_law_break" = some (some (.ref f28)))
    (l28 : K.lookup f28 = some ⟨oc28, od28, .func (PySem.W.fnOf "_law_break" "_law_break" (defArgs s__law_break) (defBody s__law_break) (defScope s__law_break) .none kV28 dc28 pm28 an28 cd28 ct28), sl28⟩)
    (c28 : PySem.W.codeIn K cd28 "_law_break" = true)
    (k28 : PySem.W.keepIn K (.ref f28) = true)
    (a29 : PySem.W.nsIn K mainGlobals "_law_six" = some (some (.ref f29)))
    (l29 : K.lookup f29 = some ⟨oc29, od29, .func (PySem.W.fnOf "_law_six" "_law_six" (defArgs s__law_six) (defBody s__law_six) (defScope s__law_six) .none kV29 dc29 pm29 an29 cd29 ct29), sl29⟩)
    (c29 : PySem.W.codeIn K cd29 "_law_six" = true)
    (k29 : PySem.W.keepIn K (.ref f29) = true)
    (a30 : PySem.W.nsIn K mainGlobals "_law_places_of" = some (some (.ref f30)))
    (l30 : K.lookup f30 = some ⟨oc30, od30, .func (PySem.W.fnOf "_law_places_of" "_law_places_of" (defArgs s__law_places_of) (defBody s__law_places_of) (defScope s__law_places_of) .none kV30 dc30 pm30 an30 cd30 ct30), sl30⟩)
    (c30 : PySem.W.codeIn K cd30 "_law_places_of" = true)
    (k30 : PySem.W.keepIn K (.ref f30) = true)
    (a31 : PySem.W.nsIn K mainGlobals "_law_drawn_book" = some (some (.ref f31)))
    (l31 : K.lookup f31 = some ⟨oc31, od31, .func (PySem.W.fnOf "_law_drawn_book" "_law_drawn_book" (defArgs s__law_drawn_book) (defBody s__law_drawn_book) (defScope s__law_drawn_book) .none kV31 dc31 pm31 an31 cd31 ct31), sl31⟩)
    (c31 : PySem.W.codeIn K cd31 "_law_drawn_book" = true)
    (k31 : PySem.W.keepIn K (.ref f31) = true)
    (a32 : PySem.W.nsIn K mainGlobals "_law_closed" = some (some (.ref f32)))
    (l32 : K.lookup f32 = some ⟨oc32, od32, .func (PySem.W.fnOf "_law_closed" "_law_closed" (defArgs s__law_closed) (defBody s__law_closed) (defScope s__law_closed) .none kV32 dc32 pm32 an32 cd32 ct32), sl32⟩)
    (c32 : PySem.W.codeIn K cd32 "_law_closed" = true)
    (k32 : PySem.W.keepIn K (.ref f32) = true)
    (a33 : PySem.W.nsIn K mainGlobals "_law_book" = some (some (.ref f33)))
    (l33 : K.lookup f33 = some ⟨oc33, od33, .func (PySem.W.fnOf "_law_book" "_law_book" (defArgs s__law_book) (defBody s__law_book) (defScope s__law_book) .none kV33 dc33 pm33 an33 cd33 ct33), sl33⟩)
    (c33 : PySem.W.codeIn K cd33 "_law_book" = true)
    (k33 : PySem.W.keepIn K (.ref f33) = true)
    (a34 : PySem.W.nsIn K mainGlobals "_law_term_table" = some (some (.ref f34)))
    (l34 : K.lookup f34 = some ⟨oc34, od34, .func (PySem.W.fnOf "_law_term_table" "_law_term_table" (defArgs s__law_term_table) (defBody s__law_term_table) (defScope s__law_term_table) .none kV34 dc34 pm34 an34 cd34 ct34), sl34⟩)
    (c34 : PySem.W.codeIn K cd34 "_law_term_table" = true)
    (k34 : PySem.W.keepIn K (.ref f34) = true)
    (a35 : PySem.W.nsIn K mainGlobals "_law_is_plain" = some (some (.ref f35)))
    (l35 : K.lookup f35 = some ⟨oc35, od35, .func (PySem.W.fnOf "_law_is_plain" "_law_is_plain" (defArgs s__law_is_plain) (defBody s__law_is_plain) (defScope s__law_is_plain) .none kV35 dc35 pm35 an35 cd35 ct35), sl35⟩)
    (c35 : PySem.W.codeIn K cd35 "_law_is_plain" = true)
    (k35 : PySem.W.keepIn K (.ref f35) = true)
    (a36 : PySem.W.nsIn K mainGlobals "_law_drawn_term" = some (some (.ref f36)))
    (l36 : K.lookup f36 = some ⟨oc36, od36, .func (PySem.W.fnOf "_law_drawn_term" "_law_drawn_term" (defArgs s__law_drawn_term) (defBody s__law_drawn_term) (defScope s__law_drawn_term) .none kV36 dc36 pm36 an36 cd36 ct36), sl36⟩)
    (c36 : PySem.W.codeIn K cd36 "_law_drawn_term" = true)
    (k36 : PySem.W.keepIn K (.ref f36) = true)
    (a37 : PySem.W.nsIn K mainGlobals "_law_due" = some (some (.ref f37)))
    (l37 : K.lookup f37 = some ⟨oc37, od37, .func (PySem.W.fnOf "_law_due" "_law_due" (defArgs s__law_due) (defBody s__law_due) (defScope s__law_due) .none kV37 dc37 pm37 an37 cd37 ct37), sl37⟩)
    (c37 : PySem.W.codeIn K cd37 "_law_due" = true)
    (k37 : PySem.W.keepIn K (.ref f37) = true)
    (a38 : PySem.W.nsIn K mainGlobals "law" = some (some (.ref f38)))
    (l38 : K.lookup f38 = some ⟨oc38, od38, .func (PySem.W.fnOf "law" "law" (defArgs s_law) (defBody s_law) (defScope s_law) .none kV38 dc38 pm38 an38 cd38 ct38), sl38⟩)
    (c38 : PySem.W.codeIn K cd38 "law" = true)
    (k38 : PySem.W.keepIn K (.ref f38) = true)
    (aK : PySem.W.nsIn K mainGlobals "kept_by" = some (some (.ref fK)))
    (lK : K.lookup fK = some ⟨ocK, odK, .func (PySem.W.fnOf "kept_by" "kept_by" (defArgs s_kept_by) (defBody s_kept_by) (defScope s_kept_by) .none (.ref D0) dcK pmK anK cdK ctK), slK⟩)
    (cK : PySem.W.codeIn K cdK "kept_by" = true)
    (kK : PySem.W.keepIn K (.ref fK) = true)
    (dK : PySem.W.nsIn K D0 "fixed" = some (some (.bool false)))
    (xC : PySem.W.nsIn K mainGlobals "Relation" = some (some (.ref C)))
    (aiC : PySem.W.findIn K (.ref C) "__init__" = some (some (.ref fiC)))
    (liC : K.lookup fiC = some ⟨ociC, odiC, .func (PySem.W.fnOf "__init__" "Relation.__init__" (defArgs s_Relation___init__) (defBody s_Relation___init__) (defScope s_Relation___init__) .none kViC dciC pmiC aniC cdiC ctiC), sliC⟩)
    (ciC : PySem.W.codeIn K cdiC "Relation.__init__" = true)
    (kiC : PySem.W.keepIn K (.ref fiC) = true)
    (qC : PySem.W.isFn K (.ref fiC) = true)
    (pgC : PySem.W.plainGet K C Str.empty = true)
    (hdC : PySem.W.hasDictIn K C = true)
    (poC : PySem.W.plainOver K C = true)
    (saC : PySem.W.findIn K (.ref C) "__setattr__" = some (some (.builtin "object.__setattr__")))
    (mkC : PySem.W.makesIn K C = true)
    (kcC : PySem.W.keepIn K (.ref C) = true)
    (nC0 : PySem.W.findIn K (.ref C) "size" = some none)
    (nC1 : PySem.W.findIn K (.ref C) "rows" = some none)
    (xB : PySem.W.nsIn K mainGlobals "Book" = some (some (.ref B)))
    (aiB : PySem.W.findIn K (.ref B) "__init__" = some (some (.ref fiB)))
    (liB : K.lookup fiB = some ⟨ociB, odiB, .func (PySem.W.fnOf "__init__" "Book.__init__" (defArgs s_Book___init__) (defBody s_Book___init__) (defScope s_Book___init__) .none kViB dciB pmiB aniB cdiB ctiB), sliB⟩)
    (ciB : PySem.W.codeIn K cdiB "Book.__init__" = true)
    (kiB : PySem.W.keepIn K (.ref fiB) = true)
    (qB : PySem.W.isFn K (.ref fiB) = true)
    (pgB : PySem.W.plainGet K B Str.empty = true)
    (hdB : PySem.W.hasDictIn K B = true)
    (poB : PySem.W.plainOver K B = true)
    (saB : PySem.W.findIn K (.ref B) "__setattr__" = some (some (.builtin "object.__setattr__")))
    (mkB : PySem.W.makesIn K B = true)
    (kcB : PySem.W.keepIn K (.ref B) = true)
    (nB0 : PySem.W.findIn K (.ref B) "relations" = some none)
    (nB1 : PySem.W.findIn K (.ref B) "plain" = some none)
    (yC1 : PySem.W.findIn K (.ref C) "__class__" = some (some (.builtin "object.__class__")))
    (yC2 : PySem.W.specialIn K (.builtin "object.__class__") "__get__" = some (some (.builtin "getset_descriptor.__get__")))
    (yC3 : PySem.W.takesIn K (.builtin "object.__class__") = some true)
    (yC4 : PySem.W.mroIn K C (.type "object") = some true)
    (z_len : PySem.W.nsIn K mainGlobals "len" = some none)
    (z_abs : PySem.W.nsIn K mainGlobals "abs" = some none)
    (z_int : PySem.W.nsIn K mainGlobals "int" = some none)
    (z_bool : PySem.W.nsIn K mainGlobals "bool" = some none)
    (z_range : PySem.W.nsIn K mainGlobals "range" = some none)
    (z_tuple : PySem.W.nsIn K mainGlobals "tuple" = some none)
    (z_list : PySem.W.nsIn K mainGlobals "list" = some none)
    (z_sorted : PySem.W.nsIn K mainGlobals "sorted" = some none)
    (z_isinstance : PySem.W.nsIn K mainGlobals "isinstance" = some none)
    (z_sum : PySem.W.nsIn K mainGlobals "sum" = some none)
    (z_repr : PySem.W.nsIn K mainGlobals "repr" = some none)
    (z_enumerate : PySem.W.nsIn K mainGlobals "enumerate" = some none)
    (gS : PySem.W.nsIn K mainGlobals "SIZES" = some (some (.ref tS)))
    (lS : K.lookup tS = some ⟨.type "tuple", none, .seq #[Value.int 1 uS_0, Value.int 2 uS_1, Value.int 4 uS_2, Value.int 8 uS_3, Value.int 16 uS_4] mS, vS⟩)
    (gW : PySem.W.nsIn K mainGlobals "WORDS" = some (some (.ref tW)))
    (lW : K.lookup tW = some ⟨.type "tuple", none, .seq #[Value.str "all no" uW_0, Value.str "all yes" uW_1, Value.str "and" uW_2, Value.str "or" uW_3, Value.str "majority" uW_4, Value.str "odd one" uW_5] mW, vW⟩)
    (gP : PySem.W.nsIn K mainGlobals "PLACES" = some (some (.ref tP)))
    (lP : K.lookup tP = some ⟨.type "tuple", none, .seq #[Value.ref tP0, Value.ref tP1, Value.ref tP2] mP, vP⟩)
    (lP0 : K.lookup tP0 = some ⟨.type "tuple", none, .seq #[Value.int 0 uP0_0, Value.int 0 uP0_1, Value.int 0 uP0_2, Value.int 0 uP0_3, Value.int 1 uP0_4, Value.int 1 uP0_5, Value.int 1 uP0_6, Value.int 1 uP0_7] mP0, vP0⟩)
    (lP1 : K.lookup tP1 = some ⟨.type "tuple", none, .seq #[Value.int 0 uP1_0, Value.int 0 uP1_1, Value.int 1 uP1_2, Value.int 1 uP1_3, Value.int 0 uP1_4, Value.int 0 uP1_5, Value.int 1 uP1_6, Value.int 1 uP1_7] mP1, vP1⟩)
    (lP2 : K.lookup tP2 = some ⟨.type "tuple", none, .seq #[Value.int 0 uP2_0, Value.int 1 uP2_1, Value.int 0 uP2_2, Value.int 1 uP2_3, Value.int 0 uP2_4, Value.int 1 uP2_5, Value.int 0 uP2_6, Value.int 1 uP2_7] mP2, vP2⟩)
    (guD : PySem.W.nsIn K mainGlobals "DEEPEST" = some (some (.int 12 uD)))
    (guM : PySem.W.nsIn K mainGlobals "MOST_PLACES" = some (some (.int 4 uM)))
    (guR : PySem.W.nsIn K mainGlobals "MOST_RELATIONS" = some (some (.int 6 uR)))
    (gT : PySem.W.nsIn K mainGlobals "TABLES" = some (some (.ref tT)))
    (lT : K.lookup tT = some ⟨.type "dict", none, .dict #[⟨PyData.keyHash w.params "all no", .str "all no" uT_0, .ref tT0⟩, ⟨PyData.keyHash w.params "all yes", .str "all yes" uT_1, .ref tT1⟩, ⟨PyData.keyHash w.params "and", .str "and" uT_2, .ref tT2⟩, ⟨PyData.keyHash w.params "or", .str "or" uT_3, .ref tT3⟩, ⟨PyData.keyHash w.params "majority", .str "majority" uT_4, .ref tT4⟩, ⟨PyData.keyHash w.params "odd one", .str "odd one" uT_5, .ref tT5⟩] mT, #[]⟩)
    (eT0 : PySem.W.nsIn K tT "all no" = some (some (.ref tT0)))
    (eT1 : PySem.W.nsIn K tT "all yes" = some (some (.ref tT1)))
    (eT2 : PySem.W.nsIn K tT "and" = some (some (.ref tT2)))
    (eT3 : PySem.W.nsIn K tT "or" = some (some (.ref tT3)))
    (eT4 : PySem.W.nsIn K tT "majority" = some (some (.ref tT4)))
    (eT5 : PySem.W.nsIn K tT "odd one" = some (some (.ref tT5)))
    (lT0 : K.lookup tT0 = some ⟨.type "tuple", none, .seq #[Value.int 0 uT0_0, Value.int 0 uT0_1] mT0, vT0⟩)
    (lT1 : K.lookup tT1 = some ⟨.type "tuple", none, .seq #[Value.int 1 uT1_0, Value.int 1 uT1_1] mT1, vT1⟩)
    (lT2 : K.lookup tT2 = some ⟨.type "tuple", none, .seq #[Value.int 0 uT2_0, Value.int 0 uT2_1, Value.int 0 uT2_2, Value.int 1 uT2_3] mT2, vT2⟩)
    (lT3 : K.lookup tT3 = some ⟨.type "tuple", none, .seq #[Value.int 0 uT3_0, Value.int 1 uT3_1, Value.int 1 uT3_2, Value.int 1 uT3_3] mT3, vT3⟩)
    (lT4 : K.lookup tT4 = some ⟨.type "tuple", none, .seq #[Value.int 0 uT4_0, Value.int 0 uT4_1, Value.int 0 uT4_2, Value.int 1 uT4_3, Value.int 0 uT4_4, Value.int 1 uT4_5, Value.int 1 uT4_6, Value.int 1 uT4_7] mT4, vT4⟩)
    (lT5 : K.lookup tT5 = some ⟨.type "tuple", none, .seq #[Value.int 0 uT5_0, Value.int 1 uT5_1, Value.int 1 uT5_2, Value.int 0 uT5_3, Value.int 1 uT5_4, Value.int 0 uT5_5, Value.int 0 uT5_6, Value.int 1 uT5_7] mT5, vT5⟩) :
    ∀ (base : Heap) (t1 : Shared) (H : Hp) (a : Addr) (ns : List Int), ns.length ≤ 63 → SqL K H a (ns.map V.int) → K.In t1.heap → Env0 l.prog w K mg base callerA [] t1 H →
      codeAny (model l.prog w) callerA (.call (.ref fa) ⟨[.ref a], []⟩) (CR CX0 [] l.prog w H t1 (fun v _ => v = .bl true) fun _ _ _ => False) t1 := by
  intro base t1 H a ns hz sq kin e0
  have Dis_bit : Dn K mg "is_bit" s_is_bit f0 _ ["value"] := dn_mk X G a0 l0 c0 k0 (fun _ _ _ _ _ _ us hl => match us, hl with | [_], _ => rfl)
  have Dis_table : Dn K mg "is_table" s_is_table f1 _ ["value", "m"] := dn_mk X G a1 l1 c1 k1 (fun _ _ _ _ _ _ us hl => match us, hl with | [_, _], _ => rfl)
  have Dnumber_of : Dn K mg "number_of" s_number_of f2 _ ["bits"] := dn_mk X G a2 l2 c2 k2 (fun _ _ _ _ _ _ us hl => match us, hl with | [_], _ => rfl)
  have Dspelled : Dn K mg "spelled" s_spelled f3 _ ["rows"] := dn_mk X G a3 l3 c3 k3 (fun _ _ _ _ _ _ us hl => match us, hl with | [_], _ => rfl)
  have Dmade_row : Dn K mg "made_row" s_made_row f4 _ ["table", "rows"] := dn_mk X G a4 l4 c4 k4 (fun _ _ _ _ _ _ us hl => match us, hl with | [_, _], _ => rfl)
  have Dtuples_of : Dn K mg "tuples_of" s_tuples_of f5 _ ["rows", "m"] := dn_mk X G a5 l5 c5 k5 (fun _ _ _ _ _ _ us hl => match us, hl with | [_, _], _ => rfl)
  have Dbreak_in : Dn K mg "break_in" s_break_in f6 _ ["relation", "table"] := dn_mk X G a6 l6 c6 k6 (fun _ _ _ _ _ _ us hl => match us, hl with | [_, _], _ => rfl)
  have Dbreak_of : Dn K mg "break_of" s_break_of f7 _ ["book", "table"] := dn_mk X G a7 l7 c7 k7 (fun _ _ _ _ _ _ us hl => match us, hl with | [_, _], _ => rfl)
  have D_is_term : Dn K mg "_is_term" s__is_term f8 _ ["value", "left"] := dn_mk X G a8 l8 c8 k8 (fun _ _ _ _ _ _ us hl => match us, hl with | [_, _], _ => rfl)
  have Dput_in : Dn K mg "put_in" s_put_in f9 _ ["table", "parts"] := dn_mk X G a9 l9 c9 k9 (fun _ _ _ _ _ _ us hl => match us, hl with | [_, _], _ => rfl)
  have D_told : Dn K mg "_told" s__told f10 _ ["table", "term"] := dn_mk X G a10 l10 c10 k10 (fun _ _ _ _ _ _ us hl => match us, hl with | [_, _], _ => rfl)
  have Dterm_table : Dn K mg "term_table" s_term_table f11 _ ["table", "term"] := dn_mk X G a11 l11 c11 k11 (fun _ _ _ _ _ _ us hl => match us, hl with | [_, _], _ => rfl)
  have Dturned : Dn K mg "turned" s_turned f12 _ ["table"] := dn_mk X G a12 l12 c12 k12 (fun _ _ _ _ _ _ us hl => match us, hl with | [_], _ => rfl)
  have Dis_plain : Dn K mg "is_plain" s_is_plain f13 _ ["table"] := dn_mk X G a13 l13 c13 k13 (fun _ _ _ _ _ _ us hl => match us, hl with | [_], _ => rfl)
  have D_applied : Dn K mg "_applied" s__applied f14 _ ["turns", "parts"] := dn_mk X G a14 l14 c14 k14 (fun _ _ _ _ _ _ us hl => match us, hl with | [_, _], _ => rfl)
  have D_readings : Dn K mg "_readings" s__readings f15 _ ["table"] := dn_mk X G a15 l15 c15 k15 (fun _ _ _ _ _ _ us hl => match us, hl with | [_], _ => rfl)
  have Dterm_of : Dn K mg "term_of" s_term_of f16 _ ["table"] := dn_mk X G a16 l16 c16 k16 (fun _ _ _ _ _ _ us hl => match us, hl with | [_], _ => rfl)
  have Dis_below : Dn K mg "is_below" s_is_below f17 _ ["value", "limit"] := dn_mk X G a17 l17 c17 k17 (fun _ _ _ _ _ _ us hl => match us, hl with | [_, _], _ => rfl)
  have Dis_row : Dn K mg "is_row" s_is_row f18 _ ["value", "size"] := dn_mk X G a18 l18 c18 k18 (fun _ _ _ _ _ _ us hl => match us, hl with | [_, _], _ => rfl)
  have Dare_rows : Dn K mg "are_rows" s_are_rows f19 _ ["rows", "size"] := dn_mk X G a19 l19 c19 k19 (fun _ _ _ _ _ _ us hl => match us, hl with | [_, _], _ => rfl)
  have Dare_relations : Dn K mg "are_relations" s_are_relations f20 _ ["relations"] := dn_mk X G a20 l20 c20 k20 (fun _ _ _ _ _ _ us hl => match us, hl with | [_], _ => rfl)
  have D_law_draws : Dn K mg "_law_draws" s__law_draws f21 _ ["_law_script", "_law_many"] := dn_mk X G a21 l21 c21 k21 (fun _ _ _ _ _ _ us hl => match us, hl with | [_, _], _ => rfl)
  have D_law_take : Dn K mg "_law_take" s__law_take f22 _ ["_law_hand", "_law_many"] := dn_mk X G a22 l22 c22 k22 (fun _ _ _ _ _ _ us hl => match us, hl with | [_, _], _ => rfl)
  have D_law_every : Dn K mg "_law_every" s__law_every f23 _ ["_law_many"] := dn_mk X G a23 l23 c23 k23 (fun _ _ _ _ _ _ us hl => match us, hl with | [_], _ => rfl)
  have D_law_rows : Dn K mg "_law_rows" s__law_rows f24 _ ["_law_hand", "_law_size", "_law_most"] := dn_mk X G a24 l24 c24 k24 (fun _ _ _ _ _ _ us hl => match us, hl with | [_, _, _], _ => rfl)
  have D_law_place : Dn K mg "_law_place" s__law_place f25 _ ["_law_row"] := dn_mk X G a25 l25 c25 k25 (fun _ _ _ _ _ _ us hl => match us, hl with | [_], _ => rfl)
  have D_law_made : Dn K mg "_law_made" s__law_made f26 _ ["_law_table", "_law_rows_here"] := dn_mk X G a26 l26 c26 k26 (fun _ _ _ _ _ _ us hl => match us, hl with | [_, _], _ => rfl)
  have D_law_tuples : Dn K mg "_law_tuples" s__law_tuples f27 _ ["_law_rows_here", "_law_m"] := dn_mk X G a27 l27 c27 k27 (fun _ _ _ _ _ _ us hl => match us, hl with | [_, _], _ => rfl)
  have D_law_break : Dn K mg "_law_break" s__law_break f28 _ ["_law_relation", "_law_table", "_law_m"] := dn_mk X G a28 l28 c28 k28 (fun _ _ _ _ _ _ us hl => match us, hl with | [_, _, _], _ => rfl)
  have D_law_six : Dn K mg "_law_six" s__law_six f29 _ [] := dn_mk X G a29 l29 c29 k29 (fun _ _ _ _ _ _ us hl => match us, hl with | [], _ => rfl)
  have D_law_places_of : Dn K mg "_law_places_of" s__law_places_of f30 _ ["_law_table"] := dn_mk X G a30 l30 c30 k30 (fun _ _ _ _ _ _ us hl => match us, hl with | [_], _ => rfl)
  have D_law_drawn_book : Dn K mg "_law_drawn_book" s__law_drawn_book f31 _ ["_law_hand"] := dn_mk X G a31 l31 c31 k31 (fun _ _ _ _ _ _ us hl => match us, hl with | [_], _ => rfl)
  have D_law_closed : Dn K mg "_law_closed" s__law_closed f32 _ ["_law_rows_here", "_law_table"] := dn_mk X G a32 l32 c32 k32 (fun _ _ _ _ _ _ us hl => match us, hl with | [_, _], _ => rfl)
  have D_law_book : Dn K mg "_law_book" s__law_book f33 _ ["_law_book_here"] := dn_mk X G a33 l33 c33 k33 (fun _ _ _ _ _ _ us hl => match us, hl with | [_], _ => rfl)
  have D_law_term_table : Dn K mg "_law_term_table" s__law_term_table f34 _ ["_law_table", "_law_term"] := dn_mk X G a34 l34 c34 k34 (fun _ _ _ _ _ _ us hl => match us, hl with | [_, _], _ => rfl)
  have D_law_is_plain : Dn K mg "_law_is_plain" s__law_is_plain f35 _ ["_law_table"] := dn_mk X G a35 l35 c35 k35 (fun _ _ _ _ _ _ us hl => match us, hl with | [_], _ => rfl)
  have D_law_drawn_term : Dn K mg "_law_drawn_term" s__law_drawn_term f36 _ ["_law_hand", "_law_depth"] := dn_mk X G a36 l36 c36 k36 (fun _ _ _ _ _ _ us hl => match us, hl with | [_, _], _ => rfl)
  have D_law_due : Dn K mg "_law_due" s__law_due f37 _ ["_law_book_here", "_law_table"] := dn_mk X G a37 l37 c37 k37 (fun _ _ _ _ _ _ us hl => match us, hl with | [_, _], _ => rfl)
  have Dlaw : Dn K mg "law" s_law f38 _ ["_law_script"] := dn_mk X G a38 l38 c38 k38 (fun _ _ _ _ _ _ us hl => match us, hl with | [_], _ => rfl)
  have elaw := hfa.symm.trans Dlaw.m
  cases elaw
  have T : Txt K mg := {
    len := PySem.W.mg_none_of X G z_len
    abs := PySem.W.mg_none_of X G z_abs
    int := PySem.W.mg_none_of X G z_int
    bool := PySem.W.mg_none_of X G z_bool
    range := PySem.W.mg_none_of X G z_range
    tuple := PySem.W.mg_none_of X G z_tuple
    list := PySem.W.mg_none_of X G z_list
    sorted := PySem.W.mg_none_of X G z_sorted
    isinstance := PySem.W.mg_none_of X G z_isinstance
    sum := PySem.W.mg_none_of X G z_sum
    repr := PySem.W.mg_none_of X G z_repr
    enumerate := PySem.W.mg_none_of X G z_enumerate
    SIZES := ⟨tS, PySem.W.mg_of X G gS, ktAt_mk lS (show 5 ≤ 16 by decide) (.cons ⟨uS_0, rfl⟩ (.cons ⟨uS_1, rfl⟩ (.cons ⟨uS_2, rfl⟩ (.cons ⟨uS_3, rfl⟩ (.cons ⟨uS_4, rfl⟩ (.nil))))))⟩
    WORDS := cns_tup (vs := words.map .str) (PySem.W.mg_of X G gW) lW (show 6 ≤ 16 by decide) (.cons ⟨uW_0, rfl⟩ (.cons ⟨uW_1, rfl⟩ (.cons ⟨uW_2, rfl⟩ (.cons ⟨uW_3, rfl⟩ (.cons ⟨uW_4, rfl⟩ (.cons ⟨uW_5, rfl⟩ (.nil))))))) fun H => .cons (.str _) (.cons (.str _) (.cons (.str _) (.cons (.str _) (.cons (.str _) (.cons (.str _) (.nil))))))
    PLACES := cns_tup (vs := [.ref tP0, .ref tP1, .ref tP2]) (PySem.W.mg_of X G gP) lP (show 3 ≤ 16 by decide) (.cons rfl (.cons rfl (.cons rfl .nil))) fun H => .cons (row_mk lP0 (show 8 ≤ 16 by decide) (.cons ⟨uP0_0, rfl⟩ (.cons ⟨uP0_1, rfl⟩ (.cons ⟨uP0_2, rfl⟩ (.cons ⟨uP0_3, rfl⟩ (.cons ⟨uP0_4, rfl⟩ (.cons ⟨uP0_5, rfl⟩ (.cons ⟨uP0_6, rfl⟩ (.cons ⟨uP0_7, rfl⟩ (.nil))))))))) H) (.cons (row_mk lP1 (show 8 ≤ 16 by decide) (.cons ⟨uP1_0, rfl⟩ (.cons ⟨uP1_1, rfl⟩ (.cons ⟨uP1_2, rfl⟩ (.cons ⟨uP1_3, rfl⟩ (.cons ⟨uP1_4, rfl⟩ (.cons ⟨uP1_5, rfl⟩ (.cons ⟨uP1_6, rfl⟩ (.cons ⟨uP1_7, rfl⟩ (.nil))))))))) H) (.cons (row_mk lP2 (show 8 ≤ 16 by decide) (.cons ⟨uP2_0, rfl⟩ (.cons ⟨uP2_1, rfl⟩ (.cons ⟨uP2_2, rfl⟩ (.cons ⟨uP2_3, rfl⟩ (.cons ⟨uP2_4, rfl⟩ (.cons ⟨uP2_5, rfl⟩ (.cons ⟨uP2_6, rfl⟩ (.cons ⟨uP2_7, rfl⟩ (.nil))))))))) H) (.nil)))
    DEEPEST := cns_int (PySem.W.mg_of X G guD)
    MOST_PLACES := cns_int (PySem.W.mg_of X G guM)
    MOST_RELATIONS := cns_int (PySem.W.mg_of X G guR) }
  have kl : PySem.W.KeysLit w.params (#[⟨PyData.keyHash w.params "all no", .str "all no" uT_0, .ref tT0⟩, ⟨PyData.keyHash w.params "all yes", .str "all yes" uT_1, .ref tT1⟩, ⟨PyData.keyHash w.params "and", .str "and" uT_2, .ref tT2⟩, ⟨PyData.keyHash w.params "or", .str "or" uT_3, .ref tT3⟩, ⟨PyData.keyHash w.params "majority", .str "majority" uT_4, .ref tT4⟩, ⟨PyData.keyHash w.params "odd one", .str "odd one" uT_5, .ref tT5⟩] : Array DictEntry).toList := ⟨⟨_, uT_0, rfl, rfl⟩, ⟨⟨_, uT_1, rfl, rfl⟩, ⟨⟨_, uT_2, rfl, rfl⟩, ⟨⟨_, uT_3, rfl, rfl⟩, ⟨⟨_, uT_4, rfl, rfl⟩, ⟨⟨_, uT_5, rfl, rfl⟩, trivial⟩⟩⟩⟩⟩⟩
  have Tb : Tbs K w mg := ⟨tT, PySem.W.mg_of X G gT, fun i hi => match i, hi with
    | 0, _ => ⟨.ref tT0, ⟨_, mT, .ref tT0, lT, kl, eT0, rfl⟩, row_mk (r := sixT 0) lT0 (show 2 ≤ 16 by decide) (.cons ⟨uT0_0, rfl⟩ (.cons ⟨uT0_1, rfl⟩ (.nil)))⟩
    | 1, _ => ⟨.ref tT1, ⟨_, mT, .ref tT1, lT, kl, eT1, rfl⟩, row_mk (r := sixT 1) lT1 (show 2 ≤ 16 by decide) (.cons ⟨uT1_0, rfl⟩ (.cons ⟨uT1_1, rfl⟩ (.nil)))⟩
    | 2, _ => ⟨.ref tT2, ⟨_, mT, .ref tT2, lT, kl, eT2, rfl⟩, row_mk (r := sixT 2) lT2 (show 4 ≤ 16 by decide) (.cons ⟨uT2_0, rfl⟩ (.cons ⟨uT2_1, rfl⟩ (.cons ⟨uT2_2, rfl⟩ (.cons ⟨uT2_3, rfl⟩ (.nil)))))⟩
    | 3, _ => ⟨.ref tT3, ⟨_, mT, .ref tT3, lT, kl, eT3, rfl⟩, row_mk (r := sixT 3) lT3 (show 4 ≤ 16 by decide) (.cons ⟨uT3_0, rfl⟩ (.cons ⟨uT3_1, rfl⟩ (.cons ⟨uT3_2, rfl⟩ (.cons ⟨uT3_3, rfl⟩ (.nil)))))⟩
    | 4, _ => ⟨.ref tT4, ⟨_, mT, .ref tT4, lT, kl, eT4, rfl⟩, row_mk (r := sixT 4) lT4 (show 8 ≤ 16 by decide) (.cons ⟨uT4_0, rfl⟩ (.cons ⟨uT4_1, rfl⟩ (.cons ⟨uT4_2, rfl⟩ (.cons ⟨uT4_3, rfl⟩ (.cons ⟨uT4_4, rfl⟩ (.cons ⟨uT4_5, rfl⟩ (.cons ⟨uT4_6, rfl⟩ (.cons ⟨uT4_7, rfl⟩ (.nil)))))))))⟩
    | 5, _ => ⟨.ref tT5, ⟨_, mT, .ref tT5, lT, kl, eT5, rfl⟩, row_mk (r := sixT 5) lT5 (show 8 ≤ 16 by decide) (.cons ⟨uT5_0, rfl⟩ (.cons ⟨uT5_1, rfl⟩ (.cons ⟨uT5_2, rfl⟩ (.cons ⟨uT5_3, rfl⟩ (.cons ⟨uT5_4, rfl⟩ (.cons ⟨uT5_5, rfl⟩ (.cons ⟨uT5_6, rfl⟩ (.cons ⟨uT5_7, rfl⟩ (.nil)))))))))⟩⟩
  have clC : ClsF K C ["size", "rows"] := ⟨⟨pgC, hdC, poC, saC⟩, fun f hf => (List.mem_cons.mp hf).elim (fun e => e ▸ nC0) fun hf => (List.mem_singleton.mp hf) ▸ nC1⟩
  have FC := fun_mk (st := s_Relation___init__) liC ciC kiC
  have bC := FC.binds (ps := ["self", "size", "rows"]) fun _ _ _ _ _ _ us hl => match us, hl with | [_, _, _], _ => rfl
  have mC := PySem.W.mg_of X G xC
  have clB : ClsF K B ["relations", "plain"] := ⟨⟨pgB, hdB, poB, saB⟩, fun f hf => (List.mem_cons.mp hf).elim (fun e => e ▸ nB0) fun hf => (List.mem_singleton.mp hf) ▸ nB1⟩
  have FB := fun_mk (st := s_Book___init__) liB ciB kiB
  have bB := FB.binds (ps := ["self", "relations"]) fun _ _ _ _ _ _ us hl => match us, hl with | [_, _], _ => rfl
  have mB := PySem.W.mg_of X G xB
  have iR : C8.InsC K C := ⟨clC.cl, yC1, yC2, yC3, yC4, kit_own⟩
  have C_is_bit : C8.Cal l.prog w K mg base 1 "is_bit" (PureSp K R_isbit) [] := Dis_bit.cal (ok_is_bit T Dis_bit.fn)
  have C_is_table : C8.Cal l.prog w K mg base 2 "is_table" (PureSp K R_istable) [] := Dis_table.cal (ok_is_table T C_is_bit Dis_table.fn)
  have C_number_of : C8.Cal l.prog w K mg base 1 "number_of" (PureSp K R_number) [] := Dnumber_of.cal (ok_number_of T Dnumber_of.fn)
  have C_spelled : C8.Cal l.prog w K mg base 2 "spelled" (PureSp K R_spelled) [] := Dspelled.cal (ok_spelled T C_number_of Dspelled.fn)
  have C_made_row : C8.Cal l.prog w K mg base 3 "made_row" (PureSp K R_made) [] := Dmade_row.cal (ok_made_row T C_spelled Dmade_row.fn)
  have C_tuples_of : C8.Cal l.prog w K mg base 1 "tuples_of" (PureSp K R_tuples) [] := Dtuples_of.cal (ok_tuples_of T Dtuples_of.fn)
  have C_break_in : C8.Cal l.prog w K mg base 4 "break_in" (PureSp K (R_breakin C)) [] := Dbreak_in.cal (ok_break_in T clC C_tuples_of C_made_row Dbreak_in.fn)
  have C_break_of : C8.Cal l.prog w K mg base 5 "break_of" (PureSp K (R_breakof B C)) [] := Dbreak_of.cal (ok_break_of T clB C_is_table C_break_in Dbreak_of.fn)
  have FK : FunD K "kept_by" "kept_by" (defArgs s_kept_by) (defBody s_kept_by) (defScope s_kept_by) [] [("fixed", .bl false)] fK _ := ⟨⟨ocK, odK, .none, .ref D0, dcK, pmK, anK, cdK, ctK, slK, rfl, lK, cK, .inl ⟨rfl, rfl⟩, .inr ⟨D0, rfl, fun q hq => ⟨.bool false, (List.mem_singleton.mp hq) ▸ dK, (List.mem_singleton.mp hq) ▸ rfl⟩⟩⟩, kK⟩
  have C_kept_by : C8.Cal l.prog w K mg base 6 "kept_by" (PureSp K (R_keptby B C)) [.bl false] := by
    obtain ⟨ds, v, b⟩ := FK.binds0 (ps := ["book", "fixed"]) 1 (by simp) rfl fun D doc pm an cdv ct us ks h1 h2 => match us, ks, h1, h2 with | [_], [_], _, _ => ⟨_, _, _, _, _, _, rfl, rfl, rfl⟩
    exact ⟨fK, _, _, ds, ok_kept_by T Tb C_break_of FK, PySem.W.mg_of X G aK, kK, b, v⟩
  have C__is_term : C8.Cal l.prog w K mg base 5 "_is_term" (PureSp K (R_isterm 4)) [] := ok__is_term T D_is_term.m D_is_term.b D_is_term.fn 4
  have C_put_in : C8.Cal l.prog w K mg base 1 "put_in" (PureSp K R_putin) [] := Dput_in.cal (ok_put_in T Dput_in.fn)
  have C__told : C8.Cal l.prog w K mg base 5 "_told" (PureSp K (R_told 4)) [] := ok__told T C_put_in D_told.m D_told.b D_told.fn 4
  have C_term_table : C8.Cal l.prog w K mg base 6 "term_table" (PureSp K (R_told 4)) [] := Dterm_table.cal (ok_term_table T C_is_table C__is_term C__told Dterm_table.fn)
  have C_turned : C8.Cal l.prog w K mg base 1 "turned" (PureSp K R_turned) [] := Dturned.cal (ok_turned T Dturned.fn)
  have C_is_plain : C8.Cal l.prog w K mg base 2 "is_plain" (PureSp K R_isplain) [] := Dis_plain.cal (ok_is_plain T C_turned Dis_plain.fn)
  have C__applied : C8.Cal l.prog w K mg base 1 "_applied" (PureSp K R_applied) [] := D_applied.cal (ok__applied T D_applied.fn)
  have C__readings : C8.Cal l.prog w K mg base 1 "_readings" (PureSp K R_readings) [] := D_readings.cal (ok__readings T D_readings.fn)
  have C_term_of : C8.Cal l.prog w K mg base 3 "term_of" (PureSp K R_termof) [] := Dterm_of.cal (ok_term_of T C_is_table C_is_plain C_put_in C__readings C__applied Dterm_of.fn)
  have C_is_below : C8.Cal l.prog w K mg base 1 "is_below" (PureSp K R_isbelow) [] := Dis_below.cal (ok_is_below T Dis_below.fn)
  have C_is_row : C8.Cal l.prog w K mg base 2 "is_row" (PureSp K R_isrow) [] := Dis_row.cal (ok_is_row T C_is_below Dis_row.fn)
  have C_are_rows : C8.Cal l.prog w K mg base 3 "are_rows" (PureSp K R_arerows) [] := Dare_rows.cal (ok_are_rows T C_is_row Dare_rows.fn)
  have C_Relation : C8.Mak l.prog w K mg base 4 "Relation" C (InitSp K C ["size", "rows"] R_relation) [] := ⟨fiC, _, _, [], ⟨mkC, aiC, qC, kcC⟩, ok_relation T clC C_is_below C_are_rows FC, mC, bC, .nil⟩
  have C_are_relations : C8.Cal l.prog w K mg base 1 "are_relations" (PureSp K (R_arerels C)) [] := Dare_relations.cal (ok_are_relations T iR mC Dare_relations.fn)
  have C_Book : C8.Mak l.prog w K mg base 2 "Book" B (InitSp K B ["relations", "plain"] (R_book C)) [] := ⟨fiB, _, _, [], ⟨mkB, aiB, qB, kcB⟩, ok_book T clC clB C_are_relations FB, mB, bB, .nil⟩
  have C__law_draws : C8.Cal l.prog w K mg base 1 "_law_draws" (PureSpN K R_draws) [] := D_law_draws.cal (ok__law_draws T D_law_draws.fn)
  have C__law_take : C8.Cal l.prog w K mg base 1 "_law_take" (HandSp K R_take) [] := D_law_take.cal (ok__law_take T D_law_take.fn)
  have C__law_every : C8.Cal l.prog w K mg base 1 "_law_every" (PureSp K R_every) [] := D_law_every.cal (ok__law_every T D_law_every.fn)
  have C__law_rows : C8.Cal l.prog w K mg base 2 "_law_rows" (HandSp K R_rows) [] := D_law_rows.cal (ok__law_rows T C__law_every C__law_take D_law_rows.fn)
  have C__law_place : C8.Cal l.prog w K mg base 1 "_law_place" (PureSp K R_number) [] := D_law_place.cal (ok__law_place T D_law_place.fn)
  have C__law_made : C8.Cal l.prog w K mg base 2 "_law_made" (PureSp K R_lmade) [] := D_law_made.cal (ok__law_made T C__law_place D_law_made.fn)
  have C__law_tuples : C8.Cal l.prog w K mg base 1 "_law_tuples" (PureSp K R_ltuples) [] := D_law_tuples.cal (ok__law_tuples T D_law_tuples.fn)
  have C__law_break : C8.Cal l.prog w K mg base 3 "_law_break" (PureSp K R_lbreak) [] := D_law_break.cal (ok__law_break T C__law_tuples C__law_made D_law_break.fn)
  have C__law_six : C8.Cal l.prog w K mg base 1 "_law_six" (PureSp K R_six) [] := D_law_six.cal (ok__law_six T D_law_six.fn)
  have C__law_places_of : C8.Cal l.prog w K mg base 1 "_law_places_of" (PureSp K R_lplaces) [] := D_law_places_of.cal (ok__law_places_of T D_law_places_of.fn)
  have C__law_closed : C8.Cal l.prog w K mg base 3 "_law_closed" (PureSpN K R_closed) [] := D_law_closed.cal (ok__law_closed T C__law_places_of C__law_tuples C__law_made D_law_closed.fn)
  have C__law_drawn_book : C8.Cal l.prog w K mg base 4 "_law_drawn_book" (HandSp K R_dbook) [] := D_law_drawn_book.cal (ok__law_drawn_book T C__law_take C__law_rows C__law_six C__law_closed D_law_drawn_book.fn)
  have C__law_book : C8.Cal l.prog w K mg base 6 "_law_book" (PureSp K (R_lbook B C)) [] := D_law_book.cal (ok__law_book T C_Relation C_Book D_law_book.fn)
  have C__law_term_table : C8.Cal l.prog w K mg base 5 "_law_term_table" (PureSp K (R_told 4)) [] := ok__law_term_table T C__law_every C__law_place D_law_term_table.m D_law_term_table.b D_law_term_table.fn 4
  have C__law_is_plain : C8.Cal l.prog w K mg base 2 "_law_is_plain" (PureSp K R_lplain) [] := D_law_is_plain.cal (ok__law_is_plain T C__law_every D_law_is_plain.fn)
  have C__law_drawn_term : C8.Cal l.prog w K mg base 5 "_law_drawn_term" (HandSp K (R_dterm 4)) [] := ok__law_drawn_term T C__law_take D_law_drawn_term.m D_law_drawn_term.b D_law_drawn_term.fn 4
  have C__law_due : C8.Cal l.prog w K mg base 4 "_law_due" (PureSp K R_ldue) [] := D_law_due.cal (ok__law_due T C__law_break D_law_due.fn)
  exact ok_law T C__law_draws C__law_take C__law_drawn_book C__law_closed C__law_book C_break_of C__law_due C__law_drawn_term C_term_table C__law_term_table C__law_is_plain C_term_of C_kept_by Dlaw.fn Dlaw.b (Nat.le_trans hz (by decide)) sq kin e0
end Ec
open PySem PySem.W PyProof.Rows in
set_option maxRecDepth 100000 in
set_option maxHeartbeats 0 in
theorem PySem.Challenge.cw_eightcells_k15_terms_keep_what_is_kept_holds : PySem.Challenge.rw_eightcells_k15_terms_keep_what_is_kept.Holds := by
  w_on; o_law; k_head; (case hw => w_witness2)
  k_fill
  refine Ec.walk (l := PySem.Challenge.rw_eightcells_k15_terms_keep_what_is_kept) rfl rfl (fun w h Y => PySem.W.kIn_of Y) ?F
  case F =>
    intro w mg fa h KX G hmg
    refine' Ec.all_mk KX G hmg ?a0 ?l0 ?c0 ?k0 ?a1 ?l1 ?c1 ?k1 ?a2 ?l2 ?c2 ?k2 ?a3 ?l3 ?c3 ?k3 ?a4 ?l4 ?c4 ?k4 ?a5 ?l5 ?c5 ?k5 ?a6 ?l6 ?c6 ?k6 ?a7 ?l7 ?c7 ?k7 ?a8 ?l8 ?c8 ?k8 ?a9 ?l9 ?c9 ?k9 ?a10 ?l10 ?c10 ?k10 ?a11 ?l11 ?c11 ?k11 ?a12 ?l12 ?c12 ?k12 ?a13 ?l13 ?c13 ?k13 ?a14 ?l14 ?c14 ?k14 ?a15 ?l15 ?c15 ?k15 ?a16 ?l16 ?c16 ?k16 ?a17 ?l17 ?c17 ?k17 ?a18 ?l18 ?c18 ?k18 ?a19 ?l19 ?c19 ?k19 ?a20 ?l20 ?c20 ?k20 ?a21 ?l21 ?c21 ?k21 ?a22 ?l22 ?c22 ?k22 ?a23 ?l23 ?c23 ?k23 ?a24 ?l24 ?c24 ?k24 ?a25 ?l25 ?c25 ?k25 ?a26 ?l26 ?c26 ?k26 ?a27 ?l27 ?c27 ?k27 ?a28 ?l28 ?c28 ?k28 ?a29 ?l29 ?c29 ?k29 ?a30 ?l30 ?c30 ?k30 ?a31 ?l31 ?c31 ?k31 ?a32 ?l32 ?c32 ?k32 ?a33 ?l33 ?c33 ?k33 ?a34 ?l34 ?c34 ?k34 ?a35 ?l35 ?c35 ?k35 ?a36 ?l36 ?c36 ?k36 ?a37 ?l37 ?c37 ?k37 ?a38 ?l38 ?c38 ?k38 ?aK ?lK ?cK ?kK ?dK ?xC ?aiC ?liC ?ciC ?kiC ?qC ?pgC ?hdC ?poC ?saC ?mkC ?kcC ?nC0 ?nC1 ?xB ?aiB ?liB ?ciB ?kiB ?qB ?pgB ?hdB ?poB ?saB ?mkB ?kcB ?nB0 ?nB1 ?yC1 ?yC2 ?yC3 ?yC4 ?z_len ?z_abs ?z_int ?z_bool ?z_range ?z_tuple ?z_list ?z_sorted ?z_isinstance ?z_sum ?z_repr ?z_enumerate ?gS ?lS ?gW ?lW ?gP ?lP ?lP0 ?lP1 ?lP2 ?guD ?guM ?guR ?gT ?lT ?eT0 ?eT1 ?eT2 ?eT3 ?eT4 ?eT5 ?lT0 ?lT1 ?lT2 ?lT3 ?lT4 ?lT5
    (case a0 => k_is)
    (case l0 => k_is)
    (case c0 => k_is)
    (case k0 => k_is)
    (case a1 => k_is)
    (case l1 => k_is)
    (case c1 => k_is)
    (case k1 => k_is)
    (case a2 => k_is)
    (case l2 => k_is)
    (case c2 => k_is)
    (case k2 => k_is)
    (case a3 => k_is)
    (case l3 => k_is)
    (case c3 => k_is)
    (case k3 => k_is)
    (case a4 => k_is)
    (case l4 => k_is)
    (case c4 => k_is)
    (case k4 => k_is)
    (case a5 => k_is)
    (case l5 => k_is)
    (case c5 => k_is)
    (case k5 => k_is)
    (case a6 => k_is)
    (case l6 => k_is)
    (case c6 => k_is)
    (case k6 => k_is)
    (case a7 => k_is)
    (case l7 => k_is)
    (case c7 => k_is)
    (case k7 => k_is)
    (case a8 => k_is)
    (case l8 => k_is)
    (case c8 => k_is)
    (case k8 => k_is)
    (case a9 => k_is)
    (case l9 => k_is)
    (case c9 => k_is)
    (case k9 => k_is)
    (case a10 => k_is)
    (case l10 => k_is)
    (case c10 => k_is)
    (case k10 => k_is)
    (case a11 => k_is)
    (case l11 => k_is)
    (case c11 => k_is)
    (case k11 => k_is)
    (case a12 => k_is)
    (case l12 => k_is)
    (case c12 => k_is)
    (case k12 => k_is)
    (case a13 => k_is)
    (case l13 => k_is)
    (case c13 => k_is)
    (case k13 => k_is)
    (case a14 => k_is)
    (case l14 => k_is)
    (case c14 => k_is)
    (case k14 => k_is)
    (case a15 => k_is)
    (case l15 => k_is)
    (case c15 => k_is)
    (case k15 => k_is)
    (case a16 => k_is)
    (case l16 => k_is)
    (case c16 => k_is)
    (case k16 => k_is)
    (case a17 => k_is)
    (case l17 => k_is)
    (case c17 => k_is)
    (case k17 => k_is)
    (case a18 => k_is)
    (case l18 => k_is)
    (case c18 => k_is)
    (case k18 => k_is)
    (case a19 => k_is)
    (case l19 => k_is)
    (case c19 => k_is)
    (case k19 => k_is)
    (case a20 => k_is)
    (case l20 => k_is)
    (case c20 => k_is)
    (case k20 => k_is)
    (case a21 => k_is)
    (case l21 => k_is)
    (case c21 => k_is)
    (case k21 => k_is)
    (case a22 => k_is)
    (case l22 => k_is)
    (case c22 => k_is)
    (case k22 => k_is)
    (case a23 => k_is)
    (case l23 => k_is)
    (case c23 => k_is)
    (case k23 => k_is)
    (case a24 => k_is)
    (case l24 => k_is)
    (case c24 => k_is)
    (case k24 => k_is)
    (case a25 => k_is)
    (case l25 => k_is)
    (case c25 => k_is)
    (case k25 => k_is)
    (case a26 => k_is)
    (case l26 => k_is)
    (case c26 => k_is)
    (case k26 => k_is)
    (case a27 => k_is)
    (case l27 => k_is)
    (case c27 => k_is)
    (case k27 => k_is)
    (case a28 => k_is)
    (case l28 => k_is)
    (case c28 => k_is)
    (case k28 => k_is)
    (case a29 => k_is)
    (case l29 => k_is)
    (case c29 => k_is)
    (case k29 => k_is)
    (case a30 => k_is)
    (case l30 => k_is)
    (case c30 => k_is)
    (case k30 => k_is)
    (case a31 => k_is)
    (case l31 => k_is)
    (case c31 => k_is)
    (case k31 => k_is)
    (case a32 => k_is)
    (case l32 => k_is)
    (case c32 => k_is)
    (case k32 => k_is)
    (case a33 => k_is)
    (case l33 => k_is)
    (case c33 => k_is)
    (case k33 => k_is)
    (case a34 => k_is)
    (case l34 => k_is)
    (case c34 => k_is)
    (case k34 => k_is)
    (case a35 => k_is)
    (case l35 => k_is)
    (case c35 => k_is)
    (case k35 => k_is)
    (case a36 => k_is)
    (case l36 => k_is)
    (case c36 => k_is)
    (case k36 => k_is)
    (case a37 => k_is)
    (case l37 => k_is)
    (case c37 => k_is)
    (case k37 => k_is)
    (case a38 => k_is)
    (case l38 => k_is)
    (case c38 => k_is)
    (case k38 => k_is)
    (case aK => k_is)
    (case lK => k_is)
    (case cK => k_is)
    (case kK => k_is)
    (case dK => k_is)
    (case xC => k_is)
    (case aiC => k_is)
    (case liC => k_is)
    (case ciC => k_is)
    (case kiC => k_is)
    (case qC => k_is)
    (case pgC => k_is)
    (case hdC => k_is)
    (case poC => k_is)
    (case saC => k_is)
    (case mkC => k_is)
    (case kcC => k_is)
    (case nC0 => k_is)
    (case nC1 => k_is)
    (case xB => k_is)
    (case aiB => k_is)
    (case liB => k_is)
    (case ciB => k_is)
    (case kiB => k_is)
    (case qB => k_is)
    (case pgB => k_is)
    (case hdB => k_is)
    (case poB => k_is)
    (case saB => k_is)
    (case mkB => k_is)
    (case kcB => k_is)
    (case nB0 => k_is)
    (case nB1 => k_is)
    (case yC1 => k_is)
    (case yC2 => k_is)
    (case yC3 => k_is)
    (case yC4 => k_is)
    (case z_len => k_is)
    (case z_abs => k_is)
    (case z_int => k_is)
    (case z_bool => k_is)
    (case z_range => k_is)
    (case z_tuple => k_is)
    (case z_list => k_is)
    (case z_sorted => k_is)
    (case z_isinstance => k_is)
    (case z_sum => k_is)
    (case z_repr => k_is)
    (case z_enumerate => k_is)
    (case gS => k_is)
    (case lS => k_is)
    (case gW => k_is)
    (case lW => k_is)
    (case gP => k_is)
    (case lP => k_is)
    (case lP0 => k_is)
    (case lP1 => k_is)
    (case lP2 => k_is)
    (case guD => k_is)
    (case guM => k_is)
    (case guR => k_is)
    (case gT => k_is)
    (case lT => k_is)
    (case eT0 => k_is)
    (case eT1 => k_is)
    (case eT2 => k_is)
    (case eT3 => k_is)
    (case eT4 => k_is)
    (case eT5 => k_is)
    (case lT0 => k_is)
    (case lT1 => k_is)
    (case lT2 => k_is)
    (case lT3 => k_is)
    (case lT4 => k_is)
    (case lT5 => k_is)
#print axioms PySem.Challenge.cw_eightcells_k15_terms_keep_what_is_kept_holds
