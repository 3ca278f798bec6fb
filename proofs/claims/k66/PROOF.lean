import PyProof.Rows.All
import Wide.All
import OpenK.AllK
import Wide.FinOn
import HandS.ForMost
import HandS.IsInst
import HandS.TupAny
import HandS.Codes
import HandS.Style
import HandS.Conv
import HandS.DictComp
import HandS.Zip
import HandS.Strs
import HandS.TupSets
import KE.DataCmp
import KE.KDictKeyed
import KE.GoesMore
import KE.GoesZip
import PySem.Challenge.RW_heardseams_k66_whole_books_with_which_br
set_option Elab.async false
set_option linter.all false
set_option maxRecDepth 100000
set_option maxHeartbeats 4000000
namespace K66
abbrev Row := List Int

/-! ### two rows that meet -/
section
variable (F : Row → Row → Row × Row) (A B : Nat)
def met (a b : Row) : Row :=
  a.take (a.length - A) ++ ((F (a.drop (a.length - A)) (b.take B)).1 ++ ((F (a.drop (a.length - A)) (b.take B)).2 ++ b.drop B))
def LenOk : Prop := ∀ l r, (F l r).1.length = l.length ∧ (F l r).2.length = r.length
variable {F A B}
theorem met_len (hF : LenOk F) (a b : Row) : (met F A B a b).length = a.length + b.length := by
  have h := hF (a.drop (a.length - A)) (b.take B)
  unfold met
  simp only [List.length_append, h.1, h.2, List.length_take, List.length_drop]
  omega
theorem met_left (a1 a2 b : Row) (h : A ≤ a2.length ∨ a1 = []) : met F A B (a1 ++ a2) b = a1 ++ met F A B a2 b := by
  rcases h with h | h
  · unfold met
    have e : (a1 ++ a2).length - A = a1.length + (a2.length - A) := by rw [List.length_append]; omega
    rw [e, List.take_length_add_append, List.drop_length_add_append]
    simp [List.append_assoc]
  · subst h; rfl
theorem met_right (a b1 b2 : Row) (h : B ≤ b1.length ∨ b2 = []) : met F A B a (b1 ++ b2) = met F A B a b1 ++ b2 := by
  rcases h with h | h
  · unfold met
    rw [List.take_append_of_le_length h, List.drop_append_of_le_length h]
    simp [List.append_assoc]
  · subst h; simp
/-- the sounds of a row -/
def Val (S : Int) (r : Row) : Prop := ∀ x ∈ r, 0 ≤ x ∧ x < S
def ValOk (S : Int) : Prop := ∀ l r, Val S l → Val S r → Val S (F l r).1 ∧ Val S (F l r).2
theorem Val.app {S : Int} {a b : Row} (ha : Val S a) (hb : Val S b) : Val S (a ++ b) := fun x hx => (List.mem_append.mp hx).elim (ha x) (hb x)
theorem Val.take {S : Int} {a : Row} (n : Nat) (ha : Val S a) : Val S (a.take n) := fun x hx => ha x (List.mem_of_mem_take hx)
theorem Val.drop {S : Int} {a : Row} (n : Nat) (ha : Val S a) : Val S (a.drop n) := fun x hx => ha x (List.mem_of_mem_drop hx)
theorem met_val {S : Int} (hV : ValOk (F := F) S) {a b : Row} (ha : Val S a) (hb : Val S b) : Val S (met F A B a b) := by
  have h := hV _ _ (ha.drop (a.length - A)) (hb.take B)
  exact (ha.take _).app (h.1.app (h.2.app (hb.drop _)))

/-- brackets do not matter for these three rows -/
def Assoc (F : Row → Row → Row × Row) (A B : Nat) (x y z : Row) : Prop := met F A B x (met F A B y z) = met F A B (met F A B x y) z

theorem assoc_all {S : Int} (hF : LenOk F) (hA : 1 ≤ A) (hB : 1 ≤ B)
    (h : ∀ x y z : Row, Val S x → Val S y → Val S z → 1 ≤ x.length → x.length ≤ A → 1 ≤ y.length → y.length ≤ A + B - 1 → 1 ≤ z.length → z.length ≤ B → Assoc F A B x y z)
    (x y z : Row) (vx : Val S x) (vy : Val S y) (vz : Val S z) (nx : 1 ≤ x.length) (ny : 1 ≤ y.length) (nz : 1 ≤ z.length) : Assoc F A B x y z := by
  by_cases hy : y.length ≤ A + B - 1
  · have key : ∀ x1 x2 z1 z2 : Row, (x2.length = A ∨ x1 = []) → (z1.length = B ∨ z2 = []) → Assoc F A B x2 y z1 → Assoc F A B (x1 ++ x2) y (z1 ++ z2) := by
      intro x1 x2 z1 z2 h1 h2 h3
      unfold Assoc at h3 ⊢
      rw [met_right y z1 z2 (h2.imp (fun e => by omega) id)]
      rw [met_right (x1 ++ x2) (met F A B y z1) z2 (h2.imp (fun e => by rw [met_len hF]; omega) id)]
      rw [met_left x1 x2 (met F A B y z1) (h1.imp (fun e => by omega) id)]
      rw [met_left x1 x2 y (h1.imp (fun e => by omega) id)]
      rw [met_right (x1 ++ met F A B x2 y) z1 z2 (h2.imp (fun e => by omega) id)]
      rw [met_left x1 (met F A B x2 y) z1 (h1.imp (fun e => by rw [met_len hF]; omega) id)]
      rw [h3]
    have ex : x = x.take (x.length - A) ++ x.drop (x.length - A) := (List.take_append_drop _ _).symm
    have ez : z = z.take B ++ z.drop B := (List.take_append_drop _ _).symm
    have g := key (x.take (x.length - A)) (x.drop (x.length - A)) (z.take B) (z.drop B)
      (by
        by_cases hx : A ≤ x.length
        · left; rw [List.length_drop]; omega
        · right; rw [show x.length - A = 0 by omega]; rfl)
      (by
        by_cases hz : B ≤ z.length
        · left; rw [List.length_take]; omega
        · right; exact List.drop_eq_nil_of_le (by omega))
      (h _ _ _ (vx.drop _) vy (vz.take _) (by rw [List.length_drop]; omega) (by rw [List.length_drop]; omega) ny hy (by rw [List.length_take]; omega) (by rw [List.length_take]; omega))
    rw [← ex, ← ez] at g
    exact g
  · have ey : y = y.take B ++ y.drop B := (List.take_append_drop _ _).symm
    have l1 : (y.take B).length = B := by rw [List.length_take]; omega
    have l2 : A ≤ (y.drop B).length := by rw [List.length_drop]; omega
    generalize y.take B = y1 at ey l1
    generalize y.drop B = y2 at ey l2
    subst ey
    unfold Assoc
    rw [met_left y1 y2 z (.inl l2), met_right x y1 _ (.inl (by omega)), met_right x y1 y2 (.inl (by omega)), met_left _ y2 z (.inl l2)]
end

/-! ### bracketings -/
inductive Tr where
  | lf
  | nd (l r : Tr)
def Tr.n : Tr → Nat
  | .lf => 1
  | .nd l r => l.n + r.n
theorem Tr.pos : ∀ t : Tr, 1 ≤ t.n
  | .lf => Nat.le_refl _
  | .nd l r => by have := l.pos; show 1 ≤ l.n + r.n; omega
/-- how many phrases -/
def Tr.size : Tr → Nat
  | .lf => 1
  | .nd l r => l.size + r.size + 1
theorem Tr.size_n : ∀ t : Tr, t.size + 1 = 2 * t.n
  | .lf => rfl
  | .nd l r => by have h1 := l.size_n; have h2 := r.size_n; show l.size + r.size + 1 + 1 = 2 * (l.n + r.n); omega
/-- its depths -/
def Tr.sh : Tr → Int → Row
  | .lf, _ => []
  | .nd l r, d => l.sh (d + 1) ++ d :: r.sh (d + 1)
theorem Tr.sh_len : ∀ (t : Tr) (d : Int), (t.sh d).length + 1 = t.n
  | .lf, _ => rfl
  | .nd l r, d => by
    have h1 := l.sh_len (d + 1); have h2 := r.sh_len (d + 1)
    show (l.sh (d + 1) ++ d :: r.sh (d + 1)).length + 1 = l.n + r.n
    rw [List.length_append, List.length_cons]; omega
theorem Tr.sh_ge : ∀ (t : Tr) (d : Int), ∀ x ∈ t.sh d, d ≤ x
  | .lf, _, x, h => nomatch h
  | .nd l r, d, x, h => by
    rcases List.mem_append.mp h with h | h
    · have := l.sh_ge (d + 1) x h; omega
    · rcases List.mem_cons.mp h with h | h
      · omega
      · have := r.sh_ge (d + 1) x h; omega
theorem Tr.sh_add (k : Int) : ∀ (t : Tr) (d : Int), (t.sh d).map (· + k) = t.sh (d + k)
  | .lf, _ => rfl
  | .nd l r, d => by
    show (l.sh (d + 1) ++ d :: r.sh (d + 1)).map (· + k) = l.sh (d + k + 1) ++ (d + k) :: r.sh (d + k + 1)
    rw [List.map_append, List.map_cons, l.sh_add k, r.sh_add k]
    have e : d + 1 + k = d + k + 1 := by omega
    rw [e]
/-- what is said of the words from the f-th on -/
def Tr.say (m : Row → Row → Row) (ws : List Row) : Tr → Nat → Row
  | .lf, f => ws.getD f []
  | .nd l r, f => m (l.say m ws f) (r.say m ws (f + l.n))
def glue (m : Row → Row → Row) : List Row → Row
  | [] => []
  | [w] => w
  | w :: v :: ws => m w (glue m (v :: ws))
section
variable {m : Row → Row → Row} {G : Row → Prop}
theorem glue_good (hm : ∀ a b, G a → G b → G (m a b)) : ∀ ws : List Row, ws ≠ [] → (∀ w ∈ ws, G w) → G (glue m ws)
  | [], h, _ => absurd rfl h
  | [w], _, h => h w (by simp)
  | w :: v :: ws, _, h => hm _ _ (h w (by simp)) (glue_good hm (v :: ws) (by simp) fun u hu => h u (List.mem_cons_of_mem _ hu))
theorem glue_app (hm : ∀ a b, G a → G b → G (m a b)) (ha : ∀ a b c, G a → G b → G c → m a (m b c) = m (m a b) c) :
    ∀ as bs : List Row, as ≠ [] → bs ≠ [] → (∀ w ∈ as, G w) → (∀ w ∈ bs, G w) → glue m (as ++ bs) = m (glue m as) (glue m bs)
  | [], _, h, _, _, _ => absurd rfl h
  | [a], [], _, h, _, _ => absurd rfl h
  | [a], b :: bs, _, _, _, _ => rfl
  | a :: a' :: as, bs, _, hb, ga, gb => by
    have ih := glue_app hm ha (a' :: as) bs (by simp) hb (fun w hw => ga w (List.mem_cons_of_mem _ hw)) gb
    show m a (glue m ((a' :: as) ++ bs)) = m (m a (glue m (a' :: as))) (glue m bs)
    rw [ih]
    exact ha _ _ _ (ga a (by simp)) (glue_good hm _ (by simp) fun w hw => ga w (List.mem_cons_of_mem _ hw)) (glue_good hm _ hb gb)
theorem part_one {ws : List Row} {f : Nat} (h : f + 1 ≤ ws.length) : (ws.drop f).take 1 = [ws.getD f []] := by
  have hlt : f < ws.length := h
  rw [List.getD_eq_getElem?_getD, List.getElem?_eq_getElem hlt, List.drop_eq_getElem_cons hlt, List.take_succ_cons, List.take_zero]
  rfl
theorem part_app (ws : List Row) (f a b : Nat) : (ws.drop f).take (a + b) = (ws.drop f).take a ++ (ws.drop (f + a)).take b := by
  rw [List.take_add, List.drop_drop]
theorem part_ne {ws : List Row} {f n : Nat} (h : f + n ≤ ws.length) (hn : 1 ≤ n) : (ws.drop f).take n ≠ [] := fun e => by
  have := congrArg List.length e
  rw [List.length_take, List.length_drop, List.length_nil] at this
  omega
theorem part_mem {ws : List Row} {f n : Nat} {w : Row} (h : w ∈ (ws.drop f).take n) : w ∈ ws := List.mem_of_mem_drop (List.mem_of_mem_take h)
/-- all bracketings are said alike -/
theorem say_glue (hm : ∀ a b, G a → G b → G (m a b)) (ha : ∀ a b c, G a → G b → G c → m a (m b c) = m (m a b) c) {ws : List Row} (hg : ∀ w ∈ ws, G w) :
    ∀ (t : Tr) (f : Nat), f + t.n ≤ ws.length → t.say m ws f = glue m ((ws.drop f).take t.n)
  | .lf, f, hl => by
    show ws.getD f [] = glue m ((ws.drop f).take 1)
    rw [part_one hl]
    rfl
  | .nd l r, f, hl => by
    have hl' : f + (l.n + r.n) ≤ ws.length := hl
    have p1 := l.pos; have p2 := r.pos
    show m (l.say m ws f) (r.say m ws (f + l.n)) = glue m ((ws.drop f).take (l.n + r.n))
    rw [say_glue hm ha hg l f (by omega), say_glue hm ha hg r (f + l.n) (by omega), part_app]
    exact (glue_app hm ha _ _ (part_ne (by omega) p1) (part_ne (by omega) p2) (fun w hw => hg w (part_mem hw)) (fun w hw => hg w (part_mem hw))).symm
theorem say_good (hm : ∀ a b, G a → G b → G (m a b)) {ws : List Row} (hg : ∀ w ∈ ws, G w) : ∀ (t : Tr) (f : Nat), f + t.n ≤ ws.length → G (t.say m ws f)
  | .lf, f, hl => by
    have hl' : f + 1 ≤ ws.length := hl
    show G (ws.getD f [])
    rw [List.getD_eq_getElem?_getD, List.getElem?_eq_getElem (show f < ws.length by omega)]
    exact hg _ (List.getElem_mem _)
  | .nd l r, f, hl => by
    have hl' : f + (l.n + r.n) ≤ ws.length := hl
    have p1 := l.pos; have p2 := r.pos
    exact hm _ _ (say_good hm hg l f (by omega)) (say_good hm hg r _ (by omega))
/-- two bracketings of all the words -/
theorem say_alike (hm : ∀ a b, G a → G b → G (m a b)) (ha : ∀ a b c, G a → G b → G c → m a (m b c) = m (m a b) c) {ws : List Row} (hg : ∀ w ∈ ws, G w) (t u : Tr) (ht : t.n = ws.length) (hu : u.n = ws.length) : t.say m ws 0 = u.say m ws 0 := by
  rw [say_glue hm ha hg t 0 (by omega), say_glue hm ha hg u 0 (by omega), ht, hu]
end
end K66
namespace K66
/-! all rows of so many sounds -/
def ext1 (S : Nat) (rs : List Row) : List Row := rs.flatMap fun r => (List.range S).map fun (s : Nat) => r ++ [(s : Int)]
def lastR (S : Nat) : Nat → List Row
  | 0 => [[]]
  | k + 1 => ext1 S (lastR S k)
def rowsT (S : Nat) : Nat → List Row
  | 0 => []
  | k + 1 => rowsT S k ++ lastR S (k + 1)
theorem ext1_len (S : Nat) : ∀ rs : List Row, (ext1 S rs).length = rs.length * S
  | [] => by simp [ext1]
  | r :: rs => by
    have ih := ext1_len S rs
    unfold ext1 at ih ⊢
    rw [List.flatMap_cons, List.length_append, List.length_map, List.length_range, ih, List.length_cons, Nat.add_mul, Nat.one_mul]
    omega
theorem lastR_len (S : Nat) : ∀ k, (lastR S k).length = S ^ k
  | 0 => rfl
  | k + 1 => by
    show (ext1 S (lastR S k)).length = _
    rw [ext1_len, lastR_len S k, Nat.pow_succ]
theorem mem_lastR {S : Nat} : ∀ {k : Nat} {r : Row}, r ∈ lastR S k ↔ r.length = k ∧ Val S r
  | 0, r => by
    show r ∈ [[]] ↔ _
    rw [List.mem_singleton]
    constructor
    · rintro rfl; exact ⟨rfl, fun x h => nomatch h⟩
    · rintro ⟨h, _⟩; exact List.length_eq_zero_iff.mp h
  | k + 1, r => by
    show r ∈ ext1 S (lastR S k) ↔ _
    unfold ext1
    rw [List.mem_flatMap]
    constructor
    · rintro ⟨q, hq, h⟩
      obtain ⟨s, hs, rfl⟩ := List.mem_map.mp h
      have hq' := mem_lastR.mp hq
      rw [List.mem_range] at hs
      refine ⟨by rw [List.length_append, hq'.1]; rfl, hq'.2.app fun x hx => ?_⟩
      rw [List.mem_singleton] at hx
      subst hx
      omega
    · rintro ⟨hl, hv⟩
      have hne : r ≠ [] := fun e => by subst e; cases hl
      have e : r = r.dropLast ++ [r.getLast hne] := (List.dropLast_concat_getLast hne).symm
      refine ⟨r.dropLast, mem_lastR.mpr ⟨by rw [List.length_dropLast]; omega, fun x hx => hv x (List.dropLast_subset r hx)⟩, List.mem_map.mpr ⟨(r.getLast hne).toNat, ?_, ?_⟩⟩
      · have := hv _ (List.getLast_mem hne)
        rw [List.mem_range]; omega
      · have := hv _ (List.getLast_mem hne)
        rw [Int.toNat_of_nonneg this.1]
        exact e.symm
theorem mem_rowsT {S : Nat} : ∀ {k : Nat} {r : Row}, r ∈ rowsT S k ↔ 1 ≤ r.length ∧ r.length ≤ k ∧ Val S r
  | 0, r => by
    show r ∈ ([] : List Row) ↔ _
    constructor
    · intro h; cases h
    · rintro ⟨h1, h2, _⟩; omega
  | k + 1, r => by
    show r ∈ rowsT S k ++ lastR S (k + 1) ↔ _
    rw [List.mem_append, mem_rowsT, mem_lastR]
    constructor
    · rintro (⟨h1, h2, h3⟩ | ⟨h1, h2⟩)
      · exact ⟨h1, by omega, h3⟩
      · exact ⟨by omega, by omega, h2⟩
    · rintro ⟨h1, h2, h3⟩
      by_cases h : r.length ≤ k
      · exact .inl ⟨h1, h, h3⟩
      · exact .inr ⟨by omega, h3⟩
theorem pow3 {S : Nat} (hS : S ≤ 3) : ∀ {k : Nat}, k ≤ 3 → S ^ k ≤ 27 := fun {k} hk =>
  Nat.le_trans (Nat.pow_le_pow_left hS k) (Nat.le_trans (Nat.pow_le_pow_right (by decide) hk) (by decide))
theorem rowsT_len {S : Nat} (hS : S ≤ 3) : ∀ {k : Nat}, k ≤ 3 → (rowsT S k).length ≤ 27 * k
  | 0, _ => Nat.le_refl _
  | k + 1, hk => by
    show (rowsT S k ++ lastR S (k + 1)).length ≤ _
    have h1 := rowsT_len hS (k := k) (by omega)
    have h2 := pow3 hS hk
    rw [List.length_append, lastR_len]
    omega
/-- the three rows that decide -/
def tripsOf (X Y Z : List Row) : List (Row × Row × Row) := X.flatMap fun x => Y.flatMap fun y => Z.map fun z => (x, y, z)
theorem mem_trips {X Y Z : List Row} {x y z : Row} : (x, y, z) ∈ tripsOf X Y Z ↔ x ∈ X ∧ y ∈ Y ∧ z ∈ Z := by
  unfold tripsOf
  simp only [List.mem_flatMap, List.mem_map, Prod.mk.injEq]
  constructor
  · rintro ⟨a, ha, b, hb, c, hc, rfl, rfl, rfl⟩; exact ⟨ha, hb, hc⟩
  · rintro ⟨hx, hy, hz⟩; exact ⟨x, hx, y, hy, z, hz, rfl, rfl, rfl⟩
end K66
namespace K66
theorem trip1_len (x : Row) (Z : List Row) : ∀ Y : List Row, (Y.flatMap fun y => Z.map fun z => (x, y, z)).length = Y.length * Z.length
  | [] => by simp
  | y :: Y => by
    rw [List.flatMap_cons, List.length_append, List.length_map, trip1_len x Z Y, List.length_cons, Nat.add_mul, Nat.one_mul]
    omega
theorem trips_len (Y Z : List Row) : ∀ X : List Row, (tripsOf X Y Z).length = X.length * (Y.length * Z.length)
  | [] => by simp [tripsOf]
  | x :: X => by
    have ih := trips_len Y Z X
    unfold tripsOf at ih ⊢
    rw [List.flatMap_cons, List.length_append, trip1_len, ih, List.length_cons, Nat.add_mul, Nat.one_mul]
    omega
theorem trips_app (X X' Y Z : List Row) : tripsOf (X ++ X') Y Z = tripsOf X Y Z ++ tripsOf X' Y Z := by
  unfold tripsOf; rw [List.flatMap_append]
theorem trips_one (x : Row) (Y Y' Z : List Row) : tripsOf [x] (Y ++ Y') Z = tripsOf [x] Y Z ++ tripsOf [x] Y' Z := by
  unfold tripsOf
  simp only [List.flatMap_cons, List.flatMap_nil, List.append_nil, List.flatMap_append]
theorem trips_11 (x y : Row) (Z : List Row) : tripsOf [x] [y] Z = Z.map fun z => (x, y, z) := by
  unfold tripsOf
  simp only [List.flatMap_cons, List.flatMap_nil, List.append_nil]
end K66
namespace K66
/-! where the joinings of a bracketing stand -/
/-- the first word of each seam's phrase -/
def Tr.fs : Tr → Nat → Row
  | .lf, _ => []
  | .nd l r, f => l.fs f ++ (f : Int) :: r.fs (f + l.n)
/-- the last one -/
def Tr.ls : Tr → Nat → Row
  | .lf, _ => []
  | .nd l r, f => l.ls f ++ ((f + l.n + r.n - 1 : Nat) : Int) :: r.ls (f + l.n)
/-- the seams, outer ones first, those behind before those ahead -/
def Tr.ro : Tr → Nat → Row
  | .lf, _ => []
  | .nd l r, f => ((f + l.n - 1 : Nat) : Int) :: (r.ro (f + l.n) ++ l.ro f)
/-- inner ones first -/
def Tr.po : Tr → Nat → Row
  | .lf, _ => []
  | .nd l r, f => l.po f ++ (r.po (f + l.n) ++ [((f + l.n - 1 : Nat) : Int)])
theorem Tr.po_ro : ∀ (t : Tr) (f : Nat), t.po f = (t.ro f).reverse
  | .lf, _ => rfl
  | .nd l r, f => by
    show l.po f ++ (r.po (f + l.n) ++ [((f + l.n - 1 : Nat) : Int)]) = (((f + l.n - 1 : Nat) : Int) :: (r.ro (f + l.n) ++ l.ro f)).reverse
    rw [List.reverse_cons, List.reverse_append, l.po_ro, r.po_ro, List.append_assoc]
theorem Tr.fs_len : ∀ (t : Tr) (f : Nat), (t.fs f).length + 1 = t.n
  | .lf, _ => rfl
  | .nd l r, f => by
    have h1 := l.fs_len f; have h2 := r.fs_len (f + l.n)
    show (l.fs f ++ (f : Int) :: r.fs (f + l.n)).length + 1 = l.n + r.n
    rw [List.length_append, List.length_cons]; omega
theorem Tr.ls_len : ∀ (t : Tr) (f : Nat), (t.ls f).length + 1 = t.n
  | .lf, _ => rfl
  | .nd l r, f => by
    have h1 := l.ls_len f; have h2 := r.ls_len (f + l.n)
    show (l.ls f ++ ((f + l.n + r.n - 1 : Nat) : Int) :: r.ls (f + l.n)).length + 1 = l.n + r.n
    rw [List.length_append, List.length_cons]; omega
theorem Tr.fs_ge : ∀ (t : Tr) (f : Nat), ∀ x ∈ t.fs f, (f : Int) ≤ x
  | .lf, _, x, h => nomatch h
  | .nd l r, f, x, h => by
    rcases List.mem_append.mp h with h | h
    · exact l.fs_ge f x h
    · rcases List.mem_cons.mp h with h | h
      · omega
      · have := r.fs_ge (f + l.n) x h; omega
theorem Tr.ls_le : ∀ (t : Tr) (f : Nat), ∀ x ∈ t.ls f, x ≤ ((f + t.n - 1 : Nat) : Int)
  | .lf, _, x, h => nomatch h
  | .nd l r, f, x, h => by
    show x ≤ ((f + (l.n + r.n) - 1 : Nat) : Int)
    have p1 := l.pos; have p2 := r.pos
    rcases List.mem_append.mp h with h | h
    · have := l.ls_le f x h; omega
    · rcases List.mem_cons.mp h with h | h
      · omega
      · have := r.ls_le (f + l.n) x h; omega

/-- s stands in L from f on -/
def Seg (L : Row) (f : Nat) (s : Row) : Prop := ∀ i x, s[i]? = some x → L[f + i]? = some x
theorem Seg.all (s : Row) : Seg s 0 s := fun i x h => by rw [Nat.zero_add]; exact h
theorem Seg.ahead {L : Row} {f : Nat} {a b : Row} (h : Seg L f (a ++ b)) : Seg L f a := fun i x e => h i x (by
  have hi := (List.getElem?_eq_some_iff.mp e).1
  rw [List.getElem?_append_left hi]; exact e)
theorem Seg.behind {L : Row} {f : Nat} {a b : Row} (h : Seg L f (a ++ b)) : Seg L (f + a.length) b := fun i x e => by
  rw [Nat.add_assoc]
  refine h _ x ?_
  rw [List.getElem?_append_right (by omega), Nat.add_sub_cancel_left]; exact e
theorem Seg.head {L : Row} {f : Nat} {x : Int} {b : Row} (h : Seg L f (x :: b)) : L[f]? = some x := h 0 x rfl
theorem Seg.tail {L : Row} {f : Nat} {x : Int} {b : Row} (h : Seg L f (x :: b)) : Seg L (f + 1) b := fun i y e => by
  rw [Nat.add_assoc, Nat.add_comm 1 i]; exact h (i + 1) y e
/-- a node's segment: its three parts -/
theorem Seg.node {L : Row} {f n : Nat} {a b : Row} {x : Int} (h : Seg L f (a ++ x :: b)) (ha : a.length + 1 = n) : Seg L f a ∧ L[f + n - 1]? = some x ∧ Seg L (f + n) b := by
  refine ⟨h.ahead, ?_, ?_⟩
  · have := h.behind.head
    rw [show f + n - 1 = f + a.length by omega]; exact this
  · have := h.behind.tail
    rw [show f + n = f + a.length + 1 by omega]; exact this

/-- the depths of a node: the root's alone is so little -/
theorem sh_root {l r : Tr} {d x : Int} {i : Nat} (h : ((Tr.nd l r).sh d)[i]? = some x) : (x ≤ d ↔ i = l.n - 1) ∧ (i = l.n - 1 → x = d) := by
  have h' : (l.sh (d + 1) ++ d :: r.sh (d + 1))[i]? = some x := h
  have hl := l.sh_len (d + 1)
  by_cases h1 : i < (l.sh (d + 1)).length
  · rw [List.getElem?_append_left h1] at h'
    have := l.sh_ge (d + 1) x (List.mem_of_getElem? h')
    exact ⟨⟨fun q => by omega, fun q => by omega⟩, fun q => by omega⟩
  · rw [List.getElem?_append_right (by omega)] at h'
    cases e : i - (l.sh (d + 1)).length with
    | zero =>
      rw [e] at h'
      have : d = x := Option.some.inj h'
      exact ⟨⟨fun q => by omega, fun q => by omega⟩, fun q => this.symm⟩
    | succ j =>
      rw [e, List.getElem?_cons_succ] at h'
      have := r.sh_ge (d + 1) x (List.mem_of_getElem? h')
      exact ⟨⟨fun q => by omega, fun q => by omega⟩, fun q => by omega⟩
/-- the phrase of the root alone is the whole -/
theorem fl_root {l r : Tr} {f i : Nat} {x y : Int} (hx : ((Tr.nd l r).fs f)[i]? = some x) (hy : ((Tr.nd l r).ls f)[i]? = some y) : (x = (f : Int) ∧ y = ((f + (l.n + r.n) - 1 : Nat) : Int)) ↔ i = l.n - 1 := by
  have hx' : (l.fs f ++ (f : Int) :: r.fs (f + l.n))[i]? = some x := hx
  have hy' : (l.ls f ++ ((f + l.n + r.n - 1 : Nat) : Int) :: r.ls (f + l.n))[i]? = some y := hy
  have h1 := l.fs_len f
  have h2 := l.ls_len f
  have p1 := l.pos; have p2 := r.pos
  by_cases hi : i < (l.fs f).length
  · rw [List.getElem?_append_left (by omega)] at hy'
    have := l.ls_le f y (List.mem_of_getElem? hy')
    exact ⟨fun q => by omega, fun q => by omega⟩
  · rw [List.getElem?_append_right (by omega)] at hx' hy'
    rw [show i - (l.ls f).length = i - (l.fs f).length by omega] at hy'
    cases e : i - (l.fs f).length with
    | zero =>
      rw [e] at hx' hy'
      have q1 : (f : Int) = x := Option.some.inj hx'
      have q2 : ((f + l.n + r.n - 1 : Nat) : Int) = y := Option.some.inj hy'
      exact ⟨fun q => by omega, fun q => ⟨q1.symm, by omega⟩⟩
    | succ j =>
      rw [e, List.getElem?_cons_succ] at hx'
      have := r.fs_ge (f + l.n) x (List.mem_of_getElem? hx')
      exact ⟨fun q => by omega, fun q => by omega⟩

/-! saying, joining by joining, in one row -/
/-- where the words begin -/
def st (ws : List Row) (k : Nat) : Nat := ((ws.take k).flatten).length
def joinAt (F : Row → Row → Row × Row) (A B : Nat) (row : Row) (fw mid la : Nat) : Row :=
  let b := max fw (mid - A)
  let e := min la (mid + B)
  let p := F ((row.drop b).take (mid - b)) ((row.drop mid).take (e - mid))
  row.take b ++ (p.1 ++ (p.2 ++ row.drop e))
theorem joinAt_met {F : Row → Row → Row × Row} {A B : Nat} (pre a b post : Row) :
    joinAt F A B (pre ++ (a ++ (b ++ post))) pre.length (pre.length + a.length) (pre.length + a.length + b.length) = pre ++ (met F A B a b ++ post) := by
  have eb : max pre.length (pre.length + a.length - A) = pre.length + (a.length - A) := by omega
  have ee : min (pre.length + a.length + b.length) (pre.length + a.length + B) = pre.length + (a.length + min b.length B) := by omega
  unfold joinAt
  simp only [eb, ee]
  have d1 : (pre ++ (a ++ (b ++ post))).drop (pre.length + (a.length - A)) = a.drop (a.length - A) ++ (b ++ post) := by
    rw [List.drop_append, List.drop_of_length_le (by omega), List.nil_append, Nat.add_sub_cancel_left, List.drop_append_of_le_length (by omega)]
  have d2 : (pre ++ (a ++ (b ++ post))).drop (pre.length + a.length) = b ++ post := by
    rw [List.drop_append, List.drop_of_length_le (by omega), List.nil_append, Nat.add_sub_cancel_left, List.drop_append, List.drop_of_length_le (by omega), List.nil_append, Nat.sub_self, List.drop_zero]
  have d3 : (pre ++ (a ++ (b ++ post))).drop (pre.length + (a.length + min b.length B)) = b.drop B ++ post := by
    rw [List.drop_append, List.drop_of_length_le (by omega), List.nil_append, Nat.add_sub_cancel_left, List.drop_append, List.drop_of_length_le (by omega), List.nil_append, Nat.add_sub_cancel_left, List.drop_append_of_le_length (by omega)]
    by_cases h : b.length ≤ B
    · rw [Nat.min_eq_left h, List.drop_length, List.drop_of_length_le h]
    · rw [Nat.min_eq_right (by omega)]
  have t1 : (pre ++ (a ++ (b ++ post))).take (pre.length + (a.length - A)) = pre ++ a.take (a.length - A) := by
    rw [List.take_append, List.take_of_length_le (by omega), Nat.add_sub_cancel_left, List.take_append_of_le_length (by omega)]
  have s1 : (a.drop (a.length - A) ++ (b ++ post)).take (pre.length + a.length - (pre.length + (a.length - A))) = a.drop (a.length - A) := by
    rw [List.take_append, List.take_of_length_le (by rw [List.length_drop]; omega), List.length_drop]
    rw [show pre.length + a.length - (pre.length + (a.length - A)) - (a.length - (a.length - A)) = 0 by omega, List.take_zero, List.append_nil]
  have s2 : (b ++ post).take (pre.length + (a.length + min b.length B) - (pre.length + a.length)) = b.take B := by
    rw [show pre.length + (a.length + min b.length B) - (pre.length + a.length) = min b.length B by omega, List.take_append_of_le_length (by omega)]
    by_cases h : b.length ≤ B
    · rw [Nat.min_eq_left h, List.take_length, List.take_of_length_le h]
    · rw [Nat.min_eq_right (by omega)]
  rw [d1, d2, d3, t1, s1, s2]
  unfold met
  simp only [List.append_assoc]
theorem joinAt_len {F : Row → Row → Row × Row} {A B : Nat} (hF : LenOk F) (row : Row) (fw mid la : Nat) (h1 : fw ≤ mid) (h2 : mid ≤ la) (h3 : la ≤ row.length) : (joinAt F A B row fw mid la).length = row.length := by
  unfold joinAt
  simp only [List.length_append, (hF _ _).1, (hF _ _).2, List.length_take, List.length_drop]
  omega
theorem st_le (ws : List Row) {i j : Nat} (h : i ≤ j) : st ws i ≤ st ws j := by
  unfold st
  rw [show j = i + (j - i) by omega, List.take_add, List.flatten_append, List.length_append]
  omega
theorem st_all (ws : List Row) {k : Nat} (h : ws.length ≤ k) : st ws k = ws.flatten.length := by
  unfold st; rw [List.take_of_length_le h]
theorem st_part (ws : List Row) (f n : Nat) : st ws (f + n) = st ws f + (((ws.drop f).take n).flatten).length := by
  unfold st
  rw [List.take_add, List.flatten_append, List.length_append]
/-- one joining, told by the global rows of first and last words -/
def stepS (F : Row → Row → Row × Row) (A B : Nat) (ws : List Row) (FS LS : Row) (row : Row) (k : Int) : Row :=
  joinAt F A B row (st ws ((FS.getD k.toNat 0).toNat)) (st ws (k.toNat + 1)) (st ws ((LS.getD k.toNat 0).toNat + 1))
theorem say_len {F : Row → Row → Row × Row} {A B : Nat} (hF : LenOk F) (ws : List Row) : ∀ (t : Tr) (f : Nat), f + t.n ≤ ws.length → (t.say (met F A B) ws f).length = (((ws.drop f).take t.n).flatten).length
  | .lf, f, h => by
    show (ws.getD f []).length = (((ws.drop f).take 1).flatten).length
    rw [part_one h]
    simp
  | .nd l r, f, h => by
    have h' : f + (l.n + r.n) ≤ ws.length := h
    show (met F A B (l.say _ ws f) (r.say _ ws (f + l.n))).length = (((ws.drop f).take (l.n + r.n)).flatten).length
    rw [met_len hF, part_app, List.flatten_append, List.length_append, say_len hF ws l f (by omega), say_len hF ws r (f + l.n) (by omega)]
theorem fold_say {F : Row → Row → Row × Row} {A B : Nat} (hF : LenOk F) (ws : List Row) (FS LS : Row) : ∀ (t : Tr) (f : Nat) (pre post : Row), f + t.n ≤ ws.length → Seg FS f (t.fs f) → Seg LS f (t.ls f) → pre.length = st ws f →
    (t.po f).foldl (stepS F A B ws FS LS) (pre ++ (((ws.drop f).take t.n).flatten ++ post)) = pre ++ (t.say (met F A B) ws f ++ post)
  | .lf, f, pre, post, h, _, _, _ => by
    show pre ++ (((ws.drop f).take 1).flatten ++ post) = pre ++ (ws.getD f [] ++ post)
    rw [part_one h]
    simp
  | .nd l r, f, pre, post, h, hf, hl, hp => by
    have h' : f + (l.n + r.n) ≤ ws.length := h
    have p1 := l.pos; have p2 := r.pos
    obtain ⟨f1, f2, f3⟩ := Seg.node (n := l.n) (show Seg FS f (l.fs f ++ (f : Int) :: r.fs (f + l.n)) from hf) (l.fs_len f)
    obtain ⟨l1, l2, l3⟩ := Seg.node (n := l.n) (show Seg LS f (l.ls f ++ ((f + l.n + r.n - 1 : Nat) : Int) :: r.ls (f + l.n)) from hl) (l.ls_len f)
    show (l.po f ++ (r.po (f + l.n) ++ [((f + l.n - 1 : Nat) : Int)])).foldl (stepS F A B ws FS LS) (pre ++ (((ws.drop f).take (l.n + r.n)).flatten ++ post)) = pre ++ (met F A B (l.say _ ws f) (r.say _ ws (f + l.n)) ++ post)
    rw [part_app, List.flatten_append, List.append_assoc, List.foldl_append, fold_say hF ws FS LS l f pre _ (by omega) f1 l1 hp]
    have sl := say_len (A := A) (B := B) hF ws l f (by omega)
    have sr := say_len (A := A) (B := B) hF ws r (f + l.n) (by omega)
    have hst := st_part ws f l.n
    have e1 : pre ++ (l.say (met F A B) ws f ++ (((ws.drop (f + l.n)).take r.n).flatten ++ post)) = (pre ++ l.say (met F A B) ws f) ++ (((ws.drop (f + l.n)).take r.n).flatten ++ post) := by simp only [List.append_assoc]
    rw [e1, List.foldl_append, fold_say hF ws FS LS r (f + l.n) _ post (by omega) f3 l3 (by rw [List.length_append, sl]; omega)]
    rw [List.append_assoc]
    show stepS F A B ws FS LS (pre ++ (l.say (met F A B) ws f ++ (r.say (met F A B) ws (f + l.n) ++ post))) ((f + l.n - 1 : Nat) : Int) = _
    unfold stepS
    rw [Int.toNat_natCast, List.getD_eq_getElem?_getD, List.getD_eq_getElem?_getD, f2, l2]
    simp only [Option.getD_some, Int.toNat_natCast]
    have q1 : st ws f = pre.length := hp.symm
    have q2 : st ws (f + l.n - 1 + 1) = pre.length + (l.say (met F A B) ws f).length := by rw [show f + l.n - 1 + 1 = f + l.n by omega, hst, sl]; omega
    have q3 : st ws (f + l.n + r.n - 1 + 1) = pre.length + (l.say (met F A B) ws f).length + (r.say (met F A B) ws (f + l.n)).length := by
      rw [show f + l.n + r.n - 1 + 1 = (f + l.n) + r.n by omega, st_part ws (f + l.n) r.n, hst, sl, sr]; omega
    rw [q1, q2, q3]
    exact joinAt_met pre _ _ post
/-- all joinings of all words -/
theorem fold_all {F : Row → Row → Row × Row} {A B : Nat} (hF : LenOk F) (ws : List Row) (t : Tr) (h : t.n = ws.length) :
    (t.po 0).foldl (stepS F A B ws (t.fs 0) (t.ls 0)) ws.flatten = t.say (met F A B) ws 0 := by
  have := fold_say (A := A) (B := B) hF ws (t.fs 0) (t.ls 0) t 0 [] [] (by omega) (Seg.all _) (Seg.all _) rfl
  rw [List.drop_zero, h, List.take_length, List.append_nil, List.append_nil] at this
  exact this
end K66
namespace K66
open PySem L2

/-! ### the text by places -/
def top (i : Nat) : Stmt := PySem.Challenge.pw_heardseams_k66_whole_books_with_which_br.main.body.getD i (.Pass ⟨0, 0, 0, 0⟩)
abbrev sIsInteger : Stmt := top 8
abbrev sIsBetween : Stmt := top 9
abbrev sIsIndex : Stmt := top 10
abbrev sIsSounds : Stmt := top 15
abbrev sIsSidePair : Stmt := top 16
abbrev sIsTable : Stmt := top 17
abbrev sCheckSizes : Stmt := top 18
abbrev sRowsMany : Stmt := top 20
abbrev sRowsTo : Stmt := top 21
abbrev sTold : Stmt := top 22
abbrev sIsFair : Stmt := top 26
abbrev sIsShape : Stmt := top 27
abbrev sCheckShapeFor : Stmt := top 29
abbrev sIsWord : Stmt := top 32
abbrev sCheckWords : Stmt := top 33
abbrev sCheckPhrase : Stmt := top 34
abbrev sJoinedRows : Stmt := top 35
abbrev sInnerFirst : Stmt := top 36
abbrev sSaidRow : Stmt := top 38
abbrev sSaid : Stmt := top 39
abbrev sMetRows : Stmt := top 42
abbrev sMattersAt : Stmt := top 43
abbrev sTriples : Stmt := top 44
abbrev sMatters : Stmt := top 45
abbrev sDice : Stmt := top 47
abbrev sDraw : Stmt := top 48
abbrev sDrawnShape : Stmt := top 49
abbrev sAll : Stmt := top 50
abbrev sRows : Stmt := top 51
abbrev sLike : Stmt := top 52
abbrev sBook : Stmt := top 53
abbrev sMade : Stmt := top 54
abbrev sMet : Stmt := top 55
abbrev sRow : Stmt := top 56
abbrev sSay : Stmt := top 57
abbrev sFewWords : Stmt := top 58
abbrev sSmallSizes : Stmt := top 59
abbrev sShapes : Stmt := top 60
abbrev sIsRow : Stmt := top 61
abbrev sLaw : Stmt := top 62
abbrev sBkInit : Stmt := inClass (top 19) 0
abbrev sBkKeep : Stmt := inClass (top 19) 1
abbrev sBkReach : Stmt := inClass (top 19) 6
abbrev sJnInit : Stmt := inClass (top 25) 0
abbrev sSyInit : Stmt := inClass (top 37) 0
abbrev sSyJoin : Stmt := inClass (top 37) 1
abbrev sSySay : Stmt := inClass (top 37) 2

/-! ### the module's names that are the built-ins still -/
structure Gb (mg : Str → Option Value) : Prop where
  len : mg "len" = none
  isi : mg "isinstance" = none
  int : mg "int" = none
  bool : mg "bool" = none
  tuple : mg "tuple" = none
  dict : mg "dict" = none
  list : mg "list" = none
  all : mg "all" = none
  range : mg "range" = none
  abs : mg "abs" = none
  max : mg "max" = none
  min : mg "min" = none
  zip : mg "zip" = none
end K66
namespace K66
open PySem L2

theorem bIsi : bootBuiltins "isinstance" = some (.builtin "isinstance") := by decide +kernel
theorem bInt : bootBuiltins "int" = some (.type "int") := by decide +kernel
theorem bBool : bootBuiltins "bool" = some (.type "bool") := by decide +kernel
theorem bTuple : bootBuiltins "tuple" = some (.type "tuple") := by decide +kernel
theorem bDict : bootBuiltins "dict" = some (.type "dict") := by decide +kernel
theorem bAll : bootBuiltins "all" = some (.builtin "all") := by decide +kernel
theorem kIntInt {K : PySem.W.Frag} : PySem.W.kitOne K (.type "int") (.type "int") = some true := kit_ty (by decide +kernel)
theorem kIntBool {K : PySem.W.Frag} : PySem.W.kitOne K (.type "int") (.type "bool") = some false := kit_ty (by decide +kernel)
theorem kTupTup {K : PySem.W.Frag} : PySem.W.kitOne K (.type "tuple") (.type "tuple") = some true := kit_ty (by decide +kernel)

section
variable {P : Program} {w : World} {K : PySem.W.Frag} {mg : Str → Option Value} {base : Heap}

/-! is_integer -/
def spIsInteger : Sp := fun vs H Q _ => ∃ i : Int, vs = [.int i] ∧ Q (.bl true) H
theorem scIsInteger : FnScope ["thing"] ["thing"] (C8.fnScope sIsInteger) := ⟨rfl, rfl, rfl, by decide +kernel, rfl, by decide +kernel, by decide +kernel⟩
theorem okIsInteger {f : Addr} {fd : FuncData} (F : C8.Def K mg "is_integer" sIsInteger f fd) (b : Binds K fd ["thing"] []) (g : Gb mg) : C8.Cal P w K mg base 1 "is_integer" spIsInteger [] := by
  refine C8.cal0 F b .nil scIsInteger (fun vs H Q E h => ?_) (fun cdv A outer s H vs Q E hr h => ?_)
  · obtain ⟨i, rfl, _⟩ := h; rfl
  · obtain ⟨i, rfl, k⟩ := h
    refine ⟨_, pss_one (ps_ret (pe_and (pe_callB call_isi rfl g.isi bIsi (pa_cons (pv 0) (pa_cons (pe_bltn (v := .ty "int") rfl g.int bInt rfl) pa_nil)))
      (pe_one (pe_not (pe_callB call_isi rfl g.isi bIsi (pa_cons (pv 0) (pa_cons (pe_bltn (v := .ty "bool") rfl g.bool bBool rfl) pa_nil))))))), ?_⟩
    refine ⟨_, rfl, _, _, _, _, _, rfl, .ty _, .base (.int _), kIntInt, ?_⟩
    refine ⟨_, rfl, iteT ?_⟩
    refine ⟨_, rfl, _, _, _, _, _, rfl, .ty _, .base (.int _), kIntBool, ?_⟩
    exact ⟨_, rfl, k⟩

/-! is_between -/
def spIsBetween : Sp := fun vs H Q _ => ∃ i a b : Int, vs = [.int i, .int a, .int b] ∧ Q (.bl (decide (a ≤ i) && decide (i ≤ b))) H
theorem scIsBetween : FnScope ["thing", "least", "most"] ["thing", "least", "most"] (C8.fnScope sIsBetween) := ⟨rfl, rfl, rfl, by decide +kernel, rfl, by decide +kernel, by decide +kernel⟩
theorem okIsBetween {f : Addr} {fd : FuncData} (F : C8.Def K mg "is_between" sIsBetween f fd) (b : Binds K fd ["thing", "least", "most"] []) (g : Gb mg) (G1 : C8.Cal P w K mg base 1 "is_integer" spIsInteger []) : C8.Cal P w K mg base 2 "is_between" spIsBetween [] := by
  refine C8.cal0 F b .nil scIsBetween (fun vs H Q E h => ?_) (fun cdv A outer s H vs Q E hr h => ?_)
  · obtain ⟨i, a, b, rfl, _⟩ := h; rfl
  · obtain ⟨i, a, b, rfl, k⟩ := h
    refine ⟨_, pss_one (ps_ret (pe_and (C8.pe_c G1 hr (by decide) rfl (pa_cons (pv 0) pa_nil)) (pe_one (pe_chain op_le op_le (pv 1) (pv 0) (pv 2))))), ?_⟩
    refine ⟨_, rfl, i, rfl, _, rfl, iteT ?_⟩
    refine ⟨_, rfl, _, rfl, _, _, rfl, rfl, _, rfl, ?_⟩
    by_cases h1 : a ≤ i
    · rw [decide_eq_true h1] at k ⊢
      exact iteT ⟨_, rfl, _, _, rfl, rfl, k⟩
    · rw [decide_eq_false h1] at k ⊢
      exact iteF k
end
end K66
namespace K66
open PySem L2

/-- a tuple of ints -/
def TR (H : Hp) (a : Addr) (r : Row) : Prop := H a = some (.tup (r.map V.int))
theorem TR.mono {H H' : Hp} {a : Addr} {r : Row} (h : TR H a r) (e : Same H H') : TR H' a r := e _ _ h
theorem TR.seq {K : PySem.W.Frag} {H : Hp} {a : Addr} {r : Row} (h : TR H a r) : SqT K H a (r.map V.int) := SqT.of h
theorem same_new {H : Hp} {p : Addr} {o : HO} (h : H p = none) : Same H (upd H p o) := fun b u e => by
  rw [upd_ne (ne_of_none e h)]; exact e
theorem same_snew {H H' : Hp} {p : Addr} {o : HO} (e : Same H H') (h : H' p = none) : Same H (upd H' p o) := e.trans (same_new h)
/-- an object that H does not know may change -/
theorem same_mut {H H' : Hp} {p : Addr} {o : HO} (e : Same H H') (h : H p = none) : Same H (upd H' p o) := fun b u q => by
  rw [upd_ne (ne_of_none q h)]; exact e b u q
/-- a comprehension without a test -/
theorem lc_yes {te : TE} {R : V → Hp → Prop} {N : Hp → Prop} {σ : L2.St} {H : Hp} (h : te σ H R) : tYes σ H fun b H3 => if b = true then te σ H3 R else N H3 := h
theorem ri_map {r : Row} {i : Nat} {x : V} (h : (r.map V.int)[i]? = some x) : ∃ n, x = .int n ∧ r[i]? = some n := by
  rw [List.getElem?_map] at h
  cases e : r[i]? with
  | none => rw [e] at h; cases h
  | some n => rw [e] at h; exact ⟨n, (Option.some.inj h).symm, rfl⟩

section
variable {P : Program} {w : World} {K : PySem.W.Frag} {mg : Str → Option Value} {base : Heap}

/-! is_index -/
def spIsIndex : Sp := fun vs H Q _ => ∃ i n : Int, vs = [.int i, .int n] ∧ 0 ≤ i ∧ i < n ∧ Q (.bl true) H
theorem scIsIndex : FnScope ["thing", "many"] ["thing", "many"] (C8.fnScope sIsIndex) := ⟨rfl, rfl, rfl, by decide +kernel, rfl, by decide +kernel, by decide +kernel⟩
theorem okIsIndex {f : Addr} {fd : FuncData} (F : C8.Def K mg "is_index" sIsIndex f fd) (b : Binds K fd ["thing", "many"] []) (G1 : C8.Cal P w K mg base 2 "is_between" spIsBetween []) : C8.Cal P w K mg base 3 "is_index" spIsIndex [] := by
  refine C8.cal0 F b .nil scIsIndex (fun vs H Q E h => ?_) (fun cdv A outer s H vs Q E hr h => ?_)
  · obtain ⟨i, n, rfl, _⟩ := h; rfl
  · obtain ⟨i, n, rfl, h1, h2, k⟩ := h
    refine ⟨_, pss_one (ps_ret (C8.pe_c G1 hr (by decide) rfl (pa_cons (pv 0) (pa_cons pe_int (pa_cons (pe_op op_sub (pv 1) pe_int) pa_nil))))), ?_⟩
    refine ⟨_, rfl, _, rfl, _, _, rfl, rfl, _, _, _, rfl, ?_⟩
    rw [decide_eq_true h1, decide_eq_true (show i ≤ n - 1 by omega)]
    exact k

/-! is_sounds -/
def spIsSounds : Sp := fun vs H Q _ => ∃ (a : Addr) (r : Row) (S lo hi : Int), vs = [.ref a, .int S, .int lo, .int hi] ∧ TR H a r ∧ Val S r ∧ r.length ≤ 10000 ∧ lo ≤ (r.length : Int) ∧ (r.length : Int) ≤ hi ∧
  ∀ H', Same H H' → Q (.bl true) H'
theorem scIsSounds : FnScope ["thing", "sounds", "least", "most", "sound"] ["thing", "sounds", "least", "most"] (C8.fnScope sIsSounds) := ⟨rfl, rfl, rfl, by decide +kernel, rfl, by decide +kernel, by decide +kernel⟩
theorem okIsSounds {f : Addr} {fd : FuncData} (F : C8.Def K mg "is_sounds" sIsSounds f fd) (b : Binds K fd ["thing", "sounds", "least", "most"] []) (g : Gb mg) (G1 : C8.Cal P w K mg base 3 "is_index" spIsIndex []) : C8.Cal P w K mg base 4 "is_sounds" spIsSounds [] := by
  refine C8.cal0 F b .nil scIsSounds (fun vs H Q E h => ?_) (fun cdv A outer s H vs Q E hr h => ?_)
  · obtain ⟨a, r, S, lo, hi, rfl, _⟩ := h; rfl
  · obtain ⟨a, r, S, lo, hi, rfl, ht, hv, hz, h1, h2, k⟩ := h
    refine ⟨_, pss_cons (ps_if (PW.pt (pw_or (pt_not (pt_val (pe_callB call_isi rfl g.isi bIsi (pa_cons (pv 0) (pa_cons (pe_bltn (v := .ty "tuple") rfl g.tuple bTuple rfl) pa_nil)))))
        (pw_or1 (pt_not (pt_chain op_le op_le (pv 2) (pe_callB call_len_seq rfl g.len PySem.boot_len (pa_cons (pv 0) pa_nil)) (pv 3))))))
        (pss_one (ps_ret pe_bl)) pss_nil)
      (pss_one (ps_ret (pe_callB (cr_all rfl) rfl g.all bAll (pa_cons
        (pe_lc (own := [("sound", 4)]) (g := gName 4) (tt := tYes) rfl scIsSounds.nd (pi_tup (pv 0)) (blkOk_by (N := ["thing", "sounds", "least", "most", "sound"]) (sc := C8.fnScope sIsSounds) (by decide +kernel))
          (fun _ _ _ _ _ => pg_name (i := 4) scIsSounds.nd rfl (Or.inl rfl)) (fun _ _ _ _ _ => pts_nil)
          (fun _ _ _ _ _ => C8.pe_c G1 hr (by decide) rfl (pa_cons (pv 4) (pa_cons (pv 1) pa_nil)))) pa_nil)))), ?_⟩
    refine ⟨_, rfl, _, _, _, _, _, rfl, .ty _, .base (.tup ht), kTupTup, ?_⟩
    refine ⟨_, rfl, iteF ?_⟩
    refine ⟨_, rfl, _, rfl, a, _, rfl, .inr ht.seq, _, _, rfl, rfl, ?_⟩
    rw [List.length_map]
    refine ⟨_, rfl, ?_⟩
    rw [decide_eq_true h1]
    refine iteT ⟨_, rfl, _, _, rfl, rfl, _, rfl, ?_⟩
    rw [decide_eq_true h2]
    refine iteF ?_
    refine ⟨_, rfl, a, rfl, ⟨_, ht.seq⟩, fun D hD => ?_⟩
    refine lc_tup (K := K) (a := a) (xs := r.map V.int) (fun i H' => Same H H' ∧ H' D = some (.lst ((List.replicate i true).map V.bl))) ⟨same_new hD, upd_same⟩ (fun i H' _ p => (ht.mono p.1).seq) (fun i x H' hx p => ?_) (fun H' p => ?_)
    · obtain ⟨n, rfl, hn⟩ := ri_map hx
      have vn := hv n (List.mem_of_getElem? hn)
      have hi := (List.getElem?_eq_some_iff.mp hn).1
      refine ⟨rfl, lc_yes ?_⟩
      refine ⟨_, rfl, _, rfl, _, _, rfl, vn.1, vn.2, _, p.2, ?_, same_mut p.1 hD, ?_⟩
      · rw [List.length_map, List.length_replicate]; exact Nat.lt_of_lt_of_le hi (Nat.le_trans hz (by decide))
      · rw [upd_same, List.replicate_succ', List.map_append]; rfl
    · refine ⟨D, _, rfl, SqL.of p.2, ?_⟩
      have e : ∀ n, (List.replicate n true).all id = true := fun n => by
        rw [List.all_eq_true]; intro x hx; exact (List.mem_replicate.mp hx).2
      rw [e]
      exact k _ p.1
end
end K66
/-! a dict whose keys and values are pairs of rows -/
namespace K66
open PySem L2

abbrev NK := Row × Row
/-- a pair of rows stands at a -/
def PR (H : Hp) (a : Addr) (k : NK) : Prop := ∃ l r, H a = some (.tup [.ref l, .ref r]) ∧ TR H l k.1 ∧ TR H r k.2
theorem PR.mono {H H' : Hp} {a : Addr} {k : NK} (h : PR H a k) (e : ∀ b xs, H b = some (.tup xs) → H' b = some (.tup xs)) : PR H' a k := by
  obtain ⟨l, r, h1, h2, h3⟩ := h
  exact ⟨l, r, e _ _ h1, e _ _ h2, e _ _ h3⟩
theorem PR.same {H H' : Hp} {a : Addr} {k : NK} (h : PR H a k) (e : Same H H') : PR H' a k := h.mono fun _ _ q => e _ _ q
theorem int_inj : ∀ {a b : Row}, a.map V.int = b.map V.int → a = b
  | [], [], _ => rfl
  | [], _ :: _, e => by simp at e
  | _ :: _, [], e => by simp at e
  | x :: xs, y :: ys, e => by
    rw [List.map_cons, List.map_cons] at e
    injection e with e1 e2
    injection e1 with e1
    rw [e1, int_inj e2]
theorem TR.inj {H : Hp} {a : Addr} {x y : Row} (h : TR H a x) (g : TR H a y) : x = y := by
  have e := Option.some.inj (h.symm.trans g)
  injection e with e
  exact int_inj e
theorem PR.inj {H : Hp} {a : Addr} {x y : NK} (h : PR H a x) (g : PR H a y) : x = y := by
  obtain ⟨l, r, h1, h2, h3⟩ := h
  obtain ⟨l', r', g1, g2, g3⟩ := g
  have e := Option.some.inj (h1.symm.trans g1)
  injection e with e
  injection e with e1 e2
  injection e2 with e2 _
  injection e1 with e1
  injection e2 with e2
  subst e1 e2
  exact Prod.ext (h2.inj g2) (h3.inj g3)

/-- an entry: its key and value and where they stand -/
structure En where
  k : NK
  ka : Addr
  v : NK
  va : Addr
def numK (r : Row) : NestedKey := .tup (r.map NestedKey.num)
def kN (k : NK) : NestedKey := .tup [numK k.1, numK k.2]
theorem num_inj : ∀ {a b : Row}, a.map NestedKey.num = b.map NestedKey.num → a = b
  | [], [], _ => rfl
  | [], _ :: _, e => by simp at e
  | _ :: _, [], e => by simp at e
  | x :: xs, y :: ys, e => by
    rw [List.map_cons, List.map_cons] at e
    injection e with e1 e2
    injection e1 with e1
    rw [e1, num_inj e2]
theorem kN_inj {a b : NK} (h : kN a = kN b) : a = b := by
  unfold kN numK at h
  injection h with h
  injection h with h1 h2
  injection h2 with h2 _
  injection h1 with h1
  injection h2 with h2
  exact Prod.ext (num_inj h1) (num_inj h2)
def rawE (e : En) : NestedKey × Addr × Value := (kN e.k, e.ka, .ref e.va)
def ens (P : Program) (w : World) (xs : List En) : List DictEntry := xs.map fun e => entryOfKey (nestedKind P w) (rawE e)
/-- the dict's own object -/
def dHO (P : Program) (w : World) (d : Addr) (xs : List En) (ep : Nat) : HO := .ext fun h => h.DictRaw d (ens P w xs).toArray ep
structure NAt (P : Program) (w : World) (H : Hp) (d : Addr) (xs : List En) (ep : Nat) : Prop where
  obj : H d = some (dHO P w d xs ep)
  nosys : (d == sysModules) = false
  ents : ∀ e ∈ xs, PR H e.ka e.k ∧ PR H e.va e.v
  nodup : (xs.map (·.k)).Nodup
  fits : xs.length ≤ sizeLine
def pairsE (xs : List En) : List (NK × NK) := xs.map fun e => (e.k, e.v)
/-- at d stands a dict of the keys and values kvs -/
def ND (P : Program) (w : World) (H : Hp) (d : Addr) (kvs : List (NK × NK)) : Prop := ∃ xs ep, NAt P w H d xs ep ∧ kvs = pairsE xs

def valN (kvs : List (NK × NK)) (k : NK) : Option NK := (kvs.find? fun p => decide (p.1 = k)).map (·.2)
def putE (xs : List En) (k : NK) (ka : Addr) (v : NK) (va : Addr) : List En :=
  if (xs.any fun e => decide (e.k = k)) = true then xs.map (fun e => if e.k = k then ⟨e.k, e.ka, v, va⟩ else e) else xs ++ [⟨k, ka, v, va⟩]
theorem mem_putE {xs : List En} {k : NK} {ka : Addr} {v : NK} {va : Addr} {e : En} (h : e ∈ putE xs k ka v va) : e ∈ xs ∨ (e.k = k ∧ e.v = v) := by
  unfold putE at h
  split at h
  · obtain ⟨e', h1, h2⟩ := List.mem_map.mp h
    split at h2
    · rename_i q
      subst h2; exact .inr ⟨q, rfl⟩
    · subst h2; exact .inl h1
  · rcases List.mem_append.mp h with h | h
    · exact .inl h
    · rw [List.mem_singleton] at h; subst h; exact .inr ⟨rfl, rfl⟩
theorem putE_len {xs : List En} {k : NK} {ka : Addr} {v : NK} {va : Addr} : (putE xs k ka v va).length ≤ xs.length + 1 := by
  unfold putE
  split <;> simp

section
variable {P : Program} {w : World} {H : Hp} {h : Heap} {d : Addr} {xs : List En} {ep : Nat}
theorem NAt.keep {H' : Hp} (n : NAt P w H d xs ep) (e : ∀ b xs, H b = some (.tup xs) → H' b = some (.tup xs)) (ed : H' d = H d) : NAt P w H' d xs ep :=
  ⟨ed.trans n.obj, n.nosys, fun x hx => ⟨(n.ents x hx).1.mono e, (n.ents x hx).2.mono e⟩, n.nodup, n.fits⟩
theorem NAt.same {H' : Hp} (n : NAt P w H d xs ep) (e : Same H H') : NAt P w H' d xs ep := n.keep (fun _ _ q => e _ _ q) ((e _ _ n.obj).trans n.obj.symm)
theorem ND.same {H' : Hp} {kvs : List (NK × NK)} (n : ND P w H d kvs) (e : Same H H') : ND P w H' d kvs := by
  obtain ⟨xs, ep, n, q⟩ := n
  exact ⟨xs, ep, n.same e, q⟩
theorem numAll {us : List Value} : ∀ {r : Row}, Vals (r.map V.int) us → NestedAll h (r.map NestedKey.num) us := by
  intro r
  induction r generalizing us with
  | nil => intro q; cases q; exact .nil
  | cons x r ih =>
    intro q
    cases q with
    | cons a b =>
      obtain ⟨t, q⟩ := (show ∃ t, _ = Value.int x t from a)
      subst q
      exact .cons (.int _ _) (ih b)
theorem TR.nest {a : Addr} {r : Row} (ok : HOk P w H h) (t : TR H a r) : NestedIs h (numK r) (.ref a) := by
  obtain ⟨_, its, rv, o, h1, h2, n, h3⟩ := (show ObjOk P w H h a (.tup (r.map V.int)) from ok a _ t)
  exact .tup h1 h2 h3 (by simpa using numAll rv)
theorem PR.nest {a : Addr} {k : NK} (ok : HOk P w H h) (t : PR H a k) : NestedIs h (kN k) (.ref a) := by
  obtain ⟨l, r, e, tl, tr⟩ := t
  obtain ⟨_, its, rv, o, h1, h2, n, h3⟩ := (show ObjOk P w H h a (.tup [.ref l, .ref r]) from ok a _ e)
  refine .tup h1 h2 h3 ?_
  cases rv with
  | cons q1 q =>
    cases q with
    | cons q2 q =>
      cases q
      cases (show _ = Value.ref l from q1)
      cases (show _ = Value.ref r from q2)
      exact .cons (tl.nest ok) (.cons (tr.nest ok) .nil)
theorem depth_nums : ∀ r : Row, NestedKey.depthAll (r.map NestedKey.num) = 0
  | [] => rfl
  | x :: r => by
    rw [List.map_cons, NestedKey.depthAll, depth_nums r]; rfl
theorem depth_kN (k : NK) : (kN k).depth ≤ 8 := by
  unfold kN numK
  simp only [NestedKey.depth, NestedKey.depthAll, depth_nums]
  decide
theorem PR.is {a : Addr} {k : NK} (ok : HOk P w H h) (t : PR H a k) : (nestedKind P w).is h (kN k) a := ⟨t.nest ok, depth_kN k⟩
theorem NAt.raw (ok : HOk P w H h) (n : NAt P w H d xs ep) : h.DictRaw d (ens P w xs).toArray ep := by
  obtain ⟨q, _⟩ := ok d _ n.obj
  exact q
theorem NAt.ofH (ok : HOk P w H h) (n : NAt P w H d xs ep) : h.DictOfH (nestedKind P w) d (xs.map rawE) := by
  obtain ⟨o, h1, h2, h3⟩ := n.raw ok
  refine ⟨o, _, ep, h1, h2, h3, by simp [ens, Function.comp_def], fun x hx => ?_, ?_⟩
  · obtain ⟨e, he, rfl⟩ := List.mem_map.mp hx
    exact (n.ents e he).1.is ok
  · rw [List.map_map]
    have e : xs.map ((fun x : NestedKey × Addr × Value => x.1) ∘ rawE) = (xs.map (·.k)).map kN := by rw [List.map_map]; rfl
    rw [e]
    exact List.Pairwise.map kN (fun a b hab q => hab (kN_inj q)) n.nodup
theorem at_raw (k : NK) : ∀ xs : List En, atKey (xs.map rawE) (kN k) = (xs.find? fun e => decide (e.k = k)).map fun e => (e.ka, .ref e.va)
  | [] => rfl
  | e :: xs => by
    have ih := at_raw k xs
    unfold atKey at ih ⊢
    rw [List.map_cons, List.find?_cons, List.find?_cons]
    by_cases q : e.k = k
    · have q' : (rawE e).1 = kN k := congrArg kN q
      rw [decide_eq_true q', decide_eq_true q]; rfl
    · have q' : ¬ (rawE e).1 = kN k := fun z => q (kN_inj z)
      rw [decide_eq_false q', decide_eq_false q]; exact ih
theorem val_find (k : NK) : ∀ xs : List En, valN (pairsE xs) k = (xs.find? fun e => decide (e.k = k)).map (·.v)
  | [] => rfl
  | e :: xs => by
    have ih := val_find k xs
    unfold valN pairsE at ih ⊢
    rw [List.map_cons, List.find?_cons, List.find?_cons]
    cases decide ((e.k, e.v).1 = k) with
    | true => rfl
    | false => exact ih
theorem find_any {α : Type} (p : α → Bool) : ∀ xs : List α, (xs.find? p).isSome = xs.any p
  | [] => rfl
  | x :: xs => by
    have ih := find_any p xs
    rw [List.find?_cons, List.any_cons]
    cases p x with
    | true => rfl
    | false => rw [Bool.false_or]; exact ih
theorem put_raw (xs : List En) (k : NK) (ka : Addr) (v : NK) (va : Addr) : storedH (xs.map rawE) (kN k) ka (.ref va) = (putE xs k ka v va).map rawE := by
  unfold storedH putE
  rw [at_raw]
  have e : ((xs.find? fun e => decide (e.k = k)).map fun e => (e.ka, Value.ref e.va)).isSome = xs.any fun e => decide (e.k = k) := by
    rw [Option.isSome_map]
    exact find_any _ xs
  rw [e]
  split
  · rw [List.map_map, List.map_map]
    refine List.map_congr_left fun x _ => ?_
    show putAt (kN k) (.ref va) (rawE x) = rawE (if x.k = k then ⟨x.k, x.ka, v, va⟩ else x)
    unfold putAt
    by_cases q : x.k = k
    · rw [if_pos (show (rawE x).1 = kN k from congrArg kN q), if_pos q]; rfl
    · rw [if_neg (show ¬ (rawE x).1 = kN k from fun z => q (kN_inj z)), if_neg q]
  · simp [rawE]
end

section
variable {X : Cx} {pins : List (Addr × Obj)} {σ : L2.St} {H : Hp} {s : Shared} {d : Addr}
theorem NAt.type {xs : List En} {ep : Nat} (I : Inv X pins σ H s) (n : NAt X.prog X.w H d xs ep) : s.TypeIs (.ref d) "dict" ∧ ∀ a, Value.ref d = .ref a → ∃ ob, s.heap.get? a = some ob ∧ ob.dict = none := by
  obtain ⟨o, h1, h2, h3⟩ := n.raw I.hok
  exact ⟨⟨o, h1, h2.1⟩, fun a e => by cases e; exact ⟨o, h1, h2.2.1⟩⟩
/-- {} -/
def tDN (P : Program) (w : World) : TE := fun _ H Q => ∀ d o, H d = none → ND P w (upd H d o) d [] → Q (.ref d) (upd H d o)
theorem pe_dn {pos : Pos} : PE X (.Dict [] [] pos) (tDN X.prog X.w) := by
  refine ⟨fun pins s σ H Q I h => ?_⟩
  have hb : (s.heap.objs.size == sysModules) = false := beq_eq_false_iff_ne.mpr (Ne.symm (Nat.ne_of_lt I.big))
  have raw : (s.heap.push { cls := .type "dict", data := .dict #[] }).DictRaw s.heap.objs.size (ens X.prog X.w []).toArray 0 := ⟨_, Heap.get?_push_size _ rfl, ⟨rfl, rfl, rfl⟩, rfl⟩
  refine wpAny_Dict_empty ⟨.ref s.heap.objs.size, _, I.laid (a := s.heap.objs.size) (o := dHO X.prog X.w s.heap.objs.size [] 0) (t' := s.toks) (fun _ _ q => Heap.get?_push_of_some _ q) (Nat.le_refl _) ?_, rfl, h _ _ (I.hok.fresh (Nat.le_refl _)) ?_⟩
  · exact ⟨raw, ⟨_, Heap.get?_push_size _ rfl⟩, fun h1 h2 q e => q.at e⟩
  · exact ⟨[], 0, ⟨upd_same, hb, fun _ z => (nomatch z), .nil, Nat.zero_le _⟩, rfl⟩
/-- behind a store: the new description of d -/
theorem d_store {h' : Heap} {tk : Nat} {xs : List En} {ep : Nat} {k : NK} {ka : Addr} {v : NK} {va : Addr} (I : Inv X pins σ H s) (n : NAt X.prog X.w H d xs ep) (pk : PR H ka k) (pv : PR H va v)
    (hz : xs.length < sizeLine) (dd : h'.DictOfH (nestedKind X.prog X.w) d (storedH (xs.map rawE) (kN k) ka (.ref va))) (sb : Heap.SameBut d s.heap h') :
    ∃ ep', Inv X pins σ (upd H d (dHO X.prog X.w d (putE xs k ka v va) ep')) { s with heap := h', toks := tk } ∧ NAt X.prog X.w (upd H d (dHO X.prog X.w d (putE xs k ka v va) ep')) d (putE xs k ka v va) ep' := by
  rw [put_raw xs k ka v va] at dd
  obtain ⟨o, es, ep', h1, h2, h3, h4, _, h6⟩ := dd
  have ees : es = (ens X.prog X.w (putE xs k ka v va)).toArray := by
    apply Array.toList_inj.mp
    rw [h4]; simp [ens, Function.comp_def]
  subst ees
  have raw : h'.DictRaw d (ens X.prog X.w (putE xs k ka v va)).toArray ep' := ⟨o, h1, h2, h3⟩
  have tups : ∀ b ys, H b = some (.tup ys) → upd H d (dHO X.prog X.w d (putE xs k ka v va) ep') b = some (.tup ys) := fun b ys e => by
    rw [upd_ne (ne_of e n.obj fun z => nomatch z)]; exact e
  refine ⟨ep', I.write (x := d) (e := d) (by rw [n.obj]; exact True.intro) (.inl rfl) (fun b q hb z => (sb.2 b hb).trans z) ⟨o, h1⟩ ⟨raw, ⟨o, h1⟩, fun a b q e => q.at e⟩, upd_same, n.nosys, fun e he => ?_, ?_, Nat.le_trans putE_len hz⟩
  · have old := fun (e' : En) (he' : e' ∈ xs) => (⟨(n.ents e' he').1.mono tups, (n.ents e' he').2.mono tups⟩ : _ ∧ _)
    unfold putE at he
    split at he
    · obtain ⟨e', q1, q2⟩ := List.mem_map.mp he
      split at q2
      · subst q2; exact ⟨(old e' q1).1, pv.mono tups⟩
      · subst q2; exact old e' q1
    · rcases List.mem_append.mp he with q | q
      · exact old e q
      · rw [List.mem_singleton] at q; subst q; exact ⟨pk.mono tups, pv.mono tups⟩
  · rw [List.map_map] at h6
    have e : (putE xs k ka v va).map ((fun x : NestedKey × Addr × Value => x.1) ∘ rawE) = ((putE xs k ka v va).map (·.k)).map kN := by rw [List.map_map]; rfl
    rw [e] at h6
    have h7 := List.pairwise_map.mp h6
    exact h7.imp fun q z => q (congrArg kN z)
/-- d[k] = v -/
def rSetN (P : Program) (w : World) : TSet := fun o i v H Q => ∃ d ka va k v' kvs, o = .ref d ∧ i = .ref ka ∧ v = .ref va ∧ ND P w H d kvs ∧ PR H ka k ∧ PR H va v' ∧ kvs.length < sizeLine ∧
  ∀ o' kvs', ND P w (upd H d o') d kvs' → (∀ p ∈ kvs', p ∈ kvs ∨ p = (k, v')) → kvs'.length ≤ kvs.length + 1 → Q (upd H d o')
theorem set_dn (hu : X.A.units + 64 < cLine) : PSet X (rSetN X.prog X.w) := by
  intro pins s σ H o i v ov iv u Q I ro ri rv q
  obtain ⟨d, ka, va, k, v', kvs, rfl, rfl, rfl, ⟨xs, ep, n, rfl⟩, pk, pv, hz, q⟩ := q
  cases ro; cases ri; cases rv
  have hz' : xs.length < sizeLine := by unfold pairsE at hz; rw [List.length_map] at hz; exact hz
  refine wpAny_setItem_heap (knd := nestedKind X.prog X.w) (hsz := by rw [List.length_map]; exact Nat.le_of_lt hz') (by show X.A.in1.units + 8 < cLine; simp only [Around.in1_units]; omega) (pk.is I.hok) (n.ofH I.hok) fun h' dd sb => ?_
  obtain ⟨ep', I', n'⟩ := d_store I n pk pv hz' dd sb
  refine ⟨_, I', q _ _ ⟨_, ep', n', rfl⟩ (fun p hp => ?_) ?_⟩
  · obtain ⟨e, he, rfl⟩ := List.mem_map.mp hp
    rcases mem_putE he with z | ⟨z1, z2⟩
    · exact .inl (List.mem_map.mpr ⟨e, z, rfl⟩)
    · exact .inr (by rw [z1, z2])
  · unfold pairsE; rw [List.length_map, List.length_map]; exact putE_len
/-- d.get(k, x), x a pair of rows -/
def rGetN (P : Program) (w : World) : V → List V → Hp → VK → Prop := fun x vs H Q => ∃ d ka da k dv kvs, x = .ref d ∧ vs = [.ref ka, .ref da] ∧ ND P w H d kvs ∧ PR H ka k ∧ PR H da dv ∧
  ∀ a, PR H a ((valN kvs k).getD dv) → Q (.ref a) H
theorem mt_getN (hu : X.A.units + 64 < cLine) : MtR X "dict.get" (rGetN X.prog X.w) := by
  intro pins s σ H x vs v us Q I rx rs q
  obtain ⟨d, ka, da, k, dv, kvs, rfl, rfl, ⟨xs, ep, n, rfl⟩, pk, pd, q⟩ := q
  cases rx
  cases rs with
  | cons r1 rs =>
    cases rs with
    | cons r2 rs =>
      cases rs
      cases r1; cases r2
      have hd := n.ofH I.hok
      refine call_meetsIn PySem.F.slot_dict_get hd.typeIs PySem.F.entry_dict_get (PySem.F.args_dict_get_3 _ _ _) (meetsH_dict_get_default (nestedKind X.prog X.w) d ka n.nosys (.ref da))
        ⟨by show X.A.in1.units + 8 < cLine; simp only [Around.in1_units]; omega, kN k, _, pk.is I.hok, hd, ?_⟩
      rw [at_raw]
      rw [val_find] at q
      cases e : xs.find? fun e => decide (e.k = k) with
      | none =>
        rw [e] at q
        exact ⟨.ref da, H, I.tok _, rfl, q da pd⟩
      | some en =>
        rw [e] at q
        have m := List.mem_of_find?_eq_some e
        exact ⟨.ref en.va, H, I.tok _, rfl, q en.va (n.ents en m).2⟩
theorem pe_getN {o e f : Expr} {to te tf : TE} {apos cpos : Pos} (hu : X.A.units + 64 < cLine) (ho : PE X o to) (he : PE X e te) (hf : PE X f tf) (m : M2 X o "get" apos e f cpos) :
    PE X (.Call (.Attribute o "get" apos) [e, f] [] cpos) (fun σ H Q => to σ H fun x H1 => (∃ d kvs, x = .ref d ∧ ND X.prog X.w H1 d kvs) ∧ te σ H1 fun y H2 => tf σ H2 fun z H3 => rGetN X.prog X.w x [y, z] H3 Q) := by
  refine ⟨fun pins s σ H Q I h => ?_⟩
  refine wpAny_Call_method m.base m.few m.line PySem.F.plainAttrs_dict PySem.F.slot_dict_get PySem.F.type_dict_get (thn (ho.run pins s σ H _ I h) fun u s1 ⟨x, H1, I1, rx, ⟨d, kvs, ex, xs, ep, n, _⟩, q1⟩ => ?_)
  subst ex
  have rx' := rx
  obtain rfl : u = Value.ref d := rx
  obtain ⟨t1, t2⟩ := n.type I1
  refine ⟨t1, t2, ?_⟩
  rw [m.trees]
  refine Calls.callWith_builtin rfl (Calls.evalArgs_plain (Calls.spliced_cons (thn (he.run pins s1 σ H1 _ I1 q1) fun iv s2 ⟨y, H2, I2, ry, q2⟩ =>
    Calls.spliced_cons (thn (hf.run pins s2 σ H2 _ I2 q2) fun fv s3 ⟨z, H3, I3, rz, q3⟩ => Calls.spliced_nil ?_))))
  exact mt_getN hu pins s3 σ H3 _ _ _ _ Q I3 rx' (.cons ry (.cons rz .nil)) q3
/-- d[k], there -/
def rIxN (P : Program) (w : World) : R2 := fun x y H Q => ∃ d ka k v kvs, x = .ref d ∧ y = .ref ka ∧ ND P w H d kvs ∧ PR H ka k ∧ valN kvs k = some v ∧ ∀ a, PR H a v → Q (.ref a) H
theorem pe_ixN {o i : Expr} {to ti : TE} {pos : Pos} (hu : X.A.units + 64 < cLine) (ho : PE X o to) (hi : PE X i ti) (hs : NoSl i) : PE X (.Subscript o i pos) (tOp (rIxN X.prog X.w) to ti) := by
  refine ⟨fun pins s σ H Q I h => ?_⟩
  refine subD_of PySem.F.slot_dict_getitem.lookup hs (thn (ho.run pins s σ H _ I h) fun u s1 ⟨x, H1, I1, rx, q1⟩ => thn (hi.run pins s1 σ H1 _ I1 q1) fun iv s2 ⟨y, H2, I2, ry, d, ka, k, v, kvs, ex, ey, nd, pk, hv, q⟩ => ?_)
  subst ex ey
  obtain ⟨xs, ep, n, rfl⟩ := nd
  obtain rfl : u = Value.ref d := rx
  obtain rfl : iv = Value.ref ka := ry
  have hd := n.ofH I2.hok
  rw [val_find] at hv
  cases e : xs.find? fun e => decide (e.k = k) with
  | none => rw [e] at hv; cases hv
  | some en =>
    rw [e] at hv
    have m := List.mem_of_find?_eq_some e
    have ev : en.v = v := Option.some.inj hv
    refine ⟨hd.typeIs, wpAny_getItem_heap (knd := nestedKind X.prog X.w) (p := (en.ka, .ref en.va)) (by show X.A.in1.units + 8 < cLine; simp only [Around.in1_units]; omega) (pk.is I2.hok) hd (by rw [at_raw, e]; rfl) ?_⟩
    exact ⟨.ref en.va, H2, I2.tok _, rfl, q en.va (ev ▸ (n.ents en m).2)⟩
/-- len(d) -/
theorem call_lenN : CallR X (.builtin "len") (fun vs H Q => ∃ d kvs, vs = [.ref d] ∧ ND X.prog X.w H d kvs ∧ Q (.int kvs.length) H) := by
  intro pins s σ H vs us Q I rs q
  obtain ⟨d, kvs, rfl, ⟨xs, ep, n, rfl⟩, q⟩ := q
  cases rs with
  | cons r rs =>
    cases rs
    cases r
    have raw := n.raw I.hok
    have hsz : (ens X.prog X.w xs).toArray.size = xs.length := by simp [ens]
    have hz := n.fits
    rw [sizeLine_eq] at hz
    refine PyProof.Rows.call_len_slot (n := xs.length) raw.typeIs PySem.F.slot_dict_len (fun Q' hq => call_len_raw n.nosys raw (by rw [hsz]; exact hq)) (by omega) (by omega) ?_
    have e : (pairsE xs).length = xs.length := by unfold pairsE; rw [List.length_map]
    rw [e] at q
    exact ⟨.int xs.length, H, I.tok _, ⟨_, rfl⟩, q⟩
/-- isinstance(d, dict) -/
theorem call_isD : CallR X (.builtin "isinstance") (fun vs H Q => ∃ d kvs, vs = [.ref d, .ty "dict"] ∧ ND X.prog X.w H d kvs ∧ Q (.bl true) H) := by
  intro pins s σ H vs us Q I rs q
  obtain ⟨d, kvs, rfl, ⟨xs, ep, n, rfl⟩, q⟩ := q
  obtain ⟨u1, u2, rfl, r1, r2⟩ := vals2 rs
  cases (show u1 = Value.ref d from r1)
  cases (show u2 = Value.type "dict" from r2)
  obtain ⟨o, h1, h2, h3⟩ := n.raw I.hok
  exact PySem.W.kia_one PySem.W.kitx_dict I.kIn ⟨o, h1, h2.1⟩ (kit_ty (by decide +kernel)) (fun z => nomatch z) fun tk => ⟨.bl true, H, I.tok tk, rfl, q⟩
end
end K66
/-! such a dict walked, and made by a comprehension -/
namespace K66
open PySem L2

/-- its keys -/
def ItK (P : Program) (w : World) (d : Addr) (xs : List En) (ep : Nat) : It :=
  ⟨fun i H => NAt P w H d xs ep ∧ i < xs.length, fun i H x H' => H' = H ∧ ∃ e, xs[i]? = some e ∧ x = .ref e.ka, fun i H => NAt P w H d xs ep ∧ xs.length ≤ i⟩
/-- its pairs, each in a new tuple -/
def ItP (P : Program) (w : World) (d : Addr) (xs : List En) (ep : Nat) : It :=
  ⟨fun i H => NAt P w H d xs ep ∧ i < xs.length, fun i H x H' => ∃ T e, xs[i]? = some e ∧ x = .ref T ∧ H T = none ∧ H' = upd H T (.tup [.ref e.ka, .ref e.va]), fun i H => NAt P w H d xs ep ∧ xs.length ≤ i⟩
section
variable {P : Program} {w : World} {K : PySem.W.Frag} {tg : Expr} {d : Addr} {xs : List En} {ep : Nat}
theorem ens_size : (ens P w xs).toArray.size = xs.length := by simp [ens]
theorem ens_at {i : Nat} {e : En} (h : xs[i]? = some e) (hi : i < (ens P w xs).toArray.size) : (ens P w xs).toArray[i].key = .ref e.ka ∧ (ens P w xs).toArray[i].val = .ref e.va := by
  have q : (ens P w xs).toArray[i] = entryOfKey (nestedKind P w) (rawE e) := by
    have q2 : (ens P w xs)[i]? = some (entryOfKey (nestedKind P w) (rawE e)) := by unfold ens; rw [List.getElem?_map, h]; rfl
    rw [List.getElem_toArray]
    exact (List.getElem?_eq_some_iff.mp q2).2
  rw [q]
  exact ⟨rfl, rfl⟩
theorem turn_K (it : Addr) : Turn P w K tg (ItK P w d xs ep) [it] it (fun i h => h.IsKeyIter it d i xs.length ep) where
  mem := List.mem_singleton.mpr rfl
  obj := fun i h st b hb => by
    obtain ⟨o, e, _, dd⟩ := st
    cases List.mem_singleton.mp hb
    exact ⟨o, e, fun v z => by rw [dd] at z; cases z⟩
  keep := fun i h h' st k => st.at fun o e => k it (List.mem_singleton.mpr rfl) o e
  item := by
    intro X hP hw hK hc i pins s σ H E I hf st hg
    subst hP hw hK
    obtain ⟨n, hi⟩ := hg
    have f := hf it (List.mem_singleton.mpr rfl)
    have sz : (ens X.prog X.w xs).toArray.size = xs.length := ens_size
    have st0 : s.heap.IsKeyIter it d i (ens X.prog X.w xs).toArray.size ep := by rw [sz]; exact st
    refine wpAny_pyNext_keys_item_raw st0 (n.raw I.hok) (by rw [sz]; exact hi) fun h' st' sb => ?_
    have ix := List.getElem?_eq_getElem hi
    rw [(ens_at (P := X.prog) (w := X.w) ix (by rw [sz]; exact hi)).1]
    rw [sz] at st'
    obtain ⟨o, e, c, dd⟩ := id st'
    refine ⟨_, rfl, go_of (s := { s with heap := h' }) e c dd (by decide) ⟨.ref xs[i].ka, H, ?_, rfl, ⟨rfl, xs[i], ix, rfl⟩, st', fun b hb => (hf b hb).1⟩⟩
    exact I.turned (t' := s.toks) (fun b ob hb e => (sb.2 b hb).trans e) f.1 f.2.1 f.2.2.2.1 f.2.2.2.2.1 f.2.2.2.2.2
  done := by
    intro X hP hw hK hc i pins s σ H E I hf st hg
    subst hP hw hK
    obtain ⟨n, hi⟩ := hg
    have f := hf it (List.mem_singleton.mpr rfl)
    have sz : (ens X.prog X.w xs).toArray.size = xs.length := ens_size
    have st0 : s.heap.IsKeyIter it d i (ens X.prog X.w xs).toArray.size ep := by rw [sz]; exact st
    refine wpAny_pyNext_keys_end_raw (I.ok.hd hc) st0 (n.raw I.hok) (by rw [sz]; exact hi) fun h' eb => ⟨rfl, ?_⟩
    exact I.turned (t' := s.toks) (fun b ob hb e => eb b ob hb e) f.1 f.2.1 f.2.2.2.1 f.2.2.2.2.1 f.2.2.2.2.2
  self := fun A i s Q E st h => wpAny_pyIter_keyiter st h
theorem turn_P {elts : List Expr} {kk : Nat} {tpos : Pos} (it : Addr) : Turn P w K (.Tuple elts kk tpos) (ItP P w d xs ep) [it] it (fun i h => ∃ ok ov, IsItemIter h it d i xs.length ep ok ov) where
  mem := List.mem_singleton.mpr rfl
  obj := fun i h st b hb => by
    obtain ⟨ok, ov, e⟩ := st
    cases List.mem_singleton.mp hb
    exact ⟨_, e, fun v z => nomatch z⟩
  keep := fun i h h' st k => by
    obtain ⟨ok, ov, e⟩ := st
    exact ⟨ok, ov, k it (List.mem_singleton.mpr rfl) _ e⟩
  item := by
    intro X hP hw hK hc i pins s σ H E I hf st hg
    subst hP hw hK
    obtain ⟨n, hi⟩ := hg
    obtain ⟨ok, ov, st⟩ := st
    have lt : it < s.heap.objs.size := Heap.lt_size st
    have sz : (ens X.prog X.w xs).toArray.size = xs.length := ens_size
    have st0 : IsItemIter s.heap it d i (ens X.prog X.w xs).toArray.size ep ok ov := by rw [sz]; exact st
    have ix := List.getElem?_eq_getElem hi
    obtain ⟨e1, e2⟩ := ens_at (P := X.prog) (w := X.w) ix (by rw [sz]; exact hi)
    refine wpAny_pyNext_items_item_raw st0 (n.raw I.hok) (by rw [sz]; exact hi) fun h' ho hT hz hk => ?_
    rw [e1, e2] at ho hT
    refine ⟨_, rfl, wpAny_letOwnedTupleGo_items (s := { s with heap := h' }) ho fun h2 he2 sb => ?_⟩
    have hT2 := (sb.2 _ (Nat.ne_of_gt lt)).trans hT
    have new : ObjOk X.prog X.w (upd H s.heap.objs.size (.tup [.ref xs[i].ka, .ref xs[i].va])) h2 s.heap.objs.size (.tup [.ref xs[i].ka, .ref xs[i].va]) :=
      ⟨(by show 2 ≤ sizeLine; decide), [.ref xs[i].ka, .ref xs[i].va], .cons rfl (.cons rfl .nil), ⟨_, hT2, rfl, _, rfl⟩⟩
    refine ⟨.ref s.heap.objs.size, _, I.turnedNew (t' := s.toks) (ch := [it]) (fun b ob hb e => ?_) hf (Nat.le_refl _) new, rfl, ⟨_, xs[i], ix, rfl, I.hok.fresh (Nat.le_refl _), rfl⟩, ⟨.ref xs[i].ka, .ref xs[i].va, ?_⟩, fun b hb => ?_⟩
    · have nb : b ≠ it := fun z => hb (List.mem_singleton.mpr z)
      exact (sb.2 b nb).trans (hk b ob nb e)
    · rw [sz] at he2; exact he2
    · cases List.mem_singleton.mp hb
      rw [upd_ne (Nat.ne_of_lt lt)]
      exact (hf it (List.mem_singleton.mpr rfl)).1
  done := by
    intro X hP hw hK hc i pins s σ H E I hf st hg
    subst hP hw hK
    obtain ⟨n, hi⟩ := hg
    obtain ⟨ok, ov, st⟩ := st
    have f := hf it (List.mem_singleton.mpr rfl)
    have sz : (ens X.prog X.w xs).toArray.size = xs.length := ens_size
    have st0 : IsItemIter s.heap it d i (ens X.prog X.w xs).toArray.size ep ok ov := by rw [sz]; exact st
    refine wpAny_pyNext_items_end_raw (I.ok.hd hc) st0 (n.raw I.hok) (by rw [sz]; exact hi) fun h' eb => ⟨rfl, ?_⟩
    exact I.turned (t' := s.toks) (fun b ob hb e => eb b ob hb e) f.1 f.2.1 f.2.2.2.1 f.2.2.2.2.1 f.2.2.2.2.2
  self := fun A i s Q E st h => by
    obtain ⟨_, _, e⟩ := st
    exact PySem.W.kcp_self e h
end
/-- for k in d -/
def iKeyN (P : Program) (w : World) (td : TE) : L2.TI := fun σ H R => td σ H fun x H1 => ∃ d xs ep, x = .ref d ∧ NAt P w H1 d xs ep ∧ R (ItK P w d xs ep) H1
/-- for k, v in d.items() -/
def iPairN (P : Program) (w : World) (td : TE) : L2.TI := fun σ H R => td σ H fun x H1 => ∃ d xs ep, x = .ref d ∧ NAt P w H1 d xs ep ∧ R (ItP P w d xs ep) H1
section
variable {X : Cx} {tg e : Expr} {td : TE} {apos cpos : Pos}
theorem pi_keyN (he : PE X e td) : PI X tg e (iKeyN X.prog X.w td) := by
  refine ⟨fun pins s σ H R I h => ?_⟩
  refine thn (he.run pins s σ H _ I h) fun u s1 ⟨x, H1, I1, rx, d, xs, ep, ex, n, q⟩ => ?_
  subst ex
  obtain rfl : u = Value.ref d := rx
  refine wpAny_pyIter_dict_raw n.nosys (n.raw I1.hok) (pi_one (tk := s1.toks) I1 _ (turn_K _) ⟨_, Heap.get?_push_size _ rfl, rfl, ?_⟩ q)
  rw [ens_size] <;> rfl
theorem pi_pairN {elts : List Expr} {kk : Nat} {tpos : Pos} (he : PE X e td) (hbase : attributeBase e "items" X.env (eval e X.env) = eval e X.env := by rfl) (hline : (apos.endLine == cpos.line) = true := by rfl) :
    PI X (.Tuple elts kk tpos) (.Call (.Attribute e "items" apos) [] [] cpos) (iPairN X.prog X.w td) := by
  refine ⟨fun pins s σ H R I h => ?_⟩
  refine wpAny_Call_method (T := "dict") (id := "dict.items") hbase rfl hline PySem.F.plainAttrs_dict PySem.F.slot_dict_items PySem.F.type_dict_items (thn (he.run pins s σ H _ I h) fun u s1 ⟨x, H1, I1, rx, d, xs, ep, ex, n, q⟩ => ?_)
  subst ex
  obtain rfl : u = Value.ref d := rx
  obtain ⟨t1, t2⟩ := n.type I1
  refine ⟨t1, t2, ?_⟩
  have I2 : Inv X pins σ H1 { s1 with heap := s1.heap.push { cls := .type "dict_items", data := .fields #[.ref d] } } := I1.kept (t' := s1.toks) fun b ob q => Heap.get?_push_of_some _ q
  have fin : wpAny (model X.prog X.w) X.A (pyIter (.ref s1.heap.objs.size)) (PIE X pins σ (.Tuple elts kk tpos) R) X.xe { s1 with heap := s1.heap.push { cls := .type "dict_items", data := .fields #[.ref d] } } := by
    refine wpAny_pyIter_items_raw (d := d) ⟨_, Heap.get?_push_size _ rfl, rfl, rfl⟩ (n.raw I2.hok) (pi_one (tk := s1.toks) I2 _ (turn_P _) ⟨.none, .none, ?_⟩ q)
    rw [ens_size]
    exact Heap.get?_push_size _ rfl
  show wpAny _ _ (callWith cpos (.builtin "dict.items") [.ref d] [] []) _ X.xe s1
  exact method_meetsIn PySem.F.slot_dict_items PySem.F.entry_dict_items rfl (PySem.evalArgs_none ⟨rfl, t1, PySem.F.args_dict_items_1 _, _, meets_dict_items_raw d n.nosys, ⟨_, ep, n.raw I1.hok⟩, fin⟩)
end
end K66
/-! {k: v for a, b in .. if ..}, keys and values pairs of rows -/
namespace K66
open PySem L2
section
variable {X : Cx}
/-- a store by the comprehension -/
theorem put_dn {pins : List (Addr × Obj)} {σ : L2.St} {H : Hp} {s : Shared} {E : Value → Shared → Prop} {d ka va : Addr} {k v : NK} {kvs : List (NK × NK)} {Q : Unit → Shared → Prop} (hu : X.A.units + 64 < cLine) (I : Inv X pins σ H s)
    (nd : ND X.prog X.w H d kvs) (pk : PR H ka k) (pv : PR H va v) (hz : kvs.length < sizeLine) (hn : valN kvs k = none)
    (h : ∀ o' s', Inv X pins σ (upd H d o') s' → ND X.prog X.w (upd H d o') d (kvs ++ [(k, v)]) → Q () s') : wpAny (model X.prog X.w) X.A (dictSet d (.ref ka) (.ref va)) Q E s := by
  obtain ⟨xs, ep, n, rfl⟩ := nd
  have hz' : xs.length < sizeLine := by unfold pairsE at hz; rw [List.length_map] at hz; exact hz
  refine wpAny_dictSet_heap (knd := nestedKind X.prog X.w) (hsz := by rw [List.length_map]; exact Nat.le_of_lt hz') (by show X.A.units + 8 < cLine; omega) (pk.is I.hok) (n.ofH I.hok) fun h' dd sb => ?_
  obtain ⟨ep', I', n'⟩ := d_store I n pk pv hz' dd sb
  refine h _ _ I' ⟨_, ep', n', ?_⟩
  rw [val_find, Option.map_eq_none_iff] at hn
  have e : (xs.any fun e => decide (e.k = k)) = false := by rw [← find_any, hn]; rfl
  unfold putE
  rw [e]
  simp [pairsE]
/-- D: the new dict; Nx: what stands behind a turn -/
def tDcN (P : Program) (w : World) (wi : L2.TI) (g : TG) (tt : TT) (tk tv : TE) (vs : List Nat) : TE := fun σ H Q => wi σ H fun J H1 => ∀ D o, H1 D = none → ND P w (upd H1 D o) D [] → ∃ W : Nat → Nat → Hp → Prop, (∃ m, W 0 m (upd H1 D o)) ∧ ∀ i m H, W i m H →
  (J.stop i H ∧ Q (.ref D) H) ∨ (J.go i H ∧ ∃ Nx : Hp → Prop, (∀ H', Nx H' → ∃ m', m' < m ∧ W (i + 1) m' H') ∧ ∀ x H', J.yld i H x H' → g x (wipe σ vs) H' fun σ2 H2 => wipe σ2 vs = wipe σ vs ∧ tt σ2 H2 fun b H3 =>
    if b = true then tk σ2 H3 fun y H4 => tv σ2 H4 fun z H5 => ∃ kvs ka k va v, y = .ref ka ∧ z = .ref va ∧ ND P w H5 D kvs ∧ PR H5 ka k ∧ PR H5 va v ∧ kvs.length < sizeLine ∧ valN kvs k = none ∧
      ∀ o', ND P w (upd H5 D o') D (kvs ++ [(k, v)]) → Nx (upd H5 D o') else Nx H3)
theorem pe_dcN {kx vx tg iter : Expr} {ifs : List Expr} {scope : Scope} {own : List (Str × Nat)} {pos : Pos} {wi : L2.TI} {g : TG} {tt : TT} {tk tv : TE} (hu : X.A.units + 64 < cLine) (hc : X.calm = true) (hN : X.N.Nodup) (hi : PI X tg iter wi) (ok : BlkOk X.N X.env.scope scope own)
    (hg : ∀ (s : Shared) (H : Hp) (C : Addr) (cl : List (Str × Addr)) (fp : List Addr), PG (X.blk s H scope (compEnvC scope cl C X.env) fp) tg g) (ht : ∀ (s : Shared) (H : Hp) (C : Addr) (cl : List (Str × Addr)) (fp : List Addr), PTs (X.blk s H scope (compEnvC scope cl C X.env) fp) ifs tt)
    (hk : ∀ (s : Shared) (H : Hp) (C : Addr) (cl : List (Str × Addr)) (fp : List Addr), PE (X.blk s H scope (compEnvC scope cl C X.env) fp) kx tk)
    (hv : ∀ (s : Shared) (H : Hp) (C : Addr) (cl : List (Str × Addr)) (fp : List Addr), PE (X.blk s H scope (compEnvC scope cl C X.env) fp) vx tv) (hs : ∀ x, foldedSetIterable iter X.env x = pure x := by intro _; rfl) :
    PE X (.DictComp kx vx [⟨tg, iter, ifs, 0⟩] scope pos) (tDcN X.prog X.w wi g tt tk tv (own.map (·.2))) := by
  refine ⟨fun pins s σ H Q I h => ?_⟩
  rw [arm_eval_DictComp]
  have fr : ∀ y ∈ scope.names, y.2 = .free → ∃ c, X.env.cells.lookup y.1 = some c := fun y hy e => (ok.free y hy e).elim (fun k => I.ok.has _ (.inl k)) (fun k => I.ok.has _ (.inr k))
  refine wpAny_comprehension_free (use := none) rfl hs (closure_ok fr) ok.kind (fun y hy e => by rw [ok.uniq y hy, e]) (thn (hi.run pins s σ H _ I h) fun xv s1 hx => thn hx fun itv s2 ⟨it, fp, tn, J, H2, e, I2, T, st2, f2, q⟩ => ?_)
  subst e
  refine wpAny_newObj_type (newEnv_comp ?_)
  -- the new dict, at D
  have hb : (s2.heap.objs.size == sysModules) = false := beq_eq_false_iff_ne.mpr (Ne.symm (Nat.ne_of_lt I2.big))
  generalize hD : s2.heap.objs.size = D at hb
  have nD : H2 D = none := I2.hok.fresh (Nat.le_of_eq hD)
  have nd0 : ND X.prog X.w (upd H2 D (dHO X.prog X.w D [] 0)) D [] := ⟨[], 0, ⟨upd_same, hb, fun _ z => (nomatch z), .nil, Nat.zero_le _⟩, rfl⟩
  obtain ⟨W, ⟨m0, w0⟩, turn⟩ := q D (dHO X.prog X.w D [] 0) nD nd0
  generalize eo : dHO X.prog X.w D [] 0 = oD at nd0 w0
  generalize es3 : ({ s2 with heap := s2.heap.push { cls := .type "dict", data := .dict #[] } } : Shared) = s3
  have hp3 : s3.heap = s2.heap.push { cls := .type "dict", data := .dict #[] } := by rw [← es3]
  have I3 : Inv X pins σ (upd H2 D oD) s3 := by
    rw [← es3]
    refine I2.laid (t' := s2.toks) (fun b o e => Heap.get?_push_of_some _ e) (Nat.le_of_eq hD) ?_
    subst hD eo
    exact ⟨⟨_, Heap.get?_push_size _ rfl, ⟨rfl, rfl, rfl⟩, rfl⟩, ⟨_, Heap.get?_push_size _ rfl⟩, fun a b q e => q.at e⟩
  have old : ∀ b ∈ fp, b < s2.heap.objs.size := fun b hb => let ⟨o, e, _⟩ := T.obj _ _ st2 b hb; Heap.lt_size e
  have f3 : ∀ b ∈ fp, FpOk X pins (upd H2 D oD) b ∧ b < s3.heap.objs.size := fun b hb => by
    have lt := old b hb
    refine ⟨⟨?_, (f2 b hb).2⟩, by rw [hp3, Heap.size_push]; exact Nat.lt_succ_of_lt lt⟩
    rw [upd_ne (by rw [← hD]; exact Nat.ne_of_lt lt)]
    exact (f2 b hb).1
  have st3 : tn 0 s3.heap := T.keep _ _ _ st2 fun b _ o e => by rw [hp3]; exact Heap.get?_push_of_some _ e
  -- the block begins
  have I4 := block_start I3 ok hN f3
  have gg := fun C cl => hg s3 (upd H2 D oD) C cl fp
  have gt := fun C cl => ht s3 (upd H2 D oD) C cl fp
  have gk := fun C cl => hk s3 (upd H2 D oD) C cl fp
  have gv := fun C cl => hv s3 (upd H2 D oD) C cl fp
  replace gg := gg s3.heap.objs.size (cellsFrom (s3.heap.objs.size + 1) scope.names (cloFrom X.env.cells scope.names []))
  replace gt := gt s3.heap.objs.size (cellsFrom (s3.heap.objs.size + 1) scope.names (cloFrom X.env.cells scope.names []))
  replace gk := gk s3.heap.objs.size (cellsFrom (s3.heap.objs.size + 1) scope.names (cloFrom X.env.cells scope.names []))
  replace gv := gv s3.heap.objs.size (cellsFrom (s3.heap.objs.size + 1) scope.names (cloFrom X.env.cells scope.names []))
  have free3 : ∀ b ∈ fp, (upd H2 D oD) b = none := fun b hb => (f3 b hb).1.1
  show codeAny _ _ (.compStart (.DictComp kx vx [⟨tg, iter, ifs, 0⟩] scope pos) 0 (.ref it) (.ref D) (compEnvC scope (cellsFrom (s3.heap.objs.size + 1) scope.names (cloFrom X.env.cells scope.names [])) s3.heap.objs.size X.env)) (compPost (model X.prog X.w) X.A X.xe none (EP X pins σ Q) (.ref D) s3.heap.objs.size) { s3 with heap := pushCells (s3.heap.push { cls := .type "dict", data := .dict #[] }) scope.names }
  generalize ece : compEnvC scope (cellsFrom (s3.heap.objs.size + 1) scope.names (cloFrom X.env.cells scope.names [])) s3.heap.objs.size X.env = ce at I4 gg gt gk gv ⊢
  have cL : ce.locals = s3.heap.objs.size := by rw [← ece]; rfl
  generalize upd H2 D oD = H3 at I3 I4 gg gt gk gv w0 free3 f3
  generalize es4 : ({ s3 with heap := pushCells (s3.heap.push { cls := .type "dict", data := .dict #[] }) scope.names } : Shared) = s4 at I4 ⊢
  have st4 : tn 0 s4.heap := T.keep _ _ _ st3 fun b _ o e => by rw [← es4]; exact pushCells_keeps _ _ _ _ (Heap.get?_push_of_some _ e)
  have mine : ∀ {σ' : L2.St} {H' : Hp} {s' : Shared}, Inv (X.blk s3 H3 scope ce fp) [] σ' H' s' → (∀ b ∈ fp, H' b = none) → ∀ b ∈ fp, FpOk (X.blk s3 H3 scope ce fp) [] H' b := fun I' hn b hb =>
    ⟨hn b hb, (I'.ok.exf b hb).1, I'.ok.exfs b hb, .inl hb, fun x c e => (I'.ok.exf b hb).2 x c e, fun p hp => by cases hp⟩
  refine codeAny_compStart_dict ?_ (T.self X.A 0 _ _ _ st4 ?_)
  all_goals
    refine compLoop_anyD (fun n s' => ∃ i H', Inv (X.blk s3 H3 scope ce fp) [] (wipe σ (own.map (·.2))) H' s' ∧ tn i s'.heap ∧ (∀ b ∈ fp, H' b = none) ∧ W i n H') ?_ m0 ⟨0, H3, I4, st4, free3, w0⟩
    rintro n s5 ⟨i, H5, I5, st5, n5, w5⟩
    rcases turn i n H5 w5 with ⟨stop, fin⟩ | ⟨go, Nx, hNx, step⟩
    · refine thnF (T.done (X.blk s3 H3 scope ce fp) rfl rfl rfl hc i [] s5 _ H5 (fun _ _ => False) I5 (mine I5 n5) st5 stop) fun r s6 ⟨hr, I6⟩ => ?_
      subst hr
      have I7 : Inv X pins σ H5 s6 := I3.call' (ch := fp) I6.os I6.base I6.hok I6.bare fun b hb => ⟨(f3 b hb).1.2.2.2.1, (f3 b hb).1.2.1, (f3 b hb).1.2.2.2.2.1, (f3 b hb).1.2.2.2.2.2⟩
      have nC : H5 s3.heap.objs.size = none := cL ▸ (show H5 ce.locals = none from I6.free)
      obtain ⟨m, hn, _⟩ := I6.loc
      have hn' : s6.heap.Ns s3.heap.objs.size m := cL ▸ (show s6.heap.Ns ce.locals m from hn)
      obtain ⟨z0, z1, z2, z3, z4, z5⟩ := I3.fpOk (Nat.le_refl _) nC
      exact ⟨m, hn', fun h'' sb => ⟨.ref D, H5, I7.turned (t' := s6.toks) (fun b o hb e => (sb.2 b hb).trans e) z0 z1 z3 z4 z5, rfl, fin⟩⟩
    · refine thnF (T.item (X.blk s3 H3 scope ce fp) rfl rfl rfl hc i [] s5 _ H5 (fun _ _ => False) I5 (mine I5 n5) st5 go) fun r s6 ⟨u, hr, h6⟩ => ?_
      subst hr
      refine thnF h6 fun _ s7 ⟨x, H7, I7, r7, y7, st7, n7⟩ => ?_
      have I7' := I7.pinned (mine I7 n7) (T.obj _ _ st7)
      refine thnF (gg.run _ s7 _ H7 x u _ I7' r7 (step x H7 y7)) fun _ s8 ⟨σ8, H8, I8, hw8, q8⟩ => ?_
      refine thnF (gt.run _ s8 σ8 H8 _ I8 q8) fun b s9 ⟨H9, I9, q9⟩ => ?_
      have again : ∀ {s' : Shared} {H' : Hp}, Inv (X.blk s3 H3 scope ce fp) ([] ++ pinsAt fp s7.heap) σ8 H' s' → Nx H' → ∃ m, m < n ∧ ∃ i H', Inv (X.blk s3 H3 scope ce fp) [] (wipe σ (own.map (·.2))) H' s' ∧ tn i s'.heap ∧ (∀ b ∈ fp, H' b = none) ∧ W i m H' := fun {s' H'} I' nx => by
        obtain ⟨m', hm, w'⟩ := hNx H' nx
        have keep : ∀ b ∈ fp, ∀ o, s7.heap.get? b = some o → s'.heap.get? b = some o ∧ H' b = none := fun b hb o e =>
          let z := I'.pin (b, o) (List.mem_append_right _ (List.mem_append_right _ (mem_pinsAt hb e))); ⟨z.1, z.2.1⟩
        refine ⟨m', hm, i + 1, H', (I'.unpinned (pins := [])).weak (by rw [← hw8, wipe_length]) (fun j v e => (wipe_some (by rw [hw8]; exact e)).1), T.keep _ _ _ st7 fun b hb o e => (keep b hb o e).1, fun b hb => ?_, w'⟩
        obtain ⟨o, e, _⟩ := T.obj _ _ st7 b hb
        exact (keep b hb o e).2
      cases b with
      | false =>
        simp only [Bool.false_eq_true, if_false] at q9 ⊢
        exact again I9 q9
      | true =>
        simp only [if_true] at q9 ⊢
        refine thnF (gk.run _ s9 σ8 H9 _ I9 q9) fun z s10 ⟨yk, H10, I10, r10, q10⟩ => ?_
        refine thnF (gv.run _ s10 σ8 H10 _ I10 q10) fun z2 s11 ⟨yv, H11, I11, r11, kvs, ka, k, va, v, ek, ev, nd, pk, pv, hz, hn, nx⟩ => ?_
        subst ek ev
        cases r10; cases r11
        exact put_dn (X := X.blk s3 H3 scope ce fp) hu I11 nd pk pv hz hn fun o' s12 I12 nd' => again I12 (nx o' nd')
end
end K66
namespace K66
open PySem L2

/-- the turns over such a dict's keys -/
theorem for_keyN {P : Program} {w : World} {d : Addr} {xs : List En} {ep : Nat} {g : TG} {tb : TS} {D : Ends} {σ : L2.St} {H : Hp} (Pv : Nat → L2.St → Hp → Prop) (h0 : Pv 0 σ H) (hl : ∀ i σ H, Pv i σ H → NAt P w H d xs ep)
    (hs : ∀ i e σ H, xs[i]? = some e → Pv i σ H → g (.ref e.ka) σ H fun σ2 H2 => tb { D with nx := Pv (i + 1), ct := Pv (i + 1), bk := D.nx } σ2 H2) (hd : ∀ σ H, Pv xs.length σ H → D.nx σ H) :
    ∃ W : Nat → Nat → L2.St → Hp → Prop, (∃ m, W 0 m σ H) ∧ ∀ i m σ H, W i m σ H →
      ((ItK P w d xs ep).stop i H ∧ D.nx σ H) ∨ ((ItK P w d xs ep).go i H ∧ ∃ N : L2.St → Hp → Prop, (∀ σ' H', N σ' H' → ∃ m', m' < m ∧ W (i + 1) m' σ' H') ∧ ∀ x H', (ItK P w d xs ep).yld i H x H' → g x σ H' fun σ2 H2 => tb { D with nx := N, ct := N, bk := D.nx } σ2 H2) := by
  refine ⟨fun i m σ H => m + i = xs.length ∧ Pv i σ H, ⟨xs.length, rfl, h0⟩, ?_⟩
  rintro i m σ H ⟨hm, p⟩
  have n := hl i σ H p
  by_cases hi : i < xs.length
  · refine .inr ⟨⟨n, hi⟩, Pv (i + 1), fun σ' H' p' => ⟨m - 1, by omega, by omega, p'⟩, fun x H' y => ?_⟩
    obtain ⟨rfl, e, he, rfl⟩ := y
    exact hs i e σ _ he p
  · have : i = xs.length := by omega
    subst this
    exact .inl ⟨⟨n, Nat.le_refl _⟩, hd σ H p⟩

/-- what a book's entry is to be -/
structure GoodE (S A B : Int) (k v : NK) : Prop where
  k1 : Val S k.1
  k2 : Val S k.2
  v1 : Val S v.1
  v2 : Val S v.2
  l1 : 1 ≤ k.1.length
  l2 : (k.1.length : Int) ≤ A
  r1 : 1 ≤ k.2.length
  r2 : (k.2.length : Int) ≤ B
  e1 : v.1.length = k.1.length
  e2 : v.2.length = k.2.length

section
variable {P : Program} {w : World} {K : PySem.W.Frag} {mg : Str → Option Value} {base : Heap}
/-! is_side_pair -/
def spIsSidePair : Sp := fun vs H Q _ => ∃ (a : Addr) (k : NK) (S A B : Int), vs = [.ref a, .int S, .int A, .int B] ∧ PR H a k ∧ Val S k.1 ∧ Val S k.2 ∧ 1 ≤ k.1.length ∧ (k.1.length : Int) ≤ A ∧ 1 ≤ k.2.length ∧ (k.2.length : Int) ≤ B ∧ A ≤ 100 ∧ B ≤ 100 ∧
  ∀ H', Same H H' → Q (.bl true) H'
theorem scIsSidePair : FnScope ["thing", "sounds", "ahead", "behind"] ["thing", "sounds", "ahead", "behind"] (C8.fnScope sIsSidePair) := ⟨rfl, rfl, rfl, by decide +kernel, rfl, by decide +kernel, by decide +kernel⟩
theorem okIsSidePair {f : Addr} {fd : FuncData} (F : C8.Def K mg "is_side_pair" sIsSidePair f fd) (b : Binds K fd ["thing", "sounds", "ahead", "behind"] []) (g : Gb mg) (G1 : C8.Cal P w K mg base 4 "is_sounds" spIsSounds []) : C8.Cal P w K mg base 5 "is_side_pair" spIsSidePair [] := by
  refine C8.cal0 F b .nil scIsSidePair (fun vs H Q E h => ?_) (fun cdv A outer s H vs Q E hr h => ?_)
  · obtain ⟨a, k, S, A, B, rfl, _⟩ := h; rfl
  · obtain ⟨a, k, S, A', B, rfl, hp, v1, v2, l1, l2, r1, r2, zA, zB, kk⟩ := h
    obtain ⟨l, r, h1, h2, h3⟩ := id hp
    refine ⟨_, pss_cons (ps_if (PW.pt (pw_or (pt_not (pt_val (pe_callB call_isi rfl g.isi bIsi (pa_cons (pv 0) (pa_cons (pe_bltn (v := .ty "tuple") rfl g.tuple bTuple rfl) pa_nil)))))
        (pw_or1 (pt_cmpR op_ne (pe_callB call_len_seq rfl g.len PySem.boot_len (pa_cons (pv 0) pa_nil)) pe_int (nomark _)))))
        (pss_one (ps_ret pe_bl)) pss_nil)
      (pss_one (ps_ret (pe_and (C8.pe_c G1 hr (by decide) rfl (pa_cons (pe_ix ix_tup (pv 0) pe_int (fun _ _ => rfl)) (pa_cons (pv 1) (pa_cons pe_int (pa_cons (pv 2) pa_nil)))))
        (pe_one (C8.pe_c G1 hr (by decide) rfl (pa_cons (pe_ix ix_tup (pv 0) pe_int (fun _ _ => rfl)) (pa_cons (pv 1) (pa_cons pe_int (pa_cons (pv 3) pa_nil))))))))), ?_⟩
    refine ⟨_, rfl, _, _, _, _, _, rfl, .ty _, .base (.tup h1), kTupTup, ?_⟩
    refine ⟨_, rfl, iteF ?_⟩
    refine ⟨_, rfl, a, _, rfl, .inr (SqT.of h1), rfl, false, rfl, iteF ?_⟩
    refine ⟨_, rfl, a, _, _, .ref l, rfl, rfl, SqT.of h1, rfl, _, rfl, _, rfl, l, k.1, S, _, _, rfl, h2, v1, by omega, by omega, by omega, fun H1 e1 => ?_⟩
    refine ⟨_, rfl, iteT ?_⟩
    refine ⟨_, rfl, a, _, _, .ref r, rfl, rfl, SqT.of (e1 _ _ h1), rfl, _, rfl, _, rfl, r, k.2, S, _, _, rfl, h3.mono e1, v2, by omega, by omega, by omega, fun H2 e2 => ?_⟩
    exact kk _ (e1.trans e2)
end
end K66
namespace K66
open PySem L2

/-! ### data -/
theorem eqvAll_ints : ∀ a b : Row, PyData.eqvAll (a.map PyData.int) (b.map PyData.int) = decide (a = b)
  | [], [] => by simp [PyData.eqvAll]
  | [], y :: b => by simp [PyData.eqvAll]
  | x :: a, [] => by simp [PyData.eqvAll]
  | x :: a, y :: b => by
    rw [List.map_cons, List.map_cons, PyData.eqvAll, eqvAll_ints a b]
    have e : PyData.eqv (.int x) (.int y) = decide (x = y) := by simp [PyData.eqv, Bool.beq_eq_decide_eq]
    rw [e, ← Bool.decide_and]
    exact decide_eq_decide.mpr (by constructor
                                   · rintro ⟨h1, h2⟩; rw [h1, h2]
                                   · intro h; injection h with h1 h2; exact ⟨h1, h2⟩)
theorem eqv_tup (a b : Row) : PyData.eqv (.tuple (a.map PyData.int)) (.tuple (b.map PyData.int)) = decide (a = b) := by rw [PyData.eqv]; exact eqvAll_ints a b
theorem eqv_lst (a b : Row) : PyData.eqv (.list (a.map PyData.int)) (.list (b.map PyData.int)) = decide (a = b) := by rw [PyData.eqv]; exact eqvAll_ints a b
theorem can_ints : ∀ a : Row, PyData.canLayAll0 (a.map PyData.int) = true
  | [] => by simp [PyData.canLayAll0]
  | x :: a => by rw [List.map_cons, PyData.canLayAll0, can_ints a]; simp [PyData.canLay0]
theorem dep_ints : ∀ a : Row, PyData.depthAll (a.map PyData.int) = 0
  | [] => by simp [PyData.depthAll]
  | x :: a => by rw [List.map_cons, PyData.depthAll, dep_ints a]; simp [PyData.depth]
theorem shaped_tup (a : Row) : SeqAt.shaped (.tuple (a.map PyData.int)) = true := by
  unfold SeqAt.shaped
  simp only [PyData.canLay0, PyData.depth, can_ints, dep_ints]
  rfl
theorem shaped_lst (a : Row) : SeqAt.shaped (.list (a.map PyData.int)) = true := by
  unfold SeqAt.shaped
  simp only [PyData.canLay0, PyData.depth, can_ints, dep_ints]
  rfl
theorem dp_ints {K : PySem.W.Frag} {H : Hp} : ∀ a : Row, DpAll K H (a.map V.int) (a.map PyData.int)
  | [] => .nil
  | x :: a => .cons (.int x) (dp_ints a)
theorem TR.dp {K : PySem.W.Frag} {H : Hp} {a : Addr} {r : Row} (t : TR H a r) : Dp K H (.ref a) (.tuple (r.map PyData.int)) := .tup t.seq (dp_ints r)
theorem dp_lst {K : PySem.W.Frag} {H : Hp} {a : Addr} {r : Row} (t : H a = some (.lst (r.map V.int))) : Dp K H (.ref a) (.list (r.map PyData.int)) := .lst (SqL.of t) (dp_ints r)
/-- a pair of rows as data -/
def dPR (k : NK) : PyData := .tuple [.tuple (k.1.map PyData.int), .tuple (k.2.map PyData.int)]
theorem PR.dp {K : PySem.W.Frag} {H : Hp} {a : Addr} {k : NK} (t : PR H a k) : Dp K H (.ref a) (dPR k) := by
  obtain ⟨l, r, h1, h2, h3⟩ := t
  exact .tup (SqT.of h1) (.cons h2.dp (.cons h3.dp .nil))
theorem eqv_PR (a b : NK) : PyData.eqv (dPR a) (dPR b) = decide (a = b) := by
  unfold dPR
  rw [PyData.eqv, PyData.eqvAll, PyData.eqvAll, eqv_tup, eqv_tup]
  have e : PyData.eqvAll [] [] = true := by simp [PyData.eqvAll]
  rw [e, Bool.and_true, ← Bool.decide_and]
  exact decide_eq_decide.mpr (by constructor
                                 · rintro ⟨h1, h2⟩; exact Prod.ext h1 h2
                                 · intro h; rw [h]; exact ⟨rfl, rfl⟩)
theorem shaped_PR (a : NK) : SeqAt.shaped (dPR a) = true := by
  unfold SeqAt.shaped dPR
  simp only [PyData.canLay0, PyData.canLayAll0, PyData.depth, PyData.depthAll, can_ints, dep_ints]
  rfl

theorem val_of_mem {k : NK} {v : NK} : ∀ {kvs : List (NK × NK)}, (kvs.map (·.1)).Nodup → (k, v) ∈ kvs → valN kvs k = some v
  | [], _, h => nomatch h
  | p :: r, hn, h => by
    rw [List.map_cons, List.nodup_cons] at hn
    unfold valN
    rw [List.find?_cons]
    rcases List.mem_cons.mp h with e | e
    · subst e; rw [decide_eq_true rfl]; rfl
    · have ne : ¬ p.1 = k := fun z => hn.1 (List.mem_map.mpr ⟨_, e, z.symm⟩)
      rw [decide_eq_false ne]
      exact val_of_mem hn.2 e

/-! rules whose reading names the written part: for the blocks of comprehensions -/
def rLenK (K : PySem.W.Frag) : List V → Hp → VK → Prop := fun xs H Q => ∃ p ys, xs = [.ref p] ∧ (SqL K H p ys ∨ SqT K H p ys) ∧ Q (.int ys.length) H
theorem len_K {X : Cx} (K : PySem.W.Frag) (h : X.K = K := by rfl) : CallR X (.builtin "len") (rLenK K) := h ▸ call_len_seq
theorem ixT_K {X : Cx} (K : PySem.W.Frag) (h : X.K = K := by rfl) : IxR X (rIxT K) := h ▸ ix_tup
theorem ixL_K {X : Cx} (K : PySem.W.Frag) (h : X.K = K := by rfl) : IxR X (rIxL K) := h ▸ ix_list

section
variable {P : Program} {w : World} {K : PySem.W.Frag} {mg : Str → Option Value} {base : Heap}
/-! is_table -/
def spIsTable (P : Program) (w : World) : Sp := fun vs H Q _ => ∃ (d : Addr) (kvs : List (NK × NK)) (S A B : Int), vs = [.ref d, .int S, .int A, .int B] ∧ ND P w H d kvs ∧ kvs.length ≤ 4000 ∧ (∀ p ∈ kvs, GoodE S A B p.1 p.2) ∧ A ≤ 100 ∧ B ≤ 100 ∧
  ∀ H', Same H H' → Q (.bl true) H'
theorem scIsTable : FnScope ["thing", "sounds", "ahead", "behind", "key", "side"] ["thing", "sounds", "ahead", "behind"] (C8.fnScope sIsTable) := ⟨rfl, rfl, rfl, by decide +kernel, rfl, by decide +kernel, by decide +kernel⟩
/-- the lengths of a pair's rows, by a comprehension -/
theorem lc_lens {K : PySem.W.Frag} {a : Addr} {H1 : Hp} {D : Addr} {k : NK} {vs : List Nat} {σ : L2.St} {Qd : Hp → Prop} {te : TE} {j : Nat} (hD : H1 D = none) (hp : PR H1 a k) (hw : ∀ x, wipe ((wipe σ vs).set j (some x)) vs = wipe σ vs)
    (ht : ∀ (p : Addr) (r : Row) (H : Hp) (Q : VK), TR H p r → Q (.int r.length) H → te ((wipe σ vs).set j (some (.ref p))) H Q)
    (hd : ∀ H', Same H1 H' → H' D = some (.lst (([(k.1.length : Int), (k.2.length : Int)] : Row).map V.int)) → Qd H') :
    ∃ l r, H1 a = some (.tup [.ref l, .ref r]) ∧ ∃ W : Nat → Nat → Hp → Prop, (∃ m, W 0 m (upd H1 D (.lst []))) ∧ ∀ i m H, W i m H →
      ((Itt K a).stop i H ∧ Qd H) ∨ ((Itt K a).go i H ∧ ∃ Nx : Hp → Prop, (∀ H', Nx H' → ∃ m', m' < m ∧ W (i + 1) m' H') ∧ ∀ x H', (Itt K a).yld i H x H' → gName j x (wipe σ vs) H' fun σ2 H2 => wipe σ2 vs = wipe σ vs ∧ tYes σ2 H2 fun b H3 =>
        if b = true then te σ2 H3 fun y H4 => ∃ acc, H4 D = some (.lst acc) ∧ acc.length < sizeLine ∧ Nx (upd H4 D (.lst (acc ++ [y]))) else Nx H3) := by
  obtain ⟨l, r, h1, h2, h3⟩ := hp
  refine ⟨l, r, h1, lc_tup (K := K) (a := a) (xs := [.ref l, .ref r]) (fun i H' => Same H1 H' ∧ H' D = some (.lst ((([(k.1.length : Int), (k.2.length : Int)] : Row).map V.int).take i))) ⟨same_new hD, upd_same⟩ (fun i H' _ p => SqT.of (p.1 _ _ h1)) (fun i x H' hx p => ?_) (fun H' p => hd H' p.1 p.2)⟩
  match i, hx with
  | 0, hx =>
    cases (Option.some.inj hx : V.ref l = x)
    exact ⟨hw _, lc_yes (ht l k.1 H' _ (h2.mono p.1) ⟨_, p.2, by show 0 < sizeLine; decide, same_mut p.1 hD, upd_same⟩)⟩
  | 1, hx =>
    cases (Option.some.inj hx : V.ref r = x)
    exact ⟨hw _, lc_yes (ht r k.2 H' _ (h3.mono p.1) ⟨_, p.2, by show 1 < sizeLine; decide, same_mut p.1 hD, upd_same⟩)⟩
  | n + 2, hx => cases hx
theorem okIsTable {f : Addr} {fd : FuncData} (F : C8.Def K mg "is_table" sIsTable f fd) (b : Binds K fd ["thing", "sounds", "ahead", "behind"] []) (g : Gb mg) (gM : ∃ t, mg "MOST_ENTRIES" = some (.int 4000 t)) (G1 : C8.Cal P w K mg base 5 "is_side_pair" spIsSidePair []) : C8.Cal P w K mg base 6 "is_table" (spIsTable P w) [] := by
  obtain ⟨tM, gM⟩ := gM
  refine C8.cal0 F b .nil scIsTable (fun vs H Q E h => ?_) (fun cdv A outer s H vs Q E hr h => ?_)
  · obtain ⟨a, k, S, A, B, rfl, _⟩ := h; rfl
  · obtain ⟨d, kvs, S, A', B, rfl, nd, hz, hg, zA, zB, kk⟩ := h
    have hu : (A.deeper (PyProof.Rows.envOfC "is_table" (C8.fnScope sIsTable) s.heap.objs.size f cdv)).units + 64 < cLine := hr.units
    refine ⟨_, pss_cons (ps_if (PW.pt (pw_or (pt_not (pt_val (pe_callB call_isD rfl g.isi bIsi (pa_cons (pv 0) (pa_cons (pe_bltn (v := .ty "dict") rfl g.dict bDict rfl) pa_nil)))))
        (pw_or1 (pt_cmpR op_gt (pe_callB call_lenN rfl g.len PySem.boot_len (pa_cons (pv 0) pa_nil)) (pe_glob (v := .int 4000) rfl gM ⟨_, rfl⟩) (nomark _)))))
        (pss_one (ps_ret pe_bl)) pss_nil)
      (pss_cons (ps_for PassesOwn.never rfl (pi_keyN (pv 0)) (pg_name (i := 4) scIsTable.nd rfl (Or.inl rfl))
        (pss_cons (ps_if (PW.pt (pw_or (pt_not (pt_val (C8.pe_c G1 hr (by decide) rfl (pa_cons (pv 4) (pa_cons (pv 1) (pa_cons (pv 2) (pa_cons (pv 3) pa_nil)))))))
            (pw_or1 (pt_not (pt_val (C8.pe_c G1 hr (by decide) rfl (pa_cons (pe_ixN hu (pv 0) (pv 4) (fun _ _ => rfl)) (pa_cons (pv 1) (pa_cons (pv 2) (pa_cons (pv 3) pa_nil)))))))))) (pss_one (ps_ret pe_bl)) pss_nil)
        (pss_one (ps_if (pt_cmpR (op_neD hu)
            (pe_lc (own := [("side", 5)]) (g := gName 5) (tt := tYes) rfl scIsTable.nd (pi_tup (pv 4)) (blkOk_by (N := ["thing", "sounds", "ahead", "behind", "key", "side"]) (sc := C8.fnScope sIsTable) (by decide +kernel))
              (fun _ _ _ _ _ => pg_name (i := 5) scIsTable.nd rfl (Or.inl rfl)) (fun _ _ _ _ _ => pts_nil) (fun _ _ _ _ _ => pe_callB (len_K K) rfl g.len PySem.boot_len (pa_cons (pv 5) pa_nil)))
            (pe_lc (own := [("side", 5)]) (g := gName 5) (tt := tYes) rfl scIsTable.nd (pi_tup (pe_ixN hu (pv 0) (pv 4) (fun _ _ => rfl))) (blkOk_by (N := ["thing", "sounds", "ahead", "behind", "key", "side"]) (sc := C8.fnScope sIsTable) (by decide +kernel))
              (fun _ _ _ _ _ => pg_name (i := 5) scIsTable.nd rfl (Or.inl rfl)) (fun _ _ _ _ _ => pts_nil) (fun _ _ _ _ _ => pe_callB (len_K K) rfl g.len PySem.boot_len (pa_cons (pv 5) pa_nil)))
            (nomark _)) (pss_one (ps_ret pe_bl)) pss_nil))))
      (pss_one (ps_ret pe_bl))), ?_⟩
    refine ⟨_, rfl, d, kvs, rfl, nd, ?_⟩
    refine ⟨_, rfl, iteF ?_⟩
    refine ⟨_, rfl, d, kvs, rfl, nd, _, _, rfl, rfl, _, rfl, ?_⟩
    rw [decide_eq_false (show ¬ (4000 : Int) < kvs.length by omega)]
    refine iteF ?_
    obtain ⟨xs, ep, n, rfl⟩ := nd
    refine ⟨_, rfl, d, xs, ep, rfl, n, ?_⟩
    refine for_keyN (fun i σ H' => Same H H' ∧ ∃ v, σ = [some (.ref d), some (.int S), some (.int A'), some (.int B), v, none]) ⟨Same.refl H, none, rfl⟩ (fun i σ H' p => n.same p.1) (fun i e σ H' he p => ?_) (fun σ H' p => kk H' p.1)
    obtain ⟨e1, v, rfl⟩ := p
    have n1 := n.same e1
    have hm := List.mem_of_getElem? he
    have ge := hg (e.k, e.v) (List.mem_map.mpr ⟨e, hm, rfl⟩)
    have pk := (n1.ents e hm).1
    have hv : valN (pairsE xs) e.k = some e.v := val_of_mem (by unfold pairsE; rw [List.map_map]; exact n.nodup) (List.mem_map.mpr ⟨e, hm, rfl⟩)
    refine ⟨_, rfl, _, rfl, _, rfl, _, rfl, e.ka, e.k, S, A', B, rfl, pk, ge.k1, ge.k2, ge.l1, ge.l2, ge.r1, ge.r2, zA, zB, fun H1 s1 => ?_⟩
    refine ⟨_, rfl, iteF ?_⟩
    refine ⟨_, rfl, _, rfl, d, e.ka, e.k, e.v, _, rfl, rfl, ⟨xs, ep, n1.same s1, rfl⟩, pk.same s1, hv, fun va pv1 => ?_⟩
    refine ⟨_, rfl, _, rfl, _, rfl, va, e.v, S, A', B, rfl, pv1, ge.v1, ge.v2, by rw [ge.e1]; exact ge.l1, by rw [ge.e1]; exact ge.l2, by rw [ge.e2]; exact ge.r1, by rw [ge.e2]; exact ge.r2, zA, zB, fun H2 s2 => ?_⟩
    refine ⟨_, rfl, iteF ?_⟩
    have n2 := (n1.same s1).same s2
    have pk2 := (pk.same s1).same s2
    obtain ⟨kl, kr, ek, _, _⟩ := id pk2
    refine ⟨_, rfl, e.ka, rfl, ⟨_, SqT.of ek⟩, fun D hD => ?_⟩
    refine (lc_lens (j := 5) hD pk2 (fun x => rfl) (fun p r H Q t q => ⟨_, rfl, p, _, rfl, .inr t.seq, by rw [List.length_map]; exact q⟩) (fun H3 s3 hl3 => ?_)).elim fun l h => h.elim fun r h => h.2
    refine ⟨_, rfl, _, rfl, d, e.ka, e.k, e.v, _, rfl, rfl, ⟨xs, ep, n2.same s3, rfl⟩, pk2.same s3, hv, fun va pv3 => ?_⟩
    obtain ⟨vl, vr, ev, _, _⟩ := id pv3
    refine ⟨va, rfl, ⟨_, SqT.of ev⟩, fun D2 hD2 => ?_⟩
    refine (lc_lens (j := 5) hD2 pv3 (fun x => rfl) (fun p r H Q t q => ⟨_, rfl, p, _, rfl, .inr t.seq, by rw [List.length_map]; exact q⟩) (fun H4 s4 hl4 => ?_)).elim fun l h => h.elim fun r h => h.2
    refine ⟨_, _, dp_lst (s4 _ _ hl3), dp_lst hl4, shaped_lst _, shaped_lst _, false, ?_, iteF ?_⟩
    · rw [eqv_lst, ge.e1, ge.e2, decide_eq_true rfl]; rfl
    · exact ⟨(((e1.trans s1).trans s2).trans s3).trans s4, _, rfl⟩
end
end K66
namespace K66
open PySem L2

/-- all but b is as it was -/
def But (b : Addr) (H H' : Hp) : Prop := ∀ a o, a ≠ b → H a = some o → H' a = some o
theorem But.of {b : Addr} {H H' : Hp} (e : Same H H') : But b H H' := fun a o _ h => e a o h
theorem But.trans {b : Addr} {H H1 H2 : Hp} (x : But b H H1) (y : But b H1 H2) : But b H H2 := fun a o n h => y a o n (x a o n h)
theorem But.upd {b : Addr} {H H' : Hp} {o : HO} (x : But b H H') : But b H (upd H' b o) := fun a u n h => by rw [upd_ne n]; exact x a u n h
theorem But.tup {b a : Addr} {H H' : Hp} {xs : List V} (x : But b H H') (hb : ∀ ys, H b ≠ some (.tup ys)) (h : H a = some (.tup xs)) : H' a = some (.tup xs) := x a _ (fun e => hb xs (e ▸ h)) h

def bkF (S A B : Int) (d : Addr) : List (Str × V) := [("kept_sounds", .int S), ("kept_ahead", .int A), ("kept_behind", .int B), ("kept_table", .ref d)]
theorem bk_put (S A B : Int) (d : Addr) : putF "kept_table" (.ref d) (putF "kept_behind" (.int B) (putF "kept_ahead" (.int A) (putF "kept_sounds" (.int S) []))) = bkF S A B d := rfl

/-- the facts of class Book -/
structure TxB (K : PySem.W.Frag) (C : Addr) : Prop where
  cl : Cls K C
  nS : NoAttr K C "kept_sounds"
  nA : NoAttr K C "kept_ahead"
  nB : NoAttr K C "kept_behind"
  nT : NoAttr K C "kept_table"
/-- a book stands at b -/
def Bk (P : Program) (w : World) (C : Addr) (H : Hp) (b : Addr) (S A B : Int) (kvs : List (NK × NK)) : Prop := ∃ dx d, H b = some (.ins C dx (bkF S A B d)) ∧ ND P w H d kvs
theorem Bk.same {P : Program} {w : World} {C : Addr} {H H' : Hp} {b : Addr} {S A B : Int} {kvs : List (NK × NK)} (h : Bk P w C H b S A B kvs) (e : Same H H') : Bk P w C H' b S A B kvs := by
  obtain ⟨dx, d, h1, h2⟩ := h
  exact ⟨dx, d, e _ _ h1, h2.same e⟩
/-- what the entries make of two rows -/
def bF (kvs : List (NK × NK)) : Row → Row → Row × Row := fun l r => (valN kvs (l, r)).getD (l, r)
def keptOf (kvs : List (NK × NK)) : List (NK × NK) := kvs.filter fun p => decide (p.1 ≠ p.2)
theorem valN_none {k : NK} : ∀ {kvs : List (NK × NK)}, (∀ p ∈ kvs, p.1 ≠ k) → valN kvs k = none
  | [], _ => rfl
  | p :: r, h => by
    unfold valN
    rw [List.find?_cons, decide_eq_false (h p (by simp))]
    exact valN_none fun q hq => h q (List.mem_cons_of_mem _ hq)
theorem kept_val : ∀ {kvs : List (NK × NK)} (k : NK), (kvs.map (·.1)).Nodup → (valN (keptOf kvs) k).getD k = (valN kvs k).getD k
  | [], _, _ => rfl
  | p :: r, k, hn => by
    rw [List.map_cons, List.nodup_cons] at hn
    have ih := kept_val k hn.2
    have notin : p.1 = k → valN r k = none := fun e => valN_none fun q hq z => hn.1 (List.mem_map.mpr ⟨q, hq, z.trans e.symm⟩)
    unfold keptOf at ih ⊢
    rw [List.filter_cons]
    by_cases hp : p.1 = p.2
    · rw [if_neg (by simp [hp]), ih]
      unfold valN
      rw [List.find?_cons]
      by_cases e : p.1 = k
      · rw [decide_eq_true e]
        have := notin e
        unfold valN at this
        rw [this]
        show k = p.2
        rw [← e, hp]
      · rw [decide_eq_false e]
    · rw [if_pos (by simp [hp])]
      unfold valN at ih ⊢
      rw [List.find?_cons, List.find?_cons]
      by_cases e : p.1 = k
      · rw [decide_eq_true e]
      · rw [decide_eq_false e]; exact ih
theorem kept_F {kvs : List (NK × NK)} (hn : (kvs.map (·.1)).Nodup) : bF (keptOf kvs) = bF kvs := by
  funext l r
  exact kept_val (l, r) hn

/-- the turns over such a dict's pairs, in a comprehension -/
theorem dc_pairN {P : Program} {w : World} {d : Addr} {xs : List En} {ep : Nat} {g : TG} {tt : TT} {tk tv : TE} {vs : List Nat} {σ : L2.St} {H1 : Hp} {D : Addr} {o : HO} {Qd : Hp → Prop} (Pv : Nat → Hp → Prop) (h0 : Pv 0 (upd H1 D o)) (hl : ∀ i H, Pv i H → NAt P w H d xs ep)
    (hs : ∀ i e T H, xs[i]? = some e → Pv i H → H T = none → g (.ref T) (wipe σ vs) (upd H T (.tup [.ref e.ka, .ref e.va])) fun σ2 H2 => wipe σ2 vs = wipe σ vs ∧ tt σ2 H2 fun b H3 =>
      if b = true then tk σ2 H3 fun y H4 => tv σ2 H4 fun z H5 => ∃ kvs ka k va v, y = .ref ka ∧ z = .ref va ∧ ND P w H5 D kvs ∧ PR H5 ka k ∧ PR H5 va v ∧ kvs.length < sizeLine ∧ valN kvs k = none ∧
        ∀ o', ND P w (upd H5 D o') D (kvs ++ [(k, v)]) → Pv (i + 1) (upd H5 D o') else Pv (i + 1) H3) (hd : ∀ H, Pv xs.length H → Qd H) :
    ∃ W : Nat → Nat → Hp → Prop, (∃ m, W 0 m (upd H1 D o)) ∧ ∀ i m H, W i m H →
      ((ItP P w d xs ep).stop i H ∧ Qd H) ∨ ((ItP P w d xs ep).go i H ∧ ∃ Nx : Hp → Prop, (∀ H', Nx H' → ∃ m', m' < m ∧ W (i + 1) m' H') ∧ ∀ x H', (ItP P w d xs ep).yld i H x H' → g x (wipe σ vs) H' fun σ2 H2 => wipe σ2 vs = wipe σ vs ∧ tt σ2 H2 fun b H3 =>
        if b = true then tk σ2 H3 fun y H4 => tv σ2 H4 fun z H5 => ∃ kvs ka k va v, y = .ref ka ∧ z = .ref va ∧ ND P w H5 D kvs ∧ PR H5 ka k ∧ PR H5 va v ∧ kvs.length < sizeLine ∧ valN kvs k = none ∧
          ∀ o', ND P w (upd H5 D o') D (kvs ++ [(k, v)]) → Nx (upd H5 D o') else Nx H3) := by
  refine ⟨fun i m H => m + i = xs.length ∧ Pv i H, ⟨xs.length, rfl, h0⟩, ?_⟩
  rintro i m H ⟨hm, p⟩
  have n := hl i H p
  by_cases hi : i < xs.length
  · refine .inr ⟨⟨n, hi⟩, Pv (i + 1), fun H' p' => ⟨m - 1, by omega, by omega, p'⟩, fun x H' y => ?_⟩
    obtain ⟨T, e, he, rfl, hT, rfl⟩ := y
    exact hs i e T H he p hT
  · have : i = xs.length := by omega
    subst this
    exact .inl ⟨⟨n, Nat.le_refl _⟩, hd H p⟩

theorem neD_K {X : Cx} (K : PySem.W.Frag) (hu : X.A.units + 64 < cLine) (h : X.K = K := by rfl) : OpR X (compareOp .NotEq) (rNeD K) := h ▸ op_neD hu
theorem eqD_K {X : Cx} (K : PySem.W.Frag) (hu : X.A.units + 64 < cLine) (h : X.K = K := by rfl) : OpR X (compareOp .Eq) (rEqD K) := h ▸ op_eqD hu
theorem pgT_K {X : Cx} (K : PySem.W.Frag) (n : Nat) {es : List Expr} {k : Nat} {t : TGs} {pos : Pos} (hc : X.calm = true) (hp : PGs X es t) (h : X.K = K := by rfl)
    (hn : (assignEach es X.env).length = n := by rfl) (hst : (assignEach es X.env).findIdx? (·.1) = none := by rfl) : PG X (.Tuple es k pos) (gTup K n t) := h ▸ pg_tup hc hp hn hst

section
variable {P : Program} {w : World} {K : PySem.W.Frag} {mg : Str → Option Value} {base : Heap}
/-! check_sizes -/
def spCheckSizes : Sp := fun vs H Q _ => ∃ S A B : Int, vs = [.int S, .int A, .int B] ∧ 1 ≤ S ∧ S ≤ 8 ∧ 1 ≤ A ∧ A ≤ 4 ∧ 1 ≤ B ∧ B ≤ 4 ∧ Q .non H
theorem scCheckSizes : FnScope ["sounds", "ahead", "behind"] ["sounds", "ahead", "behind"] (C8.fnScope sCheckSizes) := ⟨rfl, rfl, rfl, by decide +kernel, rfl, by decide +kernel, by decide +kernel⟩
theorem okCheckSizes {f : Addr} {fd : FuncData} (F : C8.Def K mg "check_sizes" sCheckSizes f fd) (b : Binds K fd ["sounds", "ahead", "behind"] []) (gM : ∃ t, mg "MOST_SOUNDS" = some (.int 8 t)) (gN : ∃ t, mg "MOST_SIDE" = some (.int 4 t)) (G1 : C8.Cal P w K mg base 2 "is_between" spIsBetween []) : C8.Cal P w K mg base 3 "check_sizes" spCheckSizes [] := by
  obtain ⟨tM, gM⟩ := gM
  obtain ⟨tN, gN⟩ := gN
  refine C8.cal0 F b .nil scCheckSizes (fun vs H Q E h => ?_) (fun cdv A outer s H vs Q E hr h => ?_)
  · obtain ⟨S, A, B, rfl, _⟩ := h; rfl
  · obtain ⟨S, A', B, rfl, s1, s2, a1, a2, b1, b2, k⟩ := h
    refine ⟨_, pss_cons (ps_if (pt_not (pt_val (C8.pe_c G1 hr (by decide) rfl (pa_cons (pv 0) (pa_cons pe_int (pa_cons (pe_glob (v := .int 8) rfl gM ⟨_, rfl⟩) pa_nil)))))) (pss_one ps_never) pss_nil)
      (pss_cons (ps_if (pt_not (pt_val (C8.pe_c G1 hr (by decide) rfl (pa_cons (pv 1) (pa_cons pe_int (pa_cons (pe_glob (v := .int 4) rfl gN ⟨_, rfl⟩) pa_nil)))))) (pss_one ps_never) pss_nil)
      (pss_one (ps_if (pt_not (pt_val (C8.pe_c G1 hr (by decide) rfl (pa_cons (pv 2) (pa_cons pe_int (pa_cons (pe_glob (v := .int 4) rfl gN ⟨_, rfl⟩) pa_nil)))))) (pss_one ps_never) pss_nil))), ?_⟩
    refine ⟨_, rfl, _, _, _, rfl, ?_⟩
    rw [decide_eq_true s1, decide_eq_true s2]
    refine ⟨_, rfl, iteF ?_⟩
    refine ⟨_, rfl, _, _, _, rfl, ?_⟩
    rw [decide_eq_true a1, decide_eq_true a2]
    refine ⟨_, rfl, iteF ?_⟩
    refine ⟨_, rfl, _, _, _, rfl, ?_⟩
    rw [decide_eq_true b1, decide_eq_true b2]
    exact ⟨_, rfl, iteF k⟩

/-! Book.keep -/
def spKeep (P : Program) (w : World) (C : Addr) : Sp := fun vs H Q _ => ∃ (b dx d : Addr) (S A B : Int) (kvs : List (NK × NK)), vs = [.ref b, .int S, .int A, .int B, .ref d] ∧ H b = some (.ins C dx []) ∧ ND P w H d kvs ∧
  ∀ H', But b H H' → Bk P w C H' b S A B (keptOf kvs) → Q .non H'
theorem scKeep : FnScope ["self", "sounds", "ahead", "behind", "table", "key", "told"] ["self", "sounds", "ahead", "behind", "table"] (C8.fnScope sBkKeep) := ⟨rfl, rfl, rfl, by decide +kernel, rfl, by decide +kernel, by decide +kernel⟩
theorem okKeep {f C : Addr} {fd : FuncData} (F : C8.Fun K "keep" "Book.keep" sBkKeep f fd) (b : Binds K fd ["self", "sounds", "ahead", "behind", "table"] []) (me : Meth K C "keep" f) (T : TxB K C) : C8.Met P w K mg base 1 C "keep" (spKeep P w C) [] := by
  refine C8.met0 T.cl me F b scKeep (fun vs H Q E h => ?_) (fun cdv A outer s H vs Q E hr h => ?_)
  · obtain ⟨b, dx, d, S, A, B, kvs, rfl, _⟩ := h; rfl
  · obtain ⟨b, dx, d, S, A', B, kvs, rfl, hb, nd, k⟩ := h
    have hu : (A.deeper (PyProof.Rows.envOfC "Book.keep" (C8.fnScope sBkKeep) s.heap.objs.size f cdv)).units + 64 < cLine := hr.units
    refine ⟨_, pss_cons (ps_fld (pv 0) (pv 1) rfl) (pss_cons (ps_fld (pv 0) (pv 2) rfl) (pss_cons (ps_fld (pv 0) (pv 3) rfl) (pss_one (ps_fld (pv 0)
      (pe_dcN (own := [("key", 5), ("told", 6)]) hu rfl scKeep.nd (pi_pairN (pv 4)) (blkOk_by (N := ["self", "sounds", "ahead", "behind", "table", "key", "told"]) (sc := C8.fnScope sBkKeep) (by decide +kernel))
        (fun _ _ _ _ _ => pgT_K K 2 rfl (pgs_cons (pg_name (i := 5) scKeep.nd rfl (Or.inl rfl)) (pgs_cons (pg_name (i := 6) scKeep.nd rfl (Or.inl rfl)) pgs_nil)))
        (fun _ _ _ _ _ => pts_one (pt_cmpR (neD_K K hu) (pv 5) (pv 6) (nomark _)))
        (fun _ _ _ _ _ => pv 5) (fun _ _ _ _ _ => pv 6)) rfl)))), ?_⟩
    refine ⟨_, rfl, _, rfl, b, C, dx, _, rfl, hb, T.cl, T.nS, (by decide), ?_⟩
    refine ⟨_, rfl, _, rfl, b, C, dx, _, rfl, upd_same, T.cl, T.nA, (by show 1 < 1000; decide), ?_⟩
    refine ⟨_, rfl, _, rfl, b, C, dx, _, rfl, upd_same, T.cl, T.nB, (by show 2 < 1000; decide), ?_⟩
    rw [upd_upd, upd_upd]
    obtain ⟨xs, ep, n, rfl⟩ := nd
    have nb : ∀ ys, H b ≠ some (.tup ys) := fun ys e => by rw [hb] at e; cases e
    have ndb : d ≠ b := ne_of n.obj hb (fun z => nomatch z)
    have stay : ∀ {H' : Hp}, But b H H' → NAt P w H' d xs ep := fun e => n.keep (fun a ys q => e.tup nb q) ((e d _ ndb n.obj).trans n.obj.symm)
    refine ⟨_, rfl, d, xs, ep, rfl, stay (But.of (Same.refl H)).upd, fun D o hD nD => ?_⟩
    have hDb : D ≠ b := fun z => by rw [z, upd_same] at hD; cases hD
    have hD0 : H D = none := by rw [upd_ne hDb] at hD; exact hD
    refine dc_pairN (fun i H' => But b H H' ∧ H' b = some (.ins C dx (putF "kept_behind" (.int B) (putF "kept_ahead" (.int A') (putF "kept_sounds" (.int S) [])))) ∧ ND P w H' D (keptOf (pairsE (xs.take i))))
      ⟨fun a u na h => by rw [upd_ne (fun z => by rw [z, hD0] at h; cases h), upd_ne na]; exact h, by rw [upd_ne hDb.symm, upd_same], nD⟩ (fun i H' p => stay p.1) (fun i e T' H' he p hT => ?_) (fun H' p => ?_)
    · obtain ⟨p1, p2, p3⟩ := p
      have hm := List.mem_of_getElem? he
      have n1 := (stay p1).same (same_new (o := .tup [.ref e.ka, .ref e.va]) hT)
      obtain ⟨q1, q2⟩ := n1.ents e hm
      have p1' : But b H (upd H' T' (.tup [.ref e.ka, .ref e.va])) := p1.trans (But.of (same_new hT))
      have p2' : (upd H' T' (.tup [.ref e.ka, .ref e.va])) b = some (.ins C dx (putF "kept_behind" (.int B) (putF "kept_ahead" (.int A') (putF "kept_sounds" (.int S) [])))) := (same_new hT) _ _ p2
      have p3' := p3.same (same_new (o := .tup [.ref e.ka, .ref e.va]) hT)
      have et : xs.take (i + 1) = xs.take i ++ [e] := by rw [List.take_add_one, he]; rfl
      refine ⟨T', _, rfl, SqT.of upd_same, rfl, _, _, rfl, _, _, rfl, rfl, rfl, ?_⟩
      refine ⟨_, rfl, _, rfl, _, _, q1.dp, q2.dp, shaped_PR _, shaped_PR _, _, rfl, ?_⟩
      rw [eqv_PR]
      by_cases hk : e.k = e.v
      · rw [decide_eq_true hk]
        refine iteF ⟨p1', p2', ?_⟩
        rw [et]
        have : keptOf (pairsE (xs.take i ++ [e])) = keptOf (pairsE (xs.take i)) := by simp [keptOf, pairsE, hk]
        rw [this]
        exact p3'
      · rw [decide_eq_false hk]
        refine iteT ⟨_, rfl, _, rfl, _, e.ka, e.k, e.va, e.v, rfl, rfl, p3', q1, q2, ?_, ?_, fun o' nd' => ⟨?_, ?_, ?_⟩⟩
        · have h1 : (keptOf (pairsE (xs.take i))).length ≤ i := by
            refine Nat.le_trans (List.length_filter_le _ _) ?_
            unfold pairsE; rw [List.length_map, List.length_take]; exact Nat.min_le_left _ _
          have h2 := (List.getElem?_eq_some_iff.mp he).1
          have h3 := n.fits
          omega
        · refine valN_none fun p hp z => ?_
          have hp' := (List.mem_filter.mp hp).1
          obtain ⟨e', he', rfl⟩ := List.mem_map.mp hp'
          obtain ⟨j, hj⟩ := List.mem_iff_getElem?.mp he'
          rw [List.getElem?_take] at hj
          split at hj
          · rename_i hji
            have a1 : (xs.map (·.k))[j]? = some e.k := by rw [List.getElem?_map, hj]; exact congrArg some z
            have a2 : (xs.map (·.k))[i]? = some e.k := by rw [List.getElem?_map, he]; rfl
            have := nd_ix n.nodup a1 a2
            omega
          · cases hj
        · intro a u na h
          rw [upd_ne (fun z => by rw [z, hD0] at h; cases h)]
          exact p1' a u na h
        · rw [upd_ne hDb.symm]; exact p2'
        · rw [et]
          have : keptOf (pairsE (xs.take i ++ [e])) = keptOf (pairsE (xs.take i)) ++ [(e.k, e.v)] := by simp [keptOf, pairsE, hk]
          rw [this]
          exact nd'
    · obtain ⟨p1, p2, p3⟩ := p
      rw [List.take_length] at p3
      refine ⟨_, rfl, b, C, dx, _, rfl, p2, T.cl, T.nT, (by show 3 < 1000; decide), ?_⟩
      obtain ⟨ys, ep', n', e'⟩ := p3
      refine k _ p1.upd ⟨dx, D, upd_same, ys, ep', n'.keep (fun a zs q => ?_) (upd_ne hDb), e'⟩
      rw [upd_ne (ne_of q p2 fun z => nomatch z)]
      exact q
end
end K66
namespace K66
open PySem L2

section
variable {P : Program} {w : World} {K : PySem.W.Frag} {mg : Str → Option Value} {base : Heap}
/-! Book.__init__ -/
def spBkInit (P : Program) (w : World) (C : Addr) : Sp := fun vs H Q _ => ∃ (b dx d : Addr) (S A B : Int) (kvs : List (NK × NK)), vs = [.ref b, .int S, .int A, .int B, .ref d] ∧ H b = some (.ins C dx []) ∧ ND P w H d kvs ∧
  kvs.length ≤ 4000 ∧ (∀ p ∈ kvs, GoodE S A B p.1 p.2) ∧ 1 ≤ S ∧ S ≤ 8 ∧ 1 ≤ A ∧ A ≤ 4 ∧ 1 ≤ B ∧ B ≤ 4 ∧ ∀ H', But b H H' → Bk P w C H' b S A B (keptOf kvs) → Q .non H'
theorem scBkInit : FnScope ["self", "sounds", "ahead", "behind", "table"] ["self", "sounds", "ahead", "behind", "table"] (C8.fnScope sBkInit) := ⟨rfl, rfl, rfl, by decide +kernel, rfl, by decide +kernel, by decide +kernel⟩
theorem okBkInit {f C : Addr} {fd : FuncData} (F : C8.Fun K "__init__" "Book.__init__" sBkInit f fd) (b : Binds K fd ["self", "sounds", "ahead", "behind", "table"] []) (M : Mk K C f) (hm : mg "Book" = some (.ref C)) (T : TxB K C)
    (G1 : C8.Cal P w K mg base 3 "check_sizes" spCheckSizes []) (G2 : C8.Cal P w K mg base 6 "is_table" (spIsTable P w) []) (G3 : C8.Met P w K mg base 1 C "keep" (spKeep P w C) []) : C8.Mak P w K mg base 7 "Book" C (spBkInit P w C) [] := by
  refine C8.mak0 M hm F b .nil scBkInit (fun vs H Q E h => ?_) (fun cdv A outer s H vs Q E hr h => ?_)
  · obtain ⟨b, dx, d, S, A, B, kvs, rfl, _⟩ := h; rfl
  · obtain ⟨b, dx, d, S, A', B, kvs, rfl, hb, nd, hz, hg, s1, s2, a1, a2, b1, b2, k⟩ := h
    refine ⟨_, pss_cons (ps_expr (C8.pe_c G1 hr (by decide) rfl (pa_cons (pv 1) (pa_cons (pv 2) (pa_cons (pv 3) pa_nil)))))
      (pss_cons (ps_if (pt_not (pt_val (C8.pe_c G2 hr (by decide) rfl (pa_cons (pv 4) (pa_cons (pv 1) (pa_cons (pv 2) (pa_cons (pv 3) pa_nil))))))) (pss_one ps_never) pss_nil)
      (pss_one (ps_expr (C8.pe_mt G3 hr (by decide) (pv 0) (pa_cons (pv 1) (pa_cons (pv 2) (pa_cons (pv 3) (pa_cons (pv 4) pa_nil)))))))), ?_⟩
    refine ⟨_, rfl, _, rfl, _, rfl, S, A', B, rfl, s1, s2, a1, a2, b1, b2, ?_⟩
    refine ⟨_, rfl, _, rfl, _, rfl, _, rfl, d, kvs, S, A', B, rfl, nd, hz, hg, by omega, by omega, fun H1 e1 => ?_⟩
    refine ⟨_, rfl, iteF ?_⟩
    refine ⟨_, rfl, b, dx, _, rfl, e1 _ _ hb, rfl, _, rfl, _, rfl, _, rfl, _, rfl, b, dx, d, S, A', B, kvs, rfl, e1 _ _ hb, nd.same e1, fun H2 e2 k2 => ?_⟩
    exact k _ ((But.of e1).trans e2) k2

/-! told -/
def spTold (P : Program) (w : World) (C : Addr) : Sp := fun vs H Q _ => ∃ (b l r : Addr) (S A B : Int) (kvs : List (NK × NK)) (x y : Row), vs = [.ref b, .ref l, .ref r] ∧ Bk P w C H b S A B kvs ∧ TR H l x ∧ TR H r y ∧
  ∀ H' a, Same H H' → PR H' a (bF kvs x y) → Q (.ref a) H'
theorem scTold : FnScope ["book", "left", "right"] ["book", "left", "right"] (C8.fnScope sTold) := ⟨rfl, rfl, rfl, by decide +kernel, rfl, by decide +kernel, by decide +kernel⟩
theorem okTold {f C : Addr} {fd : FuncData} (F : C8.Def K mg "told" sTold f fd) (b : Binds K fd ["book", "left", "right"] []) (T : TxB K C) : C8.Cal P w K mg base 1 "told" (spTold P w C) [] := by
  refine C8.cal0 F b .nil scTold (fun vs H Q E h => ?_) (fun cdv A outer s H vs Q E hr h => ?_)
  · obtain ⟨b, l, r, S, A, B, kvs, x, y, rfl, _⟩ := h; rfl
  · obtain ⟨b, l, r, S, A', B, kvs, x, y, rfl, ⟨dx, d, hb, nd⟩, tl, tr, k⟩ := h
    have hu : (A.deeper (PyProof.Rows.envOfC "told" (C8.fnScope sTold) s.heap.objs.size f cdv)).units + 64 < cLine := hr.units
    refine ⟨_, pss_one (ps_ret (pe_getN hu (pe_fld (pv 0) rfl) (pe_tup (pa_cons (pv 1) (pa_cons (pv 2) pa_nil))) (pe_tup (pa_cons (pv 1) (pa_cons (pv 2) pa_nil))) ⟨rfl, rfl, rfl, rfl⟩)), ?_⟩
    refine ⟨_, rfl, b, C, dx, _, _, rfl, hb, T.cl, T.nT, rfl, ⟨d, kvs, rfl, nd⟩, ?_⟩
    refine ⟨_, rfl, _, rfl, by show 2 ≤ sizeLine; decide, fun p np => ?_⟩
    have e1 : Same H (upd H p (.tup [.ref l, .ref r])) := same_new np
    refine ⟨_, rfl, _, rfl, by show 2 ≤ sizeLine; decide, fun q nq => ?_⟩
    have e2 := same_snew (o := .tup [.ref l, .ref r]) e1 nq
    have pp : PR (upd (upd H p (.tup [.ref l, .ref r])) q (.tup [.ref l, .ref r])) p (x, y) := ⟨l, r, (same_new nq) _ _ upd_same, tl.mono e2, tr.mono e2⟩
    exact ⟨d, p, q, (x, y), (x, y), kvs, rfl, rfl, nd.same e2, pp, ⟨l, r, upd_same, tl.mono e2, tr.mono e2⟩, fun a pa => k _ a e2 pa⟩
end
end K66
namespace K66
open PySem L2

/-! slices and sums of tuples, whatever is made or handed on -/
theorem slA_go {K : PySem.W.Frag} {H : Hp} {a : Addr} {r res : Row} {lo hi : Option Int} {Q : VK} (t : TR H a r) (e : cutV (r.map V.int) lo hi = res.map V.int)
    (k : ∀ p H', Same H H' → TR H' p res → Q (.ref p) H') : rSlA K (.ref a) lo hi H Q := by
  refine ⟨a, _, rfl, t.seq, fun w => ?_, fun _ p hp => k p _ (same_new hp) (by unfold TR; rw [upd_same, e])⟩
  refine k a H (Same.refl H) ?_
  have : cutV (r.map V.int) lo hi = r.map V.int := by
    unfold cutV
    rw [w.1, w.2, List.drop_zero, Nat.sub_zero, List.take_length]
  unfold TR at t ⊢
  rw [t, ← e, this]
theorem sl_no {K : PySem.W.Frag} {σ : L2.St} {H : Hp} {x : V} {lo : Option Int} {Q : VK} (h : rSlA K x lo none H Q) : tNoPart σ H fun u H3 => rSlA K x lo u H3 Q := h
theorem catA_go {K : PySem.W.Frag} {H : Hp} {a b : Addr} {x y : Row} {Q : VK} (t : TR H a x) (u : TR H b y) (hz : x.length + y.length ≤ 100000) (k : ∀ p H', Same H H' → TR H' p (x ++ y) → Q (.ref p) H') : rCatA K (.ref a) (.ref b) H Q := by
  refine ⟨a, b, _, _, rfl, rfl, t.seq, u.seq, ?_, fun e => ?_, fun _ e => ?_, fun _ _ p hp => k p _ (same_new hp) (by unfold TR; rw [upd_same, List.map_append])⟩
  · rw [List.length_map, List.length_map]; exact Nat.le_trans hz (by decide)
  · have : x = [] := by simpa using e
    subst this
    exact k b H (Same.refl H) u
  · have : y = [] := by simpa using e
    subst this
    refine k a H (Same.refl H) ?_
    rw [List.append_nil]; exact t
theorem sIx_neg (n d k : Nat) (hk : 1 ≤ k) : HT.sIx n d (some (-(k : Int))) = n - k := by
  show (if -(k : Int) < 0 then (-(k : Int) + (n : Int)).toNat else min (-(k : Int)).toNat n) = n - k
  rw [if_pos (by omega)]
  omega
theorem cut_neg (r : Row) (n : Nat) (hn : 1 ≤ n) : cutV (r.map V.int) (some (-(n : Int))) none = (r.drop (r.length - n)).map V.int := by
  unfold cutV
  rw [HT.sIx_none, sIx_neg _ _ _ hn, List.length_map, List.map_drop]
  exact List.take_of_length_le (by rw [List.length_drop, List.length_map]; exact Nat.le_refl _)
theorem cut_to (r : Row) (n : Nat) : cutV (r.map V.int) none (some (n : Int)) = (r.take n).map V.int := by
  unfold cutV
  rw [HT.sIx_none, HT.sIx_nat, List.drop_zero, Nat.sub_zero, List.map_take, ← List.take_take, List.take_length]
theorem cut_from (r : Row) (n : Nat) : cutV (r.map V.int) (some (n : Int)) none = (r.drop n).map V.int := by
  unfold cutV
  rw [HT.sIx_none, HT.sIx_nat, List.length_map, List.map_drop]
  by_cases h : n ≤ r.length
  · rw [Nat.min_eq_left h]
    exact List.take_of_length_le (by rw [List.length_drop, List.length_map]; exact Nat.le_refl _)
  · rw [Nat.min_eq_right (by omega), Nat.sub_self, List.take_zero]
    exact (List.drop_eq_nil_of_le (by rw [List.length_map]; omega)).symm

/-- two rows that meet, the phrase ahead and the phrase behind -/
def joinF (F : Row → Row → Row × Row) (A B : Nat) (a b : Row) : NK :=
  (a.take (a.length - A) ++ (F (a.drop (a.length - A)) (b.take B)).1, (F (a.drop (a.length - A)) (b.take B)).2 ++ b.drop B)
theorem join_met (F : Row → Row → Row × Row) (A B : Nat) (a b : Row) : (joinF F A B a b).1 ++ (joinF F A B a b).2 = met F A B a b := by
  unfold joinF met
  simp only [List.append_assoc]
/-- the book's entries keep lengths -/
def LenKv (kvs : List (NK × NK)) : Prop := ∀ p ∈ kvs, p.2.1.length = p.1.1.length ∧ p.2.2.length = p.1.2.length
theorem LenKv.ok {kvs : List (NK × NK)} (h : LenKv kvs) : LenOk (bF kvs) := by
  intro l r
  unfold bF valN
  cases e : kvs.find? fun p => decide (p.1 = (l, r)) with
  | none => exact ⟨rfl, rfl⟩
  | some p =>
    have h1 := h p (List.mem_of_find?_eq_some e)
    have h2 : p.1 = (l, r) := by simpa using List.find?_some e
    rw [h2] at h1
    exact h1
def ValKv (S : Int) (kvs : List (NK × NK)) : Prop := ∀ p ∈ kvs, Val S p.2.1 ∧ Val S p.2.2
theorem ValKv.ok {S : Int} {kvs : List (NK × NK)} (h : ValKv S kvs) : ValOk (F := bF kvs) S := by
  intro l r vl vr
  unfold bF valN
  cases e : kvs.find? fun p => decide (p.1 = (l, r)) with
  | none => exact ⟨vl, vr⟩
  | some p => exact h p (List.mem_of_find?_eq_some e)

section
variable {P : Program} {w : World} {K : PySem.W.Frag} {mg : Str → Option Value} {base : Heap}
/-! joined_rows -/
def spJoinedRows (P : Program) (w : World) (C : Addr) : Sp := fun vs H Q _ => ∃ (b l r : Addr) (S : Int) (A B : Nat) (kvs : List (NK × NK)) (x y : Row), vs = [.ref b, .ref l, .ref r] ∧ Bk P w C H b S A B kvs ∧ TR H l x ∧ TR H r y ∧ LenKv kvs ∧ 1 ≤ A ∧ 1 ≤ B ∧ x.length ≤ 10000 ∧ y.length ≤ 10000 ∧
  ∀ H' a, Same H H' → PR H' a (joinF (bF kvs) A B x y) → Q (.ref a) H'
theorem scJoinedRows : FnScope ["book", "one", "other", "left", "right", "new_left", "new_right"] ["book", "one", "other"] (C8.fnScope sJoinedRows) := ⟨rfl, rfl, rfl, by decide +kernel, rfl, by decide +kernel, by decide +kernel⟩
theorem okJoinedRows {f C : Addr} {fd : FuncData} (F : C8.Def K mg "joined_rows" sJoinedRows f fd) (b : Binds K fd ["book", "one", "other"] []) (g : Gb mg) (T : TxB K C) (G1 : C8.Cal P w K mg base 1 "told" (spTold P w C) []) : C8.Cal P w K mg base 2 "joined_rows" (spJoinedRows P w C) [] := by
  refine C8.cal0 F b .nil scJoinedRows (fun vs H Q E h => ?_) (fun cdv A outer s H vs Q E hr h => ?_)
  · obtain ⟨b, l, r, S, A, B, kvs, x, y, rfl, _⟩ := h; rfl
  · obtain ⟨b, l, r, S, A', B, kvs, x, y, rfl, bk, tl, tr, hl, hA, hB, zx, zy, k⟩ := h
    obtain ⟨dx, d, hb, nd⟩ := id bk
    refine ⟨_, pss_cons (ps_set (i := 3) scJoinedRows.nd rfl (Or.inl rfl) (pe_slice sl_tupA (pv 1) (po_some (pe_un un_neg (pe_fld (pv 0) rfl))) po_none))
      (pss_cons (ps_set (i := 4) scJoinedRows.nd rfl (Or.inl rfl) (pe_slice sl_tupA (pv 2) po_none (po_some (pe_fld (pv 0) rfl))))
      (pss_cons (ps_asg (C8.pe_c G1 hr (by decide) rfl (pa_cons (pv 0) (pa_cons (pv 3) (pa_cons (pv 4) pa_nil)))) (pg_tup rfl (pgs_cons (pg_name (i := 5) scJoinedRows.nd rfl (Or.inl rfl)) (pgs_cons (pg_name (i := 6) scJoinedRows.nd rfl (Or.inl rfl)) pgs_nil))))
      (pss_one (ps_ret (pe_tup (pa_cons (pe_op op_catA (pe_slice sl_tupA (pv 1) po_none (po_some (pe_op op_sub (pe_callB call_len_seq rfl g.len PySem.boot_len (pa_cons (pv 1) pa_nil)) (pe_callB call_len_seq rfl g.len PySem.boot_len (pa_cons (pv 3) pa_nil))))) (pv 5))
        (pa_cons (pe_op op_catA (pv 6) (pe_slice sl_tupA (pv 2) (po_some (pe_callB call_len_seq rfl g.len PySem.boot_len (pa_cons (pv 4) pa_nil))) po_none)) pa_nil))))))), ?_⟩
    refine ⟨_, rfl, _, rfl, b, C, dx, _, _, rfl, hb, T.cl, T.nA, rfl, _, rfl, _, rfl, ?_⟩
    refine sl_no (slA_go tl (cut_neg x A' hA) fun p1 H1 e1 t1 => ?_)
    refine ⟨_, rfl, _, rfl, b, C, dx, _, _, rfl, e1 _ _ hb, T.cl, T.nB, rfl, _, rfl, ?_⟩
    refine slA_go (tr.mono e1) (cut_to y B) fun p2 H2 e2 t2 => ?_
    refine ⟨_, rfl, _, rfl, _, rfl, b, p1, p2, S, _, _, kvs, _, _, rfl, (bk.same e1).same e2, t1.mono e2, t2, fun H3 p3 e3 pr => ?_⟩
    obtain ⟨nl, nr, h3, n1, n2⟩ := pr
    refine ⟨p3, _, rfl, SqT.of h3, rfl, _, _, rfl, _, _, rfl, rfl, ?_⟩
    have e13 := (e1.trans e2).trans e3
    refine ⟨_, rfl, _, rfl, l, _, rfl, .inr (tl.mono e13).seq, _, rfl, p1, _, rfl, .inr ((t1.mono e2).mono e3).seq, _, _, rfl, rfl, _, rfl, ?_⟩
    have len1 := (hl.ok (x.drop (x.length - A')) (y.take B))
    have ec : (((x.map V.int).length : Int) - (((x.drop (x.length - A')).map V.int).length : Int)) = ((x.length - A' : Nat) : Int) := by
      rw [List.length_map, List.length_map, List.length_drop]; omega
    rw [ec]
    refine slA_go (tl.mono e13) (cut_to x _) fun p4 H4 e4 t4 => ?_
    refine ⟨_, rfl, ?_⟩
    refine catA_go t4 (n1.mono e4) (by rw [len1.1, List.length_take, List.length_drop]; omega) fun p5 H5 e5 t5 => ?_
    have e15 := (e13.trans e4).trans e5
    refine ⟨_, rfl, _, rfl, _, rfl, p2, _, rfl, .inr (t2.mono ((e3.trans e4).trans e5)).seq, _, rfl, ?_⟩
    rw [List.length_map, List.length_take]
    refine sl_no (slA_go (tr.mono e15) (cut_from y _) fun p6 H6 e6 t6 => ?_)
    refine catA_go (n2.mono ((e4.trans e5).trans e6)) t6 (by rw [len1.2, List.length_take, List.length_drop]; omega) fun p7 H7 e7 t7 => ?_
    refine ⟨by show 2 ≤ sizeLine; decide, fun p8 h8 => ?_⟩
    have e8 := same_new (o := .tup [.ref p5, .ref p7]) h8
    refine k _ p8 (((e15.trans e6).trans e7).trans e8) ⟨p5, p7, upd_same, (t5.mono (e6.trans e7)).mono e8, ?_⟩
    have ed : y.drop (min B y.length) = y.drop B := by
      by_cases h : B ≤ y.length
      · rw [Nat.min_eq_left h]
      · rw [Nat.min_eq_right (by omega), List.drop_length, List.drop_eq_nil_of_le (by omega)]
    rw [ed] at t7
    exact t7.mono e8
end
end K66
namespace K66
open PySem L2

/-! lists of tuples of ints -/
def TRs (H : Hp) : List Addr → List Row → Prop := Paired fun a r => TR H a r
theorem TRs.mono {H H' : Hp} {as : List Addr} {rs : List Row} (h : TRs H as rs) (e : Same H H') : TRs H' as rs := Paired.mapP h fun _ _ q => q.mono e
theorem TRs.app {H : Hp} : ∀ {as bs : List Addr} {rs qs : List Row}, TRs H as rs → TRs H bs qs → TRs H (as ++ bs) (rs ++ qs)
  | _, _, _, _, .nil, h => h
  | _, _, _, _, .cons r t, h => .cons r (TRs.app t h)
theorem TRs.len {H : Hp} {as : List Addr} {rs : List Row} (h : TRs H as rs) : as.length = rs.length := Paired.length h
theorem TRs.get {H : Hp} {as : List Addr} {rs : List Row} (h : TRs H as rs) {i : Nat} {a : Addr} (e : as[i]? = some a) : ∃ r, rs[i]? = some r ∧ TR H a r := paired_get h e
theorem TRs.one {H : Hp} {a : Addr} {r : Row} (h : TR H a r) : TRs H [a] [r] := .cons h .nil
/-- a list of them stands at l -/
def LR (H : Hp) (l : Addr) (rs : List Row) : Prop := ∃ as, H l = some (.lst (as.map V.ref)) ∧ TRs H as rs
theorem LR.same {H H' : Hp} {l : Addr} {rs : List Row} (h : LR H l rs) (e : Same H H') : LR H' l rs := by
  obtain ⟨as, h1, h2⟩ := h
  exact ⟨as, e _ _ h1, h2.mono e⟩
theorem ref_at {as : List Addr} {i : Nat} {x : V} (h : (as.map V.ref)[i]? = some x) : ∃ a, x = .ref a ∧ as[i]? = some a := by
  rw [List.getElem?_map] at h
  cases e : as[i]? with
  | none => rw [e] at h; cases h
  | some a => rw [e] at h; exact ⟨a, (Option.some.inj h).symm, rfl⟩
/-- a list that is none of H's grows -/
theorem LR.grow {H : Hp} {l : Addr} {as bs : List Addr} {rs qs : List Row} (h1 : H l = some (.lst (as.map V.ref))) (h2 : TRs H as rs) (h3 : TRs H bs qs) : LR (upd H l (.lst (as.map V.ref ++ bs.map V.ref))) l (rs ++ qs) := by
  refine ⟨as ++ bs, by rw [upd_same, List.map_append], ?_⟩
  have e : ∀ a r, TR H a r → TR (upd H l (.lst (as.map V.ref ++ bs.map V.ref))) a r := fun a r q => by
    unfold TR at q ⊢
    rw [upd_ne (ne_of q h1 fun z => nomatch z)]; exact q
  exact TRs.app (Paired.mapP h2 fun a r q => e a r q) (Paired.mapP h3 fun a r q => e a r q)

theorem catA_K {X : Cx} (K : PySem.W.Frag) (h : X.K = K := by rfl) : OpR X (binaryOp .Add) (rCatA K) := h ▸ op_catA

/-- [r + (s,) for s in range(S)] -/
theorem lc_ext {H1 : Hp} {D a : Addr} {r : Row} {S : Nat} {vs : List Nat} {σ : L2.St} {Qd : Hp → Prop} {te : TE} {j : Nat} (hD : H1 D = none) (tr : TR H1 a r) (hr : r.length ≤ 100) (hS : S ≤ 100) (hw : ∀ x, wipe ((wipe σ vs).set j (some x)) vs = wipe σ vs)
    (ht : ∀ (s : Int) (H : Hp) (Q : VK), TR H a r → (∀ p H', Same H H' → TR H' p (r ++ [s]) → Q (.ref p) H') → te ((wipe σ vs).set j (some (.int s))) H Q)
    (hd : ∀ H', Same H1 H' → LR H' D ((List.range S).map fun (s : Nat) => r ++ [(s : Int)]) → Qd H') :
    ∃ W : Nat → Nat → Hp → Prop, (∃ m, W 0 m (upd H1 D (.lst []))) ∧ ∀ i m H, W i m H →
      ((Itr 0 S).stop i H ∧ Qd H) ∨ ((Itr 0 S).go i H ∧ ∃ Nx : Hp → Prop, (∀ H', Nx H' → ∃ m', m' < m ∧ W (i + 1) m' H') ∧ ∀ x H', (Itr 0 S).yld i H x H' → gName j x (wipe σ vs) H' fun σ2 H2 => wipe σ2 vs = wipe σ vs ∧ tYes σ2 H2 fun b H3 =>
        if b = true then te σ2 H3 fun y H4 => ∃ acc, H4 D = some (.lst acc) ∧ acc.length < sizeLine ∧ Nx (upd H4 D (.lst (acc ++ [y]))) else Nx H3) := by
  refine lc_range (lo := 0) (n := S) (fun i H' => Same H1 H' ∧ LR H' D ((List.range i).map fun (s : Nat) => r ++ [(s : Int)])) ⟨same_new hD, [], upd_same, .nil⟩ (fun i H' hi p => ?_) (fun H' p => hd H' p.1 p.2)
  obtain ⟨p1, as, p2, p3⟩ := p
  refine ⟨hw _, lc_yes (ht _ _ _ (tr.mono p1) fun p H2 e2 t2 => ⟨_, e2 _ _ p2, ?_, same_mut (p1.trans e2) hD, ?_⟩)⟩
  · have := p3.len
    rw [List.length_map, List.length_range] at this
    rw [List.length_map, this]
    exact Nat.lt_of_lt_of_le (Nat.lt_of_lt_of_le hi hS) (by decide)
  · rw [List.range_succ, List.map_append]
    have e0 : (0 : Int) + (i : Int) = (i : Int) := Int.zero_add _
    rw [e0] at t2
    exact LR.grow (bs := [p]) (e2 _ _ p2) (p3.mono e2) (.one t2)

section
variable {P : Program} {w : World} {K : PySem.W.Frag} {mg : Str → Option Value} {base : Heap}
/-! met_rows -/
def spMetRows (P : Program) (w : World) (C : Addr) : Sp := fun vs H Q _ => ∃ (b l r : Addr) (S : Int) (A B : Nat) (kvs : List (NK × NK)) (x y : Row), vs = [.ref b, .ref l, .ref r] ∧ Bk P w C H b S A B kvs ∧ TR H l x ∧ TR H r y ∧ LenKv kvs ∧ 1 ≤ A ∧ 1 ≤ B ∧ x.length ≤ 1000 ∧ y.length ≤ 1000 ∧
  ∀ H' a, Same H H' → TR H' a (met (bF kvs) A B x y) → Q (.ref a) H'
theorem scMetRows : FnScope ["book", "one", "other", "ahead", "behind"] ["book", "one", "other"] (C8.fnScope sMetRows) := ⟨rfl, rfl, rfl, by decide +kernel, rfl, by decide +kernel, by decide +kernel⟩
theorem okMetRows {f C : Addr} {fd : FuncData} (F : C8.Def K mg "met_rows" sMetRows f fd) (b : Binds K fd ["book", "one", "other"] []) (G1 : C8.Cal P w K mg base 2 "joined_rows" (spJoinedRows P w C) []) : C8.Cal P w K mg base 3 "met_rows" (spMetRows P w C) [] := by
  refine C8.cal0 F b .nil scMetRows (fun vs H Q E h => ?_) (fun cdv A outer s H vs Q E hr h => ?_)
  · obtain ⟨b, l, r, S, A, B, kvs, x, y, rfl, _⟩ := h; rfl
  · obtain ⟨b, l, r, S, A', B, kvs, x, y, rfl, bk, tl, tr, hl, hA, hB, zx, zy, k⟩ := h
    refine ⟨_, pss_cons (ps_asg (C8.pe_c G1 hr (by decide) rfl (pa_cons (pv 0) (pa_cons (pv 1) (pa_cons (pv 2) pa_nil)))) (pg_tup rfl (pgs_cons (pg_name (i := 3) scMetRows.nd rfl (Or.inl rfl)) (pgs_cons (pg_name (i := 4) scMetRows.nd rfl (Or.inl rfl)) pgs_nil))))
      (pss_one (ps_ret (pe_op op_catA (pv 3) (pv 4)))), ?_⟩
    refine ⟨_, rfl, _, rfl, _, rfl, b, l, r, S, A', B, kvs, x, y, rfl, bk, tl, tr, hl, hA, hB, by omega, by omega, fun H1 p1 e1 pr => ?_⟩
    obtain ⟨nl, nr, h3, n1, n2⟩ := pr
    refine ⟨p1, _, rfl, SqT.of h3, rfl, _, _, rfl, _, _, rfl, rfl, ?_⟩
    refine ⟨_, rfl, _, rfl, ?_⟩
    have ml := met_len (A := A') (B := B) hl.ok x y
    rw [← join_met, List.length_append] at ml
    refine catA_go n1 n2 (by omega) fun p H2 e2 t2 => ?_
    rw [join_met] at t2
    exact k _ p (e1.trans e2) t2

/-! matters_at -/
def spMattersAt (P : Program) (w : World) (C : Addr) : Sp := fun vs H Q _ => ∃ (b l m r : Addr) (S : Int) (A B : Nat) (kvs : List (NK × NK)) (x y z : Row), vs = [.ref b, .ref l, .ref m, .ref r] ∧ Bk P w C H b S A B kvs ∧ TR H l x ∧ TR H m y ∧ TR H r z ∧ LenKv kvs ∧ 1 ≤ A ∧ 1 ≤ B ∧ x.length ≤ 100 ∧ y.length ≤ 100 ∧ z.length ≤ 100 ∧
  ∀ H' c, Same H H' → (c = true ↔ ¬ Assoc (bF kvs) A B x y z) → Q (.bl c) H'
theorem scMattersAt : FnScope ["book", "x", "y", "z"] ["book", "x", "y", "z"] (C8.fnScope sMattersAt) := ⟨rfl, rfl, rfl, by decide +kernel, rfl, by decide +kernel, by decide +kernel⟩
theorem okMattersAt {f C : Addr} {fd : FuncData} (F : C8.Def K mg "matters_at" sMattersAt f fd) (b : Binds K fd ["book", "x", "y", "z"] []) (G1 : C8.Cal P w K mg base 3 "met_rows" (spMetRows P w C) []) : C8.Cal P w K mg base 4 "matters_at" (spMattersAt P w C) [] := by
  refine C8.cal0 F b .nil scMattersAt (fun vs H Q E h => ?_) (fun cdv A outer s H vs Q E hr h => ?_)
  · obtain ⟨b, l, m, r, S, A, B, kvs, x, y, z, rfl, _⟩ := h; rfl
  · obtain ⟨b, l, m, r, S, A', B, kvs, x, y, z, rfl, bk, tl, tm, tr, hl, hA, hB, zx, zy, zz, k⟩ := h
    have lk := hl.ok
    refine ⟨_, pss_one (ps_ret (pe_cmpR (op_neD hr.units) (C8.pe_c G1 hr (by decide) rfl (pa_cons (pv 0) (pa_cons (pv 1) (pa_cons (C8.pe_c G1 hr (by decide) rfl (pa_cons (pv 0) (pa_cons (pv 2) (pa_cons (pv 3) pa_nil)))) pa_nil))))
      (C8.pe_c G1 hr (by decide) rfl (pa_cons (pv 0) (pa_cons (C8.pe_c G1 hr (by decide) rfl (pa_cons (pv 0) (pa_cons (pv 1) (pa_cons (pv 2) pa_nil)))) (pa_cons (pv 3) pa_nil)))) (nomark _))), ?_⟩
    refine ⟨_, rfl, _, rfl, _, rfl, _, rfl, _, rfl, b, m, r, S, A', B, kvs, y, z, rfl, bk, tm, tr, hl, hA, hB, by omega, by omega, fun H1 p1 e1 t1 => ?_⟩
    have l1 := met_len (A := A') (B := B) lk y z
    refine ⟨b, l, p1, S, A', B, kvs, x, _, rfl, bk.same e1, tl.mono e1, t1, hl, hA, hB, by omega, by omega, fun H2 p2 e2 t2 => ?_⟩
    have e12 := e1.trans e2
    have l2 := met_len (A := A') (B := B) lk x y
    refine ⟨_, rfl, _, rfl, _, rfl, _, rfl, b, l, m, S, A', B, kvs, x, y, rfl, bk.same e12, tl.mono e12, tm.mono e12, hl, hA, hB, by omega, by omega, fun H3 p3 e3 t3 => ?_⟩
    have e13 := e12.trans e3
    refine ⟨_, rfl, b, p3, r, S, A', B, kvs, _, z, rfl, bk.same e13, t3, tr.mono e13, hl, hA, hB, by omega, by omega, fun H4 p4 e4 t4 => ?_⟩
    refine ⟨_, _, (t2.mono (e3.trans e4)).dp, t4.dp, shaped_tup _, shaped_tup _, ?_⟩
    rw [eqv_tup]
    refine k _ _ (e13.trans e4) ?_
    unfold Assoc
    rw [Bool.not_eq_true', decide_eq_false_iff_not]

/-! Book.reach -/
def spReach (P : Program) (w : World) (C : Addr) : Sp := fun vs H Q _ => ∃ (b : Addr) (S A B : Int) (kvs : List (NK × NK)), vs = [.ref b] ∧ Bk P w C H b S A B kvs ∧ Q (.int (A + B)) H
theorem scReach : FnScope ["self"] ["self"] (C8.fnScope sBkReach) := ⟨rfl, rfl, rfl, by decide +kernel, rfl, by decide +kernel, by decide +kernel⟩
theorem okReach {f C : Addr} {fd : FuncData} (F : C8.Fun K "reach" "Book.reach" sBkReach f fd) (b : Binds K fd ["self"] []) (me : Meth K C "reach" f) (T : TxB K C) : C8.Met P w K mg base 1 C "reach" (spReach P w C) [] := by
  refine C8.met0 T.cl me F b scReach (fun vs H Q E h => ?_) (fun cdv A outer s H vs Q E hr h => ?_)
  · obtain ⟨b, S, A, B, kvs, rfl, _⟩ := h; rfl
  · obtain ⟨b, S, A', B, kvs, rfl, ⟨dx, d, hb, nd⟩, k⟩ := h
    refine ⟨_, pss_one (ps_ret (pe_op op_add (pe_fld (pv 0) rfl) (pe_fld (pv 0) rfl))), ?_⟩
    exact ⟨_, rfl, b, C, dx, _, _, rfl, hb, T.cl, T.nA, rfl, _, rfl, b, C, dx, _, _, rfl, hb, T.cl, T.nB, rfl, _, _, rfl, rfl, k⟩

/-! rows_many -/
def spRowsMany : Sp := fun vs H Q _ => ∃ (S : Int) (m : Nat), vs = [.int S, .int m] ∧ 1 ≤ S ∧ S ≤ 3 ∧ m ≤ 3 ∧ ∀ v : Int, 0 ≤ v → 2 * v + 3 ≤ 3 * (3 : Int) ^ m → Q (.int v) H
theorem scRowsMany : FnScope ["sounds", "most", "total", "power", "_"] ["sounds", "most"] (C8.fnScope sRowsMany) := ⟨rfl, rfl, rfl, by decide +kernel, rfl, by decide +kernel, by decide +kernel⟩
theorem okRowsMany {f : Addr} {fd : FuncData} (F : C8.Def K mg "rows_many" sRowsMany f fd) (b : Binds K fd ["sounds", "most"] []) (g : Gb mg) : C8.Cal P w K mg base 1 "rows_many" spRowsMany [] := by
  refine C8.cal0 F b .nil scRowsMany (fun vs H Q E h => ?_) (fun cdv A outer s H vs Q E hr h => ?_)
  · obtain ⟨S, m, rfl, _⟩ := h; rfl
  · obtain ⟨S, m, rfl, s1, s2, hm, k⟩ := h
    refine ⟨_, pss_cons (ps_set (i := 2) scRowsMany.nd rfl (Or.inl rfl) pe_int) (pss_cons (ps_set (i := 3) scRowsMany.nd rfl (Or.inl rfl) pe_int)
      (pss_cons (ps_for PassesOwn.never rfl (pi_range1 rfl g.range (pa_cons (pv 1) pa_nil)) (pg_name (i := 4) scRowsMany.nd rfl (Or.inl rfl))
        (pss_cons (ps_set (i := 3) scRowsMany.nd rfl (Or.inl rfl) (pe_op op_mul (pv 3) (pv 0))) (pss_one (ps_aug (i := 2) scRowsMany.nd rfl (Or.inl rfl) (pv 3) ip_add))))
      (pss_one (ps_ret (pv 2))))), ?_⟩
    refine ⟨_, rfl, _, rfl, by omega, by omega, for_range (n := m) (fun i σ H' => H' = H ∧ ∃ (t p : Int) (v : Option V), σ = [some (.int S), some (.int m), some (.int t), some (.int p), v] ∧ 0 ≤ t ∧ 1 ≤ p ∧ p ≤ (3 : Int) ^ i ∧ 2 * t + 3 ≤ 3 * (3 : Int) ^ i)
      ⟨rfl, 0, 1, none, rfl, by decide, by decide, by decide, by decide⟩ (fun i σ H' hi p => ?_) (fun σ H' p => ?_)⟩
    · obtain ⟨rfl, t, p, v, rfl, q1, q2, q3, q4⟩ := p
      have h9 : (3 : Int) ^ i ≤ 9 := by
        have : i = 0 ∨ i = 1 ∨ i = 2 := by omega
        rcases this with rfl | rfl | rfl <;> decide
      have hps : p * S ≤ p * 3 := Int.mul_le_mul_of_nonneg_left s2 (by omega)
      have hp1 : p * 1 ≤ p * S := Int.mul_le_mul_of_nonneg_left s1 (by omega)
      have h3 : (3 : Int) ^ (i + 1) = 3 * 3 ^ i := by rw [Int.pow_succ, Int.mul_comm]
      refine ⟨_, rfl, _, rfl, _, _, rfl, rfl, .inl ⟨by omega, by omega⟩, ?_⟩
      refine ⟨_, rfl, _, rfl, _, _, rfl, rfl, rfl, _, _, _, rfl, ?_, ?_, ?_, ?_⟩
      · show 0 ≤ t + p * S
        omega
      · omega
      · rw [h3]; omega
      · show 2 * (t + p * S) + 3 ≤ 3 * (3 : Int) ^ (i + 1)
        rw [h3]; omega
    · obtain ⟨rfl, t, p, v, rfl, q1, q2, q3, q4⟩ := p
      exact ⟨_, rfl, k t q1 q4⟩
end
end K66
namespace K66
open PySem L2

theorem LR.new {H H' : Hp} {l p : Addr} {o : HO} {rs : List Row} (h : LR H l rs) (hp : H p = none) : LR (upd H p o) l rs := h.same (same_new hp)
/-- another list, none of H's, changes -/
theorem LR.other {H : Hp} {l q : Addr} {xs ys : List V} {rs : List Row} (h : LR H l rs) (hq : H q = some (.lst xs)) (ne : l ≠ q) : LR (upd H q (.lst ys)) l rs := by
  obtain ⟨as, h1, h2⟩ := h
  refine ⟨as, by rw [upd_ne ne]; exact h1, Paired.mapP h2 fun a r t => ?_⟩
  unfold TR at t ⊢
  rw [upd_ne (ne_of t hq fun z => nomatch z)]; exact t
theorem LR.len {H : Hp} {l : Addr} {rs : List Row} (h : LR H l rs) {xs : List V} (e : H l = some (.lst xs)) : xs.length = rs.length := by
  obtain ⟨as, h1, h2⟩ := h
  have := Option.some.inj (e.symm.trans h1)
  injection this with this
  rw [this, List.length_map]
  exact h2.len

section
variable {P : Program} {w : World} {K : PySem.W.Frag} {mg : Str → Option Value} {base : Heap}
/-! rows_to -/
def spRowsTo : Sp := fun vs H Q _ => ∃ (S m : Nat), vs = [.int S, .int m] ∧ S ≤ 3 ∧ m ≤ 3 ∧ ∀ H' p, Same H H' → H p = none → LR H' p (rowsT S m) → Q (.ref p) H'
theorem scRowsTo : FnScope ["sounds", "most", "found", "last", "_", "longer", "row", "sound"] ["sounds", "most"] (C8.fnScope sRowsTo) := ⟨rfl, rfl, rfl, by decide +kernel, rfl, by decide +kernel, by decide +kernel⟩
theorem okRowsTo {f : Addr} {fd : FuncData} (F : C8.Def K mg "rows_to" sRowsTo f fd) (b : Binds K fd ["sounds", "most"] []) (g : Gb mg) : C8.Cal P w K mg base 1 "rows_to" spRowsTo [] := by
  refine C8.cal0 F b .nil scRowsTo (fun vs H Q E h => ?_) (fun cdv A outer s H vs Q E hr h => ?_)
  · obtain ⟨S, m, rfl, _⟩ := h; rfl
  · obtain ⟨S, m, rfl, hS, hm, k⟩ := h
    refine ⟨_, pss_cons (ps_set (i := 2) scRowsTo.nd rfl (Or.inl rfl) (pe_lst pa_nil)) (pss_cons (ps_set (i := 3) scRowsTo.nd rfl (Or.inl rfl) (pe_lst (pa_cons (pe_tup pa_nil) pa_nil)))
      (pss_cons (ps_for PassesOwn.never rfl (pi_range1 rfl g.range (pa_cons (pv 1) pa_nil)) (pg_name (i := 4) scRowsTo.nd rfl (Or.inl rfl))
        (pss_cons (ps_set (i := 5) scRowsTo.nd rfl (Or.inl rfl) (pe_lst pa_nil))
        (pss_cons (ps_for PassesOwn.never rfl (pi_list (pv 3)) (pg_name (i := 6) scRowsTo.nd rfl (Or.inr rfl))
          (pss_one (ps_expr (pe_bm PySem.F.plainAttrs_list PySem.F.slot_list_extend PySem.F.type_list_extend mt_extend (pv 5) (pa_cons
            (pe_lc (own := [("sound", 7)]) (g := gName 7) (tt := tYes) rfl scRowsTo.nd (pi_range1 rfl g.range (pa_cons (pv 0) pa_nil)) (blkOk_by (N := ["sounds", "most", "found", "last", "_", "longer", "row", "sound"]) (sc := C8.fnScope sRowsTo) (by decide +kernel))
              (fun _ _ _ _ _ => pg_name (i := 7) scRowsTo.nd rfl (Or.inl rfl)) (fun _ _ _ _ _ => pts_nil) (fun _ _ _ _ _ => pe_op (catA_K K) (pv 6) (pe_tup (pa_cons (pv 7) pa_nil)))) pa_nil)))))
        (pss_cons (ps_expr (pe_bm PySem.F.plainAttrs_list PySem.F.slot_list_extend PySem.F.type_list_extend mt_extend (pv 2) (pa_cons (pv 5) pa_nil)))
        (pss_one (ps_set (i := 3) scRowsTo.nd rfl (Or.inl rfl) (pv 5)))))))
      (pss_one (ps_ret (pv 2))))), ?_⟩
    refine ⟨Nat.zero_le _, fun pf nf => ?_⟩
    refine ⟨by show 0 ≤ sizeLine; decide, fun t0 n0 => ?_⟩
    refine ⟨by show 1 ≤ sizeLine; decide, fun pl nl => ?_⟩
    have e1 := same_new (o := .lst []) nf
    have e2 := same_snew (o := .tup []) e1 n0
    have e3 := same_snew (o := .lst [.ref t0]) e2 nl
    have nfl : pf ≠ pl := fun z => by rw [← z, upd_ne (fun z => by rw [← z, upd_same] at n0; cases n0), upd_same] at nl; cases nl
    have hl0 : H pl = none := by
      cases q : H pl with
      | none => rfl
      | some u => rw [e2 _ _ q] at nl; cases nl
    refine ⟨_, rfl, _, rfl, by omega, by omega, for_range (n := m) (fun i σ H' => Same H H' ∧ ∃ (pl : Addr) (v1 v2 v3 : Option V), σ = [some (.int S), some (.int m), some (.ref pf), some (.ref pl), v1, v2, v3, none] ∧ H pl = none ∧ pf ≠ pl ∧ LR H' pf (rowsT S i) ∧ LR H' pl (lastR S i))
      ⟨e3, pl, none, none, none, rfl, hl0, nfl, ⟨[], ?_, .nil⟩, ⟨[t0], upd_same, .one ?_⟩⟩ (fun i σ H' hi p => ?_) (fun σ H' p => ?_)⟩
    · rw [upd_ne nfl, upd_ne (fun z => by rw [← z, upd_same] at n0; cases n0), upd_same]; rfl
    · unfold TR; rw [upd_ne (fun z => by rw [← z, upd_same] at nl; cases nl), upd_same]; rfl
    · obtain ⟨e, pl, v1, v2, v3, rfl, hl0, nfl, lf, ll⟩ := p
      obtain ⟨as, ea, ta⟩ := id ll
      have las := ta.len
      rw [lastR_len] at las
      have lm := pow3 hS (k := i) (by omega)
      refine ⟨Nat.zero_le _, fun pg ng => ?_⟩
      have eg := same_new (o := .lst []) ng
      have hg0 : H pg = none := Same.free e ng
      have nfg : pf ≠ pg := fun z => by obtain ⟨bs, q, _⟩ := lf; rw [z, ng] at q; cases q
      have nlg : pl ≠ pg := fun z => by rw [z, ng] at ea; cases ea
      refine ⟨_, rfl, pl, rfl, ⟨_, SqL.of (eg _ _ ea)⟩, for_list (K := K) (a := pl) (xs := as.map V.ref) (fun j σ H2 => Same H' H2 ∧ (∃ v4 v5 : Option V, σ = [some (.int S), some (.int m), some (.ref pf), some (.ref pl), v4, some (.ref pg), v5, none]) ∧ LR H2 pg (ext1 S ((lastR S i).take j)))
        ⟨eg, ⟨_, _, rfl⟩, [], upd_same, .nil⟩ (fun j σ H2 _ q => SqL.of (q.1 _ _ ea)) (fun j x σ H2 hx q => ?_) (fun σ H2 q => ?_)⟩
      · obtain ⟨q1, ⟨v4, v5, rfl⟩, q3⟩ := q
        obtain ⟨a, rfl, ha⟩ := ref_at hx
        obtain ⟨r, hr, tr⟩ := ta.get ha
        have hj := (List.getElem?_eq_some_iff.mp hr).1
        have lr := (mem_lastR.mp (List.mem_of_getElem? hr)).1
        obtain ⟨bs, eb, tb⟩ := q3
        have lb := tb.len
        rw [ext1_len] at lb
        have mb : ((lastR S i).take j).length ≤ 27 := by rw [List.length_take, lastR_len]; omega
        refine ⟨_, rfl, .inl ⟨rfl, _, SqL.of eb⟩, ?_⟩
        refine ⟨_, rfl, _, rfl, by omega, by omega, fun D hD => ?_⟩
        refine lc_ext (j := 7) (r := r) hD (tr.mono q1) (by omega) (by omega) (fun x => rfl) (fun z H3 Q' t3 k3 => ?_) (fun H3 e3 l3 => ?_)
        · refine ⟨_, rfl, _, rfl, by show 1 ≤ sizeLine; decide, fun p4 n4 => ?_⟩
          refine catA_go (t3.mono (same_new n4)) (y := [z]) upd_same (by show r.length + 1 ≤ 100000; omega) fun p5 H5 e5 t5 => ?_
          exact k3 p5 H5 ((same_new n4).trans e5) t5
        · obtain ⟨cs, ec, tc⟩ := l3
          have lc := tc.len
          rw [List.length_map, List.length_range] at lc
          have hS' : ((lastR S i).take j).length * S ≤ 27 * 3 := Nat.mul_le_mul mb hS
          refine ⟨pg, D, _, _, rfl, rfl, e3 _ _ eb, ec, ?_, ?_⟩
          · rw [List.length_map, List.length_map, lb, lc]
            exact Nat.le_trans (show _ ≤ 100 by omega) (by decide)
          · refine ⟨same_mut (q1.trans e3) ng, ⟨_, _, rfl⟩, ?_⟩
            have et : (lastR S i).take (j + 1) = (lastR S i).take j ++ [r] := by rw [List.take_add_one, hr]; rfl
            rw [et]
            have ee : ext1 S ((lastR S i).take j ++ [r]) = ext1 S ((lastR S i).take j) ++ (List.range S).map fun (s : Nat) => r ++ [(s : Int)] := by
              unfold ext1; rw [List.flatMap_append, List.flatMap_cons, List.flatMap_nil, List.append_nil]
            rw [ee]
            exact LR.grow (e3 _ _ eb) (tb.mono e3) tc
      · obtain ⟨q1, ⟨v4, v5, rfl⟩, q3⟩ := q
        rw [List.length_map, ta.len, List.take_length] at q3
        have q3' : LR H2 pg (lastR S (i + 1)) := q3
        have f2 : LR H2 pf (rowsT S i) := lf.same q1
        obtain ⟨bs, eb, tb⟩ := id q3'
        obtain ⟨fs, ef, tf⟩ := id f2
        have h1 := rowsT_len hS (k := i) (by omega)
        have h2 := pow3 hS (k := i + 1) (by omega)
        have h3 := tb.len
        rw [lastR_len] at h3
        have h4 := tf.len
        refine ⟨_, rfl, .inl ⟨rfl, _, SqL.of ef⟩, _, rfl, pf, pg, _, _, rfl, rfl, ef, eb, ?_, ?_⟩
        · rw [List.length_map, List.length_map, h3, h4]
          exact Nat.le_trans (show _ ≤ 200 by omega) (by decide)
        · refine ⟨_, rfl, same_mut (e.trans q1) nf, pg, _, _, _, rfl, hg0, nfg, LR.grow ef tf tb, q3'.other ef nfg.symm⟩
    · obtain ⟨e, pl, v1, v2, v3, rfl, hl0, nfl, lf, ll⟩ := p
      exact ⟨_, rfl, k _ pf e nf lf⟩
end
end K66
namespace K66
open PySem L2
section
variable {P : Program} {w : World} {K : PySem.W.Frag} {mg : Str → Option Value} {base : Heap}
/-! _law_rows -/
def spLRows : Sp := fun vs H Q _ => ∃ (S m : Nat), vs = [.int S, .int m] ∧ S ≤ 3 ∧ m ≤ 3 ∧ ∀ H' p, Same H H' → H p = none → LR H' p (rowsT S m) → Q (.ref p) H'
theorem scLRows : FnScope ["_law_sounds", "_law_most", "_law_found", "_law_last", "_law_k", "_law_longer", "_law_row_here", "_law_sound"] ["_law_sounds", "_law_most"] (C8.fnScope sRows) := ⟨rfl, rfl, rfl, by decide +kernel, rfl, by decide +kernel, by decide +kernel⟩
theorem okLRows {f : Addr} {fd : FuncData} (F : C8.Def K mg "_law_rows" sRows f fd) (b : Binds K fd ["_law_sounds", "_law_most"] []) (g : Gb mg) : C8.Cal P w K mg base 1 "_law_rows" spLRows [] := by
  refine C8.cal0 F b .nil scLRows (fun vs H Q E h => ?_) (fun cdv A outer s H vs Q E hr h => ?_)
  · obtain ⟨S, m, rfl, _⟩ := h; rfl
  · obtain ⟨S, m, rfl, hS, hm, k⟩ := h
    refine ⟨_, pss_cons (ps_set (i := 2) scLRows.nd rfl (Or.inl rfl) (pe_lst pa_nil)) (pss_cons (ps_set (i := 3) scLRows.nd rfl (Or.inl rfl) (pe_lst (pa_cons (pe_tup pa_nil) pa_nil)))
      (pss_cons (ps_for PassesOwn.never rfl (pi_range1 rfl g.range (pa_cons (pv 1) pa_nil)) (pg_name (i := 4) scLRows.nd rfl (Or.inl rfl))
        (pss_cons (ps_set (i := 5) scLRows.nd rfl (Or.inl rfl) (pe_lst pa_nil))
        (pss_cons (ps_for PassesOwn.never rfl (pi_list (pv 3)) (pg_name (i := 6) scLRows.nd rfl (Or.inr rfl))
          (pss_one (ps_expr (pe_bm PySem.F.plainAttrs_list PySem.F.slot_list_extend PySem.F.type_list_extend mt_extend (pv 5) (pa_cons
            (pe_lc (own := [("_law_sound", 7)]) (g := gName 7) (tt := tYes) rfl scLRows.nd (pi_range1 rfl g.range (pa_cons (pv 0) pa_nil)) (blkOk_by (N := ["_law_sounds", "_law_most", "_law_found", "_law_last", "_law_k", "_law_longer", "_law_row_here", "_law_sound"]) (sc := C8.fnScope sRows) (by decide +kernel))
              (fun _ _ _ _ _ => pg_name (i := 7) scLRows.nd rfl (Or.inl rfl)) (fun _ _ _ _ _ => pts_nil) (fun _ _ _ _ _ => pe_op (catA_K K) (pv 6) (pe_tup (pa_cons (pv 7) pa_nil)))) pa_nil)))))
        (pss_cons (ps_set (i := 2) scLRows.nd rfl (Or.inl rfl) (pe_op op_cat (pv 2) (pv 5)))
        (pss_one (ps_set (i := 3) scLRows.nd rfl (Or.inl rfl) (pv 5)))))))
      (pss_one (ps_ret (pv 2))))), ?_⟩
    refine ⟨Nat.zero_le _, fun pf nf => ?_⟩
    refine ⟨by show 0 ≤ sizeLine; decide, fun t0 n0 => ?_⟩
    refine ⟨by show 1 ≤ sizeLine; decide, fun pl nl => ?_⟩
    have e1 := same_new (o := .lst []) nf
    have e2 := same_snew (o := .tup []) e1 n0
    have e3 := same_snew (o := .lst [.ref t0]) e2 nl
    have nfl : pf ≠ pl := fun z => by rw [← z, upd_ne (fun z => by rw [← z, upd_same] at n0; cases n0), upd_same] at nl; cases nl
    have hl0 : H pl = none := by
      cases q : H pl with
      | none => rfl
      | some u => rw [e2 _ _ q] at nl; cases nl
    refine ⟨_, rfl, _, rfl, by omega, by omega, for_range (n := m) (fun i σ H' => Same H H' ∧ ∃ (pf pl : Addr) (v1 v2 v3 : Option V), σ = [some (.int S), some (.int m), some (.ref pf), some (.ref pl), v1, v2, v3, none] ∧ H pf = none ∧ H pl = none ∧ pf ≠ pl ∧ LR H' pf (rowsT S i) ∧ LR H' pl (lastR S i))
      ⟨e3, pf, pl, none, none, none, rfl, nf, hl0, nfl, ⟨[], ?_, .nil⟩, ⟨[t0], upd_same, .one ?_⟩⟩ (fun i σ H' hi p => ?_) (fun σ H' p => ?_)⟩
    · rw [upd_ne nfl, upd_ne (fun z => by rw [← z, upd_same] at n0; cases n0), upd_same]; rfl
    · unfold TR; rw [upd_ne (fun z => by rw [← z, upd_same] at nl; cases nl), upd_same]; rfl
    · obtain ⟨e, pf, pl, v1, v2, v3, rfl, nf, hl0, nfl, lf, ll⟩ := p
      obtain ⟨as, ea, ta⟩ := id ll
      have las := ta.len
      rw [lastR_len] at las
      have lm := pow3 hS (k := i) (by omega)
      refine ⟨Nat.zero_le _, fun pg ng => ?_⟩
      have eg := same_new (o := .lst []) ng
      have hg0 : H pg = none := Same.free e ng
      have nfg : pf ≠ pg := fun z => by obtain ⟨bs, q, _⟩ := lf; rw [z, ng] at q; cases q
      have nlg : pl ≠ pg := fun z => by rw [z, ng] at ea; cases ea
      refine ⟨_, rfl, pl, rfl, ⟨_, SqL.of (eg _ _ ea)⟩, for_list (K := K) (a := pl) (xs := as.map V.ref) (fun j σ H2 => Same H' H2 ∧ (∃ v4 v5 : Option V, σ = [some (.int S), some (.int m), some (.ref pf), some (.ref pl), v4, some (.ref pg), v5, none]) ∧ LR H2 pg (ext1 S ((lastR S i).take j)))
        ⟨eg, ⟨_, _, rfl⟩, [], upd_same, .nil⟩ (fun j σ H2 _ q => SqL.of (q.1 _ _ ea)) (fun j x σ H2 hx q => ?_) (fun σ H2 q => ?_)⟩
      · obtain ⟨q1, ⟨v4, v5, rfl⟩, q3⟩ := q
        obtain ⟨a, rfl, ha⟩ := ref_at hx
        obtain ⟨r, hr, tr⟩ := ta.get ha
        have hj := (List.getElem?_eq_some_iff.mp hr).1
        have lr := (mem_lastR.mp (List.mem_of_getElem? hr)).1
        obtain ⟨bs, eb, tb⟩ := q3
        have lb := tb.len
        rw [ext1_len] at lb
        have mb : ((lastR S i).take j).length ≤ 27 := by rw [List.length_take, lastR_len]; omega
        refine ⟨_, rfl, .inl ⟨rfl, _, SqL.of eb⟩, ?_⟩
        refine ⟨_, rfl, _, rfl, by omega, by omega, fun D hD => ?_⟩
        refine lc_ext (j := 7) (r := r) hD (tr.mono q1) (by omega) (by omega) (fun x => rfl) (fun z H3 Q' t3 k3 => ?_) (fun H3 e3 l3 => ?_)
        · refine ⟨_, rfl, _, rfl, by show 1 ≤ sizeLine; decide, fun p4 n4 => ?_⟩
          refine catA_go (t3.mono (same_new n4)) (y := [z]) upd_same (by show r.length + 1 ≤ 100000; omega) fun p5 H5 e5 t5 => ?_
          exact k3 p5 H5 ((same_new n4).trans e5) t5
        · obtain ⟨cs, ec, tc⟩ := l3
          have lc := tc.len
          rw [List.length_map, List.length_range] at lc
          have hS' : ((lastR S i).take j).length * S ≤ 27 * 3 := Nat.mul_le_mul mb hS
          refine ⟨pg, D, _, _, rfl, rfl, e3 _ _ eb, ec, ?_, ?_⟩
          · rw [List.length_map, List.length_map, lb, lc]
            exact Nat.le_trans (show _ ≤ 100 by omega) (by decide)
          · refine ⟨same_mut (q1.trans e3) ng, ⟨_, _, rfl⟩, ?_⟩
            have et : (lastR S i).take (j + 1) = (lastR S i).take j ++ [r] := by rw [List.take_add_one, hr]; rfl
            rw [et]
            have ee : ext1 S ((lastR S i).take j ++ [r]) = ext1 S ((lastR S i).take j) ++ (List.range S).map fun (s : Nat) => r ++ [(s : Int)] := by
              unfold ext1; rw [List.flatMap_append, List.flatMap_cons, List.flatMap_nil, List.append_nil]
            rw [ee]
            exact LR.grow (e3 _ _ eb) (tb.mono e3) tc
      · obtain ⟨q1, ⟨v4, v5, rfl⟩, q3⟩ := q
        rw [List.length_map, ta.len, List.take_length] at q3
        have q3' : LR H2 pg (lastR S (i + 1)) := q3
        have f2 : LR H2 pf (rowsT S i) := lf.same q1
        obtain ⟨bs, eb, tb⟩ := id q3'
        obtain ⟨fs, ef, tf⟩ := id f2
        have h1 := rowsT_len hS (k := i) (by omega)
        have h2 := pow3 hS (k := i + 1) (by omega)
        have h3 := tb.len
        rw [lastR_len] at h3
        have h4 := tf.len
        refine ⟨_, rfl, _, rfl, pf, pg, _, _, rfl, rfl, ef, eb, ?_, fun pn nn => ?_⟩
        · rw [List.length_map, List.length_map, h3, h4]
          exact Nat.le_trans (show _ ≤ 200 by omega) (by decide)
        · have en := same_new (o := .lst (fs.map V.ref ++ bs.map V.ref)) nn
          have npn : pn ≠ pg := fun z => by rw [z, eb] at nn; cases nn
          refine ⟨_, rfl, (e.trans q1).trans en, pn, pg, _, _, _, rfl, Same.free (e.trans q1) nn, hg0, npn, ⟨fs ++ bs, by rw [upd_same, List.map_append], (tf.mono en).app (tb.mono en)⟩, q3'.same en⟩
    · obtain ⟨e, pf, pl, v1, v2, v3, rfl, nf, hl0, nfl, lf, ll⟩ := p
      exact ⟨_, rfl, k _ pf e nf lf⟩
end
end K66
namespace K66
open PySem L2

/-- what leans on tuples alone -/
def TMono {α : Type} (Pr : Hp → Addr → α → Prop) : Prop := ∀ (H H' : Hp) (a : Addr) (x : α), (∀ b ys, H b = some (.tup ys) → H' b = some (.tup ys)) → Pr H a x → Pr H' a x
theorem TR.tm : TMono TR := fun _ _ _ _ e h => e _ _ h
/-- a list of such things stands at l -/
def LP {α : Type} (Pr : Hp → Addr → α → Prop) (H : Hp) (l : Addr) (xs : List α) : Prop := ∃ as : List Addr, H l = some (.lst (as.map V.ref)) ∧ Paired (Pr H) as xs
theorem paired_app {α β : Type} {F : α → β → Prop} : ∀ {a b : List α} {c d : List β}, Paired F a c → Paired F b d → Paired F (a ++ b) (c ++ d)
  | _, _, _, _, .nil, h => h
  | _, _, _, _, .cons r t, h => .cons r (paired_app t h)
section
variable {α β : Type} {Pr : Hp → Addr → α → Prop} {Pr2 : Hp → Addr → β → Prop} {H H' : Hp} {l : Addr} {xs : List α}
theorem LP.tups (m : TMono Pr) (h : LP Pr H l xs) (e : ∀ b ys, H b = some (.tup ys) → H' b = some (.tup ys)) (el : H' l = H l) : LP Pr H' l xs := by
  obtain ⟨as, h1, h2⟩ := h
  exact ⟨as, el.trans h1, Paired.mapP h2 fun _ _ q => m _ _ _ _ e q⟩
theorem LP.same (m : TMono Pr) (h : LP Pr H l xs) (e : Same H H') : LP Pr H' l xs := by
  obtain ⟨as, h1, h2⟩ := h
  exact ⟨as, e _ _ h1, Paired.mapP h2 fun _ _ q => m _ _ _ _ (fun b ys z => e b _ z) q⟩
theorem LP.other {q : Addr} {zs ys : List V} (m : TMono Pr) (h : LP Pr H l xs) (hq : H q = some (.lst zs)) (ne : l ≠ q) : LP Pr (upd H q (.lst ys)) l xs :=
  h.tups m (fun b ws z => by rw [upd_ne (ne_of z hq fun z => nomatch z)]; exact z) (upd_ne ne)
theorem LP.grow {as bs : List Addr} {ys : List α} (m : TMono Pr) (h1 : H l = some (.lst (as.map V.ref))) (h2 : Paired (Pr H) as xs) (h3 : Paired (Pr H) bs ys) : LP Pr (upd H l (.lst (as.map V.ref ++ bs.map V.ref))) l (xs ++ ys) := by
  have e : ∀ b zs, H b = some (.tup zs) → upd H l (.lst (as.map V.ref ++ bs.map V.ref)) b = some (.tup zs) := fun b zs z => by rw [upd_ne (ne_of z h1 fun z => nomatch z)]; exact z
  exact ⟨as ++ bs, by rw [upd_same, List.map_append], paired_app (Paired.mapP h2 fun a r q => m _ _ _ _ e q) (Paired.mapP h3 fun a r q => m _ _ _ _ e q)⟩
/-- [f(x) for x in l], each a thing that leans on tuples -/
theorem lc_mapL {K : PySem.W.Frag} (m1 : TMono Pr) (m2 : TMono Pr2) {D : Addr} (f : α → β) {vs : List Nat} {σ : L2.St} {Qd : Hp → Prop} {te : TE} {j : Nat} (hD : H D = none) (hl : LP Pr H l xs) (hz : xs.length ≤ 100000) (hw : ∀ x, wipe ((wipe σ vs).set j (some x)) vs = wipe σ vs)
    (ht : ∀ (p : Addr) (x : α) (H1 : Hp) (Q : VK), Same H H1 → Pr H1 p x → x ∈ xs → (∀ q H', Same H1 H' → Pr2 H' q (f x) → Q (.ref q) H') → te ((wipe σ vs).set j (some (.ref p))) H1 Q)
    (hd : ∀ H', Same H H' → LP Pr2 H' D (xs.map f) → Qd H') :
    ∃ W : Nat → Nat → Hp → Prop, (∃ m, W 0 m (upd H D (.lst []))) ∧ ∀ i m H, W i m H →
      ((Itl K l).stop i H ∧ Qd H) ∨ ((Itl K l).go i H ∧ ∃ Nx : Hp → Prop, (∀ H', Nx H' → ∃ m', m' < m ∧ W (i + 1) m' H') ∧ ∀ x H', (Itl K l).yld i H x H' → gName j x (wipe σ vs) H' fun σ2 H2 => wipe σ2 vs = wipe σ vs ∧ tYes σ2 H2 fun b H3 =>
        if b = true then te σ2 H3 fun y H4 => ∃ acc, H4 D = some (.lst acc) ∧ acc.length < sizeLine ∧ Nx (upd H4 D (.lst (acc ++ [y]))) else Nx H3) := by
  obtain ⟨as, h1, h2⟩ := hl
  have len := Paired.length h2
  refine lc_list (K := K) (a := l) (xs := as.map V.ref) (fun i H' => Same H H' ∧ LP Pr2 H' D ((xs.take i).map f)) ⟨same_new hD, [], upd_same, .nil⟩ (fun i H' _ p => SqL.of (p.1 _ _ h1)) (fun i x H' hx p => ?_) (fun H' p => hd H' p.1 ?_)
  · obtain ⟨p1, bs, p2, p3⟩ := p
    obtain ⟨a, rfl, ha⟩ := ref_at hx
    obtain ⟨x, hx', px⟩ := paired_get h2 ha
    have hi := (List.getElem?_eq_some_iff.mp hx').1
    have l3 := Paired.length p3
    rw [List.length_map, List.length_take] at l3
    refine ⟨hw _, lc_yes (ht a x H' _ p1 (m1 _ _ _ _ (fun b ys z => p1 b _ z) px) (List.mem_of_getElem? hx') fun q H2 e2 t2 => ⟨_, e2 _ _ p2, ?_, same_mut (p1.trans e2) hD, ?_⟩)⟩
    · rw [List.length_map, l3]
      exact Nat.lt_of_lt_of_le (show min i xs.length < 100001 by omega) (by decide)
    · have et : (xs.take (i + 1)).map f = (xs.take i).map f ++ [f x] := by rw [List.take_add_one, hx', List.map_append]; rfl
      rw [et]
      exact LP.grow (bs := [q]) m2 (e2 _ _ p2) (Paired.mapP p3 fun a r z => m2 _ _ _ _ (fun b ys z => e2 b _ z) z) (.cons t2 .nil)
  · have p2 := p.2
    rw [List.length_map, len, List.take_length] at p2
    exact p2
end
/-- three rows at a -/
def T3 (H : Hp) (a : Addr) (t : Row × Row × Row) : Prop := ∃ l m r, H a = some (.tup [.ref l, .ref m, .ref r]) ∧ TR H l t.1 ∧ TR H m t.2.1 ∧ TR H r t.2.2
theorem T3.tm : TMono T3 := fun _ _ _ _ e h => by
  obtain ⟨l, m, r, h1, h2, h3, h4⟩ := h
  exact ⟨l, m, r, e _ _ h1, e _ _ h2, e _ _ h3, e _ _ h4⟩
theorem fld_K {X : Cx} (K : PySem.W.Frag) {e : Expr} {f : Str} {ta : TE} {pos : Pos} (he : PE X e ta) (hb : attributeBase e f X.env (eval e X.env) = eval e X.env) (h : X.K = K := by rfl) : PE X (.Attribute e f pos) (tFld K ta f) := h ▸ pe_fld he hb

section
variable {P : Program} {w : World} {K : PySem.W.Frag} {mg : Str → Option Value} {base : Heap}
/-! triples -/
def spTriples (P : Program) (w : World) (C : Addr) : Sp := fun vs H Q _ => ∃ (b : Addr) (S A B : Nat) (kvs : List (NK × NK)), vs = [.ref b] ∧ Bk P w C H b S A B kvs ∧ 1 ≤ S ∧ S ≤ 3 ∧ 1 ≤ A ∧ A ≤ 2 ∧ 1 ≤ B ∧ B ≤ 2 ∧
  ∀ H' p, Same H H' → H p = none → LP T3 H' p (tripsOf (rowsT S A) (rowsT S (A + B - 1)) (rowsT S B)) → Q (.ref p) H'
theorem scTriples : FnScope ["book", "sizes", "many", "size", "rows", "found", "x", "y", "z"] ["book"] (C8.fnScope sTriples) := ⟨rfl, rfl, rfl, by decide +kernel, rfl, by decide +kernel, by decide +kernel⟩
theorem okTriples {f C : Addr} {fd : FuncData} (F : C8.Def K mg "triples" sTriples f fd) (b : Binds K fd ["book"] []) (g : Gb mg) (T : TxB K C) (gM : ∃ t, mg "MOST_TRIPLES" = some (.int 20000 t)) (G1 : C8.Met P w K mg base 1 C "reach" (spReach P w C) []) (G2 : C8.Cal P w K mg base 1 "rows_many" spRowsMany []) (G3 : C8.Cal P w K mg base 1 "rows_to" spRowsTo []) : C8.Cal P w K mg base 2 "triples" (spTriples P w C) [] := by
  obtain ⟨tM, gM⟩ := gM
  refine C8.cal0 F b .nil scTriples (fun vs H Q E h => ?_) (fun cdv A outer s H vs Q E hr h => ?_)
  · obtain ⟨b, S, A, B, kvs, rfl, _⟩ := h; rfl
  · obtain ⟨b, S, A', B, kvs, rfl, bk, s1, s2, a1, a2, b1, b2, k⟩ := h
    obtain ⟨dx, d, hb, nd⟩ := id bk
    refine ⟨_, pss_cons (ps_set (i := 1) scTriples.nd rfl (Or.inl rfl) (pe_tup (pa_cons (pe_fld (pv 0) rfl) (pa_cons (pe_op op_sub (C8.pe_mt0 G1 hr (by decide) (pv 0)) pe_int) (pa_cons (pe_fld (pv 0) rfl) pa_nil)))))
      (pss_cons (ps_set (i := 2) scTriples.nd rfl (Or.inl rfl) pe_int)
      (pss_cons (ps_for PassesOwn.never rfl (pi_tup (pv 1)) (pg_name (i := 3) scTriples.nd rfl (Or.inl rfl))
        (pss_one (ps_set (i := 2) scTriples.nd rfl (Or.inl rfl) (pe_op op_mul (pv 2) (C8.pe_c G2 hr (by decide) rfl (pa_cons (pe_fld (pv 0) rfl) (pa_cons (pv 3) pa_nil)))))))
      (pss_cons (ps_if (pt_cmpR op_gt (pv 2) (pe_glob (v := .int 20000) rfl gM ⟨_, rfl⟩) (nomark _)) (pss_one ps_never) pss_nil)
      (pss_cons (ps_setLc (i := 4) (own := [("size", 3)]) (g := gName 3) (tt := tYes) rfl scTriples.nd rfl rfl (sw_true rfl rfl rfl (by decide +kernel)) (pi_tup (pv 1)) (blkOk_by (N := ["book", "sizes", "many", "size", "rows", "found", "x", "y", "z"]) (sc := C8.fnScope sTriples) (by decide +kernel))
          (fun _ _ _ _ _ => pg_name (i := 3) scTriples.nd rfl (Or.inl rfl)) (fun _ _ _ _ _ => pts_nil)
          (fun _ _ _ _ _ => C8.pe_c G3 hr (by decide) rfl (pa_cons (fld_K K (pv 0) rfl) (pa_cons (pv 3) pa_nil))))
      (pss_cons (ps_set (i := 5) scTriples.nd rfl (Or.inl rfl) (pe_lst pa_nil))
      (pss_cons (ps_for PassesOwn.never rfl (pi_list (pe_ix ix_list (pv 4) pe_int (fun _ _ => rfl))) (pg_name (i := 6) scTriples.nd rfl (Or.inr rfl))
        (pss_one (ps_for PassesOwn.never rfl (pi_list (pe_ix ix_list (pv 4) pe_int (fun _ _ => rfl))) (pg_name (i := 7) scTriples.nd rfl (Or.inr rfl))
          (pss_one (ps_expr (pe_bm PySem.F.plainAttrs_list PySem.F.slot_list_extend PySem.F.type_list_extend mt_extend (pv 5) (pa_cons
            (pe_lc (own := [("z", 8)]) (g := gName 8) (tt := tYes) rfl scTriples.nd (pi_list (pe_ix ix_list (pv 4) pe_int (fun _ _ => rfl))) (blkOk_by (N := ["book", "sizes", "many", "size", "rows", "found", "x", "y", "z"]) (sc := C8.fnScope sTriples) (by decide +kernel))
              (fun _ _ _ _ _ => pg_name (i := 8) scTriples.nd rfl (Or.inl rfl)) (fun _ _ _ _ _ => pts_nil) (fun _ _ _ _ _ => pe_tup (pa_cons (pv 6) (pa_cons (pv 7) (pa_cons (pv 8) pa_nil))))) pa_nil)))))))
      (pss_one (ps_ret (pv 5))))))))), ?_⟩
    -- sizes
    refine ⟨_, rfl, b, C, dx, _, _, rfl, hb, T.cl, T.nA, rfl, ?_⟩
    refine ⟨_, rfl, b, dx, _, rfl, hb, rfl, b, S, A', B, kvs, rfl, bk, _, _, rfl, rfl, ?_⟩
    refine ⟨_, rfl, b, C, dx, _, _, rfl, hb, T.cl, T.nB, rfl, by show 3 ≤ sizeLine; decide, fun ps ns => ?_⟩
    have es : ((A' : Int) + (B : Int) - 1) = ((A' + B - 1 : Nat) : Int) := by omega
    have e1 : Same H (upd H ps (.tup [.int (A' : Int), .int ((A' : Int) + (B : Int) - 1), .int (B : Int)])) := same_new ns
    have hsz : (upd H ps (.tup [.int (A' : Int), .int ((A' : Int) + (B : Int) - 1), .int (B : Int)])) ps = some (.tup ([A', A' + B - 1, B].map fun n : Nat => V.int (n : Int))) := by rw [upd_same, es]; rfl
    -- many
    refine ⟨_, rfl, ps, rfl, ⟨_, SqT.of hsz⟩, for_tup (K := K) (a := ps) (xs := [A', A' + B - 1, B].map fun n : Nat => V.int (n : Int)) (fun i σ H' => Same H H' ∧ H' ps = some (.tup ([A', A' + B - 1, B].map fun n : Nat => V.int (n : Int))) ∧ ∃ (n : Int) (v : Option V), σ = [some (.ref b), some (.ref ps), some (.int n), v, none, none, none, none, none] ∧ 0 ≤ n ∧ n ≤ ([1, 12, 468, 5616] : List Int).getD i 0)
      ⟨e1, hsz, 1, none, rfl, by decide, by decide⟩ (fun i σ H' _ p => SqT.of p.2.1) (fun i x σ H' hx p => ?_) (fun σ H' p => ?_)⟩
    · obtain ⟨q1, q2, n, v, rfl, n0, n1⟩ := p
      have hm : ∃ (m : Nat) (u : Int), x = .int m ∧ m ≤ 3 ∧ n ≤ 468 ∧ (∀ y : Int, 0 ≤ y → 2 * y + 3 ≤ 3 * (3 : Int) ^ m → y ≤ u) ∧ n * u ≤ ([1, 12, 468, 5616] : List Int).getD (i + 1) 0 := by
        have two : ∀ m : Nat, m ≤ 2 → ∀ y : Int, 0 ≤ y → 2 * y + 3 ≤ 3 * (3 : Int) ^ m → y ≤ 12 := fun m hm y y0 h => by
          have : (3 : Int) ^ m ≤ 9 := by
            have : m = 0 ∨ m = 1 ∨ m = 2 := by omega
            rcases this with rfl | rfl | rfl <;> decide
          omega
        have three : ∀ m : Nat, m ≤ 3 → ∀ y : Int, 0 ≤ y → 2 * y + 3 ≤ 3 * (3 : Int) ^ m → y ≤ 39 := fun m hm y y0 h => by
          have : (3 : Int) ^ m ≤ 27 := by
            have : m = 0 ∨ m = 1 ∨ m = 2 ∨ m = 3 := by omega
            rcases this with rfl | rfl | rfl | rfl <;> decide
          omega
        match i, hx, n1 with
        | 0, hx, n1 => exact ⟨A', 12, (Option.some.inj hx).symm, by omega, (by have : n ≤ 1 := n1; omega), two _ a2, (by have : n ≤ 1 := n1; show n * 12 ≤ 12; omega)⟩
        | 1, hx, n1 => exact ⟨A' + B - 1, 39, (Option.some.inj hx).symm, by omega, (by have : n ≤ 12 := n1; omega), three _ (by omega), (by have : n ≤ 12 := n1; show n * 39 ≤ 468; omega)⟩
        | 2, hx, n1 => exact ⟨B, 12, (Option.some.inj hx).symm, by omega, (by have : n ≤ 468 := n1; omega), two _ b2, (by have : n ≤ 468 := n1; show n * 12 ≤ 5616; omega)⟩
        | i + 3, hx, n1 => cases hx
      obtain ⟨m, u, rfl, hm3, hn, hu, hnu⟩ := hm
      refine ⟨_, rfl, _, rfl, b, C, dx, _, _, rfl, q1 _ _ hb, T.cl, T.nS, rfl, _, rfl, S, m, rfl, by omega, by omega, hm3, fun y y0 y1 => ?_⟩
      have h1 : n * y ≤ n * u := Int.mul_le_mul_of_nonneg_left (hu y y0 y1) n0
      exact ⟨n, y, rfl, rfl, .inl ⟨by omega, by omega⟩, q1, q2, _, _, rfl, Int.mul_nonneg n0 y0, Int.le_trans h1 hnu⟩
    · obtain ⟨q1, q2, n, v, rfl, n0, n1⟩ := p
      have n2 : n ≤ 5616 := n1
      refine ⟨_, rfl, n, 20000, rfl, rfl, _, rfl, ?_⟩
      rw [decide_eq_false (show ¬ (20000 : Int) < n by omega)]
      refine iteF ?_
      -- rows
      refine ⟨_, rfl, ps, rfl, ⟨_, SqT.of q2⟩, fun D hD => ?_⟩
      refine lc_tup (K := K) (a := ps) (xs := [A', A' + B - 1, B].map fun n : Nat => V.int (n : Int)) (fun i H2 => Same H' H2 ∧ ∃ as : List Addr, H2 D = some (.lst (as.map V.ref)) ∧ D ∉ as ∧ (∀ a ∈ as, H' a = none) ∧ Paired (LR H2) as (([A', A' + B - 1, B].take i).map (rowsT S)))
        ⟨same_new hD, [], upd_same, by simp, by simp, .nil⟩ (fun i H2 _ p => SqT.of (p.1 _ _ q2)) (fun i x H2 hx p => ?_) (fun H2 p => ?_)
      · obtain ⟨p1, as, p2, p3, p4, p5⟩ := p
        have hm : ∃ m : Nat, x = .int m ∧ m ≤ 3 ∧ i < 3 ∧ ([A', A' + B - 1, B].take (i + 1)).map (rowsT S) = ([A', A' + B - 1, B].take i).map (rowsT S) ++ [rowsT S m] := by
          match i, hx with
          | 0, hx => exact ⟨_, (Option.some.inj hx).symm, by omega, by omega, rfl⟩
          | 1, hx => exact ⟨_, (Option.some.inj hx).symm, by omega, by omega, rfl⟩
          | 2, hx => exact ⟨_, (Option.some.inj hx).symm, by omega, by omega, rfl⟩
          | i + 3, hx => cases hx
        obtain ⟨m, rfl, hm3, hi3, et⟩ := hm
        have lp := Paired.length p5
        rw [List.length_map, List.length_take] at lp
        refine ⟨rfl, lc_yes ⟨_, rfl, b, C, dx, _, _, rfl, p1 _ _ (q1 _ _ hb), T.cl, T.nS, rfl, _, rfl, S, m, rfl, s2, hm3, fun H3 pn e3 nn lr => ?_⟩⟩
        have hDn : pn ≠ D := fun z => by rw [z, p2] at nn; cases nn
        have D3 := e3 _ _ p2
        refine ⟨_, D3, ?_, same_mut (p1.trans e3) hD, as ++ [pn], by rw [upd_same, List.map_append]; rfl, ?_, ?_, ?_⟩
        · rw [List.length_map, lp]
          exact Nat.lt_of_lt_of_le (show min i [A', A' + B - 1, B].length < 4 by have : [A', A' + B - 1, B].length = 3 := rfl; omega) (by decide)
        · rw [List.mem_append, List.mem_singleton]
          rintro (z | z)
          · exact p3 z
          · exact hDn z.symm
        · intro a ha
          rcases List.mem_append.mp ha with z | z
          · exact p4 a z
          · rw [List.mem_singleton] at z; subst z; exact Same.free p1 nn
        · rw [et]
          refine paired_app ?_ (.cons (lr.other D3 hDn) .nil)
          have step : ∀ (zs : List V) {as : List Addr} {rs : List (List Row)}, Paired (LR H2) as rs → D ∉ as → Paired (LR (upd H3 D (.lst zs))) as rs := by
            intro zs as rs h
            induction h with
            | nil => intro _; exact .nil
            | cons h t ih => intro hn; exact .cons ((h.same e3).other D3 (fun z => hn (by rw [← z]; exact List.mem_cons_self ..))) (ih fun z => hn (List.mem_cons_of_mem _ z))
          exact step _ p5 p3
      · obtain ⟨p1, as, p2, p3, p4, p5⟩ := p
        have p5' : Paired (LR H2) as [rowsT S A', rowsT S (A' + B - 1), rowsT S B] := p5
        cases p5' with
        | @cons p0 _ _ _ l0 t =>
        cases t with
        | @cons p1' _ _ _ l1 t =>
        cases t with
        | @cons p2' _ _ _ l2 t =>
        cases t
        -- found
        have r2 : H2 D = some (.lst [.ref p0, .ref p1', .ref p2']) := p2
        refine ⟨Nat.zero_le _, fun pf nf => ?_⟩
        have ef := same_new (o := .lst []) nf
        have hf0 : H pf = none := Same.free (q1.trans p1) nf
        obtain ⟨as0, x1, x2⟩ := l0
        obtain ⟨as1, y1, y2⟩ := l1
        have z0 : LP TR H2 p2' (rowsT S B) := l2
        have lX := rowsT_len s2 (k := A') (by omega)
        have lY := rowsT_len s2 (k := A' + B - 1) (by omega)
        have lZ := rowsT_len s2 (k := B) (by omega)
        generalize rowsT S A' = X at x2 lX k
        generalize rowsT S (A' + B - 1) = Y at y2 lY k
        generalize rowsT S B = Z at z0 lZ k
        have lX' : X.length ≤ 54 := by omega
        have lY' : Y.length ≤ 81 := by omega
        have lZ' : Z.length ≤ 54 := by omega
        refine ⟨_, rfl, D, _, _, _, rfl, rfl, SqL.of (ef _ _ r2), rfl, p0, rfl, ⟨_, SqL.of (ef _ _ x1)⟩, for_list (K := K) (a := p0) (xs := as0.map V.ref) (fun i σ H3 => Same H2 H3 ∧ (∃ vs vx vy : Option V, σ = [some (.ref b), some (.ref ps), some (.int n), vs, some (.ref D), some (.ref pf), vx, vy, none]) ∧ LP T3 H3 pf (tripsOf (X.take i) Y Z))
          ⟨ef, ⟨_, _, _, rfl⟩, [], upd_same, .nil⟩ (fun i σ H3 _ p => SqL.of (p.1 _ _ x1)) (fun i x σ H3 hx p => ?_) (fun σ H3 p => ?_)⟩
        · obtain ⟨g1, ⟨vs, vx, vy, rfl⟩, g3⟩ := p
          obtain ⟨ax, rfl, hax⟩ := ref_at hx
          obtain ⟨xr, hxr, tx⟩ := TRs.get x2 hax
          have hi := (List.getElem?_eq_some_iff.mp hxr).1
          refine ⟨_, rfl, D, _, _, _, rfl, rfl, SqL.of (g1 _ _ r2), rfl, p1', rfl, ⟨_, SqL.of (g1 _ _ y1)⟩, for_list (K := K) (a := p1') (xs := as1.map V.ref) (fun j σ H4 => Same H2 H4 ∧ (∃ vs vy : Option V, σ = [some (.ref b), some (.ref ps), some (.int n), vs, some (.ref D), some (.ref pf), some (.ref ax), vy, none]) ∧ LP T3 H4 pf (tripsOf (X.take i) Y Z ++ tripsOf [xr] (Y.take j) Z))
            ⟨g1, ⟨_, _, rfl⟩, by have : tripsOf [xr] (Y.take 0) Z = [] := rfl; rw [this, List.append_nil]; exact g3⟩ (fun j σ H4 _ p => SqL.of (p.1 _ _ y1)) (fun j y σ H4 hy p => ?_) (fun σ H4 p => ?_)⟩
          · obtain ⟨w1, ⟨vs, vy, rfl⟩, as4, w3, w4⟩ := p
            obtain ⟨ay, rfl, hay⟩ := ref_at hy
            obtain ⟨yr, hyr, ty⟩ := TRs.get y2 hay
            have hj := (List.getElem?_eq_some_iff.mp hyr).1
            refine ⟨_, rfl, .inl ⟨rfl, _, SqL.of w3⟩, ?_⟩
            refine ⟨_, rfl, D, _, _, _, rfl, rfl, SqL.of (w1 _ _ r2), rfl, p2', rfl, ?_⟩
            have z4 := z0.same TR.tm w1
            obtain ⟨as2, z1, z2⟩ := id z4
            refine ⟨⟨_, SqL.of z1⟩, fun D2 nD2 => ?_⟩
            refine lc_mapL (j := 8) (K := K) (Pr := TR) (Pr2 := T3) TR.tm T3.tm (fun z => (xr, yr, z)) nD2 z4 (by omega) (fun x => rfl) (fun pz zr H5 Q' e5 tz _ k5 => ?_) (fun H5 e5 l5 => ?_)
            · refine ⟨_, rfl, _, rfl, _, rfl, by show 3 ≤ sizeLine; decide, fun pt nt => ?_⟩
              have en := same_new (o := .tup [.ref ax, .ref ay, .ref pz]) nt
              have e25 := (w1.trans e5).trans en
              exact k5 pt _ en ⟨ax, ay, pz, upd_same, tx.mono e25, ty.mono e25, tz.mono en⟩
            · obtain ⟨as5, v1, v2⟩ := l5
              have f5 := e5 _ _ w3
              refine ⟨pf, D2, _, _, rfl, rfl, f5, v1, ?_, ?_⟩
              · have c1 := Paired.length w4
                have c2 := Paired.length v2
                rw [List.length_append, trips_len, trips_len, List.length_take, List.length_take] at c1
                rw [List.length_map] at c2
                rw [List.length_map, List.length_map, c1, c2]
                have c3 : Y.length * Z.length ≤ 81 * 54 := Nat.mul_le_mul lY' lZ'
                have c4 : min i X.length * (Y.length * Z.length) ≤ 54 * (81 * 54) := Nat.mul_le_mul (by omega) c3
                have c5 : min j Y.length * Z.length ≤ 81 * 54 := Nat.mul_le_mul (by omega) lZ'
                have c6 : [xr].length = 1 := rfl
                rw [c6, Nat.one_mul]
                exact Nat.le_trans (show _ ≤ 300000 by omega) (by decide)
              · refine ⟨same_mut (w1.trans e5) nf, ⟨_, _, rfl⟩, ?_⟩
                have et : tripsOf [xr] (Y.take (j + 1)) Z = tripsOf [xr] (Y.take j) Z ++ Z.map fun z => (xr, yr, z) := by
                  rw [List.take_add_one, hyr, ← trips_11 xr yr Z, ← trips_one]; rfl
                rw [et, ← List.append_assoc]
                exact LP.grow T3.tm f5 (Paired.mapP w4 fun a t q => T3.tm _ _ _ _ (fun b ys z => e5 b _ z) q) v2
          · obtain ⟨w1, ⟨vs, vy, rfl⟩, w3⟩ := p
            rw [List.length_map, TRs.len y2, List.take_length] at w3
            refine ⟨w1, ⟨_, _, _, rfl⟩, ?_⟩
            have et : X.take (i + 1) = X.take i ++ [xr] := by rw [List.take_add_one, hxr]; rfl
            rw [et, trips_app]
            exact w3
        · obtain ⟨g1, ⟨vs, vx, vy, rfl⟩, g3⟩ := p
          rw [List.length_map, TRs.len x2, List.take_length] at g3
          exact ⟨_, rfl, k _ pf ((q1.trans p1).trans g1) hf0 g3⟩
end
end K66
namespace K66
open PySem L2

/-- a < b of alike data: some answer -/
def rLtD (K : PySem.W.Frag) : R2 := fun x y H Q => ∃ d e, Dp K H x d ∧ Dp K H y e ∧ PySem.W.alike d e = true ∧ d ≠ .none ∧ d.depth ≤ 60 ∧ ∀ c : Bool, Q (.bl c) H
theorem op_ltD {X : Cx} (hu : X.A.units + 64 < cLine) : OpR X (compareOp .Lt) (rLtD X.K) := by
  intro pins s σ H x y v u Q I rx ry h
  obtain ⟨d, e, hd, he, ha, hn, hz, q⟩ := h
  obtain ⟨as, r1⟩ := Dp.reads I d x v hd rx
  obtain ⟨bs, r2⟩ := Dp.reads I e y u he ry
  exact PySem.W.lt_data r1 r2 ha hn (by omega) ⟨.bl _, H, I, rfl, q _⟩
theorem alike_ints : ∀ a b : Row, PySem.W.alikeAll (a.map PyData.int) (b.map PyData.int) = true
  | [], b => by cases b <;> simp [PySem.W.alikeAll]
  | x :: a, [] => by simp [PySem.W.alikeAll]
  | x :: a, y :: b => by
    rw [List.map_cons, List.map_cons, PySem.W.alikeAll, alike_ints a b]
    simp [PySem.W.alike]
def dRow (r : Row) : PyData := .tuple (r.map PyData.int)
def dT3 (t : Row × Row × Row) : PyData := .tuple [dRow t.1, dRow t.2.1, dRow t.2.2]
theorem alike_row (a b : Row) : PySem.W.alike (dRow a) (dRow b) = true := by unfold dRow; rw [PySem.W.alike]; exact alike_ints a b
theorem alike_key (n m : Int) (t u : Row × Row × Row) : PySem.W.alike (.tuple [.int n, dT3 t]) (.tuple [.int m, dT3 u]) = true := by
  unfold dT3
  simp only [PySem.W.alike, PySem.W.alikeAll, alike_row, Bool.and_self]
theorem depth_key (n : Int) (t : Row × Row × Row) : (PyData.tuple [.int n, dT3 t]).depth ≤ 60 := by
  unfold dT3 dRow
  simp only [PyData.depth, PyData.depthAll, dep_ints]
  decide
theorem T3.dp {K : PySem.W.Frag} {H : Hp} {a : Addr} {t : Row × Row × Row} (h : T3 H a t) : Dp K H (.ref a) (dT3 t) := by
  obtain ⟨l, m, r, h1, h2, h3, h4⟩ := h
  exact .tup (SqT.of h1) (.cons h2.dp (.cons h3.dp (.cons h4.dp .nil)))
/-- a key: a size and three rows -/
def KeyAt (H : Hp) (p : Addr) (n : Int) (t : Row × Row × Row) : Prop := ∃ a, H p = some (.tup [.int n, .ref a]) ∧ T3 H a t
theorem KeyAt.same {H H' : Hp} {p : Addr} {n : Int} {t : Row × Row × Row} (h : KeyAt H p n t) (e : Same H H') : KeyAt H' p n t := by
  obtain ⟨a, h1, h2⟩ := h
  exact ⟨a, e _ _ h1, T3.tm _ _ _ _ (fun b ys z => e b _ z) h2⟩
theorem KeyAt.dp {K : PySem.W.Frag} {H : Hp} {p : Addr} {n : Int} {t : Row × Row × Row} (h : KeyAt H p n t) : Dp K H (.ref p) (.tuple [.int n, dT3 t]) := by
  obtain ⟨a, h1, h2⟩ := h
  exact .tup (SqT.of h1) (.cons (.int n) (.cons h2.dp .nil))

section
variable {P : Program} {w : World} {K : PySem.W.Frag} {mg : Str → Option Value} {base : Heap}
/-! matters -/
def As3 (kvs : List (NK × NK)) (A B : Nat) (t : Row × Row × Row) : Prop := Assoc (bF kvs) A B t.1 t.2.1 t.2.2
def trips (S A B : Nat) : List (Row × Row × Row) := tripsOf (rowsT S A) (rowsT S (A + B - 1)) (rowsT S B)
theorem trips_short {S A B : Nat} {t : Row × Row × Row} (h : t ∈ trips S A B) : t.1.length ≤ A ∧ t.2.1.length ≤ A + B - 1 ∧ t.2.2.length ≤ B := by
  obtain ⟨x, y, z⟩ := t
  obtain ⟨h1, h2, h3⟩ := mem_trips.mp h
  exact ⟨(mem_rowsT.mp h1).2.1, (mem_rowsT.mp h2).2.1, (mem_rowsT.mp h3).2.1⟩
def spMatters (P : Program) (w : World) (C : Addr) : Sp := fun vs H Q _ => ∃ (b : Addr) (S A B : Nat) (kvs : List (NK × NK)), vs = [.ref b] ∧ Bk P w C H b S A B kvs ∧ LenKv kvs ∧ 1 ≤ S ∧ S ≤ 3 ∧ 1 ≤ A ∧ A ≤ 2 ∧ 1 ≤ B ∧ B ≤ 2 ∧
  (∀ H', Same H H' → (∀ t ∈ trips S A B, As3 kvs A B t) → Q .non H') ∧ (∀ H' a t, Same H H' → t ∈ trips S A B → ¬ As3 kvs A B t → T3 H' a t → Q (.ref a) H')
theorem scMatters : FnScope ["book", "best", "x", "y", "z", "key"] ["book"] (C8.fnScope sMatters) := ⟨rfl, rfl, rfl, by decide +kernel, rfl, by decide +kernel, by decide +kernel⟩
theorem okMatters {f C : Addr} {fd : FuncData} (F : C8.Def K mg "matters" sMatters f fd) (b : Binds K fd ["book"] []) (g : Gb mg) (G1 : C8.Cal P w K mg base 2 "triples" (spTriples P w C) []) (G2 : C8.Cal P w K mg base 4 "matters_at" (spMattersAt P w C) []) : C8.Cal P w K mg base 5 "matters" (spMatters P w C) [] := by
  refine C8.cal0 F b .nil scMatters (fun vs H Q E h => ?_) (fun cdv A outer s H vs Q E hr h => ?_)
  · obtain ⟨b, S, A, B, kvs, rfl, _⟩ := h; rfl
  · obtain ⟨b, S, A', B, kvs, rfl, bk, hl, s1, s2, a1, a2, b1, b2, k1, k2⟩ := h
    refine ⟨_, pss_cons (ps_set (i := 1) scMatters.nd rfl (Or.inl rfl) pe_non)
      (pss_cons (ps_for PassesOwn.never rfl (pi_list (C8.pe_c G1 hr (by decide) rfl (pa_cons (pv 0) pa_nil))) (pg_tup rfl (pgs_cons (pg_name (i := 2) scMatters.nd rfl (Or.inl rfl)) (pgs_cons (pg_name (i := 3) scMatters.nd rfl (Or.inl rfl)) (pgs_cons (pg_name (i := 4) scMatters.nd rfl (Or.inl rfl)) pgs_nil))))
        (pss_cons (ps_set (i := 5) scMatters.nd rfl (Or.inl rfl) (pe_tup (pa_cons (pe_op op_add (pe_op op_add (pe_callB call_len_seq rfl g.len PySem.boot_len (pa_cons (pv 2) pa_nil)) (pe_callB call_len_seq rfl g.len PySem.boot_len (pa_cons (pv 3) pa_nil))) (pe_callB call_len_seq rfl g.len PySem.boot_len (pa_cons (pv 4) pa_nil)))
            (pa_cons (pe_tup (pa_cons (pv 2) (pa_cons (pv 3) (pa_cons (pv 4) pa_nil)))) pa_nil))))
        (pss_one (ps_if (PW.pt (pw_and (PW.pt (pw_or (pt_cmpR op_isN (pv 1) pe_non (nomark _)) (pw_or1 (pt_cmpR (op_ltD hr.units) (pv 5) (pv 1) (nomark _)))))
            (pw_and1 (pt_val (C8.pe_c G2 hr (by decide) rfl (pa_cons (pv 0) (pa_cons (pv 2) (pa_cons (pv 3) (pa_cons (pv 4) pa_nil)))))))))
          (pss_one (ps_set (i := 1) scMatters.nd rfl (Or.inl rfl) (pv 5))) pss_nil))))
      (pss_cons (ps_if (pt_cmpR op_isN (pv 1) pe_non (nomark _)) (pss_one (ps_ret pe_non)) pss_nil)
      (pss_one (ps_ret (pe_ix ix_tup (pv 1) pe_int (fun _ _ => rfl)))))), ?_⟩
    refine ⟨_, rfl, b, S, A', B, kvs, rfl, bk, s1, s2, a1, a2, b1, b2, fun H1 pt e1 np lp => ?_⟩
    obtain ⟨as, t1, t2⟩ := lp
    have tl := Paired.length t2
    refine ⟨pt, rfl, ⟨_, SqL.of t1⟩, for_list (K := K) (a := pt) (xs := as.map V.ref) (fun i σ H' => Same H1 H' ∧ ∃ (best : V) (v1 v2 v3 v4 : Option V), σ = [some (.ref b), some best, v1, v2, v3, v4] ∧
        ((best = .non ∧ ∀ t ∈ (trips S A' B).take i, As3 kvs A' B t) ∨ ∃ (p : Addr) (n : Int) (t : Row × Row × Row), best = .ref p ∧ KeyAt H' p n t ∧ t ∈ trips S A' B ∧ ¬ As3 kvs A' B t))
      ⟨Same.refl _, .non, none, none, none, none, rfl, .inl ⟨rfl, fun t h => by simp at h⟩⟩ (fun i σ H' _ p => SqL.of (p.1 _ _ t1)) (fun i x σ H' hx p => ?_) (fun σ H' p => ?_)⟩
    · obtain ⟨e2, best, v1, v2, v3, v4, rfl, hb⟩ := p
      obtain ⟨a, rfl, ha⟩ := ref_at hx
      obtain ⟨t, ht, h3⟩ := paired_get t2 ha
      have hm : t ∈ trips S A' B := List.mem_of_getElem? ht
      have hsh := trips_short hm
      obtain ⟨l, m, r, q1, q2, q3, q4⟩ := T3.tm _ _ _ _ (fun b ys z => e2 b _ z) h3
      refine ⟨a, _, rfl, SqT.of q1, rfl, _, _, rfl, _, _, rfl, _, _, rfl, rfl, ?_⟩
      refine ⟨_, rfl, l, _, rfl, .inr q2.seq, _, rfl, m, _, rfl, .inr q3.seq, _, _, rfl, rfl, _, rfl, r, _, rfl, .inr q4.seq, _, _, rfl, rfl, _, rfl, _, rfl, _, rfl, by show 3 ≤ sizeLine; decide, fun p3 n3 => ?_⟩
      refine ⟨by show 2 ≤ sizeLine; decide, fun p4 n4 => ?_⟩
      have e23 := same_new (o := .tup [.ref l, .ref m, .ref r]) n3
      have e24 := e23.trans (same_new (o := .tup [.int (((t.1.map V.int).length : Int) + ((t.2.1.map V.int).length : Int) + ((t.2.2.map V.int).length : Int)), .ref p3]) n4)
      have key : KeyAt (upd (upd H' p3 (.tup [.ref l, .ref m, .ref r])) p4 (.tup [.int (((t.1.map V.int).length : Int) + ((t.2.1.map V.int).length : Int) + ((t.2.2.map V.int).length : Int)), .ref p3])) p4 (((t.1.map V.int).length : Int) + ((t.2.1.map V.int).length : Int) + ((t.2.2.map V.int).length : Int)) t :=
        ⟨p3, upd_same, l, m, r, (same_new n4) _ _ upd_same, q2.mono e24, q3.mono e24, q4.mono e24⟩
      -- the test's second half
      have half : ∀ (Qh : Bool → Hp → Prop), (∀ H5 c, Same (upd (upd H' p3 (.tup [.ref l, .ref m, .ref r])) p4 (.tup [.int (((t.1.map V.int).length : Int) + ((t.2.1.map V.int).length : Int) + ((t.2.2.map V.int).length : Int)), .ref p3])) H5 → (c = true ↔ ¬ As3 kvs A' B t) → Qh c H5) →
          spMattersAt P w C [.ref b, .ref l, .ref m, .ref r] (upd (upd H' p3 (.tup [.ref l, .ref m, .ref r])) p4 (.tup [.int (((t.1.map V.int).length : Int) + ((t.2.1.map V.int).length : Int) + ((t.2.2.map V.int).length : Int)), .ref p3])) (fun x H5 => ∃ c, x = .bl c ∧ Qh c H5) C8.E0 := fun Qh kq =>
        ⟨b, l, m, r, S, A', B, kvs, t.1, t.2.1, t.2.2, rfl, bk.same ((e1.trans e2).trans e24), q2.mono e24, q3.mono e24, q4.mono e24, hl, a1, b1, by omega, by omega, by omega, fun H5 c e5 hc => ⟨c, rfl, kq H5 c e5 hc⟩⟩
      have ett : (trips S A' B).take (i + 1) = (trips S A' B).take i ++ [t] := by rw [List.take_add_one, show (trips S A' B)[i]? = some t from ht]; rfl
      rcases hb with ⟨rfl, hall⟩ | ⟨pb, nb, tb, rfl, kb, mb, nab⟩
      · refine ⟨_, rfl, rfl, true, rfl, iteT (iteT ?_)⟩
        refine ⟨_, rfl, _, rfl, _, rfl, _, rfl, half _ fun H5 c e5 hc => ?_⟩
        cases c with
        | true => exact iteT ⟨_, rfl, (e2.trans e24).trans e5, .ref p4, _, _, _, _, rfl, .inr ⟨p4, _, t, rfl, key.same e5, hm, hc.mp rfl⟩⟩
        | false =>
          refine iteF ⟨(e2.trans e24).trans e5, .non, _, _, _, _, rfl, .inl ⟨rfl, fun u hu => ?_⟩⟩
          rw [ett] at hu
          rcases List.mem_append.mp hu with z | z
          · exact hall u z
          · rw [List.mem_singleton] at z
            subst z
            exact Classical.byContradiction fun hna => by cases hc.mpr hna
      · refine ⟨_, rfl, rfl, false, rfl, iteF ?_⟩
        refine ⟨_, rfl, _, rfl, _, _, key.dp, (kb.same e24).dp, alike_key _ _ _ _, (fun z => nomatch z), depth_key _ _, fun c2 => ⟨c2, rfl, ?_⟩⟩
        cases c2 with
        | false => exact iteF (iteF ⟨e2.trans e24, .ref pb, _, _, _, _, rfl, .inr ⟨pb, nb, tb, rfl, kb.same e24, mb, nab⟩⟩)
        | true =>
          refine iteT ?_
          refine ⟨_, rfl, _, rfl, _, rfl, _, rfl, half _ fun H5 c e5 hc => ?_⟩
          cases c with
          | true => exact iteT ⟨_, rfl, (e2.trans e24).trans e5, .ref p4, _, _, _, _, rfl, .inr ⟨p4, _, t, rfl, key.same e5, hm, hc.mp rfl⟩⟩
          | false => exact iteF ⟨(e2.trans e24).trans e5, .ref pb, _, _, _, _, rfl, .inr ⟨pb, nb, tb, rfl, (kb.same e24).same e5, mb, nab⟩⟩
    · obtain ⟨e2, best, v1, v2, v3, v4, rfl, hb⟩ := p
      rw [List.length_map, tl, show tripsOf (rowsT S A') (rowsT S (A' + B - 1)) (rowsT S B) = trips S A' B from rfl, List.take_length] at hb
      rcases hb with ⟨rfl, hall⟩ | ⟨pb, nb, tb, rfl, ⟨a, kb1, kb2⟩, mb, nab⟩
      · exact ⟨_, rfl, rfl, true, rfl, iteT (k1 _ (e1.trans e2) hall)⟩
      · refine ⟨_, rfl, rfl, false, rfl, iteF ?_⟩
        exact ⟨_, rfl, pb, _, _, .ref a, rfl, rfl, SqT.of kb1, rfl, k2 _ a tb (e1.trans e2) mb nab kb2⟩
end
end K66
namespace K66
open PySem L2

structure TxJ (K : PySem.W.Frag) (C : Addr) : Prop where
  cl : Cls K C
  nF : NoAttr K C "first"
  nL : NoAttr K C "last"
  nA : NoAttr K C "above"
  nR : NoAttr K C "fair"
def jnF (a1 a2 a3 : Addr) (r : Bool) : List (Str × V) := [("first", .ref a1), ("last", .ref a2), ("above", .ref a3), ("fair", .bl r)]
/-- the joinings of t stand at j -/
def Jn (C : Addr) (H : Hp) (j : Addr) (t : Tr) : Prop := ∃ dx a1 a2 a3, H j = some (.ins C dx (jnF a1 a2 a3 true)) ∧ H a1 = some (.lst ((t.fs 0).map V.int)) ∧ H a2 = some (.lst ((t.ls 0).map V.int))
theorem Jn.same {C : Addr} {H H' : Hp} {j : Addr} {t : Tr} (h : Jn C H j t) (e : Same H H') : Jn C H' j t := by
  obtain ⟨dx, a1, a2, a3, h1, h2, h3⟩ := h
  exact ⟨dx, a1, a2, a3, e _ _ h1, e _ _ h2, e _ _ h3⟩
/-- a stretch that waits: its first word, its depth, its bracketing -/
structure Wt where
  f : Nat
  d : Int
  t : Tr
def WtAt (H : Hp) (a : Addr) (x : Wt) : Prop := ∃ ab : V, H a = some (.tup [.int x.f, .int ((x.f + x.t.n - 1 : Nat) : Int), .int x.d, ab])
theorem WtAt.tm : TMono WtAt := fun _ _ _ _ e h => by
  obtain ⟨ab, h⟩ := h
  exact ⟨ab, e _ _ h⟩
def sizes (xs : List Wt) : Nat := (xs.map fun x => x.t.size).sum
/-- xs holds what L does but where a stretch waits -/
def Filled (L : Row) (xs : List V) (ws : List Wt) : Prop := xs.length = L.length ∧ ∀ (k : Nat) (x : Int), L[k]? = some x → xs[k]? = some (.int x) ∨ ∃ w ∈ ws, w.f ≤ k ∧ k < w.f + w.t.n - 1
theorem Filled.done {L : Row} {xs : List V} (h : Filled L xs []) : xs = L.map V.int := by
  apply List.ext_getElem?
  intro k
  rw [List.getElem?_map]
  cases e : L[k]? with
  | some x =>
    rcases h.2 k x e with q | ⟨w, hw, _⟩
    · exact q
    · cases hw
  | none =>
    rw [List.getElem?_eq_none_iff] at e
    exact List.getElem?_eq_none_iff.mpr (by rw [h.1]; exact e)
/-- a leaf waits no more -/
theorem Filled.leaf {L : Row} {xs : List V} {ws : List Wt} {f : Nat} {d : Int} (h : Filled L xs (ws ++ [⟨f, d, .lf⟩])) : Filled L xs ws := by
  refine ⟨h.1, fun k x e => ?_⟩
  rcases h.2 k x e with q | ⟨w, hw, q1, q2⟩
  · exact .inl q
  · rcases List.mem_append.mp hw with z | z
    · exact .inr ⟨w, z, q1, q2⟩
    · rw [List.mem_singleton] at z
      subst z
      have : (Tr.lf).n = 1 := rfl
      simp only [this] at q2 q1
      omega
/-- a node's root is filled in, its parts wait -/
theorem Filled.node {L : Row} {xs : List V} {ws : List Wt} {f : Nat} {d d1 d2 : Int} {l r : Tr} {y : Int} (h : Filled L xs (ws ++ [⟨f, d, .nd l r⟩])) (hy : L[f + l.n - 1]? = some y) :
    Filled L (xs.set (f + l.n - 1) (.int y)) (ws ++ [⟨f, d1, l⟩] ++ [⟨f + l.n, d2, r⟩]) := by
  have p1 := l.pos; have p2 := r.pos
  refine ⟨by rw [List.length_set]; exact h.1, fun k x e => ?_⟩
  by_cases hk : k = f + l.n - 1
  · subst hk
    rw [hy] at e
    cases e
    left
    rw [List.getElem?_set_self]
    rw [h.1]
    exact (List.getElem?_eq_some_iff.mp hy).1
  · rw [List.getElem?_set_ne (Ne.symm hk)]
    rcases h.2 k x e with q | ⟨w, hw, q1, q2⟩
    · exact .inl q
    · right
      rcases List.mem_append.mp hw with z | z
      · exact ⟨w, by simp [z], q1, q2⟩
      · rw [List.mem_singleton] at z
        subst z
        have en : (Tr.nd l r).n = l.n + r.n := rfl
        simp only [en] at q2 q1
        by_cases hlt : k < f + l.n - 1
        · exact ⟨⟨f, d1, l⟩, by simp, q1, hlt⟩
        · exact ⟨⟨f + l.n, d2, r⟩, by simp, by show f + l.n ≤ k; omega, by show k < f + l.n + r.n - 1; omega⟩
end K66
namespace K66
open PySem L2
theorem paired_snoc {α β : Type} {F : α → β → Prop} {as : List α} {bs : List β} {b : β} (h : Paired F as (bs ++ [b])) : ∃ as' a, as = as' ++ [a] ∧ Paired F as' bs ∧ F a b := by
  induction bs generalizing as with
  | nil =>
    cases h with
    | cons q t => cases t; exact ⟨[], _, rfl, .nil, q⟩
  | cons c bs ih =>
    cases h with
    | cons q t =>
      obtain ⟨as', a, rfl, h1, h2⟩ := ih t
      exact ⟨_ :: as', a, rfl, .cons q h1, h2⟩
theorem nones_len (n : Nat) : ((List.replicate n [V.non]).flatten).length = n := by
  rw [List.length_flatten, List.map_replicate]; simp
theorem ixN_nat {n k : Nat} (h : k < n) : ixN n (k : Int) = some k := by
  unfold ixN
  rw [if_pos (by omega), if_pos (by omega), Int.toNat_natCast]
theorem nones_go {K : PySem.W.Frag} {σ : L2.St} {H : Hp} {a : Addr} {r : Row} {Q : VK} (hs : σ[1]? = some (some (.ref a))) (ta : TR H a r) (hz : r.length ≤ 100)
    (k : ∀ (q : Addr) (xs : List V) (H' : Hp), Same H H' → H q = none → H' q = some (.lst xs) → xs.length = r.length → Q (.ref q) H') : tOp rRep (tLst (tCons (tC .non) tNil)) (tCB (rLenK K) (tCons (tVar 1) tNil)) σ H Q := by
  refine ⟨by show 1 ≤ sizeLine; decide, fun p np => ?_⟩
  have e1 := same_new (o := .lst [V.non]) np
  refine ⟨_, hs, a, _, rfl, .inr (ta.mono e1).seq, ?_⟩
  rw [List.length_map]
  refine ⟨p, _, _, rfl, rfl, upd_same, by omega, by omega, ?_, fun q nq => ?_⟩
  · rw [Int.toNat_natCast]
    show 1 * r.length ≤ sizeLine
    rw [Nat.one_mul]
    exact Nat.le_trans hz (by decide)
  · refine k q _ _ (same_snew e1 nq) (Same.free e1 nq) upd_same ?_
    rw [Int.toNat_natCast, nones_len]
theorem but_mut {b p : Addr} {H H' : Hp} {o : HO} (e : But b H H') (h : H p = none) : But b H (upd H' p o) := fun a u n q => by
  rw [upd_ne (ne_of_none q h)]; exact e a u n q
theorem size_pos : ∀ t : Tr, 1 ≤ t.size
  | .lf => Nat.le_refl _
  | .nd l r => by show 1 ≤ l.size + r.size + 1; omega
theorem sizes_app (a b : List Wt) : sizes (a ++ b) = sizes a + sizes b := by unfold sizes; rw [List.map_append, List.sum_append]
theorem sizes_one (w : Wt) : sizes [w] = w.t.size := by simp [sizes]
theorem len_sizes : ∀ xs : List Wt, xs.length ≤ sizes xs
  | [] => Nat.zero_le _
  | w :: xs => by
    have h1 := len_sizes xs
    have h2 := size_pos w.t
    have : sizes (w :: xs) = w.t.size + sizes xs := by simp [sizes]
    rw [this, List.length_cons]; omega
/-- what is known of a stretch that waits: where its parts stand -/
structure WtOk (t : Tr) (x : Wt) : Prop where
  fit : x.f + x.t.n ≤ t.n
  sh : Seg (t.sh 0) x.f (x.t.sh x.d)
  fs : Seg (t.fs 0) x.f (x.t.fs x.f)
  ls : Seg (t.ls 0) x.f (x.t.ls x.f)
theorem WtOk.parts {t l r : Tr} {f : Nat} {d : Int} (h : WtOk t ⟨f, d, .nd l r⟩) : WtOk t ⟨f, d + 1, l⟩ ∧ WtOk t ⟨f + l.n, d + 1, r⟩ ∧ (t.sh 0)[f + l.n - 1]? = some d ∧ (t.fs 0)[f + l.n - 1]? = some (f : Int) ∧ (t.ls 0)[f + l.n - 1]? = some ((f + l.n + r.n - 1 : Nat) : Int) := by
  obtain ⟨h1, h2, h3, h4⟩ := h
  have h1' : f + (l.n + r.n) ≤ t.n := h1
  obtain ⟨s1, s2, s3⟩ := Seg.node (n := l.n) (show Seg (t.sh 0) f (l.sh (d + 1) ++ d :: r.sh (d + 1)) from h2) (l.sh_len _)
  obtain ⟨f1, f2, f3⟩ := Seg.node (n := l.n) (show Seg (t.fs 0) f (l.fs f ++ (f : Int) :: r.fs (f + l.n)) from h3) (l.fs_len _)
  obtain ⟨l1, l2, l3⟩ := Seg.node (n := l.n) (show Seg (t.ls 0) f (l.ls f ++ ((f + l.n + r.n - 1 : Nat) : Int) :: r.ls (f + l.n)) from h4) (l.ls_len _)
  exact ⟨⟨by show f + l.n ≤ t.n; omega, s1, f1, l1⟩, ⟨by show f + l.n + r.n ≤ t.n; omega, s3, f3, l3⟩, s2, f2, l2⟩
theorem last_at {as : List Addr} {a : Addr} : ((as ++ [a]).map V.ref)[((as ++ [a]).map V.ref).length - 1]? = some (V.ref a) := by
  rw [List.length_map, List.length_append, List.map_append, List.getElem?_append_right (by simp)]
  simp
theorem drop_last {as : List Addr} {a : Addr} : ((as ++ [a]).map V.ref).dropLast = as.map V.ref := by
  rw [List.map_append]; exact List.dropLast_concat
theorem upd_tup {H : Hp} {q : Addr} {xs ys : List V} (hq : H q = some (.lst xs)) {b : Addr} {zs : List V} (h : H b = some (.tup zs)) : upd H q (.lst ys) b = some (.tup zs) := by
  rw [upd_ne (ne_of h hq fun z => nomatch z)]; exact h
section
variable {P : Program} {w : World} {K : PySem.W.Frag} {mg : Str → Option Value} {base : Heap}
/-! Joinings.__init__ -/
/-- the joinings of t stand at j, their lists new behind H -/
def Jf (C : Addr) (H H' : Hp) (j : Addr) (t : Tr) : Prop := ∃ dx a1 a2 a3, H' j = some (.ins C dx (jnF a1 a2 a3 true)) ∧ H' a1 = some (.lst ((t.fs 0).map V.int)) ∧ H' a2 = some (.lst ((t.ls 0).map V.int)) ∧ H a1 = none ∧ H a2 = none
theorem Jf.jn {C : Addr} {H H' : Hp} {j : Addr} {t : Tr} (h : Jf C H H' j t) : Jn C H' j t := by
  obtain ⟨dx, a1, a2, a3, h1, h2, h3, _⟩ := h
  exact ⟨dx, a1, a2, a3, h1, h2, h3⟩
def spJnInit (C : Addr) : Sp := fun vs H Q _ => ∃ (j dx a : Addr) (t : Tr), vs = [.ref j, .ref a] ∧ H j = some (.ins C dx []) ∧ TR H a (t.sh 0) ∧ t.n ≤ 40 ∧ ∀ H', But j H H' → Jf C H H' j t → Q .non H'
abbrev nJn : List Str := ["self", "shape", "waiting", "first", "last", "depth", "above", "seams", "seam"]
theorem scJnInit : FnScope nJn ["self", "shape"] (C8.fnScope sJnInit) := ⟨rfl, rfl, rfl, by decide +kernel, rfl, by decide +kernel, by decide +kernel⟩
theorem okJnInit {f C : Addr} {fd : FuncData} (F : C8.Fun K "__init__" "Joinings.__init__" sJnInit f fd) (b : Binds K fd ["self", "shape"] []) (M : Mk K C f) (hm : mg "Joinings" = some (.ref C)) (g : Gb mg) (T : TxJ K C) : C8.Mak P w K mg base 1 "Joinings" C (spJnInit C) [] := by
  refine C8.mak0 M hm F b .nil scJnInit (fun vs H Q E h => ?_) (fun cdv A outer s H vs Q E hr h => ?_)
  · obtain ⟨j, dx, a, t, rfl, _⟩ := h; rfl
  · obtain ⟨j, dx, a, t, rfl, hj, ta, hn, k⟩ := h
    have tn := t.pos
    refine ⟨_, (pss_cons (ps_fld (pv 0) (pe_op op_rep (pe_lst (pa_cons pe_non pa_nil)) (pe_callB call_len_seq rfl g.len PySem.boot_len (pa_cons (pv 1) pa_nil))) rfl) (pss_cons (ps_fld (pv 0) (pe_op op_rep (pe_lst (pa_cons pe_non pa_nil)) (pe_callB call_len_seq rfl g.len PySem.boot_len (pa_cons (pv 1) pa_nil))) rfl) (pss_cons (ps_fld (pv 0) (pe_op op_rep (pe_lst (pa_cons pe_non pa_nil)) (pe_callB call_len_seq rfl g.len PySem.boot_len (pa_cons (pv 1) pa_nil))) rfl) (pss_cons (ps_fld (pv 0) pe_bl rfl) (pss_cons (ps_set (i := 2) scJnInit.nd rfl (Or.inl rfl) (pe_lst (pa_cons (pe_tup (pa_cons pe_int (pa_cons (pe_callB call_len_seq rfl g.len PySem.boot_len (pa_cons (pv 1) pa_nil)) (pa_cons pe_int (pa_cons pe_non pa_nil))))) pa_nil))) (pss_one (ps_while PassesOwn.never (PW.pt (pw_and (pt_cmpR op_gt (pe_callB call_len_seq rfl g.len PySem.boot_len (pa_cons (pv 2) pa_nil)) pe_int (nomark _)) (pw_and1 (pt_val (pe_fld (pv 0) rfl))))) (pss_cons (ps_asg (pe_bm0 PySem.F.plainAttrs_list PySem.F.slot_list_pop PySem.F.type_list_pop mt_pop (pv 2)) (pg_tup rfl (pgs_cons (pg_name (i := 3) scJnInit.nd rfl (Or.inl rfl)) (pgs_cons (pg_name (i := 4) scJnInit.nd rfl (Or.inl rfl)) (pgs_cons (pg_name (i := 5) scJnInit.nd rfl (Or.inr rfl)) (pgs_cons (pg_name (i := 6) scJnInit.nd rfl (Or.inl rfl)) pgs_nil)))))) (pss_one (ps_if (pt_cmpR op_lt (pv 3) (pv 4) (nomark _)) (pss_cons (ps_setLc (i := 7) (own := [("seam", 8)]) (g := gName 8)  rfl scJnInit.nd rfl rfl (sw_true rfl rfl rfl (by decide +kernel)) (pi_range2 rfl g.range (pa_cons (pv 3) (pa_cons (pv 4) pa_nil))) (blkOk_by (N := nJn) (sc := C8.fnScope sJnInit) (by decide +kernel)) (fun _ _ _ _ _ => pg_name (i := 8) scJnInit.nd rfl (Or.inl rfl)) (fun _ _ _ _ _ => (pts_one (pt_cmpR op_le (pe_ix (ixT_K K) (pv 1) (pv 8) (fun _ _ => rfl)) (pv 5) (nomark _)))) (fun _ _ _ _ _ => pv 8)) (pss_one (ps_if (PW.pt (pw_or (pt_cmpR op_ne (pe_callB call_len_seq rfl g.len PySem.boot_len (pa_cons (pv 7) pa_nil)) pe_int (nomark _)) (pw_or1 (pt_cmpR op_ne (pe_ix ix_tup (pv 1) (pe_ix ix_list (pv 7) pe_int (fun _ _ => rfl)) (fun _ _ => rfl)) (pv 5) (nomark _))))) (pss_one ps_never) (pss_cons (ps_set (i := 8) scJnInit.nd rfl (Or.inl rfl) (pe_ix ix_list (pv 7) pe_int (fun _ _ => rfl))) (pss_cons (ps_asg (pv 3) (pg_sub (pe_fld (pv 0) rfl) (pv 8) set_list)) (pss_cons (ps_asg (pv 4) (pg_sub (pe_fld (pv 0) rfl) (pv 8) set_list)) (pss_cons (ps_asg (pv 6) (pg_sub (pe_fld (pv 0) rfl) (pv 8) set_list)) (pss_cons (ps_expr (pe_bm PySem.F.plainAttrs_list PySem.F.slot_list_append PySem.F.type_list_append mt_append (pv 2) (pa_cons (pe_tup (pa_cons (pv 3) (pa_cons (pv 8) (pa_cons (pe_op op_add (pv 5) pe_int) (pa_cons (pv 8) pa_nil))))) pa_nil))) (pss_one (ps_expr (pe_bm PySem.F.plainAttrs_list PySem.F.slot_list_append PySem.F.type_list_append mt_append (pv 2) (pa_cons (pe_tup (pa_cons (pe_op op_add (pv 8) pe_int) (pa_cons (pv 4) (pa_cons (pe_op op_add (pv 5) pe_int) (pa_cons (pv 8) pa_nil))))) pa_nil)))))))))))) pss_nil)))))))))), ?_⟩
    have njt : ∀ ys, H j ≠ some (.tup ys) := fun ys e => by rw [hj] at e; cases e
    have njn : ∀ {q : Addr} {H1 : Hp}, But j H H1 → H1 q = none → q ≠ j → H q = none := fun {q H1} e h hq => by
      cases e' : H q with
      | none => rfl
      | some u => rw [e q u hq e'] at h; cases h
    refine nones_go rfl ta (by have := t.sh_len 0; omega) fun a1 x1 H1 e1 n1 h1 l1 => ?_
    have na1 : a1 ≠ j := fun z => by rw [z, hj] at n1; cases n1
    refine ⟨_, rfl, j, C, dx, _, rfl, e1 _ _ hj, T.cl, T.nF, (by decide), ?_⟩
    have b1 := (But.of (b := j) e1).upd (o := .ins C dx (putF "first" (.ref a1) []))
    have z1 : (upd H1 j (.ins C dx (putF "first" (.ref a1) []))) a1 = some (.lst x1) := by rw [upd_ne na1]; exact h1
    refine nones_go rfl (b1.tup njt ta) (by have := t.sh_len 0; omega) fun a2 x2 H2 e2 n2 h2 l2 => ?_
    have na2 : a2 ≠ j := fun z => by rw [z, upd_same] at n2; cases n2
    have n21 : a2 ≠ a1 := fun z => by rw [z, z1] at n2; cases n2
    refine ⟨_, rfl, j, C, dx, _, rfl, e2 _ _ upd_same, T.cl, T.nL, (by show 1 < 1000; decide), ?_⟩
    have b2 := (b1.trans (But.of (b := j) e2)).upd (o := .ins C dx (putF "last" (.ref a2) (putF "first" (.ref a1) [])))
    have z1 : (upd H2 j (.ins C dx (putF "last" (.ref a2) (putF "first" (.ref a1) [])))) a1 = some (.lst x1) := by rw [upd_ne na1]; exact e2 _ _ z1
    have z2 : (upd H2 j (.ins C dx (putF "last" (.ref a2) (putF "first" (.ref a1) [])))) a2 = some (.lst x2) := by rw [upd_ne na2]; exact h2
    refine nones_go rfl (b2.tup njt ta) (by have := t.sh_len 0; omega) fun a3 x3 H3 e3 n3 h3 l3 => ?_
    have na3 : a3 ≠ j := fun z => by rw [z, upd_same] at n3; cases n3
    have n31 : a3 ≠ a1 := fun z => by rw [z, z1] at n3; cases n3
    have n32 : a3 ≠ a2 := fun z => by rw [z, z2] at n3; cases n3
    refine ⟨_, rfl, j, C, dx, _, rfl, e3 _ _ upd_same, T.cl, T.nA, (by show 2 < 1000; decide), ?_⟩
    refine ⟨_, rfl, j, C, dx, _, rfl, upd_same, T.cl, T.nR, (by show 3 < 1000; decide), ?_⟩
    rw [upd_upd]
    have b3 := (b2.trans (But.of (b := j) e3)).upd (o := .ins C dx (jnF a1 a2 a3 true))
    have m2 : H a2 = none := njn b1 n2 na2
    have m3 : H a3 = none := njn b2 n3 na3
    have z1 : (upd H3 j (.ins C dx (jnF a1 a2 a3 true))) a1 = some (.lst x1) := by rw [upd_ne na1]; exact e3 _ _ z1
    have z2 : (upd H3 j (.ins C dx (jnF a1 a2 a3 true))) a2 = some (.lst x2) := by rw [upd_ne na2]; exact e3 _ _ z2
    have z3 : (upd H3 j (.ins C dx (jnF a1 a2 a3 true))) a3 = some (.lst x3) := by rw [upd_ne na3]; exact h3
    have zj : (upd H3 j (.ins C dx (jnF a1 a2 a3 true))) j = some (.ins C dx (jnF a1 a2 a3 true)) := upd_same
    show (_ : L2.St → Hp → Prop) _ (upd H3 j (.ins C dx (jnF a1 a2 a3 true)))
    generalize upd H3 j (.ins C dx (jnF a1 a2 a3 true)) = H4 at b3 z1 z2 z3 zj
    -- waiting
    refine ⟨_, rfl, a, _, rfl, .inr (TR.seq (b3.tup njt ta)), by show 4 ≤ sizeLine; decide, fun pt nt => ?_⟩
    refine ⟨by show 1 ≤ sizeLine; decide, fun pw nw => ?_⟩
    have e5 := same_new (o := .tup [.int 0, .int ((((t.sh 0).map V.int).length : Nat) : Int), .int 0, .non]) nt
    have e6 := e5.trans (same_new (o := .lst [.ref pt]) nw)
    have b6 := b3.trans (But.of (b := j) e6)
    have z1 := e6 _ _ z1
    have z2 := e6 _ _ z2
    have z3 := e6 _ _ z3
    have zj := e6 _ _ zj
    have npj : pw ≠ j := fun z => by rw [← z, upd_same] at zj; cases zj
    have np1 : pw ≠ a1 := fun z => by rw [z, same_new nt _ _ ‹H4 a1 = some (.lst x1)›] at nw; cases nw
    have np2 : pw ≠ a2 := fun z => by rw [z, same_new nt _ _ ‹H4 a2 = some (.lst x2)›] at nw; cases nw
    have np3 : pw ≠ a3 := fun z => by rw [z, same_new nt _ _ ‹H4 a3 = some (.lst x3)›] at nw; cases nw
    have mp : H pw = none := by
      cases q : H pw with
      | none => rfl
      | some u => rw [same_new nt _ _ (b3 pw u npj q)] at nw; cases nw
    have lsh := t.sh_len 0
    refine ⟨fun m σ H' => ∃ (x1 x2 x3 : List V) (as : List Addr) (stk : List Wt) (v3 v4 v5 v6 v7 v8 : Option V), m = sizes stk ∧ m ≤ 79 ∧ σ = [some (.ref j), some (.ref a), some (.ref pw), v3, v4, v5, v6, v7, v8] ∧ But j H H' ∧ H' j = some (.ins C dx (jnF a1 a2 a3 true)) ∧
      H' a1 = some (.lst x1) ∧ H' a2 = some (.lst x2) ∧ H' a3 = some (.lst x3) ∧ x3.length = (t.sh 0).length ∧ H' pw = some (.lst (as.map V.ref)) ∧ Paired (WtAt H') as stk ∧ Filled (t.fs 0) x1 stk ∧ Filled (t.ls 0) x2 stk ∧ ∀ x ∈ stk, WtOk t x,
      ⟨_, x1, x2, x3, [pt], [⟨0, 0, t⟩], none, none, none, none, none, none, rfl, ?_, rfl, b6, zj, z1, z2, z3, l3, upd_same, .cons ⟨.non, ?_⟩ .nil, ⟨by rw [l1]; have := t.fs_len 0; omega, fun k x e => .inr ⟨_, List.mem_singleton.mpr rfl, Nat.zero_le _, ?_⟩⟩, ⟨by rw [l2]; have := t.ls_len 0; omega, fun k x e => .inr ⟨_, List.mem_singleton.mpr rfl, Nat.zero_le _, ?_⟩⟩, fun x hx => ?_⟩, ?_⟩
    · rw [sizes_one]
      have := t.size_n
      show t.size ≤ 79
      omega
    · rw [upd_ne (fun z => by rw [← z, upd_same] at nw; cases nw), upd_same, List.length_map]
      have : (t.sh 0).length = 0 + t.n - 1 := by omega
      rw [this]; rfl
    · have := (List.getElem?_eq_some_iff.mp e).1
      have := t.fs_len 0
      show k < 0 + t.n - 1
      omega
    · have := (List.getElem?_eq_some_iff.mp e).1
      have := t.ls_len 0
      show k < 0 + t.n - 1
      omega
    · rw [List.mem_singleton] at hx
      subst hx
      exact ⟨by show 0 + t.n ≤ t.n; omega, Seg.all _, Seg.all _, Seg.all _⟩
    · clear z1 z2 z3 zj b6 e6 e5 nw nt b3 l1 l2 l3
      rintro m σ H' ⟨x1, x2, x3, as, stk, v3, v4, v5, v6, v7, v8, rfl, hm79, rfl, bj, zj, z1, z2, z3, l3, zw, pw', fi1, fi2, ok⟩
      have ta' : TR H' a (t.sh 0) := bj.tup njt ta
      refine ⟨_, rfl, pw, _, rfl, .inl (SqL.of zw), _, _, rfl, rfl, _, rfl, ?_⟩
      rcases List.eq_nil_or_concat stk with rfl | ⟨stk', x, rfl⟩
      · cases pw'
        refine iteF (iteF (k _ bj ⟨dx, a1, a2, a3, zj, ?_, ?_, n1, m2⟩))
        · rw [z1, fi1.done]
        · rw [z2, fi2.done]
      · rw [List.concat_eq_append] at *
        obtain ⟨as', aw, rfl, pw2, ⟨ab, haw⟩⟩ := paired_snoc pw'
        rw [decide_eq_true (show (0 : Int) < (((as' ++ [aw]).map V.ref).length : Int) by simp only [List.length_map, List.length_append, List.length_singleton]; omega)]
        refine iteT ⟨_, rfl, j, C, dx, _, _, rfl, zj, T.cl, T.nR, rfl, _, rfl, iteT ⟨_, fun _ _ q => q, ?_⟩⟩
        obtain ⟨f, d, tr⟩ := x
        have okx := ok ⟨f, d, tr⟩ (by simp)
        have oks : ∀ x ∈ stk', WtOk t x := fun x hx => ok x (List.mem_append_left _ hx)
        have hsz : sizes (stk' ++ [⟨f, d, tr⟩]) = sizes stk' + tr.size := by rw [sizes_app, sizes_one]
        refine ⟨_, rfl, .inl ⟨rfl, _, SqL.of zw⟩, pw, _, .ref aw, rfl, rfl, zw, last_at, ?_⟩
        rw [drop_last]
        have haw' := upd_tup (ys := as'.map V.ref) zw haw
        refine ⟨aw, _, rfl, SqT.of haw', rfl, _, _, rfl, _, _, rfl, _, _, rfl, _, _, rfl, rfl, ?_⟩
        refine ⟨_, rfl, _, rfl, _, _, rfl, rfl, _, rfl, ?_⟩
        have bj2 : But j H (upd H' pw (.lst (as'.map V.ref))) := but_mut bj mp
        have y1 : (upd H' pw (.lst (as'.map V.ref))) a1 = some (.lst x1) := by rw [upd_ne np1.symm]; exact z1
        have y2 : (upd H' pw (.lst (as'.map V.ref))) a2 = some (.lst x2) := by rw [upd_ne np2.symm]; exact z2
        have y3 : (upd H' pw (.lst (as'.map V.ref))) a3 = some (.lst x3) := by rw [upd_ne np3.symm]; exact z3
        have yj : (upd H' pw (.lst (as'.map V.ref))) j = some (.ins C dx (jnF a1 a2 a3 true)) := by rw [upd_ne npj.symm]; exact zj
        have yw : (upd H' pw (.lst (as'.map V.ref))) pw = some (.lst (as'.map V.ref)) := upd_same
        have yp : Paired (WtAt (upd H' pw (.lst (as'.map V.ref)))) as' stk' := Paired.mapP pw2 fun a x q => WtAt.tm _ _ _ _ (fun b ys z => upd_tup zw z) q
        have ya : TR (upd H' pw (.lst (as'.map V.ref))) a (t.sh 0) := bj2.tup njt ta
        generalize upd H' pw (.lst (as'.map V.ref)) = H'' at bj2 y1 y2 y3 yj yw yp ya
        cases tr with
        | lf =>
          have e1 : (Tr.lf).n = 1 := rfl
          rw [decide_eq_false (show ¬ ((f : Int) < ((f + (Tr.lf).n - 1 : Nat) : Int)) by rw [e1]; omega)]
          refine iteF ⟨sizes stk', ?_, x1, x2, x3, as', stk', _, _, _, _, _, _, rfl, ?_, rfl, bj2, yj, y1, y2, y3, l3, yw, yp, fi1.leaf, fi2.leaf, oks⟩
          · rw [hsz]; show sizes stk' < sizes stk' + 1; omega
          · rw [hsz] at hm79; omega
        | nd l r =>
          have p1 := l.pos; have p2 := r.pos
          have en : (Tr.nd l r).n = l.n + r.n := rfl
          have fit : f + (l.n + r.n) ≤ t.n := okx.fit
          obtain ⟨ok1, ok2, q0, q1, q2⟩ := okx.parts
          rw [decide_eq_true (show ((f : Int) < ((f + (Tr.nd l r).n - 1 : Nat) : Int)) by rw [en]; omega)]
          refine iteT ?_
          refine ⟨_, rfl, _, rfl, (f : Int), ((f + (Tr.nd l r).n - 1 : Nat) : Int), rfl, ⟨by omega, by omega, by omega, by omega⟩, fun D hD => ?_⟩
          have eN : (((f + (Tr.nd l r).n - 1 : Nat) : Int) - (f : Int)).toNat = l.n + r.n - 1 := by rw [en]; omega
          rw [eN]
          refine lc_range (lo := (f : Int)) (n := l.n + r.n - 1) (fun i H5 => Same H'' H5 ∧ H5 D = some (.lst (if l.n - 1 < i then [.int ((f + l.n - 1 : Nat) : Int)] else []))) ⟨same_new hD, by rw [if_neg (by omega)]; exact upd_same⟩ (fun i H5 hi p => ?_) (fun H5 p => ?_)
          · obtain ⟨pe, pd⟩ := p
            have hx : ∃ x, (t.sh 0)[f + i]? = some x ∧ ((Tr.nd l r).sh d)[i]? = some x := by
              have hlen := (Tr.nd l r).sh_len d
              rw [en] at hlen
              have hi' : i < ((Tr.nd l r).sh d).length := by omega
              exact ⟨_, okx.sh i _ (List.getElem?_eq_getElem hi'), List.getElem?_eq_getElem hi'⟩
            obtain ⟨x, hx1, hx2⟩ := hx
            obtain ⟨r1, r2⟩ := sh_root hx2
            refine ⟨rfl, _, rfl, _, rfl, a, _, _, .int x, rfl, rfl, (ya.mono pe).seq, at_of (j := f + i) (by omega) (by rw [List.getElem?_map, hx1]; rfl), _, rfl, _, _, rfl, rfl, _, rfl, ?_⟩
            by_cases hr : i = l.n - 1
            · rw [decide_eq_true (r1.mpr hr)]
              rw [if_neg (by omega)] at pd
              refine iteT ⟨_, rfl, _, pd, by show 0 < sizeLine; decide, same_mut pe hD, ?_⟩
              rw [upd_same, if_pos (by omega)]
              have : (f : Int) + (i : Int) = ((f + l.n - 1 : Nat) : Int) := by omega
              rw [this]; rfl
            · rw [decide_eq_false (fun z => hr (r1.mp z))]
              refine iteF ⟨pe, ?_⟩
              rw [pd]
              by_cases h : l.n - 1 < i
              · rw [if_pos h, if_pos (by omega)]
              · rw [if_neg h, if_neg (by omega)]
          · obtain ⟨pe, pd⟩ := p
            rw [if_pos (by omega)] at pd
            have y1 := pe _ _ y1
            have y2 := pe _ _ y2
            have y3 := pe _ _ y3
            have yj := pe _ _ yj
            have yw := pe _ _ yw
            have yp : Paired (WtAt H5) as' stk' := Paired.mapP yp fun a x q => WtAt.tm _ _ _ _ (fun b ys z => pe b _ z) q
            have ya := ya.mono pe
            have bj5 := bj2.trans (But.of (b := j) pe)
            have lfs := t.fs_len 0
            have lls := t.ls_len 0
            refine ⟨_, rfl, D, _, rfl, .inl (SqL.of pd), rfl, false, rfl, iteF ?_⟩
            refine ⟨_, rfl, _, rfl, D, _, _, _, rfl, rfl, SqL.of pd, rfl, a, _, _, .int d, rfl, rfl, ya.seq, at_of (j := f + l.n - 1) rfl (by rw [List.getElem?_map, q0]; rfl), _, rfl, rfl, false, by rw [decide_eq_true rfl]; rfl, iteF ?_⟩
            refine ⟨_, rfl, D, _, _, _, rfl, rfl, SqL.of pd, rfl, ?_⟩
            -- self.first[seam] = first
            refine ⟨_, rfl, _, rfl, j, C, dx, _, _, rfl, yj, T.cl, T.nF, rfl, _, rfl, a1, x1, _, f + l.n - 1, rfl, rfl, y1, ixN_nat (by rw [fi1.1]; omega), ?_⟩
            have y2 : (upd H5 a1 (.lst (x1.set (f + l.n - 1) (.int (f : Int))))) a2 = some (.lst x2) := by rw [upd_ne n21]; exact y2
            have y3 : (upd H5 a1 (.lst (x1.set (f + l.n - 1) (.int (f : Int))))) a3 = some (.lst x3) := by rw [upd_ne n31]; exact y3
            have yj : (upd H5 a1 (.lst (x1.set (f + l.n - 1) (.int (f : Int))))) j = some (.ins C dx (jnF a1 a2 a3 true)) := by rw [upd_ne na1.symm]; exact yj
            have yw : (upd H5 a1 (.lst (x1.set (f + l.n - 1) (.int (f : Int))))) pw = some (.lst (as'.map V.ref)) := by rw [upd_ne np1]; exact yw
            have yp : Paired (WtAt (upd H5 a1 (.lst (x1.set (f + l.n - 1) (.int (f : Int)))))) as' stk' := Paired.mapP yp fun a x q => WtAt.tm _ _ _ _ (fun b ys z => upd_tup y1 z) q
            have y1 : (upd H5 a1 (.lst (x1.set (f + l.n - 1) (.int (f : Int))))) a1 = some (.lst (x1.set (f + l.n - 1) (.int (f : Int)))) := upd_same
            have bj6 : But j H (upd H5 a1 (.lst (x1.set (f + l.n - 1) (.int (f : Int))))) := but_mut bj5 n1
            generalize upd H5 a1 (.lst (x1.set (f + l.n - 1) (.int (f : Int)))) = H6 at y1 y2 y3 yj yw yp bj6
            -- self.last[seam] = last
            have el : f + (Tr.nd l r).n - 1 = f + l.n + r.n - 1 := by rw [en]; omega
            refine ⟨_, rfl, _, rfl, j, C, dx, _, _, rfl, yj, T.cl, T.nL, rfl, _, rfl, a2, x2, _, f + l.n - 1, rfl, rfl, y2, ixN_nat (by rw [fi2.1]; omega), ?_⟩
            have y1 : (upd H6 a2 (.lst (x2.set (f + l.n - 1) (.int ((f + (Tr.nd l r).n - 1 : Nat) : Int))))) a1 = some (.lst (x1.set (f + l.n - 1) (.int (f : Int)))) := by rw [upd_ne n21.symm]; exact y1
            have y3 : (upd H6 a2 (.lst (x2.set (f + l.n - 1) (.int ((f + (Tr.nd l r).n - 1 : Nat) : Int))))) a3 = some (.lst x3) := by rw [upd_ne n32]; exact y3
            have yj : (upd H6 a2 (.lst (x2.set (f + l.n - 1) (.int ((f + (Tr.nd l r).n - 1 : Nat) : Int))))) j = some (.ins C dx (jnF a1 a2 a3 true)) := by rw [upd_ne na2.symm]; exact yj
            have yw : (upd H6 a2 (.lst (x2.set (f + l.n - 1) (.int ((f + (Tr.nd l r).n - 1 : Nat) : Int))))) pw = some (.lst (as'.map V.ref)) := by rw [upd_ne np2]; exact yw
            have yp : Paired (WtAt (upd H6 a2 (.lst (x2.set (f + l.n - 1) (.int ((f + (Tr.nd l r).n - 1 : Nat) : Int)))))) as' stk' := Paired.mapP yp fun a x q => WtAt.tm _ _ _ _ (fun b ys z => upd_tup y2 z) q
            have y2 : (upd H6 a2 (.lst (x2.set (f + l.n - 1) (.int ((f + (Tr.nd l r).n - 1 : Nat) : Int))))) a2 = some (.lst (x2.set (f + l.n - 1) (.int ((f + (Tr.nd l r).n - 1 : Nat) : Int)))) := upd_same
            have bj7 : But j H (upd H6 a2 (.lst (x2.set (f + l.n - 1) (.int ((f + (Tr.nd l r).n - 1 : Nat) : Int))))) := but_mut bj6 m2
            generalize upd H6 a2 (.lst (x2.set (f + l.n - 1) (.int ((f + (Tr.nd l r).n - 1 : Nat) : Int)))) = H7 at y1 y2 y3 yj yw yp bj7
            rw [el] at y2
            -- self.above[seam] = above
            refine ⟨_, rfl, _, rfl, j, C, dx, _, _, rfl, yj, T.cl, T.nA, rfl, _, rfl, a3, x3, _, f + l.n - 1, rfl, rfl, y3, ixN_nat (by rw [l3]; omega), ?_⟩
            have y1 : (upd H7 a3 (.lst (x3.set (f + l.n - 1) ab))) a1 = some (.lst (x1.set (f + l.n - 1) (.int (f : Int)))) := by rw [upd_ne n31.symm]; exact y1
            have y2 : (upd H7 a3 (.lst (x3.set (f + l.n - 1) ab))) a2 = some (.lst (x2.set (f + l.n - 1) (.int ((f + l.n + r.n - 1 : Nat) : Int)))) := by rw [upd_ne n32.symm]; exact y2
            have yj : (upd H7 a3 (.lst (x3.set (f + l.n - 1) ab))) j = some (.ins C dx (jnF a1 a2 a3 true)) := by rw [upd_ne na3.symm]; exact yj
            have yw : (upd H7 a3 (.lst (x3.set (f + l.n - 1) ab))) pw = some (.lst (as'.map V.ref)) := by rw [upd_ne np3]; exact yw
            have yp : Paired (WtAt (upd H7 a3 (.lst (x3.set (f + l.n - 1) ab)))) as' stk' := Paired.mapP yp fun a x q => WtAt.tm _ _ _ _ (fun b ys z => upd_tup y3 z) q
            have y3 : (upd H7 a3 (.lst (x3.set (f + l.n - 1) ab))) a3 = some (.lst (x3.set (f + l.n - 1) ab)) := upd_same
            have bj8 : But j H (upd H7 a3 (.lst (x3.set (f + l.n - 1) ab))) := but_mut bj7 m3
            generalize upd H7 a3 (.lst (x3.set (f + l.n - 1) ab)) = H8 at y1 y2 y3 yj yw yp bj8
            -- the two parts wait
            have las : as'.length ≤ 79 := by
              have h1 := Paired.length yp
              have h2 := len_sizes stk'
              rw [hsz] at hm79
              omega
            refine ⟨_, rfl, .inl ⟨rfl, _, SqL.of yw⟩, _, rfl, _, rfl, _, rfl, _, _, rfl, rfl, _, rfl, by show 4 ≤ sizeLine; decide, fun q1' nq1 => ?_⟩
            have e9 := same_new (o := .tup [.int (f : Int), .int ((f + l.n - 1 : Nat) : Int), .int (d + 1), .int ((f + l.n - 1 : Nat) : Int)]) nq1
            have y1 := e9 _ _ y1
            have y2 := e9 _ _ y2
            have y3 := e9 _ _ y3
            have yj := e9 _ _ yj
            have yw := e9 _ _ yw
            have yp : Paired (WtAt (upd H8 q1' (.tup [.int (f : Int), .int ((f + l.n - 1 : Nat) : Int), .int (d + 1), .int ((f + l.n - 1 : Nat) : Int)]))) as' stk' := Paired.mapP yp fun a x q => WtAt.tm _ _ _ _ (fun b ys z => e9 b _ z) q
            have hq1 : WtAt (upd H8 q1' (.tup [.int (f : Int), .int ((f + l.n - 1 : Nat) : Int), .int (d + 1), .int ((f + l.n - 1 : Nat) : Int)])) q1' ⟨f, d + 1, l⟩ := ⟨_, upd_same⟩
            have bj9 := bj8.trans (But.of (b := j) e9)
            generalize upd H8 q1' (.tup [.int (f : Int), .int ((f + l.n - 1 : Nat) : Int), .int (d + 1), .int ((f + l.n - 1 : Nat) : Int)]) = H9 at y1 y2 y3 yj yw yp hq1 bj9
            refine ⟨pw, _, _, rfl, rfl, yw, by rw [List.length_map]; exact Nat.lt_of_le_of_lt las (by decide), ?_⟩
            obtain ⟨as1, yw1, yp1⟩ := LP.grow (bs := [q1']) WtAt.tm yw yp (.cons hq1 .nil)
            have y1 : (upd H9 pw (.lst (as'.map V.ref ++ [q1'].map V.ref))) a1 = _ := (upd_ne np1.symm).trans y1
            have y2 : (upd H9 pw (.lst (as'.map V.ref ++ [q1'].map V.ref))) a2 = _ := (upd_ne np2.symm).trans y2
            have y3 : (upd H9 pw (.lst (as'.map V.ref ++ [q1'].map V.ref))) a3 = _ := (upd_ne np3.symm).trans y3
            have yj : (upd H9 pw (.lst (as'.map V.ref ++ [q1'].map V.ref))) j = _ := (upd_ne npj.symm).trans yj
            have bj10 : But j H (upd H9 pw (.lst (as'.map V.ref ++ [q1'].map V.ref))) := but_mut bj9 mp
            have las1 : as1.length ≤ 80 := by
              have h1 := Paired.length yp1
              have h2 := Paired.length yp
              rw [List.length_append, List.length_singleton] at h1
              omega
            show (_ : L2.St → Hp → Prop) _ (upd H9 pw (.lst (as'.map V.ref ++ [q1'].map V.ref)))
            generalize upd H9 pw (.lst (as'.map V.ref ++ [q1'].map V.ref)) = H10 at y1 y2 y3 yj yw1 yp1 bj10
            refine ⟨_, rfl, .inl ⟨rfl, _, SqL.of yw1⟩, _, rfl, _, _, rfl, rfl, _, rfl, _, rfl, _, _, rfl, rfl, _, rfl, by show 4 ≤ sizeLine; decide, fun q2' nq2 => ?_⟩
            have e11 := same_new (o := .tup [.int (((f + l.n - 1 : Nat) : Int) + 1), .int ((f + (Tr.nd l r).n - 1 : Nat) : Int), .int (d + 1), .int ((f + l.n - 1 : Nat) : Int)]) nq2
            have hq2 : WtAt (upd H10 q2' (.tup [.int (((f + l.n - 1 : Nat) : Int) + 1), .int ((f + (Tr.nd l r).n - 1 : Nat) : Int), .int (d + 1), .int ((f + l.n - 1 : Nat) : Int)])) q2' ⟨f + l.n, d + 1, r⟩ := by
              refine ⟨.int ((f + l.n - 1 : Nat) : Int), upd_same.trans ?_⟩
              have h1 : (((f + l.n - 1 : Nat) : Int) + 1) = ((f + l.n : Nat) : Int) := by omega
              rw [h1, el]
            have yp2 : Paired (WtAt (upd H10 q2' (.tup [.int (((f + l.n - 1 : Nat) : Int) + 1), .int ((f + (Tr.nd l r).n - 1 : Nat) : Int), .int (d + 1), .int ((f + l.n - 1 : Nat) : Int)]))) as1 (stk' ++ [⟨f, d + 1, l⟩]) := Paired.mapP yp1 fun a x q => WtAt.tm _ _ _ _ (fun b ys z => e11 b _ z) q
            have yw2 := e11 _ _ yw1
            refine ⟨pw, _, _, rfl, rfl, yw2, by rw [List.length_map]; exact Nat.lt_of_le_of_lt las1 (by decide), ?_⟩
            obtain ⟨as2, yw3, yp3⟩ := LP.grow (bs := [q2']) WtAt.tm yw2 yp2 (.cons hq2 .nil)
            have hs2 : sizes (stk' ++ [⟨f, d + 1, l⟩] ++ [⟨f + l.n, d + 1, r⟩]) = sizes stk' + l.size + r.size := by rw [sizes_app, sizes_app, sizes_one, sizes_one]
            have hs3 : (Tr.nd l r).size = l.size + r.size + 1 := rfl
            refine ⟨_, ?_, x1.set (f + l.n - 1) (.int (f : Int)), x2.set (f + l.n - 1) (.int ((f + l.n + r.n - 1 : Nat) : Int)), x3.set (f + l.n - 1) ab, as2, stk' ++ [(⟨f, d + 1, l⟩ : Wt)] ++ [(⟨f + l.n, d + 1, r⟩ : Wt)], _, _, _, _, _, _, rfl, ?_, rfl,
              but_mut (bj10.trans (But.of (b := j) e11)) mp, (upd_ne npj.symm).trans (e11 _ _ yj), (upd_ne np1.symm).trans (e11 _ _ y1), (upd_ne np2.symm).trans (e11 _ _ y2), (upd_ne np3.symm).trans (e11 _ _ y3), by rw [List.length_set]; exact l3, yw3, yp3,
              fi1.node q1, fi2.node q2, fun x hx => ?_⟩
            · rw [hs2, hsz, hs3]; omega
            · rw [hs2]; rw [hsz, hs3] at hm79; omega
            · rcases List.mem_append.mp hx with z | z
              · rcases List.mem_append.mp z with z | z
                · exact oks x z
                · rw [List.mem_singleton] at z; subst z; exact ok1
              · rw [List.mem_singleton] at z; subst z; exact ok2
end
end K66
namespace K66
open PySem L2
/-- a tuple of rows -/
def TW (H : Hp) (a : Addr) (ws : List Row) : Prop := ∃ as : List Addr, H a = some (.tup (as.map V.ref)) ∧ TRs H as ws
theorem TW.same {H H' : Hp} {a : Addr} {ws : List Row} (h : TW H a ws) (e : Same H H') : TW H' a ws := by
  obtain ⟨as, h1, h2⟩ := h
  exact ⟨as, e _ _ h1, h2.mono e⟩
theorem trues_all (n : Nat) : (List.replicate n true).all id = true := by
  rw [List.all_eq_true]; intro x hx; exact (List.mem_replicate.mp hx).2
/-- all([.. for x in t]), each True -/
theorem lc_trues {K : PySem.W.Frag} {H : Hp} {a D : Addr} {xs : List V} {vs : List Nat} {σ : L2.St} {Qd : Hp → Prop} {te : TE} {j : Nat} (hD : H D = none) (hl : H a = some (.tup xs)) (hz : xs.length ≤ 10000) (hw : ∀ x, wipe ((wipe σ vs).set j (some x)) vs = wipe σ vs)
    (ht : ∀ (i : Nat) (x : V) (H1 : Hp) (Q : VK), Same H H1 → xs[i]? = some x → (∀ H', Same H1 H' → Q (.bl true) H') → te ((wipe σ vs).set j (some x)) H1 Q)
    (hd : ∀ H', Same H H' → H' D = some (.lst ((List.replicate xs.length true).map V.bl)) → Qd H') :
    ∃ W : Nat → Nat → Hp → Prop, (∃ m, W 0 m (upd H D (.lst []))) ∧ ∀ i m H, W i m H →
      ((Itt K a).stop i H ∧ Qd H) ∨ ((Itt K a).go i H ∧ ∃ Nx : Hp → Prop, (∀ H', Nx H' → ∃ m', m' < m ∧ W (i + 1) m' H') ∧ ∀ x H', (Itt K a).yld i H x H' → gName j x (wipe σ vs) H' fun σ2 H2 => wipe σ2 vs = wipe σ vs ∧ tYes σ2 H2 fun b H3 =>
        if b = true then te σ2 H3 fun y H4 => ∃ acc, H4 D = some (.lst acc) ∧ acc.length < sizeLine ∧ Nx (upd H4 D (.lst (acc ++ [y]))) else Nx H3) := by
  refine lc_tup (K := K) (a := a) (xs := xs) (fun i H' => Same H H' ∧ H' D = some (.lst ((List.replicate i true).map V.bl))) ⟨same_new hD, upd_same⟩ (fun i H' _ p => SqT.of (p.1 _ _ hl)) (fun i x H' hx p => ?_) (fun H' p => hd H' p.1 p.2)
  refine ⟨hw _, lc_yes (ht i x H' _ p.1 hx fun H2 e2 => ⟨_, e2 _ _ p.2, ?_, same_mut (p.1.trans e2) hD, ?_⟩)⟩
  · have := (List.getElem?_eq_some_iff.mp hx).1
    rw [List.length_map, List.length_replicate]
    exact Nat.lt_of_lt_of_le (show i < 10001 by omega) (by decide)
  · rw [upd_same, List.replicate_succ', List.map_append]; rfl
section
variable {P : Program} {w : World} {K : PySem.W.Frag} {mg : Str → Option Value} {base : Heap}
/-! is_fair -/
def spIsFair : Sp := fun vs H Q _ => ∃ (a : Addr) (t : Tr), vs = [.ref a] ∧ TR H a (t.sh 0) ∧ t.n ≤ 40 ∧ ∀ H', Same H H' → Q (.bl true) H'
abbrev nFair : List Str := ["thing", "depth"]
theorem scIsFair : FnScope nFair ["thing"] (C8.fnScope sIsFair) := ⟨rfl, rfl, rfl, by decide +kernel, rfl, by decide +kernel, by decide +kernel⟩

theorem okIsFair {f C : Addr} {fd : FuncData} (F : C8.Def K mg "is_fair" sIsFair f fd) (b : Binds K fd ["thing"] []) (g : Gb mg) (T : TxJ K C) (G1 : C8.Cal P w K mg base 1 "is_integer" spIsInteger []) (G2 : C8.Mak P w K mg base 1 "Joinings" C (spJnInit C) []) : C8.Cal P w K mg base 3 "is_fair" spIsFair [] := by
  refine C8.cal0 F b .nil scIsFair (fun vs H Q E h => ?_) (fun cdv A outer s H vs Q E hr h => ?_)
  · obtain ⟨a, t, rfl, _⟩ := h; rfl
  · obtain ⟨a, t, rfl, ta, hn, k⟩ := h
    have ls := t.sh_len 0
    refine ⟨_, (pss_cons (ps_if (PW.pt (pw_or (pt_not (pt_val (pe_callB call_isi rfl g.isi bIsi (pa_cons (pv 0) (pa_cons (pe_bltn (v := .ty "tuple") rfl g.tuple bTuple rfl) pa_nil))))) (pw_or1 (pt_not (pt_val (pe_callB (cr_all rfl) rfl g.all bAll (pa_cons (pe_lc (own := [("depth", 1)]) (g := gName 1) (tt := tYes) rfl scIsFair.nd (pi_tup (pv 0)) (blkOk_by (N := nFair) (sc := C8.fnScope sIsFair) (by decide +kernel)) (fun _ _ _ _ _ => pg_name (i := 1) scIsFair.nd rfl (Or.inl rfl)) (fun _ _ _ _ _ => pts_nil) (fun _ _ _ _ _ => (pe_and (C8.pe_c G1 hr (by decide) rfl (pa_cons (pv 1) pa_nil)) (pe_one (pe_cmpR op_ge (pv 1) pe_int (nomark _)))))) pa_nil))))))) (pss_one (ps_ret pe_bl)) pss_nil) (pss_one (ps_ret (pe_fld (C8.pe_mk G2 hr (by decide) rfl (pa_cons (pv 0) pa_nil)) rfl)))), ?_⟩
    refine ⟨_, rfl, _, _, _, _, _, rfl, .ty _, .base (.tup ta), kTupTup, ?_⟩
    refine ⟨_, rfl, iteF ?_⟩
    refine ⟨_, rfl, a, rfl, ⟨_, ta.seq⟩, fun D hD => ?_⟩
    refine lc_trues (j := 1) hD ta (by rw [List.length_map]; omega) (fun x => rfl) (fun i x H1 Q' e1 hx k1 => ?_) (fun H1 e1 h1 => ?_)
    · obtain ⟨n, rfl, hn'⟩ := ri_map hx
      have := t.sh_ge 0 n (List.mem_of_getElem? hn')
      refine ⟨_, rfl, n, rfl, _, rfl, iteT ⟨_, rfl, _, _, rfl, rfl, ?_⟩⟩
      show Q' (.bl (decide ((0 : Int) ≤ n))) H1
      rw [decide_eq_true (show (0 : Int) ≤ n from this)]
      exact k1 H1 (Same.refl _)
    · refine ⟨D, _, rfl, SqL.of h1, ?_⟩
      rw [trues_all]
      refine ⟨_, rfl, iteF ?_⟩
      refine ⟨_, rfl, fun x dx nx ndx nex => ?_⟩
      have s0 : Same H1 (upd (upd H1 dx (.own x)) x (.ins C dx [])) := same_snew (same_new ndx) (by rw [upd_ne nex.symm]; exact nx)
      refine ⟨x, dx, a, t, rfl, upd_same, (ta.mono e1).mono s0, hn, fun H2 b2 jn => ⟨rfl, ?_⟩⟩
      obtain ⟨dx', a1, a2, a3, h1, _⟩ := jn.jn
      refine ⟨x, C, dx', _, _, rfl, h1, T.cl, T.nR, rfl, k H2 (e1.trans fun b o q => ?_)⟩
      exact b2 b o (fun z => by rw [z, nx] at q; cases q) (s0 b o q)
/-! is_shape -/
def spIsShape : Sp := fun vs H Q _ => ∃ (a : Addr) (t : Tr), vs = [.ref a] ∧ TR H a (t.sh 0) ∧ t.n ≤ 40 ∧ ∀ H', Same H H' → Q (.bl true) H'
theorem scIsShape : FnScope ["thing"] ["thing"] (C8.fnScope sIsShape) := ⟨rfl, rfl, rfl, by decide +kernel, rfl, by decide +kernel, by decide +kernel⟩
theorem okIsShape {f : Addr} {fd : FuncData} (F : C8.Def K mg "is_shape" sIsShape f fd) (b : Binds K fd ["thing"] []) (g : Gb mg) (gM : ∃ t, mg "MOST_WORDS" = some (.int 40 t)) (G1 : C8.Cal P w K mg base 3 "is_fair" spIsFair []) : C8.Cal P w K mg base 4 "is_shape" spIsShape [] := by
  obtain ⟨tM, gM⟩ := gM
  refine C8.cal0 F b .nil scIsShape (fun vs H Q E h => ?_) (fun cdv A outer s H vs Q E hr h => ?_)
  · obtain ⟨a, t, rfl, _⟩ := h; rfl
  · obtain ⟨a, t, rfl, ta, hn, k⟩ := h
    have ls := t.sh_len 0
    refine ⟨_, (pss_one (ps_ret (pe_and (pe_callB call_isi rfl g.isi bIsi (pa_cons (pv 0) (pa_cons (pe_bltn (v := .ty "tuple") rfl g.tuple bTuple rfl) pa_nil))) (pe_and (pe_cmpR op_lt (pe_callB call_len_seq rfl g.len PySem.boot_len (pa_cons (pv 0) pa_nil)) (pe_glob (v := .int 40) rfl gM ⟨_, rfl⟩) (nomark _)) (pe_one (C8.pe_c G1 hr (by decide) rfl (pa_cons (pv 0) pa_nil))))))), ?_⟩
    refine ⟨_, rfl, _, _, _, _, _, rfl, .ty _, .base (.tup ta), kTupTup, ?_⟩
    refine ⟨_, rfl, iteT ?_⟩
    refine ⟨_, rfl, a, _, rfl, .inr ta.seq, _, _, rfl, rfl, _, rfl, ?_⟩
    rw [decide_eq_true (show (((t.sh 0).map V.int).length : Int) < 40 by rw [List.length_map]; omega)]
    exact iteT ⟨_, rfl, a, t, rfl, ta, hn, k⟩
/-! check_shape_for -/
def spCheckShapeFor : Sp := fun vs H Q _ => ∃ (a : Addr) (t : Tr), vs = [.int (t.n : Int), .ref a] ∧ TR H a (t.sh 0) ∧ t.n ≤ 40 ∧ ∀ H', Same H H' → Q .non H'
theorem scCheckShapeFor : FnScope ["words", "thing"] ["words", "thing"] (C8.fnScope sCheckShapeFor) := ⟨rfl, rfl, rfl, by decide +kernel, rfl, by decide +kernel, by decide +kernel⟩
theorem okCheckShapeFor {f : Addr} {fd : FuncData} (F : C8.Def K mg "check_shape_for" sCheckShapeFor f fd) (b : Binds K fd ["words", "thing"] []) (g : Gb mg) (G1 : C8.Cal P w K mg base 4 "is_shape" spIsShape []) : C8.Cal P w K mg base 5 "check_shape_for" spCheckShapeFor [] := by
  refine C8.cal0 F b .nil scCheckShapeFor (fun vs H Q E h => ?_) (fun cdv A outer s H vs Q E hr h => ?_)
  · obtain ⟨a, t, rfl, _⟩ := h; rfl
  · obtain ⟨a, t, rfl, ta, hn, k⟩ := h
    have ls := t.sh_len 0
    refine ⟨_, (pss_one (ps_if (PW.pt (pw_or (pt_not (pt_val (C8.pe_c G1 hr (by decide) rfl (pa_cons (pv 1) pa_nil)))) (pw_or1 (pt_cmpR op_ne (pe_op op_add (pe_callB call_len_seq rfl g.len PySem.boot_len (pa_cons (pv 1) pa_nil)) pe_int) (pv 0) (nomark _))))) (pss_one ps_never) pss_nil)), ?_⟩
    refine ⟨_, rfl, a, t, rfl, ta, hn, fun H1 e1 => ?_⟩
    refine ⟨_, rfl, iteF ?_⟩
    refine ⟨_, rfl, a, _, rfl, .inr (ta.mono e1).seq, _, _, rfl, rfl, _, rfl, rfl, false, ?_, iteF (k H1 e1)⟩
    have : (((t.sh 0).map V.int).length : Int) + 1 = (t.n : Int) := by rw [List.length_map]; omega
    show V.bl (!decide (V.int ((((t.sh 0).map V.int).length : Int) + 1) = V.int (t.n : Int))) = V.bl false
    rw [this, decide_eq_true rfl]; rfl
/-! is_word -/
def spIsWord : Sp := fun vs H Q _ => ∃ (a : Addr) (r : Row) (S : Int), vs = [.ref a, .int S] ∧ TR H a r ∧ Val S r ∧ 1 ≤ r.length ∧ r.length ≤ 200 ∧ ∀ H', Same H H' → Q (.bl true) H'
theorem scIsWord : FnScope ["thing", "sounds"] ["thing", "sounds"] (C8.fnScope sIsWord) := ⟨rfl, rfl, rfl, by decide +kernel, rfl, by decide +kernel, by decide +kernel⟩
theorem okIsWord {f : Addr} {fd : FuncData} (F : C8.Def K mg "is_word" sIsWord f fd) (b : Binds K fd ["thing", "sounds"] []) (gM : ∃ t, mg "MOST_WORD" = some (.int 200 t)) (G1 : C8.Cal P w K mg base 4 "is_sounds" spIsSounds []) : C8.Cal P w K mg base 5 "is_word" spIsWord [] := by
  obtain ⟨tM, gM⟩ := gM
  refine C8.cal0 F b .nil scIsWord (fun vs H Q E h => ?_) (fun cdv A outer s H vs Q E hr h => ?_)
  · obtain ⟨a, t, S, rfl, _⟩ := h; rfl
  · obtain ⟨a, r, S, rfl, ta, hv, h1, h2, k⟩ := h
    refine ⟨_, (pss_one (ps_ret (C8.pe_c G1 hr (by decide) rfl (pa_cons (pv 0) (pa_cons (pv 1) (pa_cons pe_int (pa_cons (pe_glob (v := .int 200) rfl gM ⟨_, rfl⟩) pa_nil))))))), ?_⟩
    exact ⟨_, rfl, _, rfl, a, r, S, _, _, rfl, ta, hv, by omega, by omega, by omega, k⟩
/-! check_words -/
def spCheckWords : Sp := fun vs H Q _ => ∃ (a : Addr) (ws : List Row) (S : Int), vs = [.int S, .ref a] ∧ TW H a ws ∧ (∀ r ∈ ws, Val S r ∧ 1 ≤ r.length ∧ r.length ≤ 200) ∧ 1 ≤ ws.length ∧ ws.length ≤ 40 ∧ ∀ H', Same H H' → Q .non H'
abbrev nCw : List Str := ["sounds", "thing", "word"]
theorem scCheckWords : FnScope nCw ["sounds", "thing"] (C8.fnScope sCheckWords) := ⟨rfl, rfl, rfl, by decide +kernel, rfl, by decide +kernel, by decide +kernel⟩

theorem okCheckWords {f : Addr} {fd : FuncData} (F : C8.Def K mg "check_words" sCheckWords f fd) (b : Binds K fd ["sounds", "thing"] []) (g : Gb mg) (gM : ∃ t, mg "MOST_WORDS" = some (.int 40 t)) (G1 : C8.Cal P w K mg base 5 "is_word" spIsWord []) : C8.Cal P w K mg base 6 "check_words" spCheckWords [] := by
  obtain ⟨tM, gM⟩ := gM
  refine C8.cal0 F b .nil scCheckWords (fun vs H Q E h => ?_) (fun cdv A outer s H vs Q E hr h => ?_)
  · obtain ⟨a, t, S, rfl, _⟩ := h; rfl
  · obtain ⟨a, ws, S, rfl, ⟨as, h1, h2⟩, hv, l1, l2, k⟩ := h
    have hl := h2.len
    refine ⟨_, (pss_cons (ps_if (PW.pt (pw_or (pt_not (pt_val (pe_callB call_isi rfl g.isi bIsi (pa_cons (pv 1) (pa_cons (pe_bltn (v := .ty "tuple") rfl g.tuple bTuple rfl) pa_nil))))) (pw_or1 (pt_not (pt_chain op_le op_le pe_int (pe_callB call_len_seq rfl g.len PySem.boot_len (pa_cons (pv 1) pa_nil)) (pe_glob (v := .int 40) rfl gM ⟨_, rfl⟩)))))) (pss_one ps_never) pss_nil) (pss_one (ps_if (pt_not (pt_val (pe_callB (cr_all rfl) rfl g.all bAll (pa_cons (pe_lc (own := [("word", 2)]) (g := gName 2) (tt := tYes) rfl scCheckWords.nd (pi_tup (pv 1)) (blkOk_by (N := nCw) (sc := C8.fnScope sCheckWords) (by decide +kernel)) (fun _ _ _ _ _ => pg_name (i := 2) scCheckWords.nd rfl (Or.inl rfl)) (fun _ _ _ _ _ => pts_nil) (fun _ _ _ _ _ => (C8.pe_c G1 hr (by decide) rfl (pa_cons (pv 2) (pa_cons (pv 0) pa_nil))))) pa_nil)))) (pss_one ps_never) pss_nil))), ?_⟩
    refine ⟨_, rfl, _, _, _, _, _, rfl, .ty _, .base (.tup h1), kTupTup, ?_⟩
    refine ⟨_, rfl, iteF ?_⟩
    refine ⟨_, rfl, a, _, rfl, .inr (SqT.of h1), _, _, rfl, rfl, _, rfl, ?_⟩
    rw [List.length_map, hl, decide_eq_true (show (1 : Int) ≤ (ws.length : Int) by omega)]
    refine iteT ⟨_, _, rfl, rfl, _, rfl, ?_⟩
    rw [decide_eq_true (show (ws.length : Int) ≤ 40 by omega)]
    refine iteF ?_
    refine ⟨_, rfl, a, rfl, ⟨_, SqT.of h1⟩, fun D hD => ?_⟩
    refine lc_trues (j := 2) hD h1 (by rw [List.length_map]; omega) (fun x => rfl) (fun i x H1 Q' e1 hx k1 => ?_) (fun H1 e1 hh1 => ?_)
    · obtain ⟨p, rfl, hp⟩ := ref_at hx
      obtain ⟨r, hr', tr⟩ := TRs.get h2 hp
      obtain ⟨v1, v2, v3⟩ := hv r (List.mem_of_getElem? hr')
      exact ⟨_, rfl, _, rfl, p, r, S, rfl, tr.mono e1, v1, v2, v3, k1⟩
    · refine ⟨D, _, rfl, SqL.of hh1, ?_⟩
      rw [trues_all]
      exact ⟨_, rfl, iteF (k H1 e1)⟩
/-! check_phrase -/
def spCheckPhrase (P : Program) (w : World) (C : Addr) : Sp := fun vs H Q _ => ∃ (b a c : Addr) (S A B : Int) (kvs : List (NK × NK)) (ws : List Row) (t : Tr), vs = [.ref b, .ref a, .ref c] ∧ Bk P w C H b S A B kvs ∧ TW H a ws ∧ (∀ r ∈ ws, Val S r ∧ 1 ≤ r.length ∧ r.length ≤ 200) ∧ ws.length = t.n ∧ t.n ≤ 40 ∧ TR H c (t.sh 0) ∧ ∀ H', Same H H' → Q .non H'
theorem scCheckPhrase : FnScope ["book", "words", "shape"] ["book", "words", "shape"] (C8.fnScope sCheckPhrase) := ⟨rfl, rfl, rfl, by decide +kernel, rfl, by decide +kernel, by decide +kernel⟩
theorem okCheckPhrase {f C : Addr} {fd : FuncData} (F : C8.Def K mg "check_phrase" sCheckPhrase f fd) (b : Binds K fd ["book", "words", "shape"] []) (g : Gb mg) (T : TxB K C) (G1 : C8.Cal P w K mg base 6 "check_words" spCheckWords []) (G2 : C8.Cal P w K mg base 5 "check_shape_for" spCheckShapeFor []) : C8.Cal P w K mg base 7 "check_phrase" (spCheckPhrase P w C) [] := by
  refine C8.cal0 F b .nil scCheckPhrase (fun vs H Q E h => ?_) (fun cdv A outer s H vs Q E hr h => ?_)
  · obtain ⟨b, a, c, S, A, B, kvs, ws, t, rfl, _⟩ := h; rfl
  · obtain ⟨b, a, c, S, A', B, kvs, ws, t, rfl, bk, tw, hv, hl, hn, tc, k⟩ := h
    obtain ⟨dx, d, hb, nd⟩ := id bk
    have := t.pos
    refine ⟨_, (pss_cons (ps_expr (C8.pe_c G1 hr (by decide) rfl (pa_cons (pe_fld (pv 0) rfl) (pa_cons (pv 1) pa_nil)))) (pss_one (ps_expr (C8.pe_c G2 hr (by decide) rfl (pa_cons (pe_callB call_len_seq rfl g.len PySem.boot_len (pa_cons (pv 1) pa_nil)) (pa_cons (pv 2) pa_nil)))))), ?_⟩
    refine ⟨_, rfl, b, C, dx, _, _, rfl, hb, T.cl, T.nS, rfl, _, rfl, a, ws, S, rfl, tw, hv, by omega, by omega, fun H1 e1 => ?_⟩
    obtain ⟨as, h1, h2⟩ := tw.same e1
    have hl2 := h2.len
    refine ⟨_, rfl, a, _, rfl, .inr (SqT.of h1), _, rfl, c, t, ?_, tc.mono e1, hn, fun H2 e2 => k H2 (e1.trans e2)⟩
    rw [List.length_map, hl2, hl]; rfl
end
end K66
namespace K66
open PySem L2
def Wt2At (H : Hp) (a : Addr) (x : Wt) : Prop := H a = some (.tup [.int x.f, .int ((x.f + x.t.n - 1 : Nat) : Int)])
theorem Wt2At.tm : TMono Wt2At := fun _ _ _ _ e h => e _ _ h
def restRo (xs : List Wt) : Row := xs.reverse.flatMap fun x => x.t.ro x.f
theorem restRo_snoc (xs : List Wt) (x : Wt) : restRo (xs ++ [x]) = x.t.ro x.f ++ restRo xs := by
  unfold restRo
  rw [List.reverse_append, List.reverse_singleton, List.singleton_append, List.flatMap_cons]
/-- what is known of a stretch that waits -/
structure Wt2Ok (t : Tr) (x : Wt) : Prop where
  fit : x.f + x.t.n ≤ t.n
  fs : Seg (t.fs 0) x.f (x.t.fs x.f)
  ls : Seg (t.ls 0) x.f (x.t.ls x.f)
theorem Wt2Ok.parts {t l r : Tr} {f : Nat} {d d' : Int} (h : Wt2Ok t ⟨f, d, .nd l r⟩) : Wt2Ok t ⟨f, d', l⟩ ∧ Wt2Ok t ⟨f + l.n, d', r⟩ := by
  obtain ⟨h1, h3, h4⟩ := h
  have h1' : f + (l.n + r.n) ≤ t.n := h1
  obtain ⟨f1, f2, f3⟩ := Seg.node (n := l.n) (show Seg (t.fs 0) f (l.fs f ++ (f : Int) :: r.fs (f + l.n)) from h3) (l.fs_len _)
  obtain ⟨l1, l2, l3⟩ := Seg.node (n := l.n) (show Seg (t.ls 0) f (l.ls f ++ ((f + l.n + r.n - 1 : Nat) : Int) :: r.ls (f + l.n)) from h4) (l.ls_len _)
  exact ⟨⟨by show f + l.n ≤ t.n; omega, f1, l1⟩, ⟨by show f + l.n + r.n ≤ t.n; omega, f3, l3⟩⟩
theorem ro_len : ∀ (t : Tr) (f : Nat), (t.ro f).length + 1 = t.n
  | .lf, _ => rfl
  | .nd l r, f => by
    have h1 := ro_len l f; have h2 := ro_len r (f + l.n)
    show (((f + l.n - 1 : Nat) : Int) :: (r.ro (f + l.n) ++ l.ro f)).length + 1 = l.n + r.n
    rw [List.length_cons, List.length_append]; omega
section
variable {P : Program} {w : World} {K : PySem.W.Frag} {mg : Str → Option Value} {base : Heap}
/-! inner_first -/
def spInnerFirst : Sp := fun vs H Q _ => ∃ (a : Addr) (t : Tr), vs = [.ref a] ∧ TR H a (t.sh 0) ∧ t.n ≤ 40 ∧ ∀ H' p, Same H H' → H p = none → H' p = some (.lst ((t.po 0).map V.int)) → Q (.ref p) H'
abbrev nIf : List Str := ["shape", "joinings", "found", "waiting", "first", "last", "seam", "one"]
theorem scInnerFirst : FnScope nIf ["shape"] (C8.fnScope sInnerFirst) := ⟨rfl, rfl, rfl, by decide +kernel, rfl, by decide +kernel, by decide +kernel⟩

theorem okInnerFirst {f C : Addr} {fd : FuncData} (F : C8.Def K mg "inner_first" sInnerFirst f fd) (b : Binds K fd ["shape"] []) (g : Gb mg) (T : TxJ K C) (G1 : C8.Mak P w K mg base 1 "Joinings" C (spJnInit C) []) : C8.Cal P w K mg base 3 "inner_first" spInnerFirst [] := by
  refine C8.cal0 F b .nil scInnerFirst (fun vs H Q E h => ?_) (fun cdv A outer s H vs Q E hr h => ?_)
  · obtain ⟨a, t, rfl, _⟩ := h; rfl
  · obtain ⟨a, t, rfl, ta, hn, k⟩ := h
    have tn := t.pos
    have hu : (A.deeper (PyProof.Rows.envOfC "inner_first" (C8.fnScope sInnerFirst) s.heap.objs.size f cdv)).units + 64 < cLine := hr.units
    refine ⟨_, (pss_cons (ps_set (i := 1) scInnerFirst.nd rfl (Or.inr rfl) (C8.pe_mk G1 hr (by decide) rfl (pa_cons (pv 0) pa_nil))) (pss_cons (ps_set (i := 2) scInnerFirst.nd rfl (Or.inl rfl) (pe_lst pa_nil)) (pss_cons (ps_set (i := 3) scInnerFirst.nd rfl (Or.inl rfl) (pe_lst (pa_cons (pe_tup (pa_cons pe_int (pa_cons (pe_callB call_len_seq rfl g.len PySem.boot_len (pa_cons (pv 0) pa_nil)) pa_nil))) pa_nil))) (pss_cons (ps_while PassesOwn.never (pt_cmpR op_gt (pe_callB call_len_seq rfl g.len PySem.boot_len (pa_cons (pv 3) pa_nil)) pe_int (nomark _)) (pss_cons (ps_asg (pe_bm0 PySem.F.plainAttrs_list PySem.F.slot_list_pop PySem.F.type_list_pop mt_pop (pv 3)) (pg_tup rfl (pgs_cons (pg_name (i := 4) scInnerFirst.nd rfl (Or.inr rfl)) (pgs_cons (pg_name (i := 5) scInnerFirst.nd rfl (Or.inr rfl)) pgs_nil)))) (pss_one (ps_if (pt_cmpR op_lt (pv 4) (pv 5) (nomark _)) (pss_cons (ps_set (i := 6) scInnerFirst.nd rfl (Or.inl rfl) (pe_ix ix_list (pe_lc (own := [("one", 7)]) (g := gName 7)  rfl scInnerFirst.nd (pi_range2 rfl g.range (pa_cons (pv 4) (pa_cons (pv 5) pa_nil))) (blkOk_by (N := nIf) (sc := C8.fnScope sInnerFirst) (by decide +kernel)) (fun _ _ _ _ _ => pg_name (i := 7) scInnerFirst.nd rfl (Or.inl rfl)) (fun _ _ _ _ _ => (pts_one (pt_cmpR (eqD_K K hu) (pe_tup (pa_cons (pe_ix (ixL_K K) (fld_K K (pv 1) rfl) (pv 7) (fun _ _ => rfl)) (pa_cons (pe_ix (ixL_K K) (fld_K K (pv 1) rfl) (pv 7) (fun _ _ => rfl)) pa_nil))) (pe_tup (pa_cons (pv 4) (pa_cons (pv 5) pa_nil))) (nomark _)))) (fun _ _ _ _ _ => pv 7)) pe_int (fun _ _ => rfl))) (pss_cons (ps_expr (pe_bm PySem.F.plainAttrs_list PySem.F.slot_list_append PySem.F.type_list_append mt_append (pv 2) (pa_cons (pv 6) pa_nil))) (pss_cons (ps_expr (pe_bm PySem.F.plainAttrs_list PySem.F.slot_list_append PySem.F.type_list_append mt_append (pv 3) (pa_cons (pe_tup (pa_cons (pv 4) (pa_cons (pv 6) pa_nil))) pa_nil))) (pss_one (ps_expr (pe_bm PySem.F.plainAttrs_list PySem.F.slot_list_append PySem.F.type_list_append mt_append (pv 3) (pa_cons (pe_tup (pa_cons (pe_op op_add (pv 6) pe_int) (pa_cons (pv 5) pa_nil))) pa_nil))))))) pss_nil)))) (pss_one (ps_ret (pe_revL (pv 2)))))))), ?_⟩
    -- joinings
    refine ⟨_, rfl, fun j dx nj ndx nex => ?_⟩
    have s0 : Same H (upd (upd H dx (.own j)) j (.ins C dx [])) := same_snew (same_new ndx) (by rw [upd_ne nex.symm]; exact nj)
    refine ⟨j, dx, a, t, rfl, upd_same, ta.mono s0, hn, fun H1 b1 jn => ?_⟩
    replace jn := jn.jn
    refine ⟨rfl, ?_⟩
    have e1 : Same H H1 := fun b o q => b1 b o (fun z => by rw [z, nj] at q; cases q) (s0 b o q)
    refine ⟨Nat.zero_le _, fun pf nf => ?_⟩
    have e2 := same_snew (o := .lst []) e1 nf
    have jn2 := jn.same (same_new (o := .lst []) nf)
    have ta2 := ta.mono e2
    refine ⟨_, rfl, a, _, rfl, .inr ta2.seq, by show 2 ≤ sizeLine; decide, fun pt nt => ?_⟩
    refine ⟨by show 1 ≤ sizeLine; decide, fun pw nw => ?_⟩
    have lsh := t.sh_len 0
    have ept : (((t.sh 0).map V.int).length : Int) = ((0 + t.n - 1 : Nat) : Int) := by rw [List.length_map]; omega
    have e3 := same_new (o := .tup [.int 0, .int ((((t.sh 0).map V.int).length : Nat) : Int)]) nt
    have e4 := e3.trans (same_new (o := .lst [.ref pt]) nw)
    have mf : H pf = none := Same.free e1 nf
    have w1 : H1 pw = none := Same.free ((same_new (o := .lst []) nf).trans e3) nw
    have zf : (upd H1 pf (.lst [])) pf = some (.lst (([] : Row).map V.int)) := upd_same
    have nfw : pf ≠ pw := fun z => by rw [← z, e3 _ _ zf] at nw; cases nw
    refine ⟨fun m σ H' => ∃ (fnd : Row) (as : List Addr) (stk : List Wt) (v4 v5 v6 : Option V), m = sizes stk ∧ m ≤ 79 ∧ σ = [some (.ref a), some (.ref j), some (.ref pf), some (.ref pw), v4, v5, v6, none] ∧ Same H1 H' ∧
      H' pf = some (.lst (fnd.map V.int)) ∧ H' pw = some (.lst (as.map V.ref)) ∧ Paired (Wt2At H') as stk ∧ fnd ++ restRo stk = t.ro 0 ∧ ∀ x ∈ stk, Wt2Ok t x,
      ⟨_, [], [pt], [⟨0, 0, t⟩], none, none, none, rfl, ?_, rfl, (same_new (o := .lst []) nf).trans e4, e4 _ _ zf, upd_same, .cons ?_ .nil, ?_, fun x hx => ?_⟩, ?_⟩
    · rw [sizes_one]
      have := t.size_n
      show t.size ≤ 79
      omega
    · show (upd _ pw _) pt = _
      rw [upd_ne (fun z => by rw [← z, upd_same] at nw; cases nw), upd_same, ept]; rfl
    · show [] ++ restRo ([] ++ [⟨0, 0, t⟩]) = t.ro 0
      rw [restRo_snoc, List.nil_append]
      show t.ro 0 ++ [] = t.ro 0
      rw [List.append_nil]
    · rw [List.mem_singleton] at hx
      subst hx
      exact ⟨by show 0 + t.n ≤ t.n; omega, Seg.all _, Seg.all _⟩
    · rintro m σ H' ⟨fnd, as, stk, v4, v5, v6, rfl, hm79, rfl, eH, zf, zw, pw', hro, ok⟩
      refine ⟨_, rfl, pw, _, rfl, .inl (SqL.of zw), _, _, rfl, rfl, _, rfl, ?_⟩
      rcases List.eq_nil_or_concat stk with rfl | ⟨stk', x, rfl⟩
      · cases pw'
        have hro' : fnd = t.ro 0 := by rw [← hro]; exact (List.append_nil _).symm
        refine iteF ⟨_, rfl, pf, _, rfl, SqL.of zf, fun p np => ?_⟩
        refine k _ p ((e1.trans eH).trans (same_new np)) (Same.free (e1.trans eH) np) ?_
        rw [upd_same, hro', t.po_ro 0, List.map_reverse]
      · rw [List.concat_eq_append] at *
        obtain ⟨as', aw, rfl, pw2, haw⟩ := paired_snoc pw'
        rw [decide_eq_true (show (0 : Int) < (((as' ++ [aw]).map V.ref).length : Int) by simp only [List.length_map, List.length_append, List.length_singleton]; omega)]
        refine iteT ⟨_, fun _ _ q => q, ?_⟩
        obtain ⟨f, d, tr⟩ := x
        have okx := ok ⟨f, d, tr⟩ (by simp)
        have oks : ∀ x ∈ stk', Wt2Ok t x := fun x hx => ok x (List.mem_append_left _ hx)
        have hsz : sizes (stk' ++ [⟨f, d, tr⟩]) = sizes stk' + tr.size := by rw [sizes_app, sizes_one]
        rw [restRo_snoc] at hro
        have hro : fnd ++ (tr.ro f ++ restRo stk') = t.ro 0 := hro
        refine ⟨_, rfl, .inl ⟨rfl, _, SqL.of zw⟩, pw, _, .ref aw, rfl, rfl, zw, last_at, ?_⟩
        rw [drop_last]
        have haw' := upd_tup (ys := as'.map V.ref) zw haw
        refine ⟨aw, _, rfl, SqT.of haw', rfl, _, _, rfl, _, _, rfl, rfl, ?_⟩
        refine ⟨_, rfl, _, rfl, _, _, rfl, rfl, _, rfl, ?_⟩
        have eH2 : Same H1 (upd H' pw (.lst (as'.map V.ref))) := same_mut eH w1
        have yf : (upd H' pw (.lst (as'.map V.ref))) pf = some (.lst (fnd.map V.int)) := (upd_ne nfw).trans zf
        have yw : (upd H' pw (.lst (as'.map V.ref))) pw = some (.lst (as'.map V.ref)) := upd_same
        have yp : Paired (Wt2At (upd H' pw (.lst (as'.map V.ref)))) as' stk' := Paired.mapP pw2 fun a x q => Wt2At.tm _ _ _ _ (fun b ys z => upd_tup zw z) q
        generalize upd H' pw (.lst (as'.map V.ref)) = H2 at eH2 yf yw yp
        cases tr with
        | lf =>
          have e1' : (Tr.lf).n = 1 := rfl
          rw [decide_eq_false (show ¬ ((f : Int) < ((f + (Tr.lf).n - 1 : Nat) : Int)) by rw [e1']; omega)]
          refine iteF ⟨sizes stk', ?_, fnd, as', stk', _, _, _, rfl, ?_, rfl, eH2, yf, yw, yp, hro, oks⟩
          · rw [hsz]; show sizes stk' < sizes stk' + 1; omega
          · rw [hsz] at hm79; omega
        | nd l r =>
          have p1 := l.pos; have p2 := r.pos
          have en : (Tr.nd l r).n = l.n + r.n := rfl
          have fit : f + (l.n + r.n) ≤ t.n := okx.fit
          obtain ⟨ok1, ok2⟩ := okx.parts (d' := 0)
          have el : f + (Tr.nd l r).n - 1 = f + (l.n + r.n) - 1 := by rw [en]
          rw [decide_eq_true (show ((f : Int) < ((f + (Tr.nd l r).n - 1 : Nat) : Int)) by rw [en]; omega)]
          refine iteT ?_
          refine ⟨_, rfl, _, rfl, (f : Int), ((f + (Tr.nd l r).n - 1 : Nat) : Int), rfl, ⟨by omega, by omega, by omega, by omega⟩, fun D hD => ?_⟩
          have eN : (((f + (Tr.nd l r).n - 1 : Nat) : Int) - (f : Int)).toNat = l.n + r.n - 1 := by rw [en]; omega
          rw [eN]
          refine lc_range (lo := (f : Int)) (n := l.n + r.n - 1) (fun i H5 => Same H2 H5 ∧ H5 D = some (.lst (if l.n - 1 < i then [.int ((f + l.n - 1 : Nat) : Int)] else []))) ⟨same_new hD, by rw [if_neg (by omega)]; exact upd_same⟩ (fun i H5 hi p => ?_) (fun H5 p => ?_)
          · obtain ⟨pe, pd⟩ := p
            have hx : ∃ x y, (t.fs 0)[f + i]? = some x ∧ ((Tr.nd l r).fs f)[i]? = some x ∧ (t.ls 0)[f + i]? = some y ∧ ((Tr.nd l r).ls f)[i]? = some y := by
              have h1 := (Tr.nd l r).fs_len f
              have h2 := (Tr.nd l r).ls_len f
              rw [en] at h1 h2
              have hi1 : i < ((Tr.nd l r).fs f).length := by omega
              have hi2 : i < ((Tr.nd l r).ls f).length := by omega
              exact ⟨_, _, okx.fs i _ (List.getElem?_eq_getElem hi1), List.getElem?_eq_getElem hi1, okx.ls i _ (List.getElem?_eq_getElem hi2), List.getElem?_eq_getElem hi2⟩
            obtain ⟨x, y, x1, x2, y1, y2⟩ := hx
            have root := fl_root x2 y2
            obtain ⟨dx', a1, a2, a3, hj, h1, h2⟩ := jn.same (eH2.trans pe)
            have ei : (f : Int) + (i : Int) = ((f + i : Nat) : Int) := by omega
            refine ⟨rfl, ?_⟩
            refine ⟨_, rfl, j, C, dx', _, _, rfl, hj, T.cl, T.nF, rfl, _, rfl, a1, _, _, .int x, rfl, rfl, SqL.of h1, at_of (j := f + i) ei (by rw [List.getElem?_map, x1]; rfl), ?_⟩
            refine ⟨_, rfl, j, C, dx', _, _, rfl, hj, T.cl, T.nL, rfl, _, rfl, a2, _, _, .int y, rfl, rfl, SqL.of h2, at_of (j := f + i) ei (by rw [List.getElem?_map, y1]; rfl), by show 2 ≤ sizeLine; decide, fun q1 n1 => ?_⟩
            refine ⟨_, rfl, _, rfl, by show 2 ≤ sizeLine; decide, fun q2 n2 => ?_⟩
            have g1 := same_new (o := .tup [.int x, .int y]) n1
            have g2 := same_new (o := .tup [.int (f : Int), .int ((f + (Tr.nd l r).n - 1 : Nat) : Int)]) n2
            have t1 : TR (upd (upd H5 q1 (.tup [.int x, .int y])) q2 (.tup [.int (f : Int), .int ((f + (Tr.nd l r).n - 1 : Nat) : Int)])) q1 [x, y] := g2 _ _ upd_same
            have t2 : TR (upd (upd H5 q1 (.tup [.int x, .int y])) q2 (.tup [.int (f : Int), .int ((f + (Tr.nd l r).n - 1 : Nat) : Int)])) q2 [(f : Int), ((f + (Tr.nd l r).n - 1 : Nat) : Int)] := upd_same
            refine ⟨_, _, t1.dp, t2.dp, shaped_tup _, shaped_tup _, _, rfl, ?_⟩
            rw [eqv_tup]
            have pe5 := pe.trans (g1.trans g2)
            have pd5 := (g1.trans g2) _ _ pd
            by_cases hr : i = l.n - 1
            · obtain ⟨c1, c2⟩ := root.mpr hr
              rw [decide_eq_true (show ([x, y] : Row) = [(f : Int), ((f + (Tr.nd l r).n - 1 : Nat) : Int)] by rw [c1, c2, el])]
              rw [if_neg (by omega)] at pd5
              refine iteT ⟨_, rfl, _, pd5, by show 0 < sizeLine; decide, same_mut pe5 hD, ?_⟩
              rw [upd_same, if_pos (by omega)]
              have : (f : Int) + (i : Int) = ((f + l.n - 1 : Nat) : Int) := by omega
              rw [this]; rfl
            · rw [decide_eq_false (show ¬ ([x, y] : Row) = [(f : Int), ((f + (Tr.nd l r).n - 1 : Nat) : Int)] from fun z => hr (root.mp (by
                rw [el] at z
                injection z with z1 z2
                injection z2 with z2 _
                exact ⟨z1, z2⟩)))]
              refine iteF ⟨pe5, ?_⟩
              rw [pd5]
              by_cases h : l.n - 1 < i
              · rw [if_pos h, if_pos (by omega)]
              · rw [if_neg h, if_neg (by omega)]
          · obtain ⟨pe, pd⟩ := p
            rw [if_pos (by omega)] at pd
            have yf := pe _ _ yf
            have yw := pe _ _ yw
            have yp : Paired (Wt2At H5) as' stk' := Paired.mapP yp fun a x q => Wt2At.tm _ _ _ _ (fun b ys z => pe b _ z) q
            have eH5 := eH2.trans pe
            have lro := ro_len t 0
            have las : as'.length ≤ 79 := by
              have h1 := Paired.length yp
              have h2 := len_sizes stk'
              rw [hsz] at hm79
              omega
            refine ⟨D, _, _, _, rfl, rfl, SqL.of pd, rfl, ?_⟩
            -- found.append(seam)
            have lf : fnd.length ≤ 40 := by
              have := congrArg List.length hro
              rw [List.length_append] at this
              omega
            refine ⟨_, rfl, .inl ⟨rfl, _, SqL.of yf⟩, _, rfl, pf, _, _, rfl, rfl, yf, by rw [List.length_map]; exact Nat.lt_of_le_of_lt lf (by decide), ?_⟩
            have yw1 : (upd H5 pf (.lst (fnd.map V.int ++ [.int ((f + l.n - 1 : Nat) : Int)]))) pw = _ := (upd_ne nfw.symm).trans yw
            have yp1 : Paired (Wt2At (upd H5 pf (.lst (fnd.map V.int ++ [.int ((f + l.n - 1 : Nat) : Int)])))) as' stk' := Paired.mapP yp fun a x q => Wt2At.tm _ _ _ _ (fun b ys z => upd_tup yf z) q
            have yf1 : (upd H5 pf (.lst (fnd.map V.int ++ [.int ((f + l.n - 1 : Nat) : Int)]))) pf = some (.lst ((fnd ++ [((f + l.n - 1 : Nat) : Int)]).map V.int)) := by rw [upd_same, List.map_append]; rfl
            have eH6 : Same H1 (upd H5 pf (.lst (fnd.map V.int ++ [.int ((f + l.n - 1 : Nat) : Int)]))) := same_mut eH5 nf
            generalize upd H5 pf (.lst (fnd.map V.int ++ [.int ((f + l.n - 1 : Nat) : Int)])) = H6 at yw1 yp1 yf1 eH6
            -- the two parts
            refine ⟨_, rfl, .inl ⟨rfl, _, SqL.of yw1⟩, _, rfl, _, rfl, by show 2 ≤ sizeLine; decide, fun q1 n1 => ?_⟩
            have g1 := same_new (o := .tup [.int (f : Int), .int ((f + l.n - 1 : Nat) : Int)]) n1
            have hq1 : Wt2At (upd H6 q1 (.tup [.int (f : Int), .int ((f + l.n - 1 : Nat) : Int)])) q1 ⟨f, 0, l⟩ := upd_same
            have yw2 := g1 _ _ yw1
            have yf2 := g1 _ _ yf1
            have yp2 : Paired (Wt2At (upd H6 q1 (.tup [.int (f : Int), .int ((f + l.n - 1 : Nat) : Int)]))) as' stk' := Paired.mapP yp1 fun a x q => Wt2At.tm _ _ _ _ (fun b ys z => g1 b _ z) q
            have eH7 := eH6.trans g1
            generalize upd H6 q1 (.tup [.int (f : Int), .int ((f + l.n - 1 : Nat) : Int)]) = H7 at hq1 yw2 yf2 yp2 eH7
            refine ⟨pw, _, _, rfl, rfl, yw2, by rw [List.length_map]; exact Nat.lt_of_le_of_lt las (by decide), ?_⟩
            obtain ⟨as1, yw3, yp3⟩ := LP.grow (bs := [q1]) Wt2At.tm yw2 yp2 (.cons hq1 .nil)
            have yf3 : (upd H7 pw (.lst (as'.map V.ref ++ [q1].map V.ref))) pf = _ := (upd_ne nfw).trans yf2
            have eH8 : Same H1 (upd H7 pw (.lst (as'.map V.ref ++ [q1].map V.ref))) := same_mut eH7 w1
            have las1 : as1.length ≤ 80 := by
              have h1 := Paired.length yp3
              have h2 := Paired.length yp2
              rw [List.length_append, List.length_singleton] at h1
              omega
            show (_ : L2.St → Hp → Prop) _ (upd H7 pw (.lst (as'.map V.ref ++ [q1].map V.ref)))
            generalize upd H7 pw (.lst (as'.map V.ref ++ [q1].map V.ref)) = H8 at yw3 yp3 yf3 eH8
            refine ⟨_, rfl, .inl ⟨rfl, _, SqL.of yw3⟩, _, rfl, _, _, rfl, rfl, _, rfl, by show 2 ≤ sizeLine; decide, fun q2 n2 => ?_⟩
            have g2 := same_new (o := .tup [.int (((f + l.n - 1 : Nat) : Int) + 1), .int ((f + (Tr.nd l r).n - 1 : Nat) : Int)]) n2
            have hq2 : Wt2At (upd H8 q2 (.tup [.int (((f + l.n - 1 : Nat) : Int) + 1), .int ((f + (Tr.nd l r).n - 1 : Nat) : Int)])) q2 ⟨f + l.n, 0, r⟩ := by
              refine (upd_same : (upd H8 q2 (.tup [.int (((f + l.n - 1 : Nat) : Int) + 1), .int ((f + (Tr.nd l r).n - 1 : Nat) : Int)])) q2 = _).trans ?_
              have h1 : (((f + l.n - 1 : Nat) : Int) + 1) = ((f + l.n : Nat) : Int) := by omega
              have h2 : f + (Tr.nd l r).n - 1 = f + l.n + r.n - 1 := by rw [en]; omega
              rw [h1, h2]
            have yw4 := g2 _ _ yw3
            have yp4 : Paired (Wt2At (upd H8 q2 (.tup [.int (((f + l.n - 1 : Nat) : Int) + 1), .int ((f + (Tr.nd l r).n - 1 : Nat) : Int)]))) as1 (stk' ++ [⟨f, 0, l⟩]) := Paired.mapP yp3 fun a x q => Wt2At.tm _ _ _ _ (fun b ys z => g2 b _ z) q
            refine ⟨pw, _, _, rfl, rfl, yw4, by rw [List.length_map]; exact Nat.lt_of_le_of_lt las1 (by decide), ?_⟩
            obtain ⟨as2, yw5, yp5⟩ := LP.grow (bs := [q2]) Wt2At.tm yw4 yp4 (.cons hq2 .nil)
            have hs2 : sizes (stk' ++ [⟨f, 0, l⟩] ++ [⟨f + l.n, 0, r⟩]) = sizes stk' + l.size + r.size := by rw [sizes_app, sizes_app, sizes_one, sizes_one]
            have hs3 : (Tr.nd l r).size = l.size + r.size + 1 := rfl
            refine ⟨_, ?_, fnd ++ [((f + l.n - 1 : Nat) : Int)], as2, stk' ++ [(⟨f, 0, l⟩ : Wt)] ++ [(⟨f + l.n, 0, r⟩ : Wt)], _, _, _, rfl, ?_, rfl, same_mut (eH8.trans g2) w1, (upd_ne nfw).trans (g2 _ _ yf3), yw5, yp5, ?_, fun x hx => ?_⟩
            · rw [hs2, hsz, hs3]; omega
            · rw [hs2]; rw [hsz, hs3] at hm79; omega
            · rw [restRo_snoc, restRo_snoc]
              have hr' : (Tr.nd l r).ro f = ((f + l.n - 1 : Nat) : Int) :: (r.ro (f + l.n) ++ l.ro f) := rfl
              rw [hr'] at hro
              rw [← hro]
              simp only [List.append_assoc, List.cons_append, List.nil_append]
            · rcases List.mem_append.mp hx with z | z
              · rcases List.mem_append.mp z with z | z
                · exact oks x z
                · rw [List.mem_singleton] at z; subst z; exact ok1
              · rw [List.mem_singleton] at z; subst z; exact ok2
end
end K66
/-! zip of a range and a tuple -/
namespace K66
open PySem PySem.Spec PyProof.Rows L2

section
variable {prog : Program} {w : World} {A : Around} {E : Value → Shared → Prop} {s : Shared}
theorem nextOf_range_item {it : Addr} {x left step : Int} {Q : Value → Shared → Prop} (hit : IsRangeIter s.heap it x left step) (hleft : 0 < left)
    (hQ : ∀ h', IsRangeIter h' it (x + step) (left - 1) step → Heap.SameBut it s.heap h' → Q (.int x s.toks) { s with heap := h', toks := s.toks + 1 }) :
    wpAny (model prog w) A (Builtin.SmallTypes.nextOf (.ref it)) Q E s := by
  have hT : s.TypeIs (.ref it) "range_iterator" := ⟨_, hit, rfl⟩
  unfold Builtin.SmallTypes.nextOf
  refine wpAny_bind (wpAny_callSpecial?_slot (name := Str.ofString "__next__") hT F.slot_range_iterator_next
    (call_meets F.slot_range_iterator_next hT F.entry_range_iterator_next (F.args_range_iterator_next_1 _) (AutoRange.range_iterator___next___range_iterator_1 it x left step (by omega)) ⟨hit, ?_⟩))
  exact wpAny_pure (hQ _ (Heap.get?_update_self _ (Heap.get?_update_self _ hit rfl) rfl) ((Heap.SameBut.update ..).trans (Heap.SameBut.update ..)))
theorem nextOf_range_end {it : Addr} {x left step : Int} {Q : Value → Shared → Prop} (hh : A.handled = none) (hit : IsRangeIter s.heap it x left step) (hleft : left ≤ 0)
    (hE : ∀ h' e, Heap.ExtBut it s.heap h' → (∃ o, h'.get? e = some o ∧ o.cls = .type "StopIteration") → E (.ref e) { s with heap := h' }) : wpAny (model prog w) A (Builtin.SmallTypes.nextOf (.ref it)) Q E s := by
  have hT : s.TypeIs (.ref it) "range_iterator" := ⟨_, hit, rfl⟩
  unfold Builtin.SmallTypes.nextOf
  refine wpAny_bind (wpAny_callSpecial?_slot (name := Str.ofString "__next__") hT F.slot_range_iterator_next
    (wpAny_call_entry F.slot_range_iterator_next hT F.entry_range_iterator_next ?_ (F.args_range_iterator_next_1 _)))
  show wpAny _ _ (field (.ref it) 0 >>= _) _ _ s
  refine wpAny_bind (wpAny_field hit rfl (x := rawInt x) rfl ?_)
  show wpAny _ _ (field (.ref it) 1 >>= _) _ _ s
  refine wpAny_bind (wpAny_field hit rfl (x := rawInt left) rfl ?_)
  show wpAny _ _ (field (.ref it) 2 >>= _) _ _ s
  refine wpAny_bind (wpAny_field hit rfl (x := rawInt step) rfl ?_)
  show wpAny _ _ (if left ≤ 0 then _ else _) _ _ s
  rw [if_pos hleft]
  refine wpAny_bind (wpAny_rule ?_)
  refine wpAny_bind ?_
  show wpAny _ _ (newExc (.type "StopIteration") [] >>= _) _ _ _
  refine wpAny_bind ?_
  simp only [newExc, newTuple]
  refine wpAny_bind (wpAny_newObj_type ?_ (by size_fits))
  refine wpAny_bind (m := firstArgMember _ _) (wpAny_of_eq (a := Value.none) (by first | rfl | (simp only [firstArgMember]; rfl)) ?_)
  refine wpAny_newObj_type ?_ (by size_fits)
  simp only [raiseNew]
  refine wpAny_bind (wpAny_handled ?_)
  first | rw [show A.in1.handled = none from hh] | rw [hh]
  refine wpAny_bind (wpAny_pure (wpAny_throw ?_))
  refine hE _ _ ?_ ⟨_, Heap.get?_push_size _ rfl, rfl⟩
  exact (((Heap.SameBut.refl _ _).extBut).push _).push _
end
theorem draws_range {prog : Program} {w : World} {A : Around} (hh : A.handled = none) (it : Addr) (lo : Int) (n : Nat) :
    Draws prog w A it [it] n (fun i v => ∃ t, v = .int (lo + (i : Nat)) t) (fun i h => IsRangeIter h it (lo + (i : Nat)) ((n : Int) - (i : Nat)) 1) where
  live := fun _ _ st => ⟨_, st⟩
  frame := fun _ _ _ st hk => hk it (by simp) _ st
  item := fun i s Q E hi st hQ => nextOf_range_item st (by omega) fun h' st' sb => by
    refine hQ _ h' (s.toks + 1) ⟨_, rfl⟩ ?_ sb
    have e1 : lo + ((i + 1 : Nat) : Int) = lo + (i : Nat) + 1 := by omega
    have e2 : (n : Int) - ((i + 1 : Nat) : Int) = (n : Int) - (i : Nat) - 1 := by omega
    show IsRangeIter h' it (lo + ((i + 1 : Nat) : Int)) ((n : Int) - ((i + 1 : Nat) : Int)) 1
    rw [e1, e2]
    exact st'
  done := fun s Q E st hE => nextOf_range_end hh st (by omega) hE
theorem begins_range (r : Addr) (a b : Int) (t u v : Tok) (hs : Builtin.Range.small a b 1 = true) : Begins (.ref r) { cls := .type "range_iterator", data := .fields #[rawInt a, rawInt (Builtin.Range.rangeSize a b 1), rawInt 1] } fun h => IsRange h r a b 1 t u v where
  iter := fun prog w A E s Q hr h => wpAny_pyIter_range hr hs h
  keeps := fun h h' x hk => hk r _ x
  free := rfl
/-- a range beside the tuple at b -/
def ItzR (K : PySem.W.Frag) (lo : Int) (n : Nat) (b : Addr) : It :=
  ⟨fun i H => ∃ (ys : List V) (y : V), SqT K H b ys ∧ ys[i]? = some y ∧ i < n,
    fun i H v H' => ∃ T y, v = .ref T ∧ H T = none ∧ H' = upd H T (.tup [.int (lo + (i : Nat)), y]) ∧ ∀ ys, SqT K H b ys → ys[i]? = some y,
    fun i H => ∃ ys : List V, SqT K H b ys ∧ ys.length = i ∧ n = i⟩
theorem turn_zipR {P : Program} {w : World} {K : PySem.W.Frag} {elts : List Expr} {kk : Nat} {tpos : Pos} {b z TI TO i1 i2 : Addr} {lo : Int} {n : Nat} (S : ZipSep2 z TI TO i1 i2 [i1] [i2, b]) (hb2 : b ≠ i2) :
    Turn P w K (.Tuple elts kk tpos) (ItzR K lo n b) [z, TI, TO, i1, i2] z (fun i h => IsZip h z TI TO .none ∧ IsPair h TI (.ref i1) (.ref i2) ∧ (∃ x y, IsPair h TO x y) ∧ IsRangeIter h i1 (lo + (i : Nat)) ((n : Int) - (i : Nat)) 1 ∧ h.IsTupleIter i2 b i) where
  mem := by simp
  obj := fun i h st c hc => by
    obtain ⟨hz, hTI, ⟨x, y, hTO⟩, h1, ⟨o2, e2, _, d2⟩⟩ := st
    have e' : c = z ∨ c = TI ∨ c = TO ∨ c = i1 ∨ c = i2 := by simpa using hc
    rcases e' with q | q | q | q | q
    · rw [q]; exact ⟨_, hz, fun v q => nomatch q⟩
    · rw [q]; exact ⟨_, hTI, fun v q => nomatch q⟩
    · rw [q]; exact ⟨_, hTO, fun v q => nomatch q⟩
    · rw [q]; exact ⟨_, h1, fun v q => nomatch q⟩
    · rw [q]; exact ⟨o2, e2, fun v q => by rw [d2] at q; cases q⟩
  keep := fun i h h' st k => by
    obtain ⟨hz, hTI, ⟨x, y, hTO⟩, h1, h2⟩ := st
    exact ⟨k z (by simp) _ hz, k TI (by simp) _ hTI, ⟨x, y, k TO (by simp) _ hTO⟩, k i1 (by simp) _ h1, h2.at fun o q => k i2 (by simp) o q⟩
  item := by
    intro X hP hw hK hc i pins s σ H E I hf st hg
    subst hP hw hK
    obtain ⟨hz, hTI, ⟨x0, y0, hTO⟩, h1, h2⟩ := st
    obtain ⟨ys, y, hqy, hy, hin⟩ := hg
    obtain ⟨its2, rv2, p2, _⟩ := I.tuple hqy
    obtain ⟨u2, hu2, ru2⟩ := rv2.get hy
    have hzl : z < s.heap.objs.size := Heap.lt_size hz
    have hi2 : i < its2.toArray.size := by
      have := (List.getElem?_eq_some_iff.mp hu2).1
      simpa using this
    have hh := I.ok.hd hc
    refine wpAny_pyNext_zipD2_item S (draws_range (A := X.A.in1) hh i1 lo n) (Draws.tuple (A := X.A.in1) hh i2 b hb2 its2.toArray) hz hTI hTO h1 ⟨h2, p2⟩ hin hi2 fun x1 x2 h' tk px1 px2 z' TO' h1' h2' hT hsz hk => ?_
    obtain ⟨t1, rfl⟩ := px1
    have ex2 : x2 = u2 := by
      have q : its2.toArray[i]? = some x2 := px2
      have q2 : its2.toArray[i]? = some u2 := by simpa using hu2
      rw [q2] at q
      exact (Option.some.inj q).symm
    subst ex2
    refine ⟨_, rfl, wpAny_letOwnedTupleGo_zip (s := { s with heap := h', toks := tk }) z' fun h'' z'' sb => ?_⟩
    have hT2 : h''.get? s.heap.objs.size = some { cls := .type "tuple", data := .seq #[.int (lo + (i : Nat)) t1, x2] } := (sb.2 _ (Nat.ne_of_gt hzl)).trans hT
    have new : ObjOk X.prog X.w (upd H s.heap.objs.size (.tup [.int (lo + (i : Nat)), y])) h'' s.heap.objs.size (.tup [.int (lo + (i : Nat)), y]) :=
      ⟨by show 2 ≤ sizeLine; decide, [.int (lo + (i : Nat)) t1, x2], .cons ⟨t1, rfl⟩ (.cons ru2 .nil), ⟨_, hT2, rfl, _, rfl⟩⟩
    have I1 : Inv X pins σ (upd H s.heap.objs.size (.tup [.int (lo + (i : Nat)), y])) { s with heap := h'', toks := tk } :=
      I.turnedNew (t' := tk) (ch := [z, TI, TO, i1, i2]) (fun c o hb q => (sb.2 c (fun q' => hb (by simp [q']))).trans (hk c o (fun q' => hb (by simp [q'])) (fun q' => hb (by simp [q'])) (fun q' => hb (by simp [q'])) (fun q' => hb (by simp [q'])) q)) hf (Nat.le_refl _) new
    refine ⟨.ref s.heap.objs.size, _, I1, rfl, ⟨_, y, rfl, I.hok.fresh (Nat.le_refl _), rfl, fun l hl => by rw [I.tuple_inj hl hqy]; exact hy⟩, ⟨z'', ?_, ⟨.int (lo + (i : Nat)) t1, x2, ?_⟩, ?_, ?_⟩, fun c hcm => ?_⟩
    · exact (sb.2 _ S.TIz).trans (hk _ _ S.TIz S.TITO S.TIi1 S.TIi2 hTI)
    · exact (sb.2 _ S.TOz).trans TO'
    · exact (sb.2 _ S.zi1.symm).trans h1'
    · exact h2'.1.at fun o q => (sb.2 _ S.zi2.symm).trans q
    · have hlt : c < s.heap.objs.size := by
        have e' : c = z ∨ c = TI ∨ c = TO ∨ c = i1 ∨ c = i2 := by simpa using hcm
        rcases e' with q | q | q | q | q
        · rw [q]; exact hzl
        · rw [q]; exact Heap.lt_size hTI
        · rw [q]; exact Heap.lt_size hTO
        · rw [q]; exact Heap.lt_size h1
        · rw [q]; obtain ⟨_, e2, _⟩ := h2; exact Heap.lt_size e2
      rw [upd_ne (Nat.ne_of_lt hlt)]
      exact (hf c hcm).1
  done := by
    intro X hP hw hK hc i pins s σ H E I hf st hg
    subst hP hw hK
    obtain ⟨hz, hTI, ⟨x0, y0, hTO⟩, h1, h2⟩ := st
    obtain ⟨ys, hqy, hlen, hni⟩ := hg
    obtain ⟨its2, rv2, p2, _⟩ := I.tuple hqy
    have l2 := rv2.length
    have hh := I.ok.hd hc
    have hsz : its2.toArray.size = its2.length := by simp
    exact wpAny_pyNext_zipD2_end S (draws_range (A := X.A.in1) hh i1 lo n) (Draws.tuple (A := X.A.in1) hh i2 b hb2 its2.toArray) hz hTI hTO h1 ⟨h2, p2⟩ (by omega) (by omega) (by omega) fun h' tk hk => ⟨rfl, I.turnedL (t' := tk) (ch := [z, TI, TO, i1, i2]) (fun c o hb q =>
      hk c o (fun q' => hb (by simp [q'])) (fun q' => hb (by simp [q'])) (fun q' => hb (by simp [q'])) (fun q' => hb (by simp [q'])) q) hf⟩
  self := fun A i s Q E st h => wpAny_pyIter_zip st.1 h

theorem sep_new (I b : Nat) (h : b < I) : ZipSep2 (I + 4) (I + 2) (I + 3) I (I + 1) [I] [I + 1, b] where
  TIz := fun e => by have e : (I + 2 : Nat) = I + 4 := e; omega
  TOz := fun e => by have e : (I + 3 : Nat) = I + 4 := e; omega
  TITO := fun e => by have e : (I + 2 : Nat) = I + 3 := e; omega
  TIi1 := fun e => by have e : (I + 2 : Nat) = I := e; omega
  mem1 := List.mem_singleton.mpr rfl
  zf1 := fun e => by have e : (I + 4 : Nat) = I := List.mem_singleton.mp e; omega
  Tf1 := fun e => by have e : (I + 3 : Nat) = I := List.mem_singleton.mp e; omega
  TIi2 := fun e => by have e : (I + 2 : Nat) = I + 1 := e; omega
  mem2 := List.mem_cons_self ..
  zf2 := fun e => by
    rcases List.mem_cons.mp e with e | e
    · have e : (I + 4 : Nat) = I + 1 := e; omega
    · have e : (I + 4 : Nat) = b := List.mem_singleton.mp e; omega
  Tf2 := fun e => by
    rcases List.mem_cons.mp e with e | e
    · have e : (I + 3 : Nat) = I + 1 := e; omega
    · have e : (I + 3 : Nat) = b := List.mem_singleton.mp e; omega
  sep1_2 := fun e => by
    rcases List.mem_cons.mp e with e | e
    · have e : (I : Nat) = I + 1 := e; omega
    · have e : (I : Nat) = b := List.mem_singleton.mp e; omega
  sep2_1 := fun e => by have e : (I + 1 : Nat) = I := List.mem_singleton.mp e; omega
def iZipR (K : PySem.W.Frag) (ta : TA) (te : TE) : TI := fun σ H R => ta σ H fun vs H1 => ∃ i j : Int, vs = [.int i, .int j] ∧ (-(2 ^ 62) ≤ i ∧ i < 2 ^ 62 ∧ -(2 ^ 62) ≤ j ∧ j < 2 ^ 62) ∧ te σ H1 fun v H2 => ∃ b ys, v = .ref b ∧ SqT K H2 b ys ∧ R (ItzR K i (j - i).toNat b) H2
theorem pi_zipR {X : Cx} {ea eb e2 : Expr} {ta : TA} {te : TE} {p p' pos pos' tpos : Pos} {elts : List Expr} {kk : Nat} (hg : Gl X "zip") (hm : X.mg "zip" = none) (hgr : Gl X "range") (hmr : X.mg "range" = none) (ha : PA X [ea, eb] ta) (h2 : PE X e2 te)
    (hs : starEach [.Call (.Name "range" p') [ea, eb] [] pos', e2] X.env = [(false, eval (.Call (.Name "range" p') [ea, eb] [] pos') X.env), (false, eval e2 X.env)] := by rfl)
    (hsr : starEach [ea, eb] X.env = [(false, eval ea X.env), (false, eval eb X.env)] := by rfl) (hs2 : starEach [eb] X.env = [(false, eval eb X.env)] := by rfl) (hs3 : starEach [e2] X.env = [(false, eval e2 X.env)] := by rfl) :
    PI X (.Tuple elts kk tpos) (.Call (.Name "zip" p) [.Call (.Name "range" p') [ea, eb] [] pos', e2] [] pos) (iZipR X.K ta te) := by
  refine ⟨fun pins s σ H R I h => ?_⟩
  refine Call_ (ld_blt I hg hm PyProof.Rows.boot_zip (PyProof.Rows.callWith_type1 ?_ (by rw [hs, hs3]) (by rw [hs3]; rfl)))
  rw [hs]
  refine PySem.Calls.spliced_cons ?_
  refine Call_ (ld_blt I hgr hmr boot_range (PyProof.Rows.callWith_type1 (thn (ha.run pos' pins s σ H _ I h) fun us s1 ⟨vs, H1, I1, r1, q1⟩ => ?_) (by rw [hsr, hs2]) (by rw [hs2]; rfl)))
  obtain ⟨i, j, e, ⟨b1, b2, b3, b4⟩, q⟩ := q1
  subst e
  cases r1 with
  | cons r rr =>
    cases rr with
    | cons r' rr =>
      cases rr
      obtain ⟨t, rfl⟩ := r
      obtain ⟨t', rfl⟩ := r'
      refine call_range_2 ?_
      have hR : IsRange (s1.heap.push { cls := .type "range", data := .fields #[.int i t, .int j t', .int 1 s1.toks] }) s1.heap.objs.size i j 1 t t' s1.toks := IsRange.new ..
      have I2 : Inv X pins σ H1 { s1 with heap := s1.heap.push { cls := .type "range", data := .fields #[.int i t, .int j t', .int 1 s1.toks] }, toks := s1.toks + 1 } := I1.kept fun b o e => Heap.get?_push_of_some _ e
      have fr : ∀ b ∈ [s1.heap.objs.size], FpOk X pins H1 b := fun b hb => by
        rw [List.mem_singleton] at hb
        subst hb
        exact I1.fpOk (Nat.le_refl _) (I1.hok.fresh (Nat.le_refl _))
      have I3 := I2.pinned fr (fun b hb => by
        rw [List.mem_singleton] at hb
        subst hb
        exact ⟨_, hR, fun v q => nomatch q⟩)
      refine PySem.Calls.spliced_cons (thn (h2.run _ _ _ _ _ I3 q) fun u s3 ⟨v, H3, I4, rv, q3⟩ => PySem.Calls.spliced_nil ?_)
      obtain ⟨b, ys, ev, hqy, q3⟩ := q3
      subst ev
      cases rv
      obtain ⟨its2, rv2, p2, _⟩ := I4.tuple hqy
      have hR3 : IsRange s3.heap s1.heap.objs.size i j 1 t t' s1.toks := (I4.pin (_, _) (List.mem_append_right _ (List.mem_append_right _ (mem_pinsAt (List.mem_singleton.mpr rfl) hR)))).1
      have I5 := I4.unpinned
      refine zip_begins2 (begins_range s1.heap.objs.size i j t t' s1.toks (small_one b1 b2 b3 b4)) (begins_tuple b its2.toArray) hR3 p2 fun h' hz hTI hTO g1 g2 hsz hk => wpAny_pyIter_zip hz ?_
      have I6 : Inv X pins σ H3 { s3 with heap := h' } := I5.kept (t' := s3.toks) hk
      have lb : b < s3.heap.objs.size := by obtain ⟨o, ho, _⟩ := p2; exact Heap.lt_size ho
      have en : (((j - i).toNat : Nat) : Int) = Builtin.Range.rangeSize i j 1 := by rw [rangeSize_one]; split <;> omega
      refine ⟨s3.heap.objs.size + 4, [s3.heap.objs.size + 4, s3.heap.objs.size + 2, s3.heap.objs.size + 3, s3.heap.objs.size, s3.heap.objs.size + 1], _, _, H3, rfl, I6, turn_zipR (lo := i) (n := (j - i).toNat) (b := b) (sep_new _ _ lb) (PySem.W.ktu_ne 1 lb), ⟨hz, hTI, ⟨_, _, hTO⟩, ?_, ⟨_, g2, rfl, rfl⟩⟩, fun c hcm => ?_, q3⟩
      · show IsRangeIter h' _ (i + ((0 : Nat) : Int)) ((((j - i).toNat : Nat) : Int) - ((0 : Nat) : Int)) 1
        rw [en, show i + ((0 : Nat) : Int) = i by omega, show Builtin.Range.rangeSize i j 1 - ((0 : Nat) : Int) = Builtin.Range.rangeSize i j 1 by omega]
        exact g1
      · have hle : s3.heap.objs.size ≤ c := by
          have e' : c = s3.heap.objs.size + 4 ∨ c = s3.heap.objs.size + 2 ∨ c = s3.heap.objs.size + 3 ∨ c = s3.heap.objs.size ∨ c = s3.heap.objs.size + 1 := by simpa using hcm
          rcases e' with z | z | z | z | z
          · rw [z]; exact Nat.le_add_right _ _
          · rw [z]; exact Nat.le_add_right _ _
          · rw [z]; exact Nat.le_add_right _ _
          · rw [z]; exact Nat.le_refl _
          · rw [z]; exact Nat.le_add_right _ _
        exact I5.fpOk hle (I5.hok.fresh hle)
theorem for_zipR {K : PySem.W.Frag} {lo : Int} {n : Nat} {b : Addr} {ys : List V} {g : TG} {tb : TS} {D : Ends} {σ : L2.St} {H : Hp} (hl : n = ys.length) (Pv : Nat → L2.St → Hp → Prop) (h0 : Pv 0 σ H) (hq : ∀ i σ H, Pv i σ H → SqT K H b ys)
    (hs : ∀ (i : Nat) (y : V) (T : Addr) (σ : L2.St) (H : Hp), ys[i]? = some y → Pv i σ H → H T = none → g (.ref T) σ (upd H T (.tup [.int (lo + (i : Nat)), y])) fun σ2 H2 => tb { D with nx := Pv (i + 1), ct := Pv (i + 1), bk := D.nx } σ2 H2) (hd : ∀ σ H, Pv n σ H → D.nx σ H) :
    ∃ W : Nat → Nat → L2.St → Hp → Prop, (∃ m, W 0 m σ H) ∧ ∀ i m σ H, W i m σ H →
      ((ItzR K lo n b).stop i H ∧ D.nx σ H) ∨ ((ItzR K lo n b).go i H ∧ ∃ N : L2.St → Hp → Prop, (∀ σ' H', N σ' H' → ∃ m', m' < m ∧ W (i + 1) m' σ' H') ∧ ∀ v H', (ItzR K lo n b).yld i H v H' → g v σ H' fun σ2 H2 => tb { D with nx := N, ct := N, bk := D.nx } σ2 H2) := by
  refine ⟨fun i m σ H => m = n - i ∧ i ≤ n ∧ Pv i σ H, ⟨n, rfl, Nat.zero_le _, h0⟩, ?_⟩
  rintro i m σ H ⟨rfl, hi, p⟩
  have qy := hq i σ H p
  by_cases hlt : i < n
  · have hy : ys[i]? = some ys[i] := List.getElem?_eq_getElem (by omega)
    refine .inr ⟨⟨ys, _, qy, hy, hlt⟩, Pv (i + 1), fun σ' H' p' => ⟨n - (i + 1), by omega, rfl, hlt, p'⟩, fun v H' yy => ?_⟩
    obtain ⟨T, y', rfl, hT, rfl, f2⟩ := yy
    exact hs i y' T σ H (f2 ys qy) p hT
  · have e : i = n := by omega
    subst e
    exact .inl ⟨⟨ys, qy, hl.symm, rfl⟩, hd σ H p⟩
end K66
namespace K66
open PySem L2
theorem fs_at : ∀ (t : Tr) (f i : Nat) (x : Int), (t.fs f)[i]? = some x → ∃ m : Nat, x = m ∧ f ≤ m ∧ m ≤ f + i
  | .lf, f, i, x, h => by simp [Tr.fs] at h
  | .nd l r, f, i, x, h => by
    have h : (l.fs f ++ (f : Int) :: r.fs (f + l.n))[i]? = some x := h
    have ll := l.fs_len f
    rw [List.getElem?_append] at h
    by_cases c : i < (l.fs f).length
    · rw [if_pos c] at h
      exact fs_at l f i x h
    · rw [if_neg c] at h
      cases e : i - (l.fs f).length with
      | zero =>
        rw [e, List.getElem?_cons_zero] at h
        cases h
        exact ⟨f, rfl, by omega, by omega⟩
      | succ j =>
        rw [e, List.getElem?_cons_succ] at h
        obtain ⟨m, e1, e2, e3⟩ := fs_at r (f + l.n) j x h
        exact ⟨m, e1, by omega, by omega⟩
theorem ls_at : ∀ (t : Tr) (f i : Nat) (x : Int), (t.ls f)[i]? = some x → ∃ m : Nat, x = m ∧ f + i + 1 ≤ m ∧ m + 1 ≤ f + t.n
  | .lf, f, i, x, h => by simp [Tr.ls] at h
  | .nd l r, f, i, x, h => by
    have h : (l.ls f ++ ((f + l.n + r.n - 1 : Nat) : Int) :: r.ls (f + l.n))[i]? = some x := h
    have ll := l.ls_len f
    have p1 := l.pos; have p2 := r.pos
    have en : (Tr.nd l r).n = l.n + r.n := rfl
    rw [List.getElem?_append] at h
    by_cases c : i < (l.ls f).length
    · rw [if_pos c] at h
      obtain ⟨m, e1, e2, e3⟩ := ls_at l f i x h
      exact ⟨m, e1, by omega, by omega⟩
    · rw [if_neg c] at h
      cases e : i - (l.ls f).length with
      | zero =>
        rw [e, List.getElem?_cons_zero] at h
        cases h
        exact ⟨_, rfl, by omega, by omega⟩
      | succ j =>
        rw [e, List.getElem?_cons_succ] at h
        obtain ⟨m, e1, e2, e3⟩ := ls_at r (f + l.n) j x h
        exact ⟨m, e1, by omega, by omega⟩
theorem cut_mid (r : Row) (b m : Nat) (h : b ≤ m) (hm : m ≤ r.length) : cutV (r.map V.int) (some (b : Int)) (some (m : Int)) = ((r.drop b).take (m - b)).map V.int := by
  unfold cutV
  rw [HT.sIx_nat, HT.sIx_nat, List.length_map, Nat.min_eq_left (show b ≤ r.length by omega)]
  try rw [Nat.min_eq_left hm]
  rw [List.map_take, List.map_drop]
/-- the row while the new sounds are laid, from place b on -/
def laid (row news : Row) (b i : Nat) : Row := row.take b ++ (news.take i ++ row.drop (b + i))
theorem laid_zero (row news : Row) (b : Nat) : laid row news b 0 = row := by
  unfold laid
  rw [List.take_zero, List.nil_append, Nat.add_zero, List.take_append_drop]
theorem laid_len {row news : Row} {b i : Nat} (hb : b + news.length ≤ row.length) (hi : i ≤ news.length) : (laid row news b i).length = row.length := by
  unfold laid
  rw [List.length_append, List.length_append, List.length_take, List.length_take, List.length_drop]
  omega
theorem laid_succ {row news : Row} {b i : Nat} {y : Int} (hb : b + news.length ≤ row.length) (hy : news[i]? = some y) : (laid row news b i).set (b + i) y = laid row news b (i + 1) := by
  have hi := (List.getElem?_eq_some_iff.mp hy).1
  apply List.ext_getElem?
  intro k
  have l1 : (row.take b).length = b := by rw [List.length_take]; omega
  have l2 : (news.take i).length = i := by rw [List.length_take]; omega
  have l3 : (news.take (i + 1)).length = i + 1 := by rw [List.length_take]; omega
  by_cases hk : k = b + i
  · subst hk
    rw [List.getElem?_set_self (by rw [laid_len hb (by omega)]; omega)]
    unfold laid
    rw [List.getElem?_append_right (by omega), l1, List.getElem?_append_left (by omega), List.getElem?_take, if_pos (by omega), show b + i - b = i by omega, hy]
  · rw [List.getElem?_set_ne (Ne.symm hk)]
    show (row.take b ++ (news.take i ++ row.drop (b + i)))[k]? = (row.take b ++ (news.take (i + 1) ++ row.drop (b + (i + 1))))[k]?
    by_cases k1 : k < b
    · rw [List.getElem?_append_left (show k < (row.take b).length by omega), List.getElem?_append_left (show k < (row.take b).length by omega)]
    · rw [List.getElem?_append_right (show (row.take b).length ≤ k by omega), List.getElem?_append_right (show (row.take b).length ≤ k by omega), l1]
      by_cases k2 : k - b < i
      · rw [List.getElem?_append_left (show k - b < (news.take i).length by omega), List.getElem?_append_left (show k - b < (news.take (i + 1)).length by omega), List.getElem?_take, List.getElem?_take, if_pos k2, if_pos (by omega)]
      · rw [List.getElem?_append_right (show (news.take i).length ≤ k - b by omega), List.getElem?_append_right (show (news.take (i + 1)).length ≤ k - b by omega), l2, l3, List.getElem?_drop, List.getElem?_drop]
        congr 1
        omega
theorem laid_all (row news : Row) (b e : Nat) (h : b + news.length = e) : laid row news b news.length = row.take b ++ (news ++ row.drop e) := by
  unfold laid
  rw [List.take_length, h]
/-- where the words begin, as they are kept -/
def stL (ws : List Row) : Row := (List.range (ws.length + 1)).map fun k => ((st ws k : Nat) : Int)
theorem stL_at {ws : List Row} {k : Nat} (h : k ≤ ws.length) : ((stL ws).map V.int)[k]? = some (.int (st ws k)) := by
  unfold stL
  rw [List.getElem?_map, List.getElem?_map, List.getElem?_range (by omega)]; rfl
theorem stL_len (ws : List Row) : ((stL ws).map V.int).length = ws.length + 1 := by
  unfold stL
  rw [List.length_map, List.length_map, List.length_range]
end K66
namespace K66
open PySem L2
structure TxY (K : PySem.W.Frag) (C : Addr) : Prop where
  cl : Cls K C
  nB : NoAttr K C "book"
  nR : NoAttr K C "row"
  nS : NoAttr K C "starts"
  nJ : NoAttr K C "joinings"
  nO : NoAttr K C "order"
  nC : NoAttr K C "changed"
  nL : NoAttr K C "looked"
structure SyP where
  dx : Addr
  bk : Addr
  rw : Addr
  stt : Addr
  jn : Addr
  od : Addr
  ch : Addr
  lk : Addr
def syF (q : SyP) : List (Str × V) := [("book", .ref q.bk), ("row", .ref q.rw), ("starts", .ref q.stt), ("joinings", .ref q.jn), ("order", .ref q.od), ("changed", .ref q.ch), ("looked", .ref q.lk)]
/-- what a Sayer keeps; H0 holds all but the row, the changes, the places looked at -/
structure Sy (P : Program) (w : World) (CB CJ C : Addr) (H0 : Hp) (y : Addr) (q : SyP) (S : Int) (A B : Nat) (kvs : List (NK × NK)) (ws : List Row) (t : Tr) : Prop where
  yy : H0 y = some (.ins C q.dx (syF q))
  bk : Bk P w CB H0 q.bk S A B kvs
  jn : Jn CJ H0 q.jn t
  st : H0 q.stt = some (.lst ((stL ws).map V.int))
  od : H0 q.od = some (.lst ((t.po 0).map V.int))
  n1 : H0 q.rw = none
  n2 : H0 q.ch = none
  n3 : H0 q.lk = none
  d1 : q.rw ≠ q.ch
structure SyNow (H0 H : Hp) (q : SyP) (row : Row) (n : Nat) : Prop where
  e : Same H0 H
  rw : H q.rw = some (.lst (row.map V.int))
  ch : ∃ xs, H q.ch = some (.lst xs) ∧ xs.length ≤ n
  lk : ∃ ks, H q.lk = some (.dK ks) ∧ ks.length ≤ n
theorem SyNow.same {H0 H H' : Hp} {q : SyP} {row : Row} {n : Nat} (h : SyNow H0 H q row n) (e : Same H H') : SyNow H0 H' q row n := by
  obtain ⟨h1, h2, ⟨xs, h3, h4⟩, ⟨ks, h5, h6⟩⟩ := h
  exact ⟨h1.trans e, e _ _ h2, ⟨xs, e _ _ h3, h4⟩, ⟨ks, e _ _ h5, h6⟩⟩
theorem TR.mut {H : Hp} {a q : Addr} {r : Row} {o u : HO} (h : TR H a r) (hq : H q = some u) (hn : ∀ xs, u ≠ .tup xs) : TR (upd H q o) a r := by
  have ne : a ≠ q := fun z => by
    have h : H a = some (.tup (r.map V.int)) := h
    rw [z, hq] at h
    exact hn _ (Option.some.inj h)
  exact (upd_ne ne).trans h
section
variable {P : Program} {w : World} {K : PySem.W.Frag} {mg : Str → Option Value} {base : Heap}
/-! Sayer.join -/
def spSyJoin (P : Program) (w : World) (CB CJ C : Addr) : Sp := fun vs H Q _ => ∃ (y : Addr) (q : SyP) (k : Nat) (S : Int) (A B : Nat) (kvs : List (NK × NK)) (ws : List Row) (t : Tr) (H0 : Hp) (row : Row) (n : Nat),
  vs = [.ref y, .int (k : Int)] ∧ Sy P w CB CJ C H0 y q S A B kvs ws t ∧ SyNow H0 H q row n ∧ LenKv kvs ∧ 1 ≤ A ∧ A ≤ 4 ∧ 1 ≤ B ∧ B ≤ 4 ∧ row.length = ws.flatten.length ∧ row.length ≤ 10000 ∧ k + 1 < t.n ∧ t.n = ws.length ∧ ws.length ≤ 40 ∧ n ≤ 10000 ∧
  ∀ H', SyNow H0 H' q (stepS (bF kvs) A B ws (t.fs 0) (t.ls 0) row (k : Int)) (n + 8) → Q .non H'
abbrev nSj : List Str := ["self", "seam", "first", "middle", "last", "begin", "end", "new_left", "new_right", "place", "new"]
theorem scSyJoin : FnScope nSj ["self", "seam"] (C8.fnScope sSyJoin) := ⟨rfl, rfl, rfl, by decide +kernel, rfl, by decide +kernel, by decide +kernel⟩

theorem okSyJoin {f C CB CJ : Addr} {fd : FuncData} (F : C8.Fun K "join" "Sayer.join" sSyJoin f fd) (b : Binds K fd ["self", "seam"] []) (me : Meth K C "join" f) (g : Gb mg) (TB : TxB K CB) (TJ : TxJ K CJ) (T : TxY K C)
    (G1 : C8.Cal P w K mg base 1 "told" (spTold P w CB) []) : C8.Met P w K mg base 2 C "join" (spSyJoin P w CB CJ C) [] := by
  refine C8.met0 T.cl me F b scSyJoin (fun vs H Q E h => ?_) (fun cdv A outer s H vs Q E hr h => ?_)
  · obtain ⟨y, q, k, S, A, B, kvs, ws, t, H0, row, n, rfl, _⟩ := h; rfl
  · obtain ⟨y, q, k, S, A', B, kvs, ws, t, H0, row, n, rfl, sy, now, hl, a1, a2, b1, b2, hrow, hz, hk, htn, hws, hn, kk⟩ := h
    have hu : (A.deeper (PyProof.Rows.envOfC "Sayer.join" (C8.fnScope sSyJoin) s.heap.objs.size f cdv)).units + 64 < cLine := hr.units
    have hu1 : (A.deeper (PyProof.Rows.envOfC "Sayer.join" (C8.fnScope sSyJoin) s.heap.objs.size f cdv)).units + 1 < cLine := by omega
    refine ⟨_, (pss_cons (ps_set (i := 2) scSyJoin.nd rfl (Or.inl rfl) (pe_ix ix_list (pe_fld (pv 0) rfl) (pe_ix ix_list (pe_fld (pe_fld (pv 0) rfl) rfl) (pv 1) (fun _ _ => rfl)) (fun _ _ => rfl))) (pss_cons (ps_set (i := 3) scSyJoin.nd rfl (Or.inl rfl) (pe_ix ix_list (pe_fld (pv 0) rfl) (pe_op op_add (pv 1) pe_int) (fun _ _ => rfl))) (pss_cons (ps_set (i := 4) scSyJoin.nd rfl (Or.inl rfl) (pe_ix ix_list (pe_fld (pv 0) rfl) (pe_op op_add (pe_ix ix_list (pe_fld (pe_fld (pv 0) rfl) rfl) (pv 1) (fun _ _ => rfl)) pe_int) (fun _ _ => rfl))) (pss_cons (ps_set (i := 5) scSyJoin.nd rfl (Or.inl rfl) (pe_callB (call_max2 rfl) rfl g.max PyProof.Rows.boot_max (pa_cons (pv 2) (pa_cons (pe_op op_sub (pv 3) (pe_fld (pe_fld (pv 0) rfl) rfl)) pa_nil)))) (pss_cons (ps_set (i := 6) scSyJoin.nd rfl (Or.inl rfl) (pe_callB (call_min2 rfl) rfl g.min PyProof.Rows.boot_min (pa_cons (pv 4) (pa_cons (pe_op op_add (pv 3) (pe_fld (pe_fld (pv 0) rfl) rfl)) pa_nil)))) (pss_cons (ps_asg (C8.pe_c G1 hr (by decide) rfl (pa_cons (pe_fld (pv 0) rfl) (pa_cons (pe_callTy call_tuple_of rfl g.tuple bTuple (pa_cons (pe_slice sl_list (pe_fld (pv 0) rfl) (po_some (pv 5)) (po_some (pv 3))) pa_nil)) (pa_cons (pe_callTy call_tuple_of rfl g.tuple bTuple (pa_cons (pe_slice sl_list (pe_fld (pv 0) rfl) (po_some (pv 3)) (po_some (pv 6))) pa_nil)) pa_nil)))) (pg_tup rfl (pgs_cons (pg_name (i := 7) scSyJoin.nd rfl (Or.inl rfl)) (pgs_cons (pg_name (i := 8) scSyJoin.nd rfl (Or.inl rfl)) pgs_nil)))) (pss_one (ps_for PassesOwn.never rfl (pi_zipR rfl g.zip rfl g.range (pa_cons (pv 5) (pa_cons (pv 6) pa_nil)) (pe_op op_catA (pv 7) (pv 8))) (pg_tup rfl (pgs_cons (pg_name (i := 9) scSyJoin.nd rfl (Or.inl rfl)) (pgs_cons (pg_name (i := 10) scSyJoin.nd rfl (Or.inl rfl)) pgs_nil))) (pss_cons (ps_dput hu1 (pe_fld (pv 0) rfl) (pv 9) pe_bl rfl) (pss_cons (ps_if (pt_cmpR op_ne (pe_ix ix_list (pe_fld (pv 0) rfl) (pv 9) (fun _ _ => rfl)) (pv 10) (nomark _)) (pss_one (ps_expr (pe_bm PySem.F.plainAttrs_list PySem.F.slot_list_append PySem.F.type_list_append mt_append (pe_fld (pv 0) rfl) (pa_cons (pe_tup (pa_cons (pv 1) (pa_cons (pv 9) (pa_cons (pe_ix ix_list (pe_fld (pv 0) rfl) (pv 9) (fun _ _ => rfl)) (pa_cons (pv 10) pa_nil))))) pa_nil)))) pss_nil) (pss_one (ps_asg (pv 10) (pg_sub (pe_fld (pv 0) rfl) (pv 9) set_list))))))))))))), ?_⟩
    obtain ⟨e0, hrw, ⟨chs, hch, hcl⟩, ⟨dks, hlk, hkl⟩⟩ := now
    have hy := e0 _ _ sy.yy
    obtain ⟨dxj, j1, j2, j3, hj0, hf0, hl0⟩ := sy.jn
    have hj := e0 _ _ hj0
    have hf := e0 _ _ hf0
    have hla := e0 _ _ hl0
    have hst := e0 _ _ sy.st
    have bk := sy.bk.same e0
    obtain ⟨dxb, db, hb, nd⟩ := bk
    have bk : Bk P w CB H q.bk S A' B kvs := ⟨dxb, db, hb, nd⟩
    have lf := t.fs_len 0
    have ll := t.ls_len 0
    have hx0 : (t.fs 0)[k]? = some ((t.fs 0)[k]'(by omega)) := List.getElem?_eq_getElem (by omega)
    have hy0 : (t.ls 0)[k]? = some ((t.ls 0)[k]'(by omega)) := List.getElem?_eq_getElem (by omega)
    obtain ⟨m1, ex, _, hm1⟩ := fs_at t 0 k _ hx0
    obtain ⟨m2, ey, hm2, hm2'⟩ := ls_at t 0 k _ hy0
    rw [ex] at hx0
    rw [ey] at hy0
    clear ex ey
    have hstep : stepS (bF kvs) A' B ws (t.fs 0) (t.ls 0) row (k : Int) = joinAt (bF kvs) A' B row (st ws m1) (st ws (k + 1)) (st ws (m2 + 1)) := by
      unfold stepS
      rw [Int.toNat_natCast, List.getD_eq_getElem?_getD, List.getD_eq_getElem?_getD, hx0, hy0]
      simp only [Option.getD_some, Int.toNat_natCast]
    rw [hstep] at kk
    have q1 := st_le ws (show m1 ≤ k + 1 by omega)
    have q2 := st_le ws (show k + 1 ≤ m2 + 1 by omega)
    have q3 : st ws (m2 + 1) ≤ row.length := by
      rw [hrow, ← st_all ws (Nat.le_refl ws.length)]
      exact st_le ws (by omega)
    unfold joinAt at kk
    refine ⟨_, rfl, y, C, q.dx, _, _, rfl, hy, T.cl, T.nS, rfl, _, rfl, y, C, q.dx, _, _, rfl, hy, T.cl, T.nJ, rfl, q.jn, CJ, dxj, _, _, rfl, hj, TJ.cl, TJ.nF, rfl, _, rfl, j1, _, _, .int (m1 : Int), rfl, rfl, SqL.of hf, at_of (j := k) rfl (by rw [List.getElem?_map, hx0]; rfl), q.stt, _, _, _, rfl, rfl, SqL.of hst, at_of (j := m1) rfl (stL_at (by omega)), ?_⟩
    -- middle
    refine ⟨_, rfl, y, C, q.dx, _, _, rfl, hy, T.cl, T.nS, rfl, _, rfl, _, _, rfl, rfl, q.stt, _, _, _, rfl, rfl, SqL.of hst, at_of (j := k + 1) (by omega) (stL_at (by omega)), ?_⟩
    -- last
    refine ⟨_, rfl, y, C, q.dx, _, _, rfl, hy, T.cl, T.nS, rfl, _, rfl, y, C, q.dx, _, _, rfl, hy, T.cl, T.nJ, rfl, q.jn, CJ, dxj, _, _, rfl, hj, TJ.cl, TJ.nL, rfl, _, rfl, j2, _, _, .int (m2 : Int), rfl, rfl, SqL.of hla, at_of (j := k) rfl (by rw [List.getElem?_map, hy0]; rfl), _, _, rfl, rfl, q.stt, _, _, _, rfl, rfl, SqL.of hst, at_of (j := m2 + 1) (by omega) (stL_at (by omega)), ?_⟩
    generalize st ws m1 = fw at *
    generalize st ws (k + 1) = md at *
    generalize st ws (m2 + 1) = la at *
    -- begin, end
    refine ⟨_, rfl, _, rfl, _, rfl, y, C, q.dx, _, _, rfl, hy, T.cl, T.nB, rfl, q.bk, CB, dxb, _, _, rfl, hb, TB.cl, TB.nA, rfl, _, _, rfl, rfl, _, _, rfl, ?_⟩
    refine ⟨_, rfl, _, rfl, _, rfl, y, C, q.dx, _, _, rfl, hy, T.cl, T.nB, rfl, q.bk, CB, dxb, _, _, rfl, hb, TB.cl, TB.nB, rfl, _, _, rfl, rfl, _, _, rfl, ?_⟩
    have eb : (if ((md : Int) - (A' : Int)) > (fw : Int) then ((md : Int) - (A' : Int)) else (fw : Int)) = ((max fw (md - A') : Nat) : Int) := by split <;> omega
    have ee : (if ((md : Int) + (B : Int)) < (la : Int) then ((md : Int) + (B : Int)) else (la : Int)) = ((min la (md + B) : Nat) : Int) := by split <;> omega
    rw [eb, ee]
    have z1 : max fw (md - A') ≤ md := by omega
    have z2 : md ≤ min la (md + B) := by omega
    have z3 : min la (md + B) ≤ row.length := by omega
    have z4 : min la (md + B) - max fw (md - A') ≤ 8 := by omega
    generalize max fw (md - A') = bg at *
    generalize min la (md + B) = en at *
    clear eb ee
    -- told
    refine ⟨_, rfl, y, C, q.dx, _, _, rfl, hy, T.cl, T.nB, rfl, ?_⟩
    have hrw1 := SqL.of (K := K) hrw
    refine ⟨_, rfl, y, C, q.dx, _, _, rfl, hy, T.cl, T.nR, rfl, _, rfl, _, rfl, _, rfl, _, rfl, q.rw, _, rfl, SqL.of hrw, fun p1 np1 => ?_⟩
    rw [cut_mid row bg md z1 (by omega)]
    have f1 := same_new (o := .lst (((row.drop bg).take (md - bg)).map V.int)) np1
    refine ⟨p1, _, rfl, .inl ⟨SqL.of upd_same, fun p2 np2 => ?_⟩⟩
    have f2 := f1.trans (same_new (o := .tup (((row.drop bg).take (md - bg)).map V.int)) np2)
    have t2 : TR (upd (upd H p1 (.lst (((row.drop bg).take (md - bg)).map V.int))) p2 (.tup (((row.drop bg).take (md - bg)).map V.int))) p2 ((row.drop bg).take (md - bg)) := upd_same
    show (_ : Hp → Prop) (upd (upd H p1 (.lst (((row.drop bg).take (md - bg)).map V.int))) p2 (.tup (((row.drop bg).take (md - bg)).map V.int)))
    generalize upd (upd H p1 (.lst (((row.drop bg).take (md - bg)).map V.int))) p2 (.tup (((row.drop bg).take (md - bg)).map V.int)) = H2 at f2 t2
    clear f1
    refine ⟨_, rfl, y, C, q.dx, _, _, rfl, f2 _ _ hy, T.cl, T.nR, rfl, _, rfl, _, rfl, _, rfl, _, rfl, q.rw, _, rfl, SqL.of (f2 _ _ hrw), fun p3 np3 => ?_⟩
    rw [cut_mid row md en z2 (by omega)]
    have f3 := f2.trans (same_new (o := .lst (((row.drop md).take (en - md)).map V.int)) np3)
    have t3 := t2.mono (same_new (o := .lst (((row.drop md).take (en - md)).map V.int)) np3)
    refine ⟨p3, _, rfl, .inl ⟨SqL.of upd_same, fun p4 np4 => ?_⟩⟩
    have f4 := f3.trans (same_new (o := .tup (((row.drop md).take (en - md)).map V.int)) np4)
    have t4 := t3.mono (same_new (o := .tup (((row.drop md).take (en - md)).map V.int)) np4)
    have t5 : TR (upd (upd H2 p3 (.lst (((row.drop md).take (en - md)).map V.int))) p4 (.tup (((row.drop md).take (en - md)).map V.int))) p4 ((row.drop md).take (en - md)) := upd_same
    refine ⟨q.bk, p2, p4, S, _, _, kvs, _, _, rfl, bk.same f4, t4, t5, fun H5 pr e5 prr => ?_⟩
    have f5 := f4.trans e5
    clear t2 t3 t4 t5 f2 f3 f4 e5 np1 np2 np3 np4
    obtain ⟨nl, nr, h5, tl, tr⟩ := prr
    have lens := hl.ok ((row.drop bg).take (md - bg)) ((row.drop md).take (en - md))
    have len1 : (bF kvs ((row.drop bg).take (md - bg)) ((row.drop md).take (en - md))).1.length = md - bg := by rw [lens.1, List.length_take, List.length_drop]; omega
    have len2 : (bF kvs ((row.drop bg).take (md - bg)) ((row.drop md).take (en - md))).2.length = en - md := by rw [lens.2, List.length_take, List.length_drop]; omega
    have kk : ∀ H', SyNow H0 H' q (row.take bg ++ ((bF kvs ((row.drop bg).take (md - bg)) ((row.drop md).take (en - md))).1 ++ ((bF kvs ((row.drop bg).take (md - bg)) ((row.drop md).take (en - md))).2 ++ row.drop en))) (n + 8) → Q .non H' := kk
    clear lens
    generalize bF kvs ((row.drop bg).take (md - bg)) ((row.drop md).take (en - md)) = pq at *
    obtain ⟨na, nb⟩ := pq
    replace len1 : na.length = md - bg := len1
    replace len2 : nb.length = en - md := len2
    replace kk : ∀ H', SyNow H0 H' q (row.take bg ++ (na ++ (nb ++ row.drop en))) (n + 8) → Q .non H' := kk
    replace tl : TR H5 nl na := tl
    replace tr : TR H5 nr nb := tr
    refine ⟨pr, _, rfl, SqT.of h5, rfl, _, _, rfl, _, _, rfl, rfl, ?_⟩
    refine ⟨_, rfl, _, rfl, (bg : Int), (en : Int), rfl, ⟨by omega, by omega, by omega, by omega⟩, _, rfl, _, rfl, ?_⟩
    refine catA_go tl tr (by omega) fun p6 H6 e6 t6 => ⟨p6, _, rfl, t6.seq, ?_⟩
    have hnl : (na ++ nb).length = en - bg := by rw [List.length_append]; omega
    have now6 : SyNow H0 H6 q row n := ⟨e0.trans (f5.trans e6), e6 _ _ (f5 _ _ hrw), ⟨chs, e6 _ _ (f5 _ _ hch), hcl⟩, ⟨dks, e6 _ _ (f5 _ _ hlk), hkl⟩⟩
    have t0 : TR H6 p6 (na ++ nb) := t6
    refine for_zipR (K := K) (ys := (na ++ nb).map V.int) (by rw [List.length_map, hnl]; omega) (fun i σ H' => ∃ v9 v10 : Option V, σ = [some (.ref y), some (.int (k : Int)), some (.int (fw : Int)), some (.int (md : Int)), some (.int (la : Int)), some (.int (bg : Int)), some (.int (en : Int)), some (.ref nl), some (.ref nr), v9, v10] ∧
      SyNow H0 H' q (laid row (na ++ nb) bg i) (n + i) ∧ TR H' p6 (na ++ nb)) ⟨none, none, rfl, by rw [laid_zero]; exact now6, t6⟩ (fun i σ H' p => ?_) (fun i yv T6 σ H' hyv p hT6 => ?_) (fun σ H' p => ?_)
    · obtain ⟨_, _, _, _, t⟩ := p
      exact t.seq
    · obtain ⟨v9, v10, rfl, ⟨g0, grw, ⟨xs, gch, gcl⟩, ⟨ks, glk, gkl⟩⟩, tt⟩ := p
      rw [List.getElem?_map] at hyv
      obtain ⟨yi, hyi, rfl⟩ : ∃ yi, (na ++ nb)[i]? = some yi ∧ yv = V.int yi := by
        cases e : (na ++ nb)[i]? with
        | none => rw [e] at hyv; cases hyv
        | some z => rw [e] at hyv; cases hyv; exact ⟨z, rfl, rfl⟩
      have hi := (List.getElem?_eq_some_iff.mp hyi).1
      have s7 := same_new (o := .tup [.int ((bg : Int) + (i : Nat)), .int yi]) hT6
      refine ⟨T6, _, rfl, SqT.of upd_same, rfl, _, _, rfl, _, _, rfl, rfl, ?_⟩
      have g0 := g0.trans s7
      have grw := s7 _ _ grw
      have gch := s7 _ _ gch
      have glk := s7 _ _ glk
      have tt := tt.mono s7
      generalize upd H' T6 (.tup [.int ((bg : Int) + (i : Nat)), .int yi]) = H7 at g0 grw gch glk tt
      have d2 : q.rw ≠ q.lk := fun z => by rw [z, glk] at grw; cases grw
      have d3 : q.ch ≠ q.lk := fun z => by rw [z, glk] at gch; cases gch
      have ei : (bg : Int) + (i : Nat) = ((bg + i : Nat) : Int) := by omega
      rw [ei]
      -- looked
      refine ⟨_, rfl, y, C, q.dx, _, _, rfl, g0 _ _ sy.yy, T.cl, T.nL, rfl, _, rfl, q.lk, _, rfl, DPut.k (k := .inl ((bg + i : Nat) : Int)) glk (Nat.lt_of_le_of_lt gkl (Nat.lt_of_le_of_lt (show n + i ≤ 20000 by omega) (by decide))), ?_⟩
      have llen := laid_len (i := i) (show bg + (na ++ nb).length ≤ row.length by omega) (by omega)
      have e8 : Same H0 (upd H7 q.lk (.dK (putK ks (.inl ((bg + i : Nat) : Int)) (.bl true)))) := same_mut g0 sy.n3
      have grw : (upd H7 q.lk (.dK (putK ks (.inl ((bg + i : Nat) : Int)) (.bl true)))) q.rw = _ := (upd_ne d2).trans grw
      have gch : (upd H7 q.lk (.dK (putK ks (.inl ((bg + i : Nat) : Int)) (.bl true)))) q.ch = _ := (upd_ne d3).trans gch
      have glk' : (upd H7 q.lk (.dK (putK ks (.inl ((bg + i : Nat) : Int)) (.bl true)))) q.lk = some (.dK (putK ks (.inl ((bg + i : Nat) : Int)) (.bl true))) := upd_same
      have tt : TR (upd H7 q.lk (.dK (putK ks (.inl ((bg + i : Nat) : Int)) (.bl true)))) p6 (na ++ nb) := tt.mut glk (fun _ e => nomatch e)
      have lput := length_putK ks (.inl ((bg + i : Nat) : Int)) (.bl true)
      generalize upd H7 q.lk (.dK (putK ks (.inl ((bg + i : Nat) : Int)) (.bl true))) = H8 at e8 grw gch glk' tt
      generalize putK ks (.inl ((bg + i : Nat) : Int)) (.bl true) = ks' at glk' lput
      have hxi : (laid row (na ++ nb) bg i)[bg + i]? = some ((laid row (na ++ nb) bg i)[bg + i]'(by omega)) := List.getElem?_eq_getElem (by omega)
      generalize (laid row (na ++ nb) bg i)[bg + i]'(by omega) = xi at hxi
      refine ⟨_, rfl, y, C, q.dx, _, _, rfl, e8 _ _ sy.yy, T.cl, T.nR, rfl, _, rfl, q.rw, _, _, .int xi, rfl, rfl, SqL.of grw, at_of (j := bg + i) rfl (by rw [List.getElem?_map, hxi]; rfl), _, rfl, rfl, !decide (V.int xi = V.int yi), rfl, ?_⟩
      cases hd : decide (V.int xi = V.int yi) with
      | true =>
        refine iteF ?_
        refine ⟨_, rfl, _, rfl, y, C, q.dx, _, _, rfl, e8 _ _ sy.yy, T.cl, T.nR, rfl, _, rfl, q.rw, _, _, bg + i, rfl, rfl, grw, ixN_nat (by rw [List.length_map]; omega), ?_⟩
        have g1 : Same H0 (upd H8 q.rw (.lst (((laid row (na ++ nb) bg i).map V.int).set (bg + i) (.int yi)))) := same_mut e8 sy.n1
        refine ⟨_, _, rfl, ⟨g1, ?_, ⟨_, (upd_ne sy.d1.symm).trans gch, by omega⟩, ⟨_, (upd_ne d2.symm).trans glk', by omega⟩⟩, tt.mut grw (fun _ e => nomatch e)⟩
        rw [upd_same, ← laid_succ (y := yi) (by omega) hyi, List.map_set]
      | false =>
        refine iteT ?_
        refine ⟨_, rfl, y, C, q.dx, _, _, rfl, e8 _ _ sy.yy, T.cl, T.nC, rfl, .inl ⟨rfl, _, SqL.of gch⟩, _, rfl, _, rfl, _, rfl, y, C, q.dx, _, _, rfl, e8 _ _ sy.yy, T.cl, T.nR, rfl, _, rfl, q.rw, _, _, .int xi, rfl, rfl, SqL.of grw, at_of (j := bg + i) rfl (by rw [List.getElem?_map, hxi]; rfl), _, rfl, by show 4 ≤ sizeLine; decide, fun pa npa => ?_⟩
        have s9 := same_new (o := .tup [.int (k : Int), .int ((bg + i : Nat) : Int), .int xi, .int yi]) npa
        have e8 := e8.trans s9
        have grw := s9 _ _ grw
        have gch := s9 _ _ gch
        have glk' := s9 _ _ glk'
        have tt := tt.mono s9
        generalize upd H8 pa (.tup [.int (k : Int), .int ((bg + i : Nat) : Int), .int xi, .int yi]) = H9 at e8 grw gch glk' tt
        refine ⟨q.ch, _, _, rfl, rfl, gch, Nat.lt_of_le_of_lt gcl (Nat.lt_of_le_of_lt (show n + i ≤ 20000 by omega) (by decide)), ?_⟩
        have e8 : Same H0 (upd H9 q.ch (.lst (xs ++ [.ref pa]))) := same_mut e8 sy.n2
        have grw : (upd H9 q.ch (.lst (xs ++ [.ref pa]))) q.rw = _ := (upd_ne sy.d1).trans grw
        have glk' : (upd H9 q.ch (.lst (xs ++ [.ref pa]))) q.lk = _ := (upd_ne d3.symm).trans glk'
        have tt : TR (upd H9 q.ch (.lst (xs ++ [.ref pa]))) p6 (na ++ nb) := tt.mut gch (fun _ e => nomatch e)
        have gch : (upd H9 q.ch (.lst (xs ++ [.ref pa]))) q.ch = some (.lst (xs ++ [.ref pa])) := upd_same
        have lch : (xs ++ [V.ref pa]).length ≤ n + i + 1 := by rw [List.length_append, List.length_singleton]; omega
        generalize upd H9 q.ch (.lst (xs ++ [.ref pa])) = H10 at e8 grw gch glk' tt
        refine ⟨_, rfl, _, rfl, y, C, q.dx, _, _, rfl, e8 _ _ sy.yy, T.cl, T.nR, rfl, _, rfl, q.rw, _, _, bg + i, rfl, rfl, grw, ixN_nat (by rw [List.length_map]; omega), ?_⟩
        have g1 : Same H0 (upd H10 q.rw (.lst (((laid row (na ++ nb) bg i).map V.int).set (bg + i) (.int yi)))) := same_mut e8 sy.n1
        refine ⟨_, _, rfl, ⟨g1, ?_, ⟨_, (upd_ne sy.d1.symm).trans gch, by omega⟩, ⟨_, (upd_ne d2.symm).trans glk', by omega⟩⟩, tt.mut grw (fun _ e => nomatch e)⟩
        rw [upd_same, ← laid_succ (y := yi) (by omega) hyi, List.map_set]
    · obtain ⟨v9, v10, rfl, nw, _⟩ := p
      have en2 : ((en : Int) - (bg : Int)).toNat = (na ++ nb).length := by rw [hnl]; omega
      rw [en2, laid_all row (na ++ nb) bg en (by omega), List.append_assoc] at nw
      obtain ⟨x1, x2, ⟨xs, x3, x4⟩, ⟨ks, x5, x6⟩⟩ := nw
      exact kk _ ⟨x1, x2, ⟨xs, x3, by omega⟩, ⟨ks, x5, by omega⟩⟩
end
end K66
namespace K66
open PySem L2
theorem bList : bootBuiltins "list" = some (.type "list") := by decide +kernel
/-- H without three places -/
def cut3 (H : Hp) (a b c : Addr) : Hp := fun x => if x = a ∨ x = b ∨ x = c then none else H x
theorem cut3_at {H : Hp} {a b c x : Addr} (h1 : x ≠ a) (h2 : x ≠ b) (h3 : x ≠ c) : cut3 H a b c x = H x := if_neg (fun z => z.elim h1 (fun z => z.elim h2 h3))
theorem cut3_a {H : Hp} {a b c : Addr} : cut3 H a b c a = none := if_pos (.inl rfl)
theorem cut3_b {H : Hp} {a b c : Addr} : cut3 H a b c b = none := if_pos (.inr (.inl rfl))
theorem cut3_c {H : Hp} {a b c : Addr} : cut3 H a b c c = none := if_pos (.inr (.inr rfl))
theorem cut3_same {H : Hp} {a b c : Addr} : Same (cut3 H a b c) H := fun x o h => by
  unfold cut3 at h
  split at h
  · cases h
  · exact h
theorem same_cut3 {H H' : Hp} {a b c : Addr} (e : Same H H') (h1 : H a = none) (h2 : H b = none) (h3 : H c = none) : Same H (cut3 H' a b c) := fun x o h => by
  rw [cut3_at (fun z => by rw [z, h1] at h; cases h) (fun z => by rw [z, h2] at h; cases h) (fun z => by rw [z, h3] at h; cases h)]
  exact e x o h
theorem free_ne {H : Hp} {a b : Addr} {o : HO} (h : H a = some o) (n : H b = none) : a ≠ b := fun z => by rw [z, n] at h; cases h
theorem stL_snoc (ws : List Row) (i : Nat) : ((List.range (i + 1)).map fun k => V.int ((st ws k : Nat) : Int)) = ((List.range i).map fun k => V.int ((st ws k : Nat) : Int)) ++ [.int (st ws i)] := by
  rw [List.range_succ, List.map_append]; rfl
theorem stL_V (ws : List Row) : (stL ws).map V.int = (List.range (ws.length + 1)).map fun k => V.int ((st ws k : Nat) : Int) := by
  unfold stL
  rw [List.map_map]; rfl
theorem take_flat {ws : List Row} {i : Nat} {r : Row} (h : ws[i]? = some r) : (ws.take (i + 1)).flatten = (ws.take i).flatten ++ r := by
  rw [List.take_add_one, h, List.flatten_append]
  simp
theorem take_flat_le (ws : List Row) (i : Nat) : ((ws.take i).flatten).length ≤ ws.flatten.length := by
  have := st_le ws (show i ≤ max i ws.length by omega)
  rw [st_all ws (show ws.length ≤ max i ws.length by omega)] at this
  exact this
section
variable {P : Program} {w : World} {K : PySem.W.Frag} {mg : Str → Option Value} {base : Heap}
/-! Sayer.__init__ -/
def spSyInit (P : Program) (w : World) (CB CJ C : Addr) : Sp := fun vs H Q _ => ∃ (y dx bk wa a : Addr) (S : Int) (A B : Nat) (kvs : List (NK × NK)) (ws : List Row) (t : Tr) (Hb : Hp),
  vs = [.ref y, .ref bk, .ref wa, .ref a] ∧ H y = some (.ins C dx []) ∧ Same Hb H ∧ Hb y = none ∧ Bk P w CB Hb bk S A B kvs ∧ TW Hb wa ws ∧ TR Hb a (t.sh 0) ∧ t.n = ws.length ∧ t.n ≤ 40 ∧ ws.flatten.length ≤ 10000 ∧
  ∀ H0 H' q, Same Hb H0 → Sy P w CB CJ C H0 y q S A B kvs ws t → SyNow H0 H' q ws.flatten 0 → Q .non H'
abbrev nSi : List Str := ["self", "book", "words", "shape", "word"]
theorem scSyInit : FnScope nSi ["self", "book", "words", "shape"] (C8.fnScope sSyInit) := ⟨rfl, rfl, rfl, by decide +kernel, rfl, by decide +kernel, by decide +kernel⟩

theorem okSyInit {f C CB CJ : Addr} {fd : FuncData} (F : C8.Fun K "__init__" "Sayer.__init__" sSyInit f fd) (b : Binds K fd ["self", "book", "words", "shape"] []) (M : Mk K C f) (hm : mg "Sayer" = some (.ref C)) (g : Gb mg) (TJ : TxJ K CJ) (T : TxY K C)
    (G1 : C8.Mak P w K mg base 1 "Joinings" CJ (spJnInit CJ) []) (G2 : C8.Cal P w K mg base 3 "inner_first" spInnerFirst []) : C8.Mak P w K mg base 4 "Sayer" C (spSyInit P w CB CJ C) [] := by
  refine C8.mak0 M hm F b .nil scSyInit (fun vs H Q E h => ?_) (fun cdv A outer s H vs Q E hr h => ?_)
  · obtain ⟨y, dx, bk, wa, a, S, A, B, kvs, ws, t, Hb, rfl, _⟩ := h; rfl
  · obtain ⟨y, dx, bk, wa, a, S, A', B, kvs, ws, t, Hb, rfl, hy, e0, ny, hbk, ⟨as, hwa, trs⟩, ta, htn, ht, hz, kk⟩ := h
    refine ⟨_, (pss_cons (ps_fld (pv 0) (pv 1) rfl) (pss_cons (ps_fld (pv 0) (pe_lst pa_nil) rfl) (pss_cons (ps_fld (pv 0) (pe_lst pa_nil) rfl) (pss_cons (ps_for PassesOwn.never rfl (pi_tup (pv 2)) (pg_name (i := 4) scSyInit.nd rfl (Or.inl rfl)) (pss_cons (ps_expr (pe_bm PySem.F.plainAttrs_list PySem.F.slot_list_append PySem.F.type_list_append mt_append (pe_fld (pv 0) rfl) (pa_cons (pe_callB call_len_seq rfl g.len PySem.boot_len (pa_cons (pe_fld (pv 0) rfl) pa_nil)) pa_nil))) (pss_one (ps_expr (pe_bm PySem.F.plainAttrs_list PySem.F.slot_list_extend PySem.F.type_list_extend mt_extend (pe_fld (pv 0) rfl) (pa_cons (pe_callTy call_list_of rfl g.list bList (pa_cons (pv 4) pa_nil)) pa_nil)))))) (pss_cons (ps_expr (pe_bm PySem.F.plainAttrs_list PySem.F.slot_list_append PySem.F.type_list_append mt_append (pe_fld (pv 0) rfl) (pa_cons (pe_callB call_len_seq rfl g.len PySem.boot_len (pa_cons (pe_fld (pv 0) rfl) pa_nil)) pa_nil))) (pss_cons (ps_fld (pv 0) (C8.pe_mk G1 hr (by decide) rfl (pa_cons (pv 3) pa_nil)) rfl) (pss_cons (ps_fld (pv 0) (C8.pe_c G2 hr (by decide) rfl (pa_cons (pv 3) pa_nil)) rfl) (pss_cons (ps_fld (pv 0) (pe_lst pa_nil) rfl) (pss_one (ps_fld (pv 0) pe_dnewK rfl)))))))))), ?_⟩
    refine ⟨_, rfl, _, rfl, y, C, dx, _, rfl, hy, T.cl, T.nB, (by decide), ?_⟩
    have m1 := same_mut (o := .ins C dx (putF "book" (.ref bk) [])) e0 ny
    have y1 : (upd H y (.ins C dx (putF "book" (.ref bk) []))) y = some (.ins C dx (putF "book" (.ref bk) [])) := upd_same
    show (_ : L2.St → Hp → Prop) _ (upd H y (.ins C dx (putF "book" (.ref bk) [])))
    generalize upd H y (.ins C dx (putF "book" (.ref bk) [])) = H1 at m1 y1
    refine ⟨by show 0 ≤ sizeLine; exact Nat.zero_le _, fun rw nrw => ?_⟩
    have e2 := same_new (o := .lst []) nrw
    have m2 := m1.trans e2
    have nrb : Hb rw = none := Same.free m1 nrw
    have wr : (upd H1 rw (.lst [])) rw = some (.lst (([] : Row).map V.int)) := upd_same
    have y2 := e2 _ _ y1
    generalize upd H1 rw (.lst []) = H2 at e2 m2 wr y2
    have ryn : rw ≠ y := fun z => by rw [z, y2] at wr; cases wr
    refine ⟨_, rfl, y, C, dx, _, rfl, y2, T.cl, T.nR, (by show 1 < 1000; decide), ?_⟩
    have m3 := same_mut (o := .ins C dx (putF "row" (.ref rw) (putF "book" (.ref bk) []))) m2 ny
    have wr : (upd H2 y (.ins C dx (putF "row" (.ref rw) (putF "book" (.ref bk) [])))) rw = _ := (upd_ne ryn).trans wr
    have y3 : (upd H2 y (.ins C dx (putF "row" (.ref rw) (putF "book" (.ref bk) [])))) y = some (.ins C dx (putF "row" (.ref rw) (putF "book" (.ref bk) []))) := upd_same
    show (_ : L2.St → Hp → Prop) _ (upd H2 y (.ins C dx (putF "row" (.ref rw) (putF "book" (.ref bk) []))))
    generalize upd H2 y (.ins C dx (putF "row" (.ref rw) (putF "book" (.ref bk) []))) = H3 at m3 wr y3
    clear m1 m2 y1 y2 e2 e0 hy nrw
    refine ⟨Nat.zero_le _, fun sw nsw => ?_⟩
    have e4 := same_new (o := .lst []) nsw
    have m4 := m3.trans e4
    have nsb : Hb sw = none := Same.free m3 nsw
    have rsn : rw ≠ sw := free_ne wr nsw
    have wr := e4 _ _ wr
    have y4 := e4 _ _ y3
    have wst : (upd H3 sw (.lst [])) sw = some (.lst ((List.range 0).map fun k => V.int ((st ws k : Nat) : Int))) := upd_same
    generalize upd H3 sw (.lst []) = H4 at m4 wr y4 wst e4
    have syn : sw ≠ y := fun z => by rw [z, y4] at wst; cases wst
    refine ⟨_, rfl, y, C, dx, _, rfl, y4, T.cl, T.nS, (by show 2 < 1000; decide), ?_⟩
    have m5 := same_mut (o := .ins C dx [("book", .ref bk), ("row", .ref rw), ("starts", .ref sw)]) m4 ny
    have wr : (upd H4 y (.ins C dx [("book", .ref bk), ("row", .ref rw), ("starts", .ref sw)])) rw = _ := (upd_ne ryn).trans wr
    have wst : (upd H4 y (.ins C dx [("book", .ref bk), ("row", .ref rw), ("starts", .ref sw)])) sw = _ := (upd_ne syn).trans wst
    have y5 : (upd H4 y (.ins C dx [("book", .ref bk), ("row", .ref rw), ("starts", .ref sw)])) y = some (.ins C dx [("book", .ref bk), ("row", .ref rw), ("starts", .ref sw)]) := upd_same
    show (_ : L2.St → Hp → Prop) _ (upd H4 y (.ins C dx [("book", .ref bk), ("row", .ref rw), ("starts", .ref sw)]))
    generalize upd H4 y (.ins C dx [("book", .ref bk), ("row", .ref rw), ("starts", .ref sw)]) = H5 at m5 wr wst y5
    clear m3 m4 y3 y4 e4 nsw
    have las := trs.len
    refine ⟨_, rfl, wa, rfl, ⟨_, SqT.of (m5 _ _ hwa)⟩, for_tup (K := K) (a := wa) (xs := as.map V.ref) (fun i σ H' => ∃ v : Option V, σ = [some (.ref y), some (.ref bk), some (.ref wa), some (.ref a), v] ∧ Same Hb H' ∧ H' y = some (.ins C dx [("book", .ref bk), ("row", .ref rw), ("starts", .ref sw)]) ∧
      H' rw = some (.lst (((ws.take i).flatten).map V.int)) ∧ H' sw = some (.lst ((List.range i).map fun k => V.int ((st ws k : Nat) : Int))))
      ⟨none, rfl, m5, y5, wr, wst⟩ (fun i σ H' _ p => ?_) (fun i x σ H' hx p => ?_) (fun σ H' p => ?_)⟩
    · obtain ⟨_, _, e, _⟩ := p
      exact SqT.of (e _ _ hwa)
    · obtain ⟨v, rfl, e, yy, zr, zs⟩ := p
      obtain ⟨wd, rfl, hwd⟩ := ref_at hx
      obtain ⟨r, hr', tr⟩ := trs.get hwd
      have hi := (List.getElem?_eq_some_iff.mp hr').1
      have lfl := take_flat_le ws i
      have lf2 := take_flat_le ws (i + 1)
      rw [take_flat hr', List.length_append] at lf2
      refine ⟨_, rfl, y, C, dx, _, _, rfl, yy, T.cl, T.nS, rfl, .inl ⟨rfl, _, SqL.of zs⟩, _, rfl, y, C, dx, _, _, rfl, yy, T.cl, T.nR, rfl, rw, _, rfl, .inl (SqL.of zr), sw, _, _, rfl, rfl, zs, by rw [List.length_map, List.length_range]; exact Nat.lt_trans (show i < 41 by omega) (by decide), ?_⟩
      have el : ((((ws.take i).flatten).map V.int).length : Int) = ((st ws i : Nat) : Int) := by rw [List.length_map]; rfl
      rw [el, ← stL_snoc]
      have e : Same Hb (upd H' sw (.lst ((List.range (i + 1)).map fun k => V.int ((st ws k : Nat) : Int)))) := same_mut e nsb
      have yy : (upd H' sw (.lst ((List.range (i + 1)).map fun k => V.int ((st ws k : Nat) : Int)))) y = _ := (upd_ne syn.symm).trans yy
      have zr : (upd H' sw (.lst ((List.range (i + 1)).map fun k => V.int ((st ws k : Nat) : Int)))) rw = _ := (upd_ne rsn).trans zr
      have zs : (upd H' sw (.lst ((List.range (i + 1)).map fun k => V.int ((st ws k : Nat) : Int)))) sw = some (.lst ((List.range (i + 1)).map fun k => V.int ((st ws k : Nat) : Int))) := upd_same
      generalize upd H' sw (.lst ((List.range (i + 1)).map fun k => V.int ((st ws k : Nat) : Int))) = H6 at e yy zr zs
      have tr6 := tr.mono e
      refine ⟨_, rfl, y, C, dx, _, _, rfl, yy, T.cl, T.nR, rfl, .inl ⟨rfl, _, SqL.of zr⟩, _, rfl, wd, _, rfl, .inr tr6.seq, fun pl npl => ?_⟩
      have s7 := same_new (o := .lst (r.map V.int)) npl
      refine ⟨rw, pl, _, _, rfl, rfl, s7 _ _ zr, upd_same, by rw [List.length_map, List.length_map]; exact Nat.le_trans (show _ ≤ 10000 by omega) (by decide), ?_⟩
      have hpr : pl ≠ rw := (free_ne zr npl).symm
      refine ⟨_, rfl, same_mut (e.trans s7) nrb, (upd_ne ryn.symm).trans (s7 _ _ yy), ?_, (upd_ne rsn.symm).trans (s7 _ _ zs)⟩
      rw [upd_same, take_flat hr', List.map_append]
    · obtain ⟨v, rfl, e, yy, zr, zs⟩ := p
      have hal : (as.map V.ref).length = ws.length := by rw [List.length_map]; exact las
      rw [hal] at zr zs
      rw [List.take_length] at zr
      refine ⟨_, rfl, y, C, dx, _, _, rfl, yy, T.cl, T.nS, rfl, .inl ⟨rfl, _, SqL.of zs⟩, _, rfl, y, C, dx, _, _, rfl, yy, T.cl, T.nR, rfl, rw, _, rfl, .inl (SqL.of zr), sw, _, _, rfl, rfl, zs, by rw [List.length_map, List.length_range]; exact Nat.lt_trans (show ws.length < 41 by omega) (by decide), ?_⟩
      have el : ((ws.flatten.map V.int).length : Int) = ((st ws ws.length : Nat) : Int) := by rw [List.length_map, st_all ws (Nat.le_refl _)]
      rw [el, ← stL_snoc, ← stL_V]
      have e : Same Hb (upd H' sw (.lst ((stL ws).map V.int))) := same_mut e nsb
      have yy : (upd H' sw (.lst ((stL ws).map V.int))) y = _ := (upd_ne syn.symm).trans yy
      have zr : (upd H' sw (.lst ((stL ws).map V.int))) rw = _ := (upd_ne rsn).trans zr
      have zs : (upd H' sw (.lst ((stL ws).map V.int))) sw = some (.lst ((stL ws).map V.int)) := upd_same
      generalize upd H' sw (.lst ((stL ws).map V.int)) = H6 at e yy zr zs
      clear wr wst y5 m5 el
      -- Joinings
      refine ⟨_, rfl, fun j dj nj ndj nej => ?_⟩
      have s7 : Same H6 (upd (upd H6 dj (.own j)) j (.ins CJ dj [])) := same_snew (same_new ndj) (by rw [upd_ne nej.symm]; exact nj)
      have hj7 : (upd (upd H6 dj (.own j)) j (.ins CJ dj [])) j = some (.ins CJ dj []) := upd_same
      refine ⟨j, dj, a, t, rfl, upd_same, (ta.mono e).mono s7, ht, fun H8 b8 jf => ?_⟩
      obtain ⟨dj', j1, j2, j3, hj8, h81, h82, n81, n82⟩ := jf
      have rj : rw ≠ j := free_ne zr nj
      have r1 : rw ≠ j1 := free_ne (s7 _ _ zr) n81
      have r2 : rw ≠ j2 := free_ne (s7 _ _ zr) n82
      have e8 : Same H6 H8 := fun x o q => b8 x o (fun z => by rw [z, nj] at q; cases q) (s7 x o q)
      have m8 := e.trans e8
      have y8 := e8 _ _ yy
      have zr8 := e8 _ _ zr
      have zs8 := e8 _ _ zs
      refine ⟨rfl, _, rfl, y, C, dx, _, rfl, y8, T.cl, T.nJ, (by show 3 < 1000; decide), ?_⟩
      have jyn : j ≠ y := fun z => by rw [z, yy] at nj; cases nj
      have j1y : j1 ≠ y := fun z => by rw [z, y8] at h81; cases h81
      have j2y : j2 ≠ y := fun z => by rw [z, y8] at h82; cases h82
      have m9 := same_mut (o := .ins C dx [("book", .ref bk), ("row", .ref rw), ("starts", .ref sw), ("joinings", .ref j)]) m8 ny
      have zr9 : (upd H8 y (.ins C dx [("book", .ref bk), ("row", .ref rw), ("starts", .ref sw), ("joinings", .ref j)])) rw = _ := (upd_ne ryn).trans zr8
      have zs9 : (upd H8 y (.ins C dx [("book", .ref bk), ("row", .ref rw), ("starts", .ref sw), ("joinings", .ref j)])) sw = _ := (upd_ne syn).trans zs8
      have hj9 : (upd H8 y (.ins C dx [("book", .ref bk), ("row", .ref rw), ("starts", .ref sw), ("joinings", .ref j)])) j = _ := (upd_ne jyn).trans hj8
      have h91 : (upd H8 y (.ins C dx [("book", .ref bk), ("row", .ref rw), ("starts", .ref sw), ("joinings", .ref j)])) j1 = _ := (upd_ne j1y).trans h81
      have h92 : (upd H8 y (.ins C dx [("book", .ref bk), ("row", .ref rw), ("starts", .ref sw), ("joinings", .ref j)])) j2 = _ := (upd_ne j2y).trans h82
      have y9 : (upd H8 y (.ins C dx [("book", .ref bk), ("row", .ref rw), ("starts", .ref sw), ("joinings", .ref j)])) y = some (.ins C dx [("book", .ref bk), ("row", .ref rw), ("starts", .ref sw), ("joinings", .ref j)]) := upd_same
      show (_ : L2.St → Hp → Prop) _ (upd H8 y (.ins C dx [("book", .ref bk), ("row", .ref rw), ("starts", .ref sw), ("joinings", .ref j)]))
      generalize upd H8 y (.ins C dx [("book", .ref bk), ("row", .ref rw), ("starts", .ref sw), ("joinings", .ref j)]) = H9 at m9 zr9 zs9 hj9 h91 h92 y9
      -- inner_first
      refine ⟨_, rfl, a, t, rfl, ta.mono m9, ht, fun H10 od e10 nod h10 => ?_⟩
      have m10 := m9.trans e10
      have zr10 := e10 _ _ zr9
      have zs10 := e10 _ _ zs9
      have hj10 := e10 _ _ hj9
      have h101 := e10 _ _ h91
      have h102 := e10 _ _ h92
      have y10 := e10 _ _ y9
      have odr : od ≠ rw := (free_ne zr9 nod).symm
      have ody : od ≠ y := (free_ne y9 nod).symm
      refine ⟨_, rfl, y, C, dx, _, rfl, y10, T.cl, T.nO, (by show 4 < 1000; decide), ?_⟩
      have m11 := same_mut (o := .ins C dx [("book", .ref bk), ("row", .ref rw), ("starts", .ref sw), ("joinings", .ref j), ("order", .ref od)]) m10 ny
      have mv : ∀ (x : Addr) (o : HO), x ≠ y → H10 x = some o → (upd H10 y (.ins C dx [("book", .ref bk), ("row", .ref rw), ("starts", .ref sw), ("joinings", .ref j), ("order", .ref od)])) x = some o := fun x o n q => (upd_ne n).trans q
      have zr11 := mv _ _ ryn zr10
      have zs11 := mv _ _ syn zs10
      have hj11 := mv _ _ jyn hj10
      have h111 := mv _ _ j1y h101
      have h112 := mv _ _ j2y h102
      have hod11 := mv _ _ ody h10
      have y11 : (upd H10 y (.ins C dx [("book", .ref bk), ("row", .ref rw), ("starts", .ref sw), ("joinings", .ref j), ("order", .ref od)])) y = some (.ins C dx [("book", .ref bk), ("row", .ref rw), ("starts", .ref sw), ("joinings", .ref j), ("order", .ref od)]) := upd_same
      show (_ : L2.St → Hp → Prop) _ (upd H10 y (.ins C dx [("book", .ref bk), ("row", .ref rw), ("starts", .ref sw), ("joinings", .ref j), ("order", .ref od)]))
      clear mv
      generalize upd H10 y (.ins C dx [("book", .ref bk), ("row", .ref rw), ("starts", .ref sw), ("joinings", .ref j), ("order", .ref od)]) = H11 at m11 zr11 zs11 hj11 h111 h112 hod11 y11
      -- changed
      refine ⟨Nat.zero_le _, fun ch nch => ?_⟩
      have e12 := same_new (o := .lst []) nch
      have nchb : Hb ch = none := Same.free m11 nch
      have c1 : rw ≠ ch := free_ne zr11 nch
      have c2 : sw ≠ ch := free_ne zs11 nch
      have c3 : j ≠ ch := free_ne hj11 nch
      have c4 : j1 ≠ ch := free_ne h111 nch
      have c5 : j2 ≠ ch := free_ne h112 nch
      have c6 : od ≠ ch := free_ne hod11 nch
      have c7 : y ≠ ch := free_ne y11 nch
      have m12 := m11.trans e12
      have zr12 := e12 _ _ zr11
      have zs12 := e12 _ _ zs11
      have hj12 := e12 _ _ hj11
      have h121 := e12 _ _ h111
      have h122 := e12 _ _ h112
      have hod12 := e12 _ _ hod11
      have y12 := e12 _ _ y11
      have hc12 : (upd H11 ch (.lst [])) ch = some (.lst []) := upd_same
      generalize upd H11 ch (.lst []) = H12 at m12 zr12 zs12 hj12 h121 h122 hod12 y12 hc12 e12
      refine ⟨_, rfl, y, C, dx, _, rfl, y12, T.cl, T.nC, (by show 5 < 1000; decide), ?_⟩
      have m13 := same_mut (o := .ins C dx [("book", .ref bk), ("row", .ref rw), ("starts", .ref sw), ("joinings", .ref j), ("order", .ref od), ("changed", .ref ch)]) m12 ny
      have mv : ∀ (x : Addr) (o : HO), x ≠ y → H12 x = some o → (upd H12 y (.ins C dx [("book", .ref bk), ("row", .ref rw), ("starts", .ref sw), ("joinings", .ref j), ("order", .ref od), ("changed", .ref ch)])) x = some o := fun x o n q => (upd_ne n).trans q
      have zr13 := mv _ _ ryn zr12
      have zs13 := mv _ _ syn zs12
      have hj13 := mv _ _ jyn hj12
      have h131 := mv _ _ j1y h121
      have h132 := mv _ _ j2y h122
      have hod13 := mv _ _ ody hod12
      have hc13 := mv _ _ c7.symm hc12
      have y13 : (upd H12 y (.ins C dx [("book", .ref bk), ("row", .ref rw), ("starts", .ref sw), ("joinings", .ref j), ("order", .ref od), ("changed", .ref ch)])) y = some (.ins C dx [("book", .ref bk), ("row", .ref rw), ("starts", .ref sw), ("joinings", .ref j), ("order", .ref od), ("changed", .ref ch)]) := upd_same
      show (_ : L2.St → Hp → Prop) _ (upd H12 y (.ins C dx [("book", .ref bk), ("row", .ref rw), ("starts", .ref sw), ("joinings", .ref j), ("order", .ref od), ("changed", .ref ch)]))
      clear mv
      generalize upd H12 y (.ins C dx [("book", .ref bk), ("row", .ref rw), ("starts", .ref sw), ("joinings", .ref j), ("order", .ref od), ("changed", .ref ch)]) = H13 at m13 zr13 zs13 hj13 h131 h132 hod13 y13 hc13
      clear m8 m9 m10 m11 m12 zr8 zr9 zr10 zr11 zr12 zs8 zs9 zs10 zs11 zs12 hj8 hj9 hj10 hj11 hj12 h81 h91 h101 h111 h121 h82 h92 h102 h112 h122 hod11 hod12 hc12 y8 y9 y10 y11 y12 e12 e10
      -- looked
      intro lk nlk
      have e14 := same_new (o := .dK []) nlk
      have nlb : Hb lk = none := Same.free m13 nlk
      have l1 : rw ≠ lk := free_ne zr13 nlk
      have l2 : sw ≠ lk := free_ne zs13 nlk
      have l3 : j ≠ lk := free_ne hj13 nlk
      have l4 : j1 ≠ lk := free_ne h131 nlk
      have l5 : j2 ≠ lk := free_ne h132 nlk
      have l6 : od ≠ lk := free_ne hod13 nlk
      have l7 : y ≠ lk := free_ne y13 nlk
      have l8 : ch ≠ lk := free_ne hc13 nlk
      have m14 := m13.trans e14
      have zr14 := e14 _ _ zr13
      have zs14 := e14 _ _ zs13
      have hj14 := e14 _ _ hj13
      have h141 := e14 _ _ h131
      have h142 := e14 _ _ h132
      have hod14 := e14 _ _ hod13
      have hc14 := e14 _ _ hc13
      have y14 := e14 _ _ y13
      have hl14 : (upd H13 lk (.dK [])) lk = some (.dK []) := upd_same
      generalize upd H13 lk (.dK []) = H14 at m14 zr14 zs14 hj14 h141 h142 hod14 y14 hc14 hl14 e14
      refine ⟨_, rfl, y, C, dx, _, rfl, y14, T.cl, T.nL, (by show 6 < 1000; decide), ?_⟩
      have m15 := same_mut (o := .ins C dx (syF ⟨dx, bk, rw, sw, j, od, ch, lk⟩)) m14 ny
      have mv : ∀ (x : Addr) (o : HO), x ≠ y → H14 x = some o → (upd H14 y (.ins C dx (syF ⟨dx, bk, rw, sw, j, od, ch, lk⟩))) x = some o := fun x o n q => (upd_ne n).trans q
      have zr15 := mv _ _ ryn zr14
      have zs15 := mv _ _ syn zs14
      have hj15 := mv _ _ jyn hj14
      have h151 := mv _ _ j1y h141
      have h152 := mv _ _ j2y h142
      have hod15 := mv _ _ ody hod14
      have hc15 := mv _ _ c7.symm hc14
      have hl15 := mv _ _ l7.symm hl14
      have y15 : (upd H14 y (.ins C dx (syF ⟨dx, bk, rw, sw, j, od, ch, lk⟩))) y = some (.ins C dx (syF ⟨dx, bk, rw, sw, j, od, ch, lk⟩)) := upd_same
      show Q .non (upd H14 y (.ins C dx (syF ⟨dx, bk, rw, sw, j, od, ch, lk⟩)))
      generalize upd H14 y (.ins C dx (syF ⟨dx, bk, rw, sw, j, od, ch, lk⟩)) = H15 at m15 zr15 zs15 hj15 h151 h152 hod15 y15 hc15 hl15
      have sH0 := same_cut3 m15 nrb nchb nlb
      refine kk (cut3 H15 rw ch lk) H15 ⟨dx, bk, rw, sw, j, od, ch, lk⟩ sH0 ⟨?_, hbk.same sH0, ⟨dj', j1, j2, j3, ?_, ?_, ?_⟩, ?_, ?_, cut3_a, cut3_b, cut3_c, c1⟩ ⟨cut3_same, zr15, ⟨[], hc15, Nat.zero_le _⟩, ⟨[], hl15, Nat.zero_le _⟩⟩
      · exact (cut3_at ryn.symm c7 l7).trans y15
      · exact (cut3_at rj.symm c3 l3).trans hj15
      · exact (cut3_at r1.symm c4 l4).trans h151
      · exact (cut3_at r2.symm c5 l5).trans h152
      · exact (cut3_at rsn.symm c2 l2).trans zs15
      · exact (cut3_at odr c6 l6).trans hod15
end
end K66
namespace K66
open PySem L2
theorem po_at : ∀ (t : Tr) (f : Nat), ∀ x ∈ t.po f, ∃ k : Nat, x = (k : Int) ∧ k + 1 < f + t.n
  | .lf, f, x, h => by cases h
  | .nd l r, f, x, h => by
    have p1 := l.pos; have p2 := r.pos
    have en : (Tr.nd l r).n = l.n + r.n := rfl
    have h : x ∈ l.po f ++ (r.po (f + l.n) ++ [((f + l.n - 1 : Nat) : Int)]) := h
    rcases List.mem_append.mp h with h | h
    · obtain ⟨k, e, h1⟩ := po_at l f x h
      exact ⟨k, e, by omega⟩
    · rcases List.mem_append.mp h with h | h
      · obtain ⟨k, e, h1⟩ := po_at r _ x h
        exact ⟨k, e, by omega⟩
      · rw [List.mem_singleton] at h
        exact ⟨_, h, by omega⟩
theorem po_len (t : Tr) (f : Nat) : (t.po f).length + 1 = t.n := by
  rw [t.po_ro, List.length_reverse]
  exact ro_len t f
theorem step_len {F : Row → Row → Row × Row} (hF : LenOk F) {A B : Nat} {ws : List Row} {t : Tr} {row : Row} {k : Nat} (hk : k + 1 < t.n) (ht : t.n = ws.length) (hr : row.length = ws.flatten.length) : (stepS F A B ws (t.fs 0) (t.ls 0) row (k : Int)).length = row.length := by
  have lf := t.fs_len 0
  have ll := t.ls_len 0
  have hx0 : (t.fs 0)[k]? = some ((t.fs 0)[k]'(by omega)) := List.getElem?_eq_getElem (by omega)
  have hy0 : (t.ls 0)[k]? = some ((t.ls 0)[k]'(by omega)) := List.getElem?_eq_getElem (by omega)
  obtain ⟨m1, ex, _, hm1⟩ := fs_at t 0 k _ hx0
  obtain ⟨m2, ey, hm2, hm2'⟩ := ls_at t 0 k _ hy0
  unfold stepS
  rw [Int.toNat_natCast, List.getD_eq_getElem?_getD, List.getD_eq_getElem?_getD, hx0, hy0, ex, ey]
  simp only [Option.getD_some, Int.toNat_natCast]
  refine joinAt_len hF row _ _ _ (st_le ws (by omega)) (st_le ws (by omega)) ?_
  rw [hr, ← st_all ws (Nat.le_refl ws.length)]
  exact st_le ws (by omega)
section
variable {P : Program} {w : World} {K : PySem.W.Frag} {mg : Str → Option Value} {base : Heap}
/-! Sayer.say -/
def spSySay (P : Program) (w : World) (CB CJ C : Addr) : Sp := fun vs H Q _ => ∃ (y : Addr) (q : SyP) (S : Int) (A B : Nat) (kvs : List (NK × NK)) (ws : List Row) (t : Tr) (H0 : Hp),
  vs = [.ref y] ∧ Sy P w CB CJ C H0 y q S A B kvs ws t ∧ SyNow H0 H q ws.flatten 0 ∧ LenKv kvs ∧ 1 ≤ A ∧ A ≤ 4 ∧ 1 ≤ B ∧ B ≤ 4 ∧ ws.flatten.length ≤ 10000 ∧ t.n = ws.length ∧ t.n ≤ 40 ∧
  ∀ H' m, SyNow H0 H' q (t.say (met (bF kvs) A B) ws 0) m → Q (.ref y) H'
theorem scSySay : FnScope ["self", "seam"] ["self"] (C8.fnScope sSySay) := ⟨rfl, rfl, rfl, by decide +kernel, rfl, by decide +kernel, by decide +kernel⟩

theorem okSySay {f C CB CJ : Addr} {fd : FuncData} (F : C8.Fun K "say" "Sayer.say" sSySay f fd) (b : Binds K fd ["self"] []) (me : Meth K C "say" f) (T : TxY K C)
    (G1 : C8.Met P w K mg base 2 C "join" (spSyJoin P w CB CJ C) []) : C8.Met P w K mg base 3 C "say" (spSySay P w CB CJ C) [] := by
  refine C8.met0 T.cl me F b scSySay (fun vs H Q E h => ?_) (fun cdv A outer s H vs Q E hr h => ?_)
  · obtain ⟨y, q, S, A, B, kvs, ws, t, H0, rfl, _⟩ := h; rfl
  · obtain ⟨y, q, S, A', B, kvs, ws, t, H0, rfl, sy, now, hl, a1, a2, b1, b2, hz, htn, ht, kk⟩ := h
    refine ⟨_, (pss_cons (ps_for PassesOwn.never rfl (pi_list (pe_fld (pv 0) rfl)) (pg_name (i := 1) scSySay.nd rfl (Or.inl rfl)) (pss_one (ps_expr (C8.pe_mt G1 hr (by decide) (pv 0) (pa_cons (pv 1) pa_nil))))) (pss_one (ps_ret (pv 0)))), ?_⟩
    have lpo := po_len t 0
    refine ⟨_, rfl, y, C, q.dx, _, _, rfl, now.e _ _ sy.yy, T.cl, T.nO, rfl, q.od, rfl, ⟨_, SqL.of (now.e _ _ sy.od)⟩, for_list (K := K) (a := q.od) (xs := (t.po 0).map V.int) (fun i σ H' => ∃ v : Option V, σ = [some (.ref y), v] ∧ SyNow H0 H' q (((t.po 0).take i).foldl (stepS (bF kvs) A' B ws (t.fs 0) (t.ls 0)) ws.flatten) (8 * i) ∧ (((t.po 0).take i).foldl (stepS (bF kvs) A' B ws (t.fs 0) (t.ls 0)) ws.flatten).length = ws.flatten.length)
      ⟨none, rfl, by rw [List.take_zero]; exact now, by rw [List.take_zero]; rfl⟩ (fun i σ H' _ p => ?_) (fun i x σ H' hx p => ?_) (fun σ H' p => ?_)⟩
    · obtain ⟨_, _, n, _⟩ := p
      exact SqL.of (n.e _ _ sy.od)
    · obtain ⟨v, rfl, n, hlen⟩ := p
      obtain ⟨x, rfl, hx'⟩ := ri_map hx
      obtain ⟨k, rfl, hk⟩ := po_at t 0 x (List.mem_of_getElem? hx')
      have hi := (List.getElem?_eq_some_iff.mp hx').1
      refine ⟨_, rfl, y, q.dx, _, rfl, n.e _ _ sy.yy, rfl, _, rfl, y, q, k, S, A', B, kvs, ws, t, H0, _, 8 * i, rfl, sy, n, hl, a1, a2, b1, b2, hlen, by omega, by omega, htn, by omega, by omega, fun H2 n2 => ?_⟩
      have ef : ((t.po 0).take (i + 1)).foldl (stepS (bF kvs) A' B ws (t.fs 0) (t.ls 0)) ws.flatten = stepS (bF kvs) A' B ws (t.fs 0) (t.ls 0) (((t.po 0).take i).foldl (stepS (bF kvs) A' B ws (t.fs 0) (t.ls 0)) ws.flatten) (k : Int) := by
        rw [List.take_add_one, hx', List.foldl_append]; rfl
      refine ⟨_, rfl, ?_, ?_⟩
      · rw [ef]; exact n2
      · rw [ef, step_len hl.ok (by omega) htn hlen, hlen]
    · obtain ⟨v, rfl, n, hlen⟩ := p
      rw [List.length_map, List.take_length, fold_all hl.ok ws t htn] at n
      exact ⟨_, rfl, kk _ _ n⟩
/-! said_row -/
def spSaidRow (P : Program) (w : World) (C : Addr) : Sp := fun vs H Q _ => ∃ (bk wa a : Addr) (S : Int) (A B : Nat) (kvs : List (NK × NK)) (ws : List Row) (t : Tr),
  vs = [.ref bk, .ref wa, .ref a] ∧ Bk P w C H bk S A B kvs ∧ TW H wa ws ∧ TR H a (t.sh 0) ∧ LenKv kvs ∧ 1 ≤ A ∧ A ≤ 4 ∧ 1 ≤ B ∧ B ≤ 4 ∧ ws.flatten.length ≤ 10000 ∧ t.n = ws.length ∧ t.n ≤ 40 ∧
  ∀ H' p, Same H H' → TR H' p (t.say (met (bF kvs) A B) ws 0) → Q (.ref p) H'
theorem scSaidRow : FnScope ["book", "words", "shape"] ["book", "words", "shape"] (C8.fnScope sSaidRow) := ⟨rfl, rfl, rfl, by decide +kernel, rfl, by decide +kernel, by decide +kernel⟩
theorem okSaidRow {f C CB CJ : Addr} {fd : FuncData} (F : C8.Def K mg "said_row" sSaidRow f fd) (b : Binds K fd ["book", "words", "shape"] []) (g : Gb mg) (T : TxY K C)
    (G1 : C8.Mak P w K mg base 4 "Sayer" C (spSyInit P w CB CJ C) []) (G2 : C8.Met P w K mg base 3 C "say" (spSySay P w CB CJ C) []) : C8.Cal P w K mg base 6 "said_row" (spSaidRow P w CB) [] := by
  refine C8.cal0 F b .nil scSaidRow (fun vs H Q E h => ?_) (fun cdv A outer s H vs Q E hr h => ?_)
  · obtain ⟨bk, wa, a, S, A, B, kvs, ws, t, rfl, _⟩ := h; rfl
  · obtain ⟨bk, wa, a, S, A', B, kvs, ws, t, rfl, hbk, hw, ta, hl, a1, a2, b1, b2, hz, htn, ht, kk⟩ := h
    refine ⟨_, (pss_one (ps_ret (pe_callTy call_tuple_of rfl g.tuple bTuple (pa_cons (pe_fld (C8.pe_mt0 G2 hr (by decide) (C8.pe_mk G1 hr (by decide) rfl (pa_cons (pv 0) (pa_cons (pv 1) (pa_cons (pv 2) pa_nil))))) rfl) pa_nil)))), ?_⟩
    refine ⟨_, rfl, _, rfl, _, rfl, fun y dx ny ndx ney => ?_⟩
    have s7 : Same H (upd (upd H dx (.own y)) y (.ins C dx [])) := same_snew (same_new ndx) (by rw [upd_ne ney.symm]; exact ny)
    refine ⟨y, dx, bk, wa, a, S, A', B, kvs, ws, t, H, rfl, upd_same, s7, ny, hbk, hw, ta, htn, ht, hz, fun H0 H1 q e0 sy now => ?_⟩
    refine ⟨rfl, y, q.dx, _, rfl, now.e _ _ sy.yy, rfl, y, q, S, A', B, kvs, ws, t, H0, rfl, sy, now, hl, a1, a2, b1, b2, hz, htn, ht, fun H2 m now2 => ?_⟩
    refine ⟨y, C, q.dx, _, _, rfl, now2.e _ _ sy.yy, T.cl, T.nR, rfl, q.rw, _, rfl, .inl ⟨SqL.of now2.rw, fun p np => ?_⟩⟩
    exact kk _ p ((e0.trans now2.e).trans (same_new np)) upd_same
/-! said -/
def spSaid (P : Program) (w : World) (C : Addr) : Sp := fun vs H Q _ => ∃ (bk wa a : Addr) (S : Int) (A B : Nat) (kvs : List (NK × NK)) (ws : List Row) (t : Tr),
  vs = [.ref bk, .ref wa, .ref a] ∧ Bk P w C H bk S A B kvs ∧ TW H wa ws ∧ TR H a (t.sh 0) ∧ LenKv kvs ∧ 1 ≤ A ∧ A ≤ 4 ∧ 1 ≤ B ∧ B ≤ 4 ∧ (∀ r ∈ ws, Val S r ∧ 1 ≤ r.length ∧ r.length ≤ 200) ∧ t.n = ws.length ∧ t.n ≤ 40 ∧
  ∀ H' p, Same H H' → TR H' p (t.say (met (bF kvs) A B) ws 0) → Q (.ref p) H'
theorem flat_le : ∀ (ws : List Row) (m : Nat), (∀ r ∈ ws, r.length ≤ m) → ws.flatten.length ≤ m * ws.length
  | [], m, _ => by simp
  | r :: ws, m, h => by
    have h1 := flat_le ws m (fun r hr => h r (List.mem_cons_of_mem _ hr))
    have h2 := h r (List.mem_cons_self ..)
    rw [List.flatten_cons, List.length_append, List.length_cons, Nat.mul_add]
    omega
theorem scSaid : FnScope ["book", "words", "shape"] ["book", "words", "shape"] (C8.fnScope sSaid) := ⟨rfl, rfl, rfl, by decide +kernel, rfl, by decide +kernel, by decide +kernel⟩
theorem okSaid {f CB : Addr} {fd : FuncData} (F : C8.Def K mg "said" sSaid f fd) (b : Binds K fd ["book", "words", "shape"] [])
    (G1 : C8.Cal P w K mg base 7 "check_phrase" (spCheckPhrase P w CB) []) (G2 : C8.Cal P w K mg base 6 "said_row" (spSaidRow P w CB) []) : C8.Cal P w K mg base 8 "said" (spSaid P w CB) [] := by
  refine C8.cal0 F b .nil scSaid (fun vs H Q E h => ?_) (fun cdv A outer s H vs Q E hr h => ?_)
  · obtain ⟨bk, wa, a, S, A, B, kvs, ws, t, rfl, _⟩ := h; rfl
  · obtain ⟨bk, wa, a, S, A', B, kvs, ws, t, rfl, hbk, hw, ta, hl, a1, a2, b1, b2, hws, htn, ht, kk⟩ := h
    refine ⟨_, (pss_cons (ps_expr (C8.pe_c G1 hr (by decide) rfl (pa_cons (pv 0) (pa_cons (pv 1) (pa_cons (pv 2) pa_nil))))) (pss_one (ps_ret (C8.pe_c G2 hr (by decide) rfl (pa_cons (pv 0) (pa_cons (pv 1) (pa_cons (pv 2) pa_nil))))))), ?_⟩
    refine ⟨_, rfl, _, rfl, _, rfl, bk, wa, a, S, _, _, kvs, ws, t, rfl, hbk, hw, hws, htn.symm, ht, ta, fun H1 e1 => ?_⟩
    have hf := flat_le ws 200 (fun r hr => (hws r hr).2.2)
    exact ⟨_, rfl, _, rfl, _, rfl, bk, wa, a, S, A', B, kvs, ws, t, rfl, hbk.same e1, hw.same e1, ta.mono e1, hl, a1, a2, b1, b2, by omega, htn, ht, fun H2 p e2 tp => kk H2 p (e1.trans e2) tp⟩
end
end K66
namespace K66
open PySem L2
def cut1 (H : Hp) (d : Addr) : Hp := fun x => if x = d then none else H x
theorem cut1_at {H : Hp} {d x : Addr} (h : x ≠ d) : cut1 H d x = H x := if_neg h
theorem cut1_d {H : Hp} {d : Addr} : cut1 H d d = none := if_pos rfl
theorem cut1_same {H : Hp} {d : Addr} : Same (cut1 H d) H := fun x o h => by
  unfold cut1 at h
  split at h
  · cases h
  · exact h
theorem same_cut1 {H H' : Hp} {d : Addr} (e : Same H H') (h1 : H d = none) : Same H (cut1 H' d) := fun x o h => by
  rw [cut1_at (fun z => by rw [z, h1] at h; cases h)]
  exact e x o h
theorem same_but {Hb H H' : Hp} {d : Addr} (e : Same Hb H) (n : Hb d = none) (b : But d H H') : Same Hb H' := fun x o h => b x o (fun z => by rw [z, n] at h; cases h) (e x o h)
/-- the dice stand at d -/
def Dice (H : Hp) (d c : Addr) : Prop := ∃ (cells : Row) (i b s n : Int), H d = some (.lst [.ref c, .int i, .int b, .int s, .int n]) ∧ H c = some (.lst (cells.map V.int)) ∧ c ≠ d ∧ (∀ x ∈ cells, 0 ≤ x) ∧ 0 ≤ i ∧ i ≤ (cells.length : Int) ∧ 0 ≤ b ∧ 0 ≤ s ∧ s < 2147483648
theorem Dice.same {H H' : Hp} {d c : Addr} (h : Dice H d c) (e : Same H H') : Dice H' d c := by
  obtain ⟨cells, i, b, s, n, h1, h2, h3⟩ := h
  exact ⟨cells, i, b, s, n, e _ _ h1, e _ _ h2, h3⟩
theorem Dice.mut {H : Hp} {d c p : Addr} {o : HO} (h : Dice H d c) (h1 : p ≠ d) (h2 : p ≠ c) : Dice (upd H p o) d c := by
  obtain ⟨cells, i, b, s, n, e1, e2, h3⟩ := h
  exact ⟨cells, i, b, s, n, (upd_ne h1.symm).trans e1, (upd_ne h2.symm).trans e2, h3⟩
theorem Dice.freec {H : Hp} {d c a : Addr} (h : Dice H d c) (q : H a = none) : a ≠ c := fun z => by
  obtain ⟨cells, i, b, s, m, _, h1, _⟩ := h
  rw [z, h1] at q; cases q
theorem Dice.ne {H : Hp} {d c a : Addr} {o : HO} (h : Dice H d c) (q : H a = some o) (n : ∀ xs, o ≠ .lst xs) : a ≠ d := fun z => by
  obtain ⟨cells, i, b, s, m, h1, _⟩ := h
  rw [z, h1] at q
  exact n _ (Option.some.inj q).symm
theorem Dice.free {H : Hp} {d c a : Addr} (h : Dice H d c) (q : H a = none) : a ≠ d := fun z => by
  obtain ⟨cells, i, b, s, m, h1, _⟩ := h
  rw [z, h1] at q; cases q
theorem TR.cut {H : Hp} {d c a : Addr} {r : Row} (h : TR H a r) (di : Dice H d c) : TR (cut1 H d) a r := (cut1_at (di.ne h (fun _ e => nomatch e))).trans h
theorem tup_but {H H' : Hp} {d c a : Addr} {xs : List V} (di : Dice H d c) (b : But d H H') (h : H a = some (.tup xs)) : H' a = some (.tup xs) := b a _ (di.ne h (fun _ e => nomatch e)) h
theorem TR.but {H H' : Hp} {d c a : Addr} {r : Row} (h : TR H a r) (di : Dice H d c) (b : But d H H') : TR H' a r := tup_but di b h
theorem but_free {d a : Addr} {H H' : Hp} (b : But d H H') (n : H' a = none) (h : a ≠ d) : H a = none := by
  cases e : H a with
  | none => rfl
  | some o => rw [b a o h e] at n; cases n
theorem But.refl {d : Addr} {H : Hp} : But d H H := fun _ _ _ h => h
theorem fmod_pos {i j : Int} (h : 0 < j) : 0 ≤ i % j ∧ i % j < j := ⟨Int.emod_nonneg _ (by omega), Int.emod_lt_of_pos _ h⟩
theorem mod_go {i j : Int} {H : Hp} {Q : VK} (hj : 0 < j) (h : ∀ v, 0 ≤ v → v < j → Q (.int v) H) : rI (fun _ j => 0 < j) (fun i j => .int (i % j)) (.int i) (.int j) H Q := ⟨i, j, rfl, rfl, hj, h _ (fmod_pos hj).1 (fmod_pos hj).2⟩
theorem mod_c {i j : Int} {σ : L2.St} {H : Hp} {Q : VK} (hj : 0 < j) (h : ∀ v, 0 ≤ v → v < j → Q (.int v) H) : tC (.int j) σ H fun y H2 => rI (fun _ j => 0 < j) (fun i j => .int (i % j)) (.int i) y H2 Q := mod_go hj h
section
variable {P : Program} {w : World} {K : PySem.W.Frag} {mg : Str → Option Value} {base : Heap}
/-! _law_dice -/
def spDice (K : PySem.W.Frag) : Sp := fun vs H Q _ => ∃ (a : Addr) (ns : Row), vs = [.ref a] ∧ SqL K H a (ns.map V.int) ∧ ns.length ≤ 63 ∧ ∀ H' d c, Same H H' → H d = none → Dice H' d c → Q (.ref d) H'
abbrev nDi : List Str := ["_law_script", "_law_cell"]
theorem scDice : FnScope nDi ["_law_script"] (C8.fnScope sDice) := ⟨rfl, rfl, rfl, by decide +kernel, rfl, by decide +kernel, by decide +kernel⟩

theorem okDice {f : Addr} {fd : FuncData} (F : C8.Def K mg "_law_dice" sDice f fd) (b : Binds K fd ["_law_script"] []) (g : Gb mg) : C8.Cal P w K mg base 1 "_law_dice" (spDice K) [] := by
  refine C8.cal0 F b .nil scDice (fun vs H Q E h => ?_) (fun cdv A outer s H vs Q E hr h => ?_)
  · obtain ⟨a, ns, rfl, _⟩ := h; rfl
  · obtain ⟨a, ns, rfl, hs, hn, k⟩ := h
    refine ⟨_, (pss_one (ps_ret (pe_lst (pa_cons (pe_lc (own := [("_law_cell", 1)]) (g := gName 1) (tt := tYes) rfl scDice.nd (pi_list (pe_slice sl_list (pv 0) po_none (po_some pe_int))) (blkOk_by (N := nDi) (sc := C8.fnScope sDice) (by decide +kernel)) (fun _ _ _ _ _ => pg_name (i := 1) scDice.nd rfl (Or.inl rfl)) (fun _ _ _ _ _ => pts_nil) (fun _ _ _ _ _ => (pe_callB call_abs rfl g.abs PyProof.Rows.boot_abs (pa_cons (pe_callTy call_int1 rfl g.int bInt (pa_cons (pv 1) pa_nil)) pa_nil)))) (pa_cons pe_int (pa_cons pe_int (pa_cons pe_int (pa_cons pe_int pa_nil)))))))), ?_⟩
    refine ⟨_, rfl, _, rfl, a, _, rfl, hs, fun p np => ?_⟩
    rw [show ((63 : Int)) = ((63 : Nat) : Int) from rfl, cut_to ns 63, List.take_of_length_le hn]
    have e1 := same_new (o := .lst (ns.map V.int)) np
    refine ⟨p, rfl, ⟨_, SqL.of upd_same⟩, fun D hD => ?_⟩
    refine lc_list (K := K) (a := p) (xs := ns.map V.int) (fun i H2 => Same (upd H p (.lst (ns.map V.int))) H2 ∧ ∃ cells : Row, H2 D = some (.lst (cells.map V.int)) ∧ cells.length = i ∧ ∀ x ∈ cells, 0 ≤ x)
      ⟨same_new hD, [], upd_same, rfl, by simp⟩ (fun i H2 _ q => SqL.of (q.1 _ _ upd_same)) (fun i x H2 hx q => ?_) (fun H2 q => ?_)
    · obtain ⟨q1, cells, q2, q3, q4⟩ := q
      obtain ⟨x, rfl, hx'⟩ := ri_map hx
      have hi := (List.getElem?_eq_some_iff.mp hx').1
      refine ⟨rfl, lc_yes ⟨_, rfl, .inl ⟨x, rfl, _, rfl, _, q2, by rw [List.length_map]; exact Nat.lt_trans (show cells.length < 64 by omega) (by decide), same_mut q1 hD, cells ++ [if x < 0 then -x else x], ?_, by simp [q3], ?_⟩⟩⟩
      · rw [upd_same, List.map_append]; rfl
      · intro y hy
        rcases List.mem_append.mp hy with z | z
        · exact q4 y z
        · rw [List.mem_singleton] at z
          rw [z]; split <;> omega
    · obtain ⟨q1, cells, q2, q3, q4⟩ := q
      refine ⟨by show 5 ≤ sizeLine; decide, fun d nd => ?_⟩
      have e4 := same_new (o := .lst [.ref D, .int 0, .int 0, .int 1, .int 0]) nd
      refine k _ d D ((e1.trans q1).trans e4) (Same.free (e1.trans q1) nd) ⟨cells, 0, 0, 1, 0, upd_same, e4 _ _ q2, free_ne q2 nd, q4, Int.le_refl _, by omega, Int.le_refl _, by decide, by decide⟩
/-! _law_draw -/
def spDraw : Sp := fun vs H Q _ => ∃ (d c : Addr) (m : Int), vs = [.ref d, .int m] ∧ Dice H d c ∧ 1 ≤ m ∧ m < 1073741824 ∧ ∀ H' v, But d H H' → Dice H' d c → 0 ≤ v → v < m → Q (.int v) H'
abbrev nDw : List Str := ["_law_dice_here", "_law_sides", "_law_cell", "_law_digit", "_law_mixed"]
theorem scDraw : FnScope nDw ["_law_dice_here", "_law_sides"] (C8.fnScope sDraw) := ⟨rfl, rfl, rfl, by decide +kernel, rfl, by decide +kernel, by decide +kernel⟩

theorem okDraw {f : Addr} {fd : FuncData} (F : C8.Def K mg "_law_draw" sDraw f fd) (b : Binds K fd ["_law_dice_here", "_law_sides"] []) (g : Gb mg) : C8.Cal P w K mg base 1 "_law_draw" spDraw [] := by
  refine C8.cal0 F b .nil scDraw (fun vs H Q E h => ?_) (fun cdv A outer s H vs Q E hr h => ?_)
  · obtain ⟨d, c, m, rfl, _⟩ := h; rfl
  · obtain ⟨d, c, m, rfl, ⟨cells, i, bb, ss, n, hd, hc, hcd, hcells, i0, i1, b0, s0, s1⟩, m0, m1, k⟩ := h
    refine ⟨_, (pss_cons (ps_if (PW.pt (pw_and (pt_cmpR op_eq (pe_ix ix_list (pv 0) pe_int (fun _ _ => rfl)) pe_int (nomark _)) (pw_and1 (pt_cmpR op_lt (pe_ix ix_list (pv 0) pe_int (fun _ _ => rfl)) (pe_callB call_len_seq rfl g.len PySem.boot_len (pa_cons (pe_ix ix_list (pv 0) pe_int (fun _ _ => rfl)) pa_nil)) (nomark _))))) (pss_cons (ps_set (i := 2) scDraw.nd rfl (Or.inl rfl) (pe_ix ix_list (pe_ix ix_list (pv 0) pe_int (fun _ _ => rfl)) (pe_ix ix_list (pv 0) pe_int (fun _ _ => rfl)) (fun _ _ => rfl))) (pss_cons (ps_asg (pe_op op_add (pe_ix ix_list (pv 0) pe_int (fun _ _ => rfl)) pe_int) (pg_sub (pv 0) pe_int set_list)) (pss_one (ps_if (pt_cmpR op_ge (pv 2) (pe_op op_pow pe_int pe_int) (nomark _)) (pss_one (ps_asg (pv 2) (pg_sub (pv 0) pe_int set_list))) (pss_one (ps_asg (pe_op op_mod (pe_callTy call_int1 rfl g.int bInt (pa_cons (pe_op op_add (pe_op op_add (pe_op op_mul (pe_ix ix_list (pv 0) pe_int (fun _ _ => rfl)) pe_int) (pe_op op_mul (pv 2) pe_int)) (pe_ix ix_list (pv 0) pe_int (fun _ _ => rfl))) pa_nil)) pe_int) (pg_sub (pv 0) pe_int set_list))))))) pss_nil) (pss_cons (ps_if (pt_cmpR op_gt (pe_ix ix_list (pv 0) pe_int (fun _ _ => rfl)) pe_int (nomark _)) (pss_cons (ps_set (i := 3) scDraw.nd rfl (Or.inl rfl) (pe_op op_mod (pe_callTy call_int1 rfl g.int bInt (pa_cons (pe_ix ix_list (pv 0) pe_int (fun _ _ => rfl)) pa_nil)) (pv 1))) (pss_cons (ps_asg (pe_op op_fdivN (pe_callTy call_int1 rfl g.int bInt (pa_cons (pe_ix ix_list (pv 0) pe_int (fun _ _ => rfl)) pa_nil)) (pv 1)) (pg_sub (pv 0) pe_int set_list)) (pss_one (ps_ret (pv 3))))) pss_nil) (pss_cons (ps_asg (pe_op op_add (pe_ix ix_list (pv 0) pe_int (fun _ _ => rfl)) pe_int) (pg_sub (pv 0) pe_int set_list)) (pss_cons (ps_asg (pe_op op_mod (pe_callTy call_int1 rfl g.int bInt (pa_cons (pe_op op_add (pe_op op_add (pe_op op_mul (pe_ix ix_list (pv 0) pe_int (fun _ _ => rfl)) pe_int) (pe_op op_mul (pe_ix ix_list (pv 0) pe_int (fun _ _ => rfl)) pe_int)) pe_int) pa_nil)) pe_int) (pg_sub (pv 0) pe_int set_list)) (pss_cons (ps_set (i := 4) scDraw.nd rfl (Or.inl rfl) (pe_op op_mod (pe_callTy call_int1 rfl g.int bInt (pa_cons (pe_op op_mul (pe_ix ix_list (pv 0) pe_int (fun _ _ => rfl)) (pe_op op_add (pe_op op_fdivN (pe_ix ix_list (pv 0) pe_int (fun _ _ => rfl)) pe_int) pe_int)) pa_nil)) pe_int)) (pss_cons (ps_set (i := 4) scDraw.nd rfl (Or.inl rfl) (pe_op op_mod (pe_callTy call_int1 rfl g.int bInt (pa_cons (pe_op op_mul (pv 4) (pe_op op_add (pe_op op_fdivN (pv 4) pe_int) pe_int)) pa_nil)) pe_int)) (pss_one (ps_ret (pe_op op_mod (pe_callTy call_int1 rfl g.int bInt (pa_cons (pe_op op_fdivN (pv 4) pe_int) pa_nil)) (pv 1)))))))))), ?_⟩
    have bt : But d H H := But.refl
    have step : ∀ (c1 : Bool), c1 = (decide (V.int bb = V.int 0)) → True := fun _ _ => trivial
    refine ⟨_, rfl, d, _, _, _, rfl, rfl, SqL.of hd, rfl, rfl, decide (V.int bb = V.int 0), rfl, ?_⟩
    by_cases hb0 : V.int bb = V.int 0
    · rw [decide_eq_true hb0]
      refine iteT ⟨_, rfl, d, _, _, _, rfl, rfl, SqL.of hd, rfl, _, rfl, d, _, _, _, rfl, rfl, SqL.of hd, rfl, c, _, rfl, .inl (SqL.of hc), _, _, rfl, rfl, _, rfl, ?_⟩
      by_cases hlt : i < ((cells.map V.int).length : Int)
      · rw [decide_eq_true hlt]
        have hlt' : i < (cells.length : Int) := by rw [List.length_map] at hlt; exact hlt
        obtain ⟨ii, rfl⟩ : ∃ ii : Nat, i = (ii : Int) := ⟨i.toNat, by omega⟩
        have hcell : cells[ii]? = some (cells[ii]'(by omega)) := List.getElem?_eq_getElem (by omega)
        have hcp : 0 ≤ cells[ii]'(by omega) := hcells _ (List.getElem_mem _)
        generalize cells[ii]'(by omega) = cell at hcell hcp
        refine iteT ⟨_, rfl, d, _, _, _, rfl, rfl, SqL.of hd, rfl, _, rfl, d, _, _, _, rfl, rfl, SqL.of hd, rfl, c, _, _, .int cell, rfl, rfl, SqL.of hc, at_of (j := ii) rfl (by rw [List.getElem?_map, hcell]; rfl), ?_⟩
        -- the place
        refine ⟨_, rfl, d, _, _, _, rfl, rfl, SqL.of hd, rfl, _, _, rfl, rfl, _, rfl, d, _, _, 1, rfl, rfl, hd, rfl, ?_⟩
        have bt := bt.upd (o := .lst [.ref c, .int ((ii : Int) + 1), .int bb, .int ss, .int n])
        have hc := (upd_ne (H := H) (o := .lst [.ref c, .int ((ii : Int) + 1), .int bb, .int ss, .int n]) hcd).trans hc
        have hd : upd H d (.lst [.ref c, .int ((ii : Int) + 1), .int bb, .int ss, .int n]) d = some (.lst [.ref c, .int ((ii : Int) + 1), .int bb, .int ss, .int n]) := upd_same
        show (_ : Hp → Prop) (upd H d (.lst [.ref c, .int ((ii : Int) + 1), .int bb, .int ss, .int n]))
        generalize upd H d (.lst [.ref c, .int ((ii : Int) + 1), .int bb, .int ss, .int n]) = G1 at bt hc hd
        have i0 : 0 ≤ (ii : Int) + 1 := by omega
        have i1 : (ii : Int) + 1 ≤ (cells.length : Int) := by omega
        clear hlt hlt' hcell
        generalize (ii : Int) + 1 = i2 at *
        refine ⟨_, rfl, _, _, rfl, rfl, ⟨by decide, by decide, by decide⟩, _, _, rfl, rfl, _, rfl, ?_⟩
        by_cases hbig : (10 : Int) ^ (18 : Int).toNat ≤ cell
        · rw [decide_eq_true hbig]
          refine iteT ⟨_, rfl, _, rfl, d, _, _, 2, rfl, rfl, hd, rfl, ?_⟩
          have bt := bt.upd (o := .lst [.ref c, .int i2, .int cell, .int ss, .int n])
          have hc := (upd_ne (H := G1) (o := .lst [.ref c, .int i2, .int cell, .int ss, .int n]) hcd).trans hc
          have hd : upd G1 d (.lst [.ref c, .int i2, .int cell, .int ss, .int n]) d = some (.lst [.ref c, .int i2, .int cell, .int ss, .int n]) := upd_same
          show (_ : Hp → Prop) (upd G1 d (.lst [.ref c, .int i2, .int cell, .int ss, .int n]))
          generalize upd G1 d (.lst [.ref c, .int i2, .int cell, .int ss, .int n]) = G2 at bt hc hd
          replace b0 := hcp
          -- the rest, from what stands in the dice now
          refine ⟨_, rfl, d, _, _, _, rfl, rfl, SqL.of hd, rfl, _, _, rfl, rfl, _, rfl, ?_⟩
          by_cases hb : (0 : Int) < cell
          · rw [decide_eq_true hb]
            refine iteT ⟨_, rfl, d, _, _, _, rfl, rfl, SqL.of hd, rfl, .inl ⟨_, rfl, _, rfl, _, _, rfl, rfl, by omega, ?_⟩⟩
            refine ⟨_, rfl, d, _, _, _, rfl, rfl, SqL.of hd, rfl, .inl ⟨_, rfl, _, rfl, _, _, rfl, rfl, ⟨by omega, by omega⟩, _, rfl, d, _, _, 2, rfl, rfl, hd, rfl, _, rfl, ?_⟩⟩
            exact k _ _ bt.upd ⟨cells, _, _, _, _, upd_same, (upd_ne hcd).trans hc, hcd, hcells, i0, i1, Int.fdiv_nonneg b0 (by omega), s0, s1⟩ (fmod_pos (by omega)).1 (fmod_pos (by omega)).2
          · rw [decide_eq_false hb]
            refine iteF ?_
            refine ⟨_, rfl, d, _, _, _, rfl, rfl, SqL.of hd, rfl, _, _, rfl, rfl, _, rfl, d, _, _, 4, rfl, rfl, hd, rfl, ?_⟩
            have bt := bt.upd (o := .lst [.ref c, .int i2, .int cell, .int ss, .int (n + 1)])
            have hc := (upd_ne (H := G2) (o := .lst [.ref c, .int i2, .int cell, .int ss, .int (n + 1)]) hcd).trans hc
            have hd : upd G2 d (.lst [.ref c, .int i2, .int cell, .int ss, .int (n + 1)]) d = some (.lst [.ref c, .int i2, .int cell, .int ss, .int (n + 1)]) := upd_same
            show (_ : Hp → Prop) (upd G2 d (.lst [.ref c, .int i2, .int cell, .int ss, .int (n + 1)]))
            generalize upd G2 d (.lst [.ref c, .int i2, .int cell, .int ss, .int (n + 1)]) = J1 at bt hc hd
            refine ⟨_, rfl, d, _, _, _, rfl, rfl, SqL.of hd, rfl, _, _, rfl, rfl, .inr ⟨by decide, by decide⟩, _, rfl, d, _, _, _, rfl, rfl, SqL.of hd, rfl, _, _, rfl, rfl, .inr ⟨by decide, by decide⟩, _, _, rfl, rfl, _, _, rfl, rfl, .inl ⟨_, rfl, _, _, rfl, rfl, by show (0 : Int) < 2147483647; decide, _, rfl, d, _, _, 3, rfl, rfl, hd, rfl, ?_⟩⟩
            have q0 := fmod_pos (i := ss * 48271 + (n + 1) * 7919 + 1) (j := 2147483647) (by decide)
            have e9 : (V.int (ss * 48271 + (n + 1) * 7919 + 1) = V.int (ss * 48271 + (n + 1) * 7919 + 1)) := rfl
            show (_ : Hp → Prop) (upd J1 d (.lst [.ref c, .int i2, .int cell, .int ((ss * 48271 + (n + 1) * 7919 + 1) % 2147483647), .int (n + 1)]))
            generalize (ss * 48271 + (n + 1) * 7919 + 1) % 2147483647 = s9 at q0
            have bt := bt.upd (o := .lst [.ref c, .int i2, .int cell, .int s9, .int (n + 1)])
            have hc := (upd_ne (H := J1) (o := .lst [.ref c, .int i2, .int cell, .int s9, .int (n + 1)]) hcd).trans hc
            have hd : upd J1 d (.lst [.ref c, .int i2, .int cell, .int s9, .int (n + 1)]) d = some (.lst [.ref c, .int i2, .int cell, .int s9, .int (n + 1)]) := upd_same
            generalize upd J1 d (.lst [.ref c, .int i2, .int cell, .int s9, .int (n + 1)]) = J2 at bt hc hd
            refine ⟨_, rfl, d, _, _, _, rfl, rfl, SqL.of hd, rfl, _, rfl, d, _, _, _, rfl, rfl, SqL.of hd, rfl, _, _, rfl, rfl, ⟨by decide, by decide⟩, _, _, rfl, rfl, _, _, rfl, rfl, .inl ⟨by omega, by omega⟩, .inl ⟨_, rfl, mod_c (by decide) fun x1 p1 p2 => ?_⟩⟩
            refine ⟨_, rfl, _, rfl, _, _, rfl, rfl, ⟨by decide, by decide⟩, _, _, rfl, rfl, _, _, rfl, rfl, .inl ⟨by omega, by omega⟩, .inl ⟨_, rfl, mod_c (by decide) fun x2 p3 p4 => ?_⟩⟩
            refine ⟨_, rfl, _, _, rfl, rfl, ⟨by decide, by decide⟩, .inl ⟨_, rfl, _, rfl, mod_go (by omega) fun v v0 v1 => ?_⟩⟩
            exact k _ _ bt ⟨cells, _, _, _, _, hd, hc, hcd, hcells, i0, i1, b0, q0.1, by omega⟩ v0 v1
        · rw [decide_eq_false hbig]
          refine iteF ⟨_, rfl, d, _, _, _, rfl, rfl, SqL.of hd, rfl, _, _, rfl, rfl, .inr ⟨by decide, by decide⟩, _, rfl, _, _, rfl, rfl, .inr ⟨by decide, by decide⟩, _, _, rfl, rfl, _, rfl, d, _, _, _, rfl, rfl, SqL.of hd, rfl, _, _, rfl, rfl, .inl ⟨_, rfl, mod_c (by decide) fun s2 p1 p2 => ?_⟩⟩
          refine ⟨_, rfl, d, _, _, 3, rfl, rfl, hd, rfl, ?_⟩
          have bt := bt.upd (o := .lst [.ref c, .int i2, .int bb, .int s2, .int n])
          have hc := (upd_ne (H := G1) (o := .lst [.ref c, .int i2, .int bb, .int s2, .int n]) hcd).trans hc
          have hd : upd G1 d (.lst [.ref c, .int i2, .int bb, .int s2, .int n]) d = some (.lst [.ref c, .int i2, .int bb, .int s2, .int n]) := upd_same
          show (_ : Hp → Prop) (upd G1 d (.lst [.ref c, .int i2, .int bb, .int s2, .int n]))
          generalize upd G1 d (.lst [.ref c, .int i2, .int bb, .int s2, .int n]) = G2 at bt hc hd
          replace s0 := p1
          replace s1 : s2 < 2147483648 := by omega
          clear p1 p2
          -- the rest, from what stands in the dice now
          refine ⟨_, rfl, d, _, _, _, rfl, rfl, SqL.of hd, rfl, _, _, rfl, rfl, _, rfl, ?_⟩
          by_cases hb : (0 : Int) < bb
          · rw [decide_eq_true hb]
            refine iteT ⟨_, rfl, d, _, _, _, rfl, rfl, SqL.of hd, rfl, .inl ⟨_, rfl, _, rfl, _, _, rfl, rfl, by omega, ?_⟩⟩
            refine ⟨_, rfl, d, _, _, _, rfl, rfl, SqL.of hd, rfl, .inl ⟨_, rfl, _, rfl, _, _, rfl, rfl, ⟨by omega, by omega⟩, _, rfl, d, _, _, 2, rfl, rfl, hd, rfl, _, rfl, ?_⟩⟩
            exact k _ _ bt.upd ⟨cells, _, _, _, _, upd_same, (upd_ne hcd).trans hc, hcd, hcells, i0, i1, Int.fdiv_nonneg b0 (by omega), s0, s1⟩ (fmod_pos (by omega)).1 (fmod_pos (by omega)).2
          · rw [decide_eq_false hb]
            refine iteF ?_
            refine ⟨_, rfl, d, _, _, _, rfl, rfl, SqL.of hd, rfl, _, _, rfl, rfl, _, rfl, d, _, _, 4, rfl, rfl, hd, rfl, ?_⟩
            have bt := bt.upd (o := .lst [.ref c, .int i2, .int bb, .int s2, .int (n + 1)])
            have hc := (upd_ne (H := G2) (o := .lst [.ref c, .int i2, .int bb, .int s2, .int (n + 1)]) hcd).trans hc
            have hd : upd G2 d (.lst [.ref c, .int i2, .int bb, .int s2, .int (n + 1)]) d = some (.lst [.ref c, .int i2, .int bb, .int s2, .int (n + 1)]) := upd_same
            show (_ : Hp → Prop) (upd G2 d (.lst [.ref c, .int i2, .int bb, .int s2, .int (n + 1)]))
            generalize upd G2 d (.lst [.ref c, .int i2, .int bb, .int s2, .int (n + 1)]) = J1 at bt hc hd
            refine ⟨_, rfl, d, _, _, _, rfl, rfl, SqL.of hd, rfl, _, _, rfl, rfl, .inr ⟨by decide, by decide⟩, _, rfl, d, _, _, _, rfl, rfl, SqL.of hd, rfl, _, _, rfl, rfl, .inr ⟨by decide, by decide⟩, _, _, rfl, rfl, _, _, rfl, rfl, .inl ⟨_, rfl, _, _, rfl, rfl, by show (0 : Int) < 2147483647; decide, _, rfl, d, _, _, 3, rfl, rfl, hd, rfl, ?_⟩⟩
            have q0 := fmod_pos (i := s2 * 48271 + (n + 1) * 7919 + 1) (j := 2147483647) (by decide)
            have e9 : (V.int (s2 * 48271 + (n + 1) * 7919 + 1) = V.int (s2 * 48271 + (n + 1) * 7919 + 1)) := rfl
            show (_ : Hp → Prop) (upd J1 d (.lst [.ref c, .int i2, .int bb, .int ((s2 * 48271 + (n + 1) * 7919 + 1) % 2147483647), .int (n + 1)]))
            generalize (s2 * 48271 + (n + 1) * 7919 + 1) % 2147483647 = s9 at q0
            have bt := bt.upd (o := .lst [.ref c, .int i2, .int bb, .int s9, .int (n + 1)])
            have hc := (upd_ne (H := J1) (o := .lst [.ref c, .int i2, .int bb, .int s9, .int (n + 1)]) hcd).trans hc
            have hd : upd J1 d (.lst [.ref c, .int i2, .int bb, .int s9, .int (n + 1)]) d = some (.lst [.ref c, .int i2, .int bb, .int s9, .int (n + 1)]) := upd_same
            generalize upd J1 d (.lst [.ref c, .int i2, .int bb, .int s9, .int (n + 1)]) = J2 at bt hc hd
            refine ⟨_, rfl, d, _, _, _, rfl, rfl, SqL.of hd, rfl, _, rfl, d, _, _, _, rfl, rfl, SqL.of hd, rfl, _, _, rfl, rfl, ⟨by decide, by decide⟩, _, _, rfl, rfl, _, _, rfl, rfl, .inl ⟨by omega, by omega⟩, .inl ⟨_, rfl, mod_c (by decide) fun x1 p1 p2 => ?_⟩⟩
            refine ⟨_, rfl, _, rfl, _, _, rfl, rfl, ⟨by decide, by decide⟩, _, _, rfl, rfl, _, _, rfl, rfl, .inl ⟨by omega, by omega⟩, .inl ⟨_, rfl, mod_c (by decide) fun x2 p3 p4 => ?_⟩⟩
            refine ⟨_, rfl, _, _, rfl, rfl, ⟨by decide, by decide⟩, .inl ⟨_, rfl, _, rfl, mod_go (by omega) fun v v0 v1 => ?_⟩⟩
            exact k _ _ bt ⟨cells, _, _, _, _, hd, hc, hcd, hcells, i0, i1, b0, q0.1, by omega⟩ v0 v1
      · rw [decide_eq_false hlt]
        refine iteF ?_
        -- the rest, from what stands in the dice now
        refine ⟨_, rfl, d, _, _, _, rfl, rfl, SqL.of hd, rfl, _, _, rfl, rfl, _, rfl, ?_⟩
        by_cases hb : (0 : Int) < bb
        · rw [decide_eq_true hb]
          refine iteT ⟨_, rfl, d, _, _, _, rfl, rfl, SqL.of hd, rfl, .inl ⟨_, rfl, _, rfl, _, _, rfl, rfl, by omega, ?_⟩⟩
          refine ⟨_, rfl, d, _, _, _, rfl, rfl, SqL.of hd, rfl, .inl ⟨_, rfl, _, rfl, _, _, rfl, rfl, ⟨by omega, by omega⟩, _, rfl, d, _, _, 2, rfl, rfl, hd, rfl, _, rfl, ?_⟩⟩
          exact k _ _ bt.upd ⟨cells, _, _, _, _, upd_same, (upd_ne hcd).trans hc, hcd, hcells, i0, i1, Int.fdiv_nonneg b0 (by omega), s0, s1⟩ (fmod_pos (by omega)).1 (fmod_pos (by omega)).2
        · rw [decide_eq_false hb]
          refine iteF ?_
          refine ⟨_, rfl, d, _, _, _, rfl, rfl, SqL.of hd, rfl, _, _, rfl, rfl, _, rfl, d, _, _, 4, rfl, rfl, hd, rfl, ?_⟩
          have bt := bt.upd (o := .lst [.ref c, .int i, .int bb, .int ss, .int (n + 1)])
          have hc := (upd_ne (H := H) (o := .lst [.ref c, .int i, .int bb, .int ss, .int (n + 1)]) hcd).trans hc
          have hd : upd H d (.lst [.ref c, .int i, .int bb, .int ss, .int (n + 1)]) d = some (.lst [.ref c, .int i, .int bb, .int ss, .int (n + 1)]) := upd_same
          show (_ : Hp → Prop) (upd H d (.lst [.ref c, .int i, .int bb, .int ss, .int (n + 1)]))
          generalize upd H d (.lst [.ref c, .int i, .int bb, .int ss, .int (n + 1)]) = J1 at bt hc hd
          refine ⟨_, rfl, d, _, _, _, rfl, rfl, SqL.of hd, rfl, _, _, rfl, rfl, .inr ⟨by decide, by decide⟩, _, rfl, d, _, _, _, rfl, rfl, SqL.of hd, rfl, _, _, rfl, rfl, .inr ⟨by decide, by decide⟩, _, _, rfl, rfl, _, _, rfl, rfl, .inl ⟨_, rfl, _, _, rfl, rfl, by show (0 : Int) < 2147483647; decide, _, rfl, d, _, _, 3, rfl, rfl, hd, rfl, ?_⟩⟩
          have q0 := fmod_pos (i := ss * 48271 + (n + 1) * 7919 + 1) (j := 2147483647) (by decide)
          have e9 : (V.int (ss * 48271 + (n + 1) * 7919 + 1) = V.int (ss * 48271 + (n + 1) * 7919 + 1)) := rfl
          show (_ : Hp → Prop) (upd J1 d (.lst [.ref c, .int i, .int bb, .int ((ss * 48271 + (n + 1) * 7919 + 1) % 2147483647), .int (n + 1)]))
          generalize (ss * 48271 + (n + 1) * 7919 + 1) % 2147483647 = s9 at q0
          have bt := bt.upd (o := .lst [.ref c, .int i, .int bb, .int s9, .int (n + 1)])
          have hc := (upd_ne (H := J1) (o := .lst [.ref c, .int i, .int bb, .int s9, .int (n + 1)]) hcd).trans hc
          have hd : upd J1 d (.lst [.ref c, .int i, .int bb, .int s9, .int (n + 1)]) d = some (.lst [.ref c, .int i, .int bb, .int s9, .int (n + 1)]) := upd_same
          generalize upd J1 d (.lst [.ref c, .int i, .int bb, .int s9, .int (n + 1)]) = J2 at bt hc hd
          refine ⟨_, rfl, d, _, _, _, rfl, rfl, SqL.of hd, rfl, _, rfl, d, _, _, _, rfl, rfl, SqL.of hd, rfl, _, _, rfl, rfl, ⟨by decide, by decide⟩, _, _, rfl, rfl, _, _, rfl, rfl, .inl ⟨by omega, by omega⟩, .inl ⟨_, rfl, mod_c (by decide) fun x1 p1 p2 => ?_⟩⟩
          refine ⟨_, rfl, _, rfl, _, _, rfl, rfl, ⟨by decide, by decide⟩, _, _, rfl, rfl, _, _, rfl, rfl, .inl ⟨by omega, by omega⟩, .inl ⟨_, rfl, mod_c (by decide) fun x2 p3 p4 => ?_⟩⟩
          refine ⟨_, rfl, _, _, rfl, rfl, ⟨by decide, by decide⟩, .inl ⟨_, rfl, _, rfl, mod_go (by omega) fun v v0 v1 => ?_⟩⟩
          exact k _ _ bt ⟨cells, _, _, _, _, hd, hc, hcd, hcells, i0, i1, b0, q0.1, by omega⟩ v0 v1
    · rw [decide_eq_false hb0]
      refine iteF ?_
      -- the rest, from what stands in the dice now
      refine ⟨_, rfl, d, _, _, _, rfl, rfl, SqL.of hd, rfl, _, _, rfl, rfl, _, rfl, ?_⟩
      by_cases hb : (0 : Int) < bb
      · rw [decide_eq_true hb]
        refine iteT ⟨_, rfl, d, _, _, _, rfl, rfl, SqL.of hd, rfl, .inl ⟨_, rfl, _, rfl, _, _, rfl, rfl, by omega, ?_⟩⟩
        refine ⟨_, rfl, d, _, _, _, rfl, rfl, SqL.of hd, rfl, .inl ⟨_, rfl, _, rfl, _, _, rfl, rfl, ⟨by omega, by omega⟩, _, rfl, d, _, _, 2, rfl, rfl, hd, rfl, _, rfl, ?_⟩⟩
        exact k _ _ bt.upd ⟨cells, _, _, _, _, upd_same, (upd_ne hcd).trans hc, hcd, hcells, i0, i1, Int.fdiv_nonneg b0 (by omega), s0, s1⟩ (fmod_pos (by omega)).1 (fmod_pos (by omega)).2
      · rw [decide_eq_false hb]
        refine iteF ?_
        refine ⟨_, rfl, d, _, _, _, rfl, rfl, SqL.of hd, rfl, _, _, rfl, rfl, _, rfl, d, _, _, 4, rfl, rfl, hd, rfl, ?_⟩
        have bt := bt.upd (o := .lst [.ref c, .int i, .int bb, .int ss, .int (n + 1)])
        have hc := (upd_ne (H := H) (o := .lst [.ref c, .int i, .int bb, .int ss, .int (n + 1)]) hcd).trans hc
        have hd : upd H d (.lst [.ref c, .int i, .int bb, .int ss, .int (n + 1)]) d = some (.lst [.ref c, .int i, .int bb, .int ss, .int (n + 1)]) := upd_same
        show (_ : Hp → Prop) (upd H d (.lst [.ref c, .int i, .int bb, .int ss, .int (n + 1)]))
        generalize upd H d (.lst [.ref c, .int i, .int bb, .int ss, .int (n + 1)]) = J1 at bt hc hd
        refine ⟨_, rfl, d, _, _, _, rfl, rfl, SqL.of hd, rfl, _, _, rfl, rfl, .inr ⟨by decide, by decide⟩, _, rfl, d, _, _, _, rfl, rfl, SqL.of hd, rfl, _, _, rfl, rfl, .inr ⟨by decide, by decide⟩, _, _, rfl, rfl, _, _, rfl, rfl, .inl ⟨_, rfl, _, _, rfl, rfl, by show (0 : Int) < 2147483647; decide, _, rfl, d, _, _, 3, rfl, rfl, hd, rfl, ?_⟩⟩
        have q0 := fmod_pos (i := ss * 48271 + (n + 1) * 7919 + 1) (j := 2147483647) (by decide)
        have e9 : (V.int (ss * 48271 + (n + 1) * 7919 + 1) = V.int (ss * 48271 + (n + 1) * 7919 + 1)) := rfl
        show (_ : Hp → Prop) (upd J1 d (.lst [.ref c, .int i, .int bb, .int ((ss * 48271 + (n + 1) * 7919 + 1) % 2147483647), .int (n + 1)]))
        generalize (ss * 48271 + (n + 1) * 7919 + 1) % 2147483647 = s9 at q0
        have bt := bt.upd (o := .lst [.ref c, .int i, .int bb, .int s9, .int (n + 1)])
        have hc := (upd_ne (H := J1) (o := .lst [.ref c, .int i, .int bb, .int s9, .int (n + 1)]) hcd).trans hc
        have hd : upd J1 d (.lst [.ref c, .int i, .int bb, .int s9, .int (n + 1)]) d = some (.lst [.ref c, .int i, .int bb, .int s9, .int (n + 1)]) := upd_same
        generalize upd J1 d (.lst [.ref c, .int i, .int bb, .int s9, .int (n + 1)]) = J2 at bt hc hd
        refine ⟨_, rfl, d, _, _, _, rfl, rfl, SqL.of hd, rfl, _, rfl, d, _, _, _, rfl, rfl, SqL.of hd, rfl, _, _, rfl, rfl, ⟨by decide, by decide⟩, _, _, rfl, rfl, _, _, rfl, rfl, .inl ⟨by omega, by omega⟩, .inl ⟨_, rfl, mod_c (by decide) fun x1 p1 p2 => ?_⟩⟩
        refine ⟨_, rfl, _, rfl, _, _, rfl, rfl, ⟨by decide, by decide⟩, _, _, rfl, rfl, _, _, rfl, rfl, .inl ⟨by omega, by omega⟩, .inl ⟨_, rfl, mod_c (by decide) fun x2 p3 p4 => ?_⟩⟩
        refine ⟨_, rfl, _, _, rfl, rfl, ⟨by decide, by decide⟩, .inl ⟨_, rfl, _, rfl, mod_go (by omega) fun v v0 v1 => ?_⟩⟩
        exact k _ _ bt ⟨cells, _, _, _, _, hd, hc, hcd, hcells, i0, i1, b0, q0.1, by omega⟩ v0 v1
end
end K66
namespace K66
open PySem L2
section
variable {P : Program} {w : World} {K : PySem.W.Frag} {mg : Str → Option Value} {base : Heap}
/-! _law_row -/
def spRow : Sp := fun vs H Q _ => ∃ (d c : Addr) (S m : Int), vs = [.ref d, .int S, .int m] ∧ Dice H d c ∧ 1 ≤ S ∧ S ≤ 100 ∧ 1 ≤ m ∧ m ≤ 100 ∧ ∀ H' p (r : Row), But d H H' → Dice H' d c → TR H' p r → Val S r → 1 ≤ r.length → (r.length : Int) ≤ m → Q (.ref p) H'
abbrev nRw : List Str := ["_law_dice_here", "_law_sounds", "_law_most", "_law_k"]
theorem scRow : FnScope nRw ["_law_dice_here", "_law_sounds", "_law_most"] (C8.fnScope sRow) := ⟨rfl, rfl, rfl, by decide +kernel, rfl, by decide +kernel, by decide +kernel⟩

theorem okRow {f : Addr} {fd : FuncData} (F : C8.Def K mg "_law_row" sRow f fd) (b : Binds K fd ["_law_dice_here", "_law_sounds", "_law_most"] []) (g : Gb mg) (G1 : C8.Cal P w K mg base 1 "_law_draw" spDraw []) : C8.Cal P w K mg base 2 "_law_row" spRow [] := by
  refine C8.cal0 F b .nil scRow (fun vs H Q E h => ?_) (fun cdv A outer s H vs Q E hr h => ?_)
  · obtain ⟨d, c, S, m, rfl, _⟩ := h; rfl
  · obtain ⟨d, c, S, m, rfl, di, s0, s1, m0, m1, k⟩ := h
    refine ⟨_, (pss_one (ps_ret (pe_callTy call_tuple_of rfl g.tuple bTuple (pa_cons (pe_lc (own := [("_law_k", 3)]) (g := gName 3) (tt := tYes) rfl scRow.nd (pi_range1 rfl g.range (pa_cons (pe_op op_add pe_int (C8.pe_c G1 hr (by decide) rfl (pa_cons (pv 0) (pa_cons (pv 2) pa_nil)))) pa_nil)) (blkOk_by (N := nRw) (sc := C8.fnScope sRow) (by decide +kernel)) (fun _ _ _ _ _ => pg_name (i := 3) scRow.nd rfl (Or.inl rfl)) (fun _ _ _ _ _ => pts_nil) (fun _ _ _ _ _ => (C8.pe_c G1 hr (by decide) rfl (pa_cons (pv 0) (pa_cons (pv 1) pa_nil))))) pa_nil)))), ?_⟩
    refine ⟨_, rfl, _, rfl, d, c, m, rfl, di, by omega, by omega, fun H1 v b1 di1 v0 v1 => ?_⟩
    refine ⟨_, _, rfl, rfl, 1 + v, rfl, by omega, by omega, fun D hD => ?_⟩
    have nDd : D ≠ d := di1.free hD
    have nDc : D ≠ c := di1.freec hD
    have nDH : H D = none := but_free b1 hD nDd
    refine lc_range (lo := 0) (n := (1 + v).toNat) (fun i H5 => But d H H5 ∧ Dice H5 d c ∧ ∃ r : Row, H5 D = some (.lst (r.map V.int)) ∧ r.length = i ∧ Val S r)
      ⟨b1.trans (But.of (same_new hD)), di1.same (same_new hD), [], upd_same, rfl, fun x hx => by cases hx⟩ (fun i H5 hi q => ?_) (fun H5 q => ?_)
    · obtain ⟨q1, q2, r, q3, q4, q5⟩ := q
      refine ⟨rfl, lc_yes ⟨_, rfl, _, rfl, d, c, S, rfl, q2, by omega, by omega, fun H6 x b6 di6 x0 x1 => ?_⟩⟩
      have h6 := b6 _ _ nDd q3
      refine ⟨_, h6, by rw [List.length_map]; exact Nat.lt_trans (show r.length < 101 by omega) (by decide), but_mut (q1.trans b6) nDH, di6.mut nDd nDc, r ++ [x], ?_, by simp [q4], ?_⟩
      · rw [upd_same, List.map_append]; rfl
      · intro y hy
        rcases List.mem_append.mp hy with z | z
        · exact q5 y z
        · rw [List.mem_singleton] at z
          rw [z]; exact ⟨x0, x1⟩
    · obtain ⟨q1, q2, r, q3, q4, q5⟩ := q
      refine ⟨D, _, rfl, .inl ⟨SqL.of q3, fun p np => ?_⟩⟩
      exact k _ p r (q1.trans (But.of (same_new np))) (q2.same (same_new np)) upd_same q5 (by omega) (by omega)
/-! the drawn book, as the law keeps it -/
def LBk (P : Program) (w : World) (H : Hp) (lb t : Addr) (S A B : Int) (kvs : List (NK × NK)) : Prop := H lb = some (.tup [.int S, .int A, .int B, .ref t]) ∧ ND P w H t kvs
/-! _law_few_words -/
def spFew : Sp := fun vs H Q _ => ∃ (d c lb : Addr) (S A B m n : Int) (x : V), vs = [.ref d, .ref lb, .int n, .int m] ∧ Dice H d c ∧ H lb = some (.tup [.int S, .int A, .int B, x]) ∧ 1 ≤ S ∧ S ≤ 100 ∧ 1 ≤ m ∧ m ≤ 100 ∧ 0 ≤ n ∧ n ≤ 40 ∧
  ∀ H' p (ws : List Row), But d H H' → Dice H' d c → TW H' p ws → (∀ r ∈ ws, Val S r ∧ 1 ≤ r.length ∧ (r.length : Int) ≤ m) → (ws.length : Int) = n → Q (.ref p) H'
abbrev nFw : List Str := ["_law_dice_here", "_law_book_here", "_law_many", "_law_most", "_law_k"]
theorem scFew : FnScope nFw ["_law_dice_here", "_law_book_here", "_law_many", "_law_most"] (C8.fnScope sFewWords) := ⟨rfl, rfl, rfl, by decide +kernel, rfl, by decide +kernel, by decide +kernel⟩

theorem okFew {f : Addr} {fd : FuncData} (F : C8.Def K mg "_law_few_words" sFewWords f fd) (b : Binds K fd ["_law_dice_here", "_law_book_here", "_law_many", "_law_most"] []) (g : Gb mg) (G1 : C8.Cal P w K mg base 2 "_law_row" spRow []) : C8.Cal P w K mg base 3 "_law_few_words" spFew [] := by
  refine C8.cal0 F b .nil scFew (fun vs H Q E h => ?_) (fun cdv A outer s H vs Q E hr h => ?_)
  · obtain ⟨d, c, lb, S, A, B, m, n, x, rfl, _⟩ := h; rfl
  · obtain ⟨d, c, lb, S, A', B, m, n, x, rfl, di, hlb, s0, s1, m0, m1, n0, n1, k⟩ := h
    refine ⟨_, (pss_one (ps_ret (pe_callTy call_tuple_of rfl g.tuple bTuple (pa_cons (pe_lc (own := [("_law_k", 4)]) (g := gName 4) (tt := tYes) rfl scFew.nd (pi_range1 rfl g.range (pa_cons (pv 2) pa_nil)) (blkOk_by (N := nFw) (sc := C8.fnScope sFewWords) (by decide +kernel)) (fun _ _ _ _ _ => pg_name (i := 4) scFew.nd rfl (Or.inl rfl)) (fun _ _ _ _ _ => pts_nil) (fun _ _ _ _ _ => (C8.pe_c G1 hr (by decide) rfl (pa_cons (pv 0) (pa_cons (pe_ix (ixT_K K) (pv 1) pe_int (fun _ _ => rfl)) (pa_cons (pv 3) pa_nil)))))) pa_nil)))), ?_⟩
    refine ⟨_, rfl, n, rfl, by omega, by omega, fun D hD => ?_⟩
    have nDd : D ≠ d := di.free hD
    have nDc : D ≠ c := di.freec hD
    refine lc_range (lo := 0) (n := n.toNat) (fun i H5 => But d H H5 ∧ Dice H5 d c ∧ ∃ (as : List Addr) (ws : List Row), H5 D = some (.lst (as.map V.ref)) ∧ TRs H5 as ws ∧ ws.length = i ∧ ∀ r ∈ ws, Val S r ∧ 1 ≤ r.length ∧ (r.length : Int) ≤ m)
      ⟨But.of (same_new hD), di.same (same_new hD), [], [], upd_same, .nil, rfl, fun x hx => by cases hx⟩ (fun i H5 hi q => ?_) (fun H5 q => ?_)
    · obtain ⟨q1, q2, as, ws, q3, q4, q5, q6⟩ := q
      refine ⟨rfl, lc_yes ⟨_, rfl, _, rfl, lb, _, _, .int S, rfl, rfl, SqT.of (tup_but di q1 hlb), rfl, _, rfl, d, c, S, m, rfl, q2, s0, s1, m0, m1, fun H6 p r b6 di6 tr vr r0 r1 => ?_⟩⟩
      have h6 := b6 _ _ nDd q3
      have t6 : TRs H6 as ws := Paired.mapP q4 fun _ _ z => z.but q2 b6
      have la := t6.len
      obtain ⟨as', g1, g2⟩ := LR.grow (bs := [p]) (qs := [r]) h6 t6 (.one tr)
      refine ⟨_, h6, by rw [List.length_map]; exact Nat.lt_trans (show as.length < 41 by omega) (by decide), but_mut (q1.trans b6) hD, di6.mut nDd nDc, as', ws ++ [r], g1, g2, by simp [q5], ?_⟩
      intro y hy
      rcases List.mem_append.mp hy with z | z
      · exact q6 y z
      · rw [List.mem_singleton] at z
        rw [z]; exact ⟨vr, r0, r1⟩
    · obtain ⟨q1, q2, as, ws, q3, q4, q5, q6⟩ := q
      refine ⟨D, _, rfl, .inl ⟨SqL.of q3, fun p np => ?_⟩⟩
      exact k _ p ws (q1.trans (But.of (same_new np))) (q2.same (same_new np)) ⟨as, upd_same, q4.mono (same_new np)⟩ q6 (by omega)
/-! _law_like -/
def spLike : Sp := fun vs H Q _ => ∃ (d c a : Addr) (S : Int) (r : Row), vs = [.ref d, .int S, .ref a] ∧ Dice H d c ∧ TR H a r ∧ Val S r ∧ 1 ≤ S ∧ S ≤ 100 ∧ r.length ≤ 100 ∧
  ∀ H' p (q : Row), But d H H' → Dice H' d c → TR H' p q → Val S q → q.length = r.length → Q (.ref p) H'
abbrev nLk : List Str := ["_law_dice_here", "_law_sounds", "_law_row_here", "_law_sound"]
theorem scLike : FnScope nLk ["_law_dice_here", "_law_sounds", "_law_row_here"] (C8.fnScope sLike) := ⟨rfl, rfl, rfl, by decide +kernel, rfl, by decide +kernel, by decide +kernel⟩

theorem okLike {f : Addr} {fd : FuncData} (F : C8.Def K mg "_law_like" sLike f fd) (b : Binds K fd ["_law_dice_here", "_law_sounds", "_law_row_here"] []) (g : Gb mg) (G1 : C8.Cal P w K mg base 1 "_law_draw" spDraw []) : C8.Cal P w K mg base 2 "_law_like" spLike [] := by
  refine C8.cal0 F b .nil scLike (fun vs H Q E h => ?_) (fun cdv A outer s H vs Q E hr h => ?_)
  · obtain ⟨d, c, a, S, r, rfl, _⟩ := h; rfl
  · obtain ⟨d, c, a, S, r, rfl, di, ta, vr, s0, s1, hz, k⟩ := h
    refine ⟨_, (pss_one (ps_ret (pe_callTy call_tuple_of rfl g.tuple bTuple (pa_cons (pe_lc (own := [("_law_sound", 3)]) (g := gName 3) (tt := tYes) rfl scLike.nd (pi_tup (pv 2)) (blkOk_by (N := nLk) (sc := C8.fnScope sLike) (by decide +kernel)) (fun _ _ _ _ _ => pg_name (i := 3) scLike.nd rfl (Or.inl rfl)) (fun _ _ _ _ _ => pts_nil) (fun _ _ _ _ _ => (pe_ifExp (pt_cmpR op_eq (C8.pe_c G1 hr (by decide) rfl (pa_cons (pv 0) (pa_cons pe_int pa_nil))) pe_int (nomark _)) (C8.pe_c G1 hr (by decide) rfl (pa_cons (pv 0) (pa_cons (pv 1) pa_nil))) (pv 3)))) pa_nil)))), ?_⟩
    refine ⟨_, rfl, a, rfl, ⟨_, ta.seq⟩, fun D hD => ?_⟩
    have nDd : D ≠ d := di.free hD
    have nDc : D ≠ c := di.freec hD
    refine lc_tup (K := K) (a := a) (xs := r.map V.int) (fun i H5 => But d H H5 ∧ Dice H5 d c ∧ ∃ q : Row, H5 D = some (.lst (q.map V.int)) ∧ q.length = i ∧ Val S q)
      ⟨But.of (same_new hD), di.same (same_new hD), [], upd_same, rfl, fun x hx => by cases hx⟩ (fun i H5 _ q => (ta.but di q.1).seq) (fun i x H5 hx q => ?_) (fun H5 q => ?_)
    · obtain ⟨q1, q2, q, q3, q4, q5⟩ := q
      obtain ⟨x, rfl, hx'⟩ := ri_map hx
      have hi := (List.getElem?_eq_some_iff.mp hx').1
      have fin : ∀ (H6 : Hp) (y : Int), But d H H6 → Dice H6 d c → H6 D = some (.lst (q.map V.int)) → 0 ≤ y → y < S → ∃ acc, H6 D = some (.lst acc) ∧ acc.length < sizeLine ∧ But d H (upd H6 D (.lst (acc ++ [.int y]))) ∧ Dice (upd H6 D (.lst (acc ++ [.int y]))) d c ∧ ∃ q : Row, (upd H6 D (.lst (acc ++ [.int y]))) D = some (.lst (q.map V.int)) ∧ q.length = i + 1 ∧ Val S q := fun H6 y b6 di6 h6 y0 y1 => by
        refine ⟨_, h6, by rw [List.length_map]; exact Nat.lt_trans (show q.length < 101 by omega) (by decide), but_mut b6 hD, di6.mut nDd nDc, q ++ [y], ?_, by simp [q4], ?_⟩
        · rw [upd_same, List.map_append]; rfl
        · intro z hz
          rcases List.mem_append.mp hz with z' | z'
          · exact q5 z z'
          · rw [List.mem_singleton] at z'
            rw [z']; exact ⟨y0, y1⟩
      have hv := vr x (List.mem_of_getElem? hx')
      refine ⟨rfl, lc_yes ⟨_, rfl, d, c, 2, rfl, q2, by decide, by decide, fun H6 v b6 di6 v0 v1 => ?_⟩⟩
      have h6 := b6 _ _ nDd q3
      refine ⟨rfl, decide (V.int v = V.int 0), rfl, ?_⟩
      by_cases hv0 : V.int v = V.int 0
      · rw [decide_eq_true hv0]
        refine iteT ⟨_, rfl, _, rfl, d, c, S, rfl, di6, s0, by omega, fun H7 y b7 di7 y0 y1 => ?_⟩
        exact fin H7 y ((q1.trans b6).trans b7) di7 (b7 _ _ nDd h6) y0 y1
      · rw [decide_eq_false hv0]
        exact iteF ⟨_, rfl, fin H6 x (q1.trans b6) di6 h6 hv.1 hv.2⟩
    · obtain ⟨q1, q2, q, q3, q4, q5⟩ := q
      refine ⟨D, _, rfl, .inl ⟨SqL.of q3, fun p np => ?_⟩⟩
      rw [List.length_map] at q4
      exact k _ p q (q1.trans (But.of (same_new np))) (q2.same (same_new np)) upd_same q5 q4
/-! _law_small_sizes -/
def sizesL : List Row := [[2, 1, 1], [2, 1, 1], [2, 2, 1], [2, 1, 2], [3, 1, 1], [2, 2, 2], [3, 2, 1]]
def spSizes : Sp := fun vs H Q _ => vs = [] ∧ ∀ H' p (as : List Addr), Same H H' → H p = none → H' p = some (.lst (as.map V.ref)) → TRs H' as sizesL → Q (.ref p) H'
theorem scSizes : FnScope [] [] (C8.fnScope sSmallSizes) := ⟨rfl, rfl, rfl, by decide +kernel, rfl, by decide +kernel, by decide +kernel⟩
theorem okSizes {f : Addr} {fd : FuncData} (F : C8.Def K mg "_law_small_sizes" sSmallSizes f fd) (b : Binds K fd [] []) : C8.Cal P w K mg base 1 "_law_small_sizes" spSizes [] := by
  refine C8.cal0 F b .nil scSizes (fun vs H Q E h => ?_) (fun cdv A outer s H vs Q E hr h => ?_)
  · obtain ⟨rfl, _⟩ := h; rfl
  · obtain ⟨rfl, k⟩ := h
    refine ⟨_, (pss_one (ps_ret (pe_lst (pa_cons (pe_tup (pa_cons pe_int (pa_cons pe_int (pa_cons pe_int pa_nil)))) (pa_cons (pe_tup (pa_cons pe_int (pa_cons pe_int (pa_cons pe_int pa_nil)))) (pa_cons (pe_tup (pa_cons pe_int (pa_cons pe_int (pa_cons pe_int pa_nil)))) (pa_cons (pe_tup (pa_cons pe_int (pa_cons pe_int (pa_cons pe_int pa_nil)))) (pa_cons (pe_tup (pa_cons pe_int (pa_cons pe_int (pa_cons pe_int pa_nil)))) (pa_cons (pe_tup (pa_cons pe_int (pa_cons pe_int (pa_cons pe_int pa_nil)))) (pa_cons (pe_tup (pa_cons pe_int (pa_cons pe_int (pa_cons pe_int pa_nil)))) pa_nil)))))))))), ?_⟩
    refine ⟨by show 3 ≤ sizeLine; decide, fun p0 np0 => ?_⟩
    have e0 := same_new (o := .tup [.int 2, .int 1, .int 1]) np0
    have t0 : TR (upd H p0 (.tup [.int 2, .int 1, .int 1])) p0 [2, 1, 1] := upd_same
    generalize upd H p0 (.tup [.int 2, .int 1, .int 1]) = J0 at e0 t0
    refine ⟨by show 3 ≤ sizeLine; decide, fun p1 np1 => ?_⟩
    have e1 := same_new (o := .tup [.int 2, .int 1, .int 1]) np1
    have t1 : TR (upd J0 p1 (.tup [.int 2, .int 1, .int 1])) p1 [2, 1, 1] := upd_same
    replace t0 := t0.mono e1
    generalize upd J0 p1 (.tup [.int 2, .int 1, .int 1]) = J1 at e1 t0 t1
    refine ⟨by show 3 ≤ sizeLine; decide, fun p2 np2 => ?_⟩
    have e2 := same_new (o := .tup [.int 2, .int 2, .int 1]) np2
    have t2 : TR (upd J1 p2 (.tup [.int 2, .int 2, .int 1])) p2 [2, 2, 1] := upd_same
    replace t0 := t0.mono e2
    replace t1 := t1.mono e2
    generalize upd J1 p2 (.tup [.int 2, .int 2, .int 1]) = J2 at e2 t0 t1 t2
    refine ⟨by show 3 ≤ sizeLine; decide, fun p3 np3 => ?_⟩
    have e3 := same_new (o := .tup [.int 2, .int 1, .int 2]) np3
    have t3 : TR (upd J2 p3 (.tup [.int 2, .int 1, .int 2])) p3 [2, 1, 2] := upd_same
    replace t0 := t0.mono e3
    replace t1 := t1.mono e3
    replace t2 := t2.mono e3
    generalize upd J2 p3 (.tup [.int 2, .int 1, .int 2]) = J3 at e3 t0 t1 t2 t3
    refine ⟨by show 3 ≤ sizeLine; decide, fun p4 np4 => ?_⟩
    have e4 := same_new (o := .tup [.int 3, .int 1, .int 1]) np4
    have t4 : TR (upd J3 p4 (.tup [.int 3, .int 1, .int 1])) p4 [3, 1, 1] := upd_same
    replace t0 := t0.mono e4
    replace t1 := t1.mono e4
    replace t2 := t2.mono e4
    replace t3 := t3.mono e4
    generalize upd J3 p4 (.tup [.int 3, .int 1, .int 1]) = J4 at e4 t0 t1 t2 t3 t4
    refine ⟨by show 3 ≤ sizeLine; decide, fun p5 np5 => ?_⟩
    have e5 := same_new (o := .tup [.int 2, .int 2, .int 2]) np5
    have t5 : TR (upd J4 p5 (.tup [.int 2, .int 2, .int 2])) p5 [2, 2, 2] := upd_same
    replace t0 := t0.mono e5
    replace t1 := t1.mono e5
    replace t2 := t2.mono e5
    replace t3 := t3.mono e5
    replace t4 := t4.mono e5
    generalize upd J4 p5 (.tup [.int 2, .int 2, .int 2]) = J5 at e5 t0 t1 t2 t3 t4 t5
    refine ⟨by show 3 ≤ sizeLine; decide, fun p6 np6 => ?_⟩
    have e6 := same_new (o := .tup [.int 3, .int 2, .int 1]) np6
    have t6 : TR (upd J5 p6 (.tup [.int 3, .int 2, .int 1])) p6 [3, 2, 1] := upd_same
    replace t0 := t0.mono e6
    replace t1 := t1.mono e6
    replace t2 := t2.mono e6
    replace t3 := t3.mono e6
    replace t4 := t4.mono e6
    replace t5 := t5.mono e6
    generalize upd J5 p6 (.tup [.int 3, .int 2, .int 1]) = J6 at e6 t0 t1 t2 t3 t4 t5 t6
    refine ⟨by show 7 ≤ sizeLine; decide, fun p np => ?_⟩
    have e7 := same_new (o := .lst ([p0, p1, p2, p3, p4, p5, p6].map V.ref)) np
    have el := ((((((e0.trans e1).trans e2).trans e3).trans e4).trans e5).trans e6)
    exact k _ p [p0, p1, p2, p3, p4, p5, p6] (((((((e0.trans e1).trans e2).trans e3).trans e4).trans e5).trans e6).trans e7) (Same.free el np) upd_same (.cons (t0.mono e7) (.cons (t1.mono e7) (.cons (t2.mono e7) (.cons (t3.mono e7) (.cons (t4.mono e7) (.cons (t5.mono e7) (.cons (t6.mono e7) .nil)))))))
end
end K66
namespace K66
open PySem L2
def But2 (d t : Addr) (H H' : Hp) : Prop := ∀ a o, a ≠ d → a ≠ t → H a = some o → H' a = some o
theorem But2.of {d t : Addr} {H H' : Hp} (e : Same H H') : But2 d t H H' := fun a o _ _ h => e a o h
theorem But2.of1 {d t : Addr} {H H' : Hp} (e : But d H H') : But2 d t H H' := fun a o n _ h => e a o n h
theorem But2.trans {d t : Addr} {H H1 H2 : Hp} (x : But2 d t H H1) (y : But2 d t H1 H2) : But2 d t H H2 := fun a o n m h => y a o n m (x a o n m h)
theorem But2.upd {d t : Addr} {H H' : Hp} {o : HO} (x : But2 d t H H') : But2 d t H (upd H' t o) := fun a u n m h => by rw [upd_ne m]; exact x a u n m h
theorem ND.tne {P : Program} {w : World} {H : Hp} {t a : Addr} {kvs : List (NK × NK)} {xs : List V} (n : ND P w H t kvs) (h : H a = some (.tup xs)) : a ≠ t := fun z => by
  obtain ⟨ys, ep, n, _⟩ := n
  rw [z, n.obj] at h; cases h
theorem ND.dne {P : Program} {w : World} {H : Hp} {t d c : Addr} {kvs : List (NK × NK)} (n : ND P w H t kvs) (h : Dice H d c) : t ≠ d ∧ t ≠ c := by
  obtain ⟨ys, ep, n, _⟩ := n
  obtain ⟨cells, i, b, s, m, h1, h2, _⟩ := h
  exact ⟨fun z => (by rw [← z, n.obj] at h1; cases h1), fun z => (by rw [← z, n.obj] at h2; cases h2)⟩
theorem ND.but {P : Program} {w : World} {H H' : Hp} {t d c : Addr} {kvs : List (NK × NK)} (n : ND P w H t kvs) (h : Dice H d c) (b : But d H H') : ND P w H' t kvs := by
  have ne := (n.dne h).1
  obtain ⟨ys, ep, n, e⟩ := n
  exact ⟨ys, ep, n.keep (fun x xs q => tup_but h b q) ((b _ _ ne n.obj).trans n.obj.symm), e⟩
theorem ND.keys {P : Program} {w : World} {H : Hp} {t : Addr} {kvs : List (NK × NK)} (n : ND P w H t kvs) : (kvs.map (·.1)).Nodup := by
  obtain ⟨ys, ep, n, rfl⟩ := n
  unfold pairsE
  rw [List.map_map]
  exact n.nodup
theorem tup_but2 {P : Program} {w : World} {H H' : Hp} {t d c a : Addr} {kvs : List (NK × NK)} {xs : List V} (n : ND P w H t kvs) (di : Dice H d c) (b : But2 d t H H') (h : H a = some (.tup xs)) : H' a = some (.tup xs) := b a _ (di.ne h (fun _ e => nomatch e)) (n.tne h) h
theorem rowsT_bound {S k : Nat} (hS : S ≤ 3) (hk : k ≤ 2) : (rowsT S k).length ≤ 54 := Nat.le_trans (rowsT_len hS (by omega)) (by omega)
theorem cut_init (r : Row) : cutV (r.map V.int) none (some (-1)) = (r.take (r.length - 1)).map V.int := by
  unfold cutV
  rw [HT.sIx_none, show (-1 : Int) = -((1 : Nat) : Int) from rfl, sIx_neg _ _ _ (Nat.le_refl _), List.length_map, List.drop_zero, Nat.sub_zero, List.map_take]
theorem at_last {r : Row} {y : Int} (h : r[r.length - 1]? = some y) (hl : 1 ≤ r.length) : atI (r.map V.int) (-1) = some (.int y) := by
  unfold atI ixN
  rw [if_neg (by decide), List.length_map, if_pos (by omega)]
  show (r.map V.int)[(-1 + (r.length : Int)).toNat]? = _
  rw [show (-1 + (r.length : Int)).toNat = r.length - 1 by omega, List.getElem?_map, h]; rfl
theorem GoodE.new {S : Int} {A B : Nat} {S' : Nat} {l r l' r' : Row} (hS : S = (S' : Int)) (hl : l ∈ rowsT S' A) (hr : r ∈ rowsT S' B) (h1 : Val S l') (h2 : Val S r') (e1 : l'.length = l.length) (e2 : r'.length = r.length) : GoodE S A B (l, r) (l', r') := by
  subst hS
  obtain ⟨a1, a2, a3⟩ := mem_rowsT.mp hl
  obtain ⟨b1, b2, b3⟩ := mem_rowsT.mp hr
  exact ⟨a3, b3, h1, h2, a1, by show (l.length : Int) ≤ _; omega, b1, by show (r.length : Int) ≤ _; omega, e1, e2⟩
section
variable {P : Program} {w : World} {K : PySem.W.Frag} {mg : Str → Option Value} {base : Heap}
/-! _law_book -/
def spBook (P : Program) (w : World) : Sp := fun vs H Q _ => ∃ (d c z : Addr) (as : List Addr), vs = [.ref d, .ref z] ∧ Dice H d c ∧ z ≠ d ∧ H z = some (.lst (as.map V.ref)) ∧ TRs H as sizesL ∧
  ∀ H' p t (S A B : Nat) kvs, But d H H' → Dice H' d c → LBk P w H' p t S A B kvs → 2 ≤ S → S ≤ 3 → 1 ≤ A → A ≤ 2 → 1 ≤ B → B ≤ 2 → (∀ e ∈ kvs, GoodE S A B e.1 e.2) → kvs.length ≤ 4000 → Q (.ref p) H'
abbrev nBk : List Str := ["_law_dice_here", "_law_sizes", "_law_sounds", "_law_ahead", "_law_behind", "_law_kind", "_law_chance", "_law_own", "_law_sound", "_law_table", "_law_left", "_law_right", "_law_drawn"]
theorem scBook : FnScope nBk ["_law_dice_here", "_law_sizes"] (C8.fnScope sBook) := ⟨rfl, rfl, rfl, by decide +kernel, rfl, by decide +kernel, by decide +kernel⟩

theorem okBook {f : Addr} {fd : FuncData} (F : C8.Def K mg "_law_book" sBook f fd) (b : Binds K fd ["_law_dice_here", "_law_sizes"] []) (g : Gb mg) (G1 : C8.Cal P w K mg base 1 "_law_draw" spDraw []) (G2 : C8.Cal P w K mg base 1 "_law_rows" spLRows []) (G3 : C8.Cal P w K mg base 2 "_law_like" spLike []) : C8.Cal P w K mg base 3 "_law_book" (spBook P w) [] := by
  refine C8.cal0 F b .nil scBook (fun vs H Q E h => ?_) (fun cdv A outer s H vs Q E hr h => ?_)
  · obtain ⟨d, c, z, as, rfl, _⟩ := h; rfl
  · obtain ⟨d, c, z, as, rfl, di, nzd, hz, trs, k⟩ := h
    have hu : (A.deeper (PyProof.Rows.envOfC "_law_book" (C8.fnScope sBook) s.heap.objs.size f cdv)).units + 64 < cLine := hr.units
    refine ⟨_, (pss_cons (ps_asg (pe_ix ix_list (pv 1) (C8.pe_c G1 hr (by decide) rfl (pa_cons (pv 0) (pa_cons (pe_callB call_len_seq rfl g.len PySem.boot_len (pa_cons (pv 1) pa_nil)) pa_nil))) (fun _ _ => rfl)) (pg_tup rfl (pgs_cons (pg_name (i := 2) scBook.nd rfl (Or.inr rfl)) (pgs_cons (pg_name (i := 3) scBook.nd rfl (Or.inl rfl)) (pgs_cons (pg_name (i := 4) scBook.nd rfl (Or.inl rfl)) pgs_nil))))) (pss_cons (ps_set (i := 5) scBook.nd rfl (Or.inl rfl) (C8.pe_c G1 hr (by decide) rfl (pa_cons (pv 0) (pa_cons pe_int pa_nil)))) (pss_cons (ps_set (i := 6) scBook.nd rfl (Or.inl rfl) (pe_ix ix_list (pe_lst (pa_cons pe_int (pa_cons pe_int (pa_cons pe_int (pa_cons pe_int (pa_cons pe_int (pa_cons pe_int pa_nil))))))) (pv 5) (fun _ _ => rfl))) (pss_cons (ps_setLc (i := 7) (own := [("_law_sound", 8)]) (g := gName 8) (tt := tYes) rfl scBook.nd rfl rfl (sw_true rfl rfl rfl (by decide +kernel)) (pi_range1 rfl g.range (pa_cons (pv 2) pa_nil)) (blkOk_by (N := nBk) (sc := C8.fnScope sBook) (by decide +kernel)) (fun _ _ _ _ _ => pg_name (i := 8) scBook.nd rfl (Or.inl rfl)) (fun _ _ _ _ _ => pts_nil) (fun _ _ _ _ _ => (C8.pe_c G1 hr (by decide) rfl (pa_cons (pv 0) (pa_cons (pv 2) pa_nil))))) (pss_cons (ps_set (i := 9) scBook.nd rfl (Or.inl rfl) pe_dn) (pss_cons (ps_for PassesOwn.never rfl (pi_list (C8.pe_c G2 hr (by decide) rfl (pa_cons (pv 2) (pa_cons (pv 3) pa_nil)))) (pg_name (i := 10) scBook.nd rfl (Or.inl rfl)) (pss_one (ps_for PassesOwn.never rfl (pi_list (C8.pe_c G2 hr (by decide) rfl (pa_cons (pv 2) (pa_cons (pv 4) pa_nil)))) (pg_name (i := 11) scBook.nd rfl (Or.inl rfl)) (pss_cons (ps_set (i := 12) scBook.nd rfl (Or.inl rfl) (pe_cmpR op_lt (C8.pe_c G1 hr (by decide) rfl (pa_cons (pv 0) (pa_cons pe_int pa_nil))) (pv 6) (nomark _))) (pss_one (ps_if (pt_cmpR op_eq (pv 5) pe_int (nomark _)) (pss_one (ps_asg (pe_tup (pa_cons (pe_op op_catA (pe_slice sl_tupA (pv 10) po_none (po_some (pe_un un_neg pe_int))) (pe_tup (pa_cons (pe_ix ix_list (pv 7) (pe_ix ix_tup (pv 10) (pe_un un_neg pe_int) (fun _ _ => rfl)) (fun _ _ => rfl)) pa_nil))) (pa_cons (pv 11) pa_nil))) (pg_sub (pv 9) (pe_tup (pa_cons (pv 10) (pa_cons (pv 11) pa_nil))) (set_dn hu)))) (pss_one (ps_if (PW.pt (pw_and (pt_cmpR op_gt (pv 5) pe_int (nomark _)) (pw_and1 (pt_val (pv 12))))) (pss_one (ps_asg (pe_tup (pa_cons (C8.pe_c G3 hr (by decide) rfl (pa_cons (pv 0) (pa_cons (pv 2) (pa_cons (pv 10) pa_nil)))) (pa_cons (C8.pe_c G3 hr (by decide) rfl (pa_cons (pv 0) (pa_cons (pv 2) (pa_cons (pv 11) pa_nil)))) pa_nil))) (pg_sub (pv 9) (pe_tup (pa_cons (pv 10) (pa_cons (pv 11) pa_nil))) (set_dn hu)))) pss_nil)))))))) (pss_one (ps_ret (pe_tup (pa_cons (pv 2) (pa_cons (pv 3) (pa_cons (pv 4) (pa_cons (pv 9) pa_nil))))))))))))), ?_⟩
    have las := trs.len
    have l7 : as.length = 7 := las
    refine ⟨_, rfl, _, rfl, _, rfl, z, _, rfl, .inl (SqL.of hz), d, c, _, rfl, di, by rw [List.length_map, l7]; decide, by rw [List.length_map, l7]; decide, fun H1 v b1 di1 v0 v1 => ?_⟩
    rw [List.length_map, l7] at v1
    obtain ⟨vi, rfl⟩ : ∃ vi : Nat, v = (vi : Int) := ⟨v.toNat, by omega⟩
    have hp1 : as[vi]? = some (as[vi]'(by omega)) := List.getElem?_eq_getElem (by omega)
    generalize as[vi]'(by omega) = p1 at hp1
    obtain ⟨rw, hrw, trw⟩ := trs.get hp1
    have hS : ∃ S A B : Nat, rw = [(S : Int), (A : Int), (B : Int)] ∧ 2 ≤ S ∧ S ≤ 3 ∧ 1 ≤ A ∧ A ≤ 2 ∧ 1 ≤ B ∧ B ≤ 2 := by
      have hv : vi < 7 := by omega
      have : ∀ i < 7, ∀ r, sizesL[i]? = some r → ∃ S A B : Nat, r = [(S : Int), (A : Int), (B : Int)] ∧ 2 ≤ S ∧ S ≤ 3 ∧ 1 ≤ A ∧ A ≤ 2 ∧ 1 ≤ B ∧ B ≤ 2 := by
        intro i hi r hr
        match i, hi, hr with
        | 0, _, hr => cases hr; exact ⟨2, 1, 1, rfl, by decide⟩
        | 1, _, hr => cases hr; exact ⟨2, 1, 1, rfl, by decide⟩
        | 2, _, hr => cases hr; exact ⟨2, 2, 1, rfl, by decide⟩
        | 3, _, hr => cases hr; exact ⟨2, 1, 2, rfl, by decide⟩
        | 4, _, hr => cases hr; exact ⟨3, 1, 1, rfl, by decide⟩
        | 5, _, hr => cases hr; exact ⟨2, 2, 2, rfl, by decide⟩
        | 6, _, hr => cases hr; exact ⟨3, 2, 1, rfl, by decide⟩
      exact this vi hv rw hrw
    obtain ⟨S, A', B, rfl, s0, s1, a0, a1, b0, b1'⟩ := hS
    have t1 : H1 p1 = some (.tup [.int (S : Int), .int (A' : Int), .int (B : Int)]) := tup_but di b1 trw
    refine ⟨z, _, _, .ref p1, rfl, rfl, SqL.of (b1 _ _ nzd hz), at_of (j := vi) rfl (by rw [List.getElem?_map, hp1]; rfl), ?_⟩
    refine ⟨p1, _, rfl, SqT.of t1, rfl, _, _, rfl, _, _, rfl, _, _, rfl, rfl, ?_⟩
    -- kind
    refine ⟨_, rfl, d, c, 6, rfl, di1, by decide, by decide, fun H2 kd b2 di2 k0 k1 => ?_⟩
    have b12 := b1.trans b2
    obtain ⟨ki, rfl⟩ : ∃ ki : Nat, kd = (ki : Int) := ⟨kd.toNat, by omega⟩
    -- chance
    refine ⟨by show 6 ≤ sizeLine; decide, fun pc npc => ?_⟩
    obtain ⟨ch, hch⟩ : ∃ ch : Int, ([.int 1, .int 2, .int 6, .int 12, .int 12, .int 3] : List V)[ki]? = some (.int ch) := by
      have hk : ki < 6 := by omega
      match ki, hk with
      | 0, _ => exact ⟨1, rfl⟩
      | 1, _ => exact ⟨2, rfl⟩
      | 2, _ => exact ⟨6, rfl⟩
      | 3, _ => exact ⟨12, rfl⟩
      | 4, _ => exact ⟨12, rfl⟩
      | 5, _ => exact ⟨3, rfl⟩
    have s3 := same_new (o := .lst [.int 1, .int 2, .int 6, .int 12, .int 12, .int 3]) npc
    refine ⟨_, rfl, pc, _, _, .int ch, rfl, rfl, SqL.of upd_same, at_of (j := ki) rfl hch, ?_⟩
    have b3 := b12.trans (But.of s3)
    have di3 := di2.same s3
    generalize upd H2 pc (.lst [.int 1, .int 2, .int 6, .int 12, .int 12, .int 3]) = H3 at b3 di3
    clear b1 b2 b12 s3 di2 di1 hch npc t1
    -- own
    refine ⟨_, rfl, (S : Int), rfl, by omega, by omega, fun D hD => ?_⟩
    have nDd : D ≠ d := di3.free hD
    have nDc : D ≠ c := di3.freec hD
    have nDH : H D = none := but_free b3 hD nDd
    refine lc_range (lo := 0) (n := (S : Int).toNat) (fun i H5 => But d H H5 ∧ Dice H5 d c ∧ ∃ r : Row, H5 D = some (.lst (r.map V.int)) ∧ r.length = i ∧ Val S r)
      ⟨b3.trans (But.of (same_new hD)), di3.same (same_new hD), [], upd_same, rfl, fun x hx => by cases hx⟩ (fun i H5 hi q => ?_) (fun H5 q => ?_)
    · obtain ⟨q1, q2, r, q3, q4, q5⟩ := q
      refine ⟨rfl, lc_yes ⟨_, rfl, _, rfl, d, c, S, rfl, q2, by omega, by omega, fun H6 x b6 di6 x0 x1 => ?_⟩⟩
      have h6 := b6 _ _ nDd q3
      refine ⟨_, h6, by rw [List.length_map]; exact Nat.lt_trans (show r.length < 101 by omega) (by decide), but_mut (q1.trans b6) nDH, di6.mut nDd nDc, r ++ [x], ?_, by simp [q4], ?_⟩
      · rw [upd_same, List.map_append]; rfl
      · intro y hy
        rcases List.mem_append.mp hy with z | z
        · exact q5 y z
        · rw [List.mem_singleton] at z
          rw [z]; exact ⟨x0, x1⟩
    · obtain ⟨q1, q2, own, q3, q4, q5⟩ := q
      intro t o nt nd0
      have nDt : D ≠ t := free_ne q3 nt
      have st := same_new (o := o) nt
      have b6 := q1.trans (But.of st)
      have di6 := q2.same st
      have ho6 := st _ _ q3
      have ntd := q2.free nt
      have ntH : H t = none := but_free q1 nt ntd
      generalize upd H5 t o = H6 at st b6 di6 ho6 nd0
      clear b3 di3 st nt q1 q2 q3 hD
      have ho7 := ho6
      -- the rows ahead
      refine ⟨_, rfl, _, rfl, S, A', rfl, s1, by omega, fun H7 lp e7 nlp ⟨as1, hlp, tr1⟩ => ?_⟩
      have b7 := b6.trans (But.of e7)
      have di7 := di6.same e7
      have ho7 := e7 _ _ ho6
      have nd7 := nd0.same e7
      have nlt : lp ≠ t := by
        obtain ⟨ys, ep, n, _⟩ := nd0
        exact (free_ne n.obj nlp).symm
      have nld : lp ≠ d := di6.free nlp
      have tr1l := tr1.len
      have rb1 := rowsT_bound (S := S) (k := A') s1 a1
      have rb2 := rowsT_bound (S := S) (k := B) s1 b1'
      clear e7 ho6 nd0 di6 b6 nlp
      refine ⟨lp, rfl, ⟨_, SqL.of hlp⟩, for_list (K := K) (a := lp) (xs := as1.map V.ref) (fun i σ H' => ∃ (kvs : List (NK × NK)) (v10 v11 v12 : Option V), σ = [some (.ref d), some (.ref z), some (.int (S : Int)), some (.int (A' : Int)), some (.int (B : Int)), some (.int (ki : Int)), some (.int ch), some (.ref D), none, some (.ref t), v10, v11, v12] ∧ But2 d t H7 H' ∧ Dice H' d c ∧ ND P w H' t kvs ∧ (∀ e ∈ kvs, GoodE S A' B e.1 e.2) ∧ kvs.length ≤ i * 54)
        ⟨[], none, none, none, rfl, fun _ _ _ _ h => h, di7, nd7, fun e he => (by cases he), Nat.zero_le _⟩ (fun i σ H' _ p => ?_) (fun i x σ H' hx p => ?_) (fun σ H' p => ?_)⟩
      · obtain ⟨_, _, _, _, _, p, _⟩ := p
        exact SqL.of (p _ _ nld nlt hlp)
      · obtain ⟨kvs, v10, v11, v12, rfl, p1, p2, p3, good, p5⟩ := p
        obtain ⟨la, rfl, hla⟩ := ref_at hx
        obtain ⟨l, hl, tl⟩ := tr1.get hla
        have hlm := List.mem_of_getElem? hl
        have hli := (List.getElem?_eq_some_iff.mp hl).1
        have l1 := (mem_rowsT.mp hlm).1
        have l2 := (mem_rowsT.mp hlm).2.1
        have l3 := (mem_rowsT.mp hlm).2.2
        have tl1 : TR H' la l := tup_but2 nd7 di7 p1 tl
        have ho1 := p1 _ _ nDd nDt ho7
        -- the rows behind
        refine ⟨_, rfl, _, rfl, S, B, rfl, s1, by omega, fun H8 rp e8 nrp ⟨as2, hrp, tr2⟩ => ?_⟩
        have nrt : rp ≠ t := by
          obtain ⟨ys, ep, n, _⟩ := p3
          exact (free_ne n.obj nrp).symm
        have nrd : rp ≠ d := p2.free nrp
        have tr2l := tr2.len
        have b78 := p1.trans (But2.of e8)
        have di8 := p2.same e8
        have nd8 := p3.same e8
        have tl8 := tl1.mono e8
        have ho8 := e8 _ _ ho1
        refine ⟨rp, rfl, ⟨_, SqL.of hrp⟩, for_list (K := K) (a := rp) (xs := as2.map V.ref) (fun j σ H' => ∃ (kvs : List (NK × NK)) (v11 v12 : Option V), σ = [some (.ref d), some (.ref z), some (.int (S : Int)), some (.int (A' : Int)), some (.int (B : Int)), some (.int (ki : Int)), some (.int ch), some (.ref D), none, some (.ref t), some (.ref la), v11, v12] ∧ But2 d t H8 H' ∧ Dice H' d c ∧ ND P w H' t kvs ∧ (∀ e ∈ kvs, GoodE S A' B e.1 e.2) ∧ kvs.length ≤ i * 54 + j)
          ⟨kvs, _, _, rfl, fun _ _ _ _ h => h, di8, nd8, good, by omega⟩ (fun j σ H' _ p => ?_) (fun j x σ H' hx p => ?_) (fun σ H' p => ?_)⟩
        · obtain ⟨_, _, _, _, p, _⟩ := p
          exact SqL.of (p _ _ nrd nrt hrp)
        · obtain ⟨kvs, v11, v12, rfl, p1, p2, p3, good, p5⟩ := p
          obtain ⟨ra, rfl, hra⟩ := ref_at hx
          obtain ⟨r, hr', trr⟩ := tr2.get hra
          have hrm := List.mem_of_getElem? hr'
          have hri := (List.getElem?_eq_some_iff.mp hr').1
          have r1 := (mem_rowsT.mp hrm).1
          have r2 := (mem_rowsT.mp hrm).2.1
          have r3 := (mem_rowsT.mp hrm).2.2
          have tl9 : TR H' la l := tup_but2 nd8 di8 p1 tl8
          have tr9 : TR H' ra r := tup_but2 nd8 di8 p1 trr
          have ho9 := p1 _ _ nDd nDt ho8
          -- drawn
          refine ⟨_, rfl, d, c, 12, rfl, p2, by decide, by decide, fun H9 dv b9 di9 d0 d1 => ?_⟩
          have bX := p1.trans (But2.of1 b9)
          have nX := p3.but p2 b9
          have tlX := tl9.but p2 b9
          have trX := tr9.but p2 b9
          have hoX := b9 _ _ nDd ho9
          have diX := di9
          clear p1 p3 b9 tl9 tr9 ho9
          refine ⟨_, rfl, _, _, rfl, rfl, _, rfl, rfl, decide (V.int (ki : Int) = V.int 5), rfl, ?_⟩
          by_cases h5 : V.int (ki : Int) = V.int 5
          · rw [decide_eq_true h5]
            refine iteT ?_
            have hy : l[l.length - 1]? = some (l[l.length - 1]'(by omega)) := List.getElem?_eq_getElem (by omega)
            have hyv := l3 _ (List.mem_of_getElem? hy)
            generalize l[l.length - 1]'(by omega) = y at hy hyv
            obtain ⟨yn, rfl⟩ : ∃ yn : Nat, y = (yn : Int) := ⟨y.toNat, by omega⟩
            have ho : own[yn]? = some (own[yn]'(by omega)) := List.getElem?_eq_getElem (by omega)
            have hov := q5 _ (List.mem_of_getElem? ho)
            generalize own[yn]'(by omega) = ov at ho hov
            refine ⟨_, rfl, _, rfl, _, rfl, slA_go tlX (cut_init l) fun p1 H10 e10 t10 => ?_⟩
            refine ⟨_, rfl, _, rfl, _, rfl, la, _, _, .int (yn : Int), rfl, rfl, (tlX.mono e10).seq, at_last hy l1, D, _, _, .int ov, rfl, rfl, SqL.of (e10 _ _ hoX), at_of (j := yn) rfl (by rw [List.getElem?_map, ho]; rfl), by show 1 ≤ sizeLine; decide, fun p2' np2 => ?_⟩
            have s11 := same_new (o := .tup [.int ov]) np2
            have t11 : TR (upd H10 p2' (.tup [.int ov])) p2' [ov] := upd_same
            refine catA_go (t10.mono s11) t11 (by rw [List.length_take]; show _ + 1 ≤ _; omega) fun p3' H12 e12 t12 => ?_
            refine ⟨_, rfl, by show 2 ≤ sizeLine; decide, fun p4 np4 => ?_⟩
            have s13 := same_new (o := .tup [.ref p3', .ref ra]) np4
            have eA := ((e10.trans s11).trans e12).trans s13
            have nX := nX.same eA
            have tlX := tlX.mono eA
            have trX := trX.mono eA
            have diX := diX.same eA
            have bX := bX.trans (But2.of eA)
            have pv4 : PR (upd H12 p4 (.tup [.ref p3', .ref ra])) p4 (l.take (l.length - 1) ++ [ov], r) := ⟨p3', ra, upd_same, t12.mono s13, trX⟩
            have lv : (l.take (l.length - 1) ++ [ov]).length = l.length := by rw [List.length_append, List.length_take, List.length_singleton]; omega
            have vv : Val (S : Int) (l.take (l.length - 1) ++ [ov]) := by
              intro u hu'
              rcases List.mem_append.mp hu' with z1 | z1
              · exact l3 u (List.mem_of_mem_take z1)
              · rw [List.mem_singleton] at z1
                rw [z1]; exact hov
            generalize upd H12 p4 (.tup [.ref p3', .ref ra]) = H13 at nX tlX trX diX bX pv4
            refine ⟨_, rfl, _, rfl, _, rfl, by show 2 ≤ sizeLine; decide, fun p5 np5 => ?_⟩
            have s5 := same_new (o := .tup [.ref la, .ref ra]) np5
            have n5 := nX.same s5
            refine ⟨t, p5, p4, (l, r), (l.take (l.length - 1) ++ [ov], r), kvs, rfl, rfl, rfl, n5, ⟨la, ra, upd_same, tlX.mono s5, trX.mono s5⟩, pv4.same s5, Nat.lt_of_le_of_lt (show kvs.length ≤ 6000 by omega) (by decide), fun o' kvs' nd' mem' len' => ?_⟩
            refine ⟨kvs', _, _, rfl, ((bX.trans (But2.of s5)).upd), (diX.same s5).mut (n5.dne (diX.same s5)).1 (n5.dne (diX.same s5)).2, nd', ?_, by omega⟩
            intro e he
            rcases mem' e he with z1 | z1
            · exact good e z1
            · rw [z1]; exact GoodE.new rfl hlm hrm vv r3 lv rfl
          · rw [decide_eq_false h5]
            refine iteF ⟨_, rfl, _, _, rfl, rfl, _, rfl, ?_⟩
            by_cases h0 : (0 : Int) < (ki : Int)
            · rw [decide_eq_true h0]
              refine iteT ⟨_, rfl, _, rfl, ?_⟩
              by_cases hd12 : dv < ch
              · rw [decide_eq_true hd12]
                refine iteT ?_
                refine ⟨_, rfl, _, rfl, _, rfl, d, c, la, S, l, rfl, diX, tlX, l3, by omega, by omega, by omega, fun H10 p1' lv' b10 di10 t10 q14 q16 => ?_⟩
                have tl10 := tlX.but diX b10
                have tr10 := trX.but diX b10
                have nd10 := nX.but diX b10
                have bX := bX.trans (But2.of1 b10)
                refine ⟨_, rfl, _, rfl, _, rfl, d, c, ra, S, r, rfl, di10, tr10, r3, by omega, by omega, by omega, fun H11 p2' rv' b11 di11 t11 q15 q17 => ?_⟩
                have tlX := tl10.but di10 b11
                have trX := tr10.but di10 b11
                have nX := nd10.but di10 b11
                have bX := bX.trans (But2.of1 b11)
                have t10 := t10.but di10 b11
                refine ⟨by show 2 ≤ sizeLine; decide, fun p4 np4 => ?_⟩
                have s13 := same_new (o := .tup [.ref p1', .ref p2']) np4
                have nX := nX.same s13
                have tlX := tlX.mono s13
                have trX := trX.mono s13
                have diX := di11.same s13
                have bX := bX.trans (But2.of s13)
                have pv4 : PR (upd H11 p4 (.tup [.ref p1', .ref p2'])) p4 (lv', rv') := ⟨p1', p2', upd_same, t10.mono s13, t11.mono s13⟩
                generalize upd H11 p4 (.tup [.ref p1', .ref p2']) = H13 at nX tlX trX diX bX pv4
                refine ⟨_, rfl, _, rfl, _, rfl, by show 2 ≤ sizeLine; decide, fun p5 np5 => ?_⟩
                have s5 := same_new (o := .tup [.ref la, .ref ra]) np5
                have n5 := nX.same s5
                refine ⟨t, p5, p4, (l, r), (lv', rv'), kvs, rfl, rfl, rfl, n5, ⟨la, ra, upd_same, tlX.mono s5, trX.mono s5⟩, pv4.same s5, Nat.lt_of_le_of_lt (show kvs.length ≤ 6000 by omega) (by decide), fun o' kvs' nd' mem' len' => ?_⟩
                refine ⟨kvs', _, _, rfl, ((bX.trans (But2.of s5)).upd), (diX.same s5).mut (n5.dne (diX.same s5)).1 (n5.dne (diX.same s5)).2, nd', ?_, by omega⟩
                intro e he
                rcases mem' e he with z1 | z1
                · exact good e z1
                · rw [z1]; exact GoodE.new rfl hlm hrm q14 q15 q16 q17
              · rw [decide_eq_false hd12]
                exact iteF ⟨kvs, _, _, rfl, bX, diX, nX, good, by omega⟩
            · rw [decide_eq_false h0]
              exact iteF (iteF ⟨kvs, _, _, rfl, bX, diX, nX, good, by omega⟩)
        · obtain ⟨kvs, v11, v12, rfl, p1, p2, p3, good, p5⟩ := p
          rw [List.length_map] at p5
          exact ⟨kvs, _, _, _, rfl, b78.trans p1, p2, p3, good, by omega⟩
      · obtain ⟨kvs, v10, v11, v12, rfl, p1, p2, p3, good, p5⟩ := p
        rw [List.length_map] at p5
        refine ⟨_, rfl, _, rfl, _, rfl, _, rfl, by show 4 ≤ sizeLine; decide, fun pr npr => ?_⟩
        have s9 := same_new (o := .tup [.int (S : Int), .int (A' : Int), .int (B : Int), .ref t]) npr
        refine k _ pr t S A' B kvs (fun a o n h => s9 _ _ ?_) (p2.same s9) ⟨upd_same, p3.same s9⟩ s0 s1 a0 a1 b0 b1' good (by omega)
        exact p1 a o n (fun z => by rw [z, ntH] at h; cases h) (b7 a o n h)
end
end K66
/-! min(t), t.index(x) of a tuple of ints -/
namespace K66
open PySem PySem.Spec PyProof.Rows L2
section
variable {X : Cx}
def rMinT (K : PySem.W.Frag) : List V → Hp → VK → Prop := fun vs H Q => ∃ (a : Addr) (ns : List Int), vs = [V.ref a] ∧ SqT K H a (ns.map V.int) ∧ 0 < ns.length ∧ ∀ m, m ∈ ns → (∀ y, y ∈ ns → m ≤ y) → Q (.int m) H
theorem cr_minT (hc : X.calm = true) : CallR X (.builtin "min") (rMinT X.K) := by
  intro pins s σ H vs us Q I r h
  obtain ⟨a, ns, rfl, hs, hne, q⟩ := h
  rw [Vals.ref1 r]
  obtain ⟨its, rv, p, _⟩ := I.tuple hs
  obtain ⟨ob, ho, _⟩ := id p
  have hlt : a < s.heap.objs.size := Heap.lt_size ho
  have hlv : its.length = ns.length := by rw [← rv.length, List.length_map]
  have hval : ∀ (i : Nat) (v : Value), its.toArray[i]? = some v → ∃ t, v = Value.int (ns.getD i 0) t := fun i v hk => by
    have hk : its[i]? = some v := by simpa using hk
    have hi : i < ns.length := by rw [← hlv]; exact (List.getElem?_eq_some_iff.mp hk).1
    obtain ⟨u, hu, t, hut⟩ := rv.get (i := i) (x := .int ns[i]) (by simp [hi])
    rw [hk] at hu
    cases hu
    exact ⟨t, by rw [hut, List.getD_eq_getElem?_getD, List.getElem?_eq_getElem hi]; rfl⟩
  have p' : s.heap.IsTuple a its.toArray := p
  refine call_min_walk (wpAny_pyIter_tuple p' ?_)
  refine ⟨_, _, _, _, _, _, _, rfl, Walks.tuple (A := X.A.in1) (I.ok.hd hc) s.heap.objs.size a (Nat.ne_of_lt hlt) its.toArray,
    ⟨⟨_, Heap.get?_push_size _ rfl, rfl, rfl⟩, p'.push _⟩, fun b hb => ?_, by rw [List.size_toArray, hlv]; exact hne, CmpOf.ints_lt (fun i => ns.getD i 0) hval, fun v h' tk hP hk => ?_⟩
  · show b < (s.heap.push _).objs.size
    rw [Heap.size_push]
    rcases List.mem_cons.mp hb with e | hb
    · rw [e]
      exact Nat.lt_succ_self _
    · rw [List.mem_singleton.mp hb]
      exact Nat.lt_succ_of_lt hlt
  · obtain ⟨t, rfl⟩ := hval _ v hP
    have hsz : its.toArray.size = ns.length := by rw [List.size_toArray, hlv]
    obtain ⟨b1, b2⟩ := argBest_lt (fun i => ns.getD i 0) (its.toArray.size - 1)
    refine ⟨.int _, H, I.kept (t' := tk) fun b u e => hk b u (fun hmem => ?_) (Heap.get?_push_of_some _ e), ⟨t, rfl⟩, q _ ?_ fun j hj => ?_⟩
    · have e1 : b = s.heap.objs.size := List.mem_singleton.mp hmem
      have e2 := Heap.lt_size e
      rw [e1] at e2
      exact absurd e2 (Nat.lt_irrefl _)
    · have hb : argBest (fun i j => decide (ns.getD i 0 < ns.getD j 0)) (its.toArray.size - 1) < ns.length := by omega
      rw [List.getD_eq_getElem?_getD, List.getElem?_eq_getElem hb]
      exact List.getElem_mem hb
    · obtain ⟨i, hi, e⟩ := List.mem_iff_getElem.mp hj
      have e2 : ns.getD i 0 = j := by rw [List.getD_eq_getElem?_getD, List.getElem?_eq_getElem hi, ← e] <;> rfl
      rw [← e2]
      exact b2 i (by omega)
def rIndexT (K : PySem.W.Frag) : V → List V → Hp → VK → Prop := fun x xs H Q => ∃ (a : Addr) (ys : List V) (y : V) (j : Nat) (z : V), x = V.ref a ∧ xs = [y] ∧ SqT K H a ys ∧ flatV y = true ∧ ys.all flatV = true ∧ ys[j]? = some z ∧ eqV z y = true ∧
  (∀ (m : Nat) (z' : V), m < j → ys[m]? = some z' → eqV z' y = false) ∧ Q (.int (j : Nat)) H
theorem mt_indexT : MtR X "tuple.index" (rIndexT X.K) := by
  intro pins s σ H x xs v us Q I rx rxs h
  obtain ⟨a, ys, y, j, z, rfl, rfl, hs, fy, fys, hz, hzj, hno, q⟩ := h
  cases rx
  cases rxs with
  | cons ry rt =>
    rename_i uy ut
    cases rt
    obtain ⟨its, rv, ⟨⟨cls, dd, data, sl⟩, ho, hc, n, hd⟩, hlen⟩ := I.tuple hs
    simp only at hc hd
    subst hc hd
    obtain ⟨u, hu, ru⟩ := rv.get hz
    obtain ⟨hjl, hje⟩ := List.getElem?_eq_some_iff.mp hu
    have hvl := rv.length
    have hj : j < its.toArray.size := by simpa using hjl
    refine call_meets PySem.F.slot_tuple_index ⟨_, ho, rfl⟩ PySem.F.entry_tuple_index (PySem.F.args_tuple_index_2 _ _)
      (TI.tuple_indexAt a its.toArray n dd sl uy (eqU y) j hj ?_ ?_) ⟨ho, fun u' hu' => mem_eqAt ry fy rv fys u' (by simpa using hu'), ?_⟩
    · have e1 : its.toArray[j] = u := by simpa using hje
      rw [e1, eqU_of ru (flat_at fys hz)]
      exact hzj
    · intro m hm hmj
      have hml : m < its.length := by simpa using hm
      have hmy : m < ys.length := by omega
      have hy' : ys[m]? = some ys[m] := List.getElem?_eq_getElem hmy
      obtain ⟨u2, hu2, ru2⟩ := rv.get hy'
      obtain ⟨_, hme⟩ := List.getElem?_eq_some_iff.mp hu2
      have e1 : its.toArray[m] = u2 := by simpa using hme
      rw [e1, eqU_of ru2 (flat_at fys hy')]
      exact hno m _ hmj hy'
    · exact ⟨.int (j : Nat), H, I.tok _, ⟨_, rfl⟩, q⟩
end
end K66
/-! tuples of ints whose object is known: slices, min, index -/
namespace K66
open PySem PySem.Spec PyProof.Rows L2
/-- a tuple of ints, its object without a dict -/
def txO (a : Addr) (r : Row) : HO := .ext fun h => r.length ≤ sizeLine ∧ ∃ (its : List Value) (n : Nat), Vals (r.map V.int) its ∧ h.get? a = some { cls := .type "tuple", data := .seq its.toArray n }
def TX (H : Hp) (a : Addr) (r : Row) : Prop := H a = some (txO a r)
theorem TX.same {H H' : Hp} {a : Addr} {r : Row} (h : TX H a r) (e : Same H H') : TX H' a r := e _ _ h
section
variable {X : Cx} {pins : List (Addr × Obj)} {σ : L2.St} {H : Hp} {s : Shared} {a : Addr} {r : Row}
theorem TX.at (I : Inv X pins σ H s) (h : TX H a r) : ∃ its : List Value, Vals (r.map V.int) its ∧ (∃ n, s.heap.get? a = some { cls := .type "tuple", data := .seq its.toArray n }) ∧ r.length ≤ sizeLine := by
  obtain ⟨⟨hz, its, n, rv, ho⟩, _⟩ := I.hok a _ h
  exact ⟨its, rv, ⟨n, ho⟩, hz⟩
theorem tx_ok {P : Program} {w : World} {H : Hp} {h : Heap} {its : List Value} (hz : r.length ≤ sizeLine) (rv : Vals (r.map V.int) its) : ObjOk P w H (h.push { cls := .type "tuple", data := .seq its.toArray }) h.objs.size (txO h.objs.size r) :=
  ⟨⟨hz, its, _, rv, Heap.get?_push_size _ rfl⟩, ⟨_, Heap.get?_push_size _ rfl⟩, fun h1 h2 q e => by
    obtain ⟨q1, its, n, q2, q3⟩ := q
    exact ⟨q1, its, n, q2, e _ q3⟩⟩
/-- tuple(xs), of the kind that is wanted -/
def rTupX (K : PySem.W.Frag) : List V → Hp → VK → Prop := fun xs H Q => ∃ (p : Addr) (r : Row) (m : Bool), xs = [.ref p] ∧ SqL K H p (r.map V.int) ∧ ∀ l, H l = none → Q (.ref l) (upd H l (if m = true then txO l r else .tup (r.map V.int)))
theorem call_tupX : CallR X (.type "tuple") (rTupX X.K) := by
  intro pins s σ H xs us Q I r h
  obtain ⟨p, ys, m, rfl, hq, q⟩ := h
  obtain ⟨u, rfl, rx⟩ := vals1 r
  cases rx
  obtain ⟨its, r', pl, hz⟩ := I.list hq
  have hlen := r'.length
  refine call_tuple_list pl.isList (fun h' kp => ?_) (by simp only [List.size_toArray] <;> omega)
  have I1 : Inv X pins σ H { s with heap := h' } := I.kept (t' := s.toks) kp
  cases m with
  | true =>
    have I2 : Inv X pins σ (upd H h'.objs.size (txO h'.objs.size ys)) { s with heap := h'.push { cls := .type "tuple", data := .seq its.toArray } } :=
      I1.laid (t' := s.toks) (fun b o e => Heap.get?_push_of_some _ e) (Nat.le_refl _) (tx_ok (by rw [List.length_map] at hz; exact hz) r')
    exact ⟨.ref h'.objs.size, _, I2, rfl, q _ (I1.hok.fresh (Nat.le_refl _))⟩
  | false =>
    have I2 : Inv X pins σ (upd H h'.objs.size (.tup (ys.map V.int))) { s with heap := h'.push { cls := .type "tuple", data := .seq its.toArray } } :=
      I1.laid (t' := s.toks) (fun b o e => Heap.get?_push_of_some _ e) (Nat.le_refl _) (show ObjOk X.prog X.w _ _ _ (.tup (ys.map V.int)) from ⟨hz, its, r', IsTup.new _ _⟩)
    exact ⟨.ref h'.objs.size, _, I2, rfl, q _ (I1.hok.fresh (Nat.le_refl _))⟩
/-- a slice -/
def rSlX : V → Option Int → Option Int → Hp → VK → Prop := fun x lo hi H Q => ∃ (a : Addr) (r res : Row), x = .ref a ∧ TX H a r ∧ cutV (r.map V.int) lo hi = res.map V.int ∧ ∀ p H', Same H H' → TX H' p res → Q (.ref p) H'
theorem sl_X : SlR X rSlX := by
  intro pins s σ H x v vl vu lo hi sl Q I rx hs pl pu h
  obtain ⟨a, r, res, rfl, hx, hc, q⟩ := h
  cases rx
  obtain ⟨its, rv, ⟨n, ho⟩, hz⟩ := hx.at I
  have ht : IsTup s.heap a its.toArray := ⟨_, ho, rfl, n, rfl⟩
  have hlen : its.toArray.size = (r.map V.int).length := by rw [List.size_toArray]; exact rv.length.symm
  have hzm : (r.map V.int).length ≤ sizeLine := by rw [List.length_map]; exact hz
  refine ⟨"tuple", _, PyProof.Rows.slot_tuple_getitem.lookup, ht.typeIs, ?_⟩
  by_cases hw : HT.sIx (r.map V.int).length 0 lo = 0 ∧ HT.sIx (r.map V.int).length (r.map V.int).length hi = (r.map V.int).length
  · have er : res = r := by
      unfold cutV at hc
      rw [hw.1, hw.2, List.drop_zero, Nat.sub_zero, List.take_length] at hc
      exact int_inj hc.symm
    subst er
    exact getItem_tuple_whole ht hs pl pu (by rw [hlen]; exact hw) ⟨.ref a, H, I, rfl, q a H (Same.refl _) hx⟩
  · refine HT.getItem_tuple_cut ht hs pl pu (by rw [hlen]; exact hw) ?_ (by rw [hlen]; exact hzm)
    rw [hlen]
    have hn := I.hok.fresh (Nat.le_refl s.heap.objs.size)
    have rv' := (rv.drop (HT.sIx (r.map V.int).length 0 lo)).take (HT.sIx (r.map V.int).length (r.map V.int).length hi - HT.sIx (r.map V.int).length 0 lo)
    have hc' : ((r.map V.int).drop (HT.sIx (r.map V.int).length 0 lo)).take (HT.sIx (r.map V.int).length (r.map V.int).length hi - HT.sIx (r.map V.int).length 0 lo) = res.map V.int := hc
    rw [hc'] at rv'
    have lr : res.length ≤ sizeLine := by
      have := cutV_length (r.map V.int) lo hi
      rw [hc, List.length_map] at this
      omega
    exact ⟨.ref s.heap.objs.size, _, I.laid (t' := s.toks) (o := txO s.heap.objs.size res) (fun b ob q => Heap.get?_push_of_some _ q) (Nat.le_refl _) (tx_ok lr rv'), rfl, q _ _ (same_new hn) upd_same⟩
/-- min(t) -/
def rMinX : List V → Hp → VK → Prop := fun vs H Q => ∃ (a : Addr) (ns : Row), vs = [V.ref a] ∧ TX H a ns ∧ 0 < ns.length ∧ ∀ m, m ∈ ns → (∀ y, y ∈ ns → m ≤ y) → Q (.int m) H
theorem cr_minX (hc : X.calm = true) : CallR X (.builtin "min") rMinX := by
  intro pins s σ H vs us Q I r h
  obtain ⟨a, ns, rfl, hs, hne, q⟩ := h
  rw [Vals.ref1 r]
  obtain ⟨its, rv, ⟨n, ho⟩, _⟩ := hs.at I
  have hlt : a < s.heap.objs.size := Heap.lt_size ho
  have hlv : its.length = ns.length := by rw [← rv.length, List.length_map]
  have hval : ∀ (i : Nat) (v : Value), its.toArray[i]? = some v → ∃ t, v = Value.int (ns.getD i 0) t := fun i v hk => by
    have hk : its[i]? = some v := by simpa using hk
    have hi : i < ns.length := by rw [← hlv]; exact (List.getElem?_eq_some_iff.mp hk).1
    obtain ⟨u, hu, t, hut⟩ := rv.get (i := i) (x := .int ns[i]) (by simp [hi])
    rw [hk] at hu
    cases hu
    exact ⟨t, by rw [hut, List.getD_eq_getElem?_getD, List.getElem?_eq_getElem hi]; rfl⟩
  have p' : s.heap.IsTuple a its.toArray := ⟨_, ho, rfl, n, rfl⟩
  refine call_min_walk (wpAny_pyIter_tuple p' ?_)
  refine ⟨_, _, _, _, _, _, _, rfl, Walks.tuple (A := X.A.in1) (I.ok.hd hc) s.heap.objs.size a (Nat.ne_of_lt hlt) its.toArray,
    ⟨⟨_, Heap.get?_push_size _ rfl, rfl, rfl⟩, p'.push _⟩, fun b hb => ?_, by rw [List.size_toArray, hlv]; exact hne, CmpOf.ints_lt (fun i => ns.getD i 0) hval, fun v h' tk hP hk => ?_⟩
  · show b < (s.heap.push _).objs.size
    rw [Heap.size_push]
    rcases List.mem_cons.mp hb with e | hb
    · rw [e]
      exact Nat.lt_succ_self _
    · rw [List.mem_singleton.mp hb]
      exact Nat.lt_succ_of_lt hlt
  · obtain ⟨t, rfl⟩ := hval _ v hP
    have hsz : its.toArray.size = ns.length := by rw [List.size_toArray, hlv]
    obtain ⟨b1, b2⟩ := argBest_lt (fun i => ns.getD i 0) (its.toArray.size - 1)
    refine ⟨.int _, H, I.kept (t' := tk) fun b u e => hk b u (fun hmem => ?_) (Heap.get?_push_of_some _ e), ⟨t, rfl⟩, q _ ?_ fun j hj => ?_⟩
    · have e1 : b = s.heap.objs.size := List.mem_singleton.mp hmem
      have e2 := Heap.lt_size e
      rw [e1] at e2
      exact absurd e2 (Nat.lt_irrefl _)
    · have hb : argBest (fun i j => decide (ns.getD i 0 < ns.getD j 0)) (its.toArray.size - 1) < ns.length := by omega
      rw [List.getD_eq_getElem?_getD, List.getElem?_eq_getElem hb]
      exact List.getElem_mem hb
    · obtain ⟨i, hi, e⟩ := List.mem_iff_getElem.mp hj
      have e2 : ns.getD i 0 = j := by rw [List.getD_eq_getElem?_getD, List.getElem?_eq_getElem hi, ← e] <;> rfl
      rw [← e2]
      exact b2 i (by omega)
/-- t.index(x), the first place -/
def tIndexX (to te : TE) : TE := fun σ H Q => to σ H fun x H1 => (∃ a r, x = .ref a ∧ TX H1 a r) ∧ te σ H1 fun y H2 => ∃ (a : Addr) (r : Row) (z : Int) (j : Nat), x = .ref a ∧ y = .int z ∧ TX H2 a r ∧ r[j]? = some z ∧ (∀ m, m < j → r[m]? ≠ some z) ∧ Q (.int (j : Nat)) H2
theorem flat_ints (r : Row) : (r.map V.int).all flatV = true := by
  rw [List.all_map]
  exact List.all_eq_true.mpr fun _ _ => rfl
theorem pe_indexX {o e : Expr} {to te : TE} {apos cpos : Pos} (ho : PE X o to) (he : PE X e te) 
    (hbase : attributeBase o "index" X.env (eval o X.env) = eval o X.env := by rfl)
    (hfew : ((backTo cpos (starEach [e] X.env)).all (fun x => !x.1) && (backToKw cpos (keywordEach [] X.env)).all (fun x => x.1.isSome)
      && decide ([e].length + ([] : List Keyword).length + (if ([] : List Keyword).isEmpty then 0 else 1) < 30)) = true := by rfl)
    (hline : (apos.endLine == cpos.line) = true := by rfl) (hs : backTo cpos (starEach [e] X.env) = [(false, eval e X.env)] := by rfl) :
    PE X (.Call (.Attribute o "index" apos) [e] [] cpos) (tIndexX to te) := by
  refine ⟨fun pins s σ H Q I h => ?_⟩
  refine wpAny_Call_method_late hbase hfew hline rfl (thn (ho.run pins s σ H _ I h) fun v s1 ⟨x, H1, I1, rx, ⟨a, r, ex, hx⟩, q1⟩ => ?_)
  subst ex
  obtain rfl : v = Value.ref a := rx
  obtain ⟨its1, _, ⟨n1, ho1⟩, _⟩ := hx.at I1
  refine ⟨"tuple", _, PySem.F.plainAttrs_tuple, PySem.F.slot_tuple_index, PySem.F.type_tuple_index, ⟨_, ho1, rfl⟩, fun b e => by cases e; exact ⟨_, ho1, rfl⟩, ?_⟩
  rw [hs]
  refine Calls.callWith_builtin rfl (Calls.evalArgs_plain (Calls.spliced_cons (thn (he.run pins s1 σ H1 _ I1 q1) fun iv s2 ⟨y, H2, I2, ry, q2⟩ => Calls.spliced_nil ?_)))
  obtain ⟨a2, r2, z, j, ea, ey, hx2, hz, hno, q⟩ := q2
  cases ea
  subst ey
  obtain ⟨t, rfl⟩ := ry
  obtain ⟨its, rv, ⟨n, ho⟩, _⟩ := hx2.at I2
  have hl : its.toArray.size = r2.length := by rw [List.size_toArray, ← rv.length, List.length_map]
  have hj : j < its.toArray.size := by rw [hl]; exact (List.getElem?_eq_some_iff.mp hz).1
  have at' : ∀ (m : Nat) (hm : m < its.toArray.size), ∃ y t', r2[m]? = some y ∧ its.toArray[m] = Value.int y t' := fun m hm => by
    have hm' : m < r2.length := by rw [← hl]; exact hm
    obtain ⟨w, hw, t', hw'⟩ := rv.get (i := m) (x := .int r2[m]) (by simp [hm'])
    refine ⟨r2[m], t', List.getElem?_eq_getElem hm', ?_⟩
    have e := (List.getElem?_eq_some_iff.mp hw).2
    rw [← hw', ← e]
    simp
  refine call_meets PySem.F.slot_tuple_index ⟨_, ho, rfl⟩ PySem.F.entry_tuple_index (PySem.F.args_tuple_index_2 _ _) (TI.tuple_indexAt a its.toArray n none #[] (.int z t) (eqU (.int z)) j hj ?_ ?_)
    ⟨ho, fun w hw => mem_eqAt (x := .int z) ⟨t, rfl⟩ rfl rv (flat_ints r2) w (by simpa using hw), ⟨.int (j : Nat), H2, I2.tok _, ⟨_, rfl⟩, q⟩⟩
  · obtain ⟨y, t', h1, h2⟩ := at' j hj
    rw [hz] at h1
    cases h1
    rw [h2]
    show (z == z) = true
    exact beq_self_eq_true z
  · intro m hm hmj
    obtain ⟨y, t', h1, h2⟩ := at' m hm
    rw [h2]
    show (y == z) = false
    exact beq_eq_false_iff_ne.mpr fun e => hno m hmj (e ▸ h1)
end
end K66
namespace K66
open PySem L2
theorem LBk.same {P : Program} {w : World} {H H' : Hp} {lb t : Addr} {S A B : Int} {kvs : List (NK × NK)} (h : LBk P w H lb t S A B kvs) (e : Same H H') : LBk P w H' lb t S A B kvs := ⟨e _ _ h.1, h.2.same e⟩
section
variable {P : Program} {w : World} {K : PySem.W.Frag} {mg : Str → Option Value} {base : Heap}
/-! _law_made -/
def spMade (P : Program) (w : World) (C : Addr) : Sp := fun vs H Q _ => ∃ (lb t : Addr) (S A B : Nat) (kvs : List (NK × NK)), vs = [.ref lb] ∧ LBk P w H lb t S A B kvs ∧ 1 ≤ S ∧ S ≤ 8 ∧ 1 ≤ A ∧ A ≤ 4 ∧ 1 ≤ B ∧ B ≤ 4 ∧ (∀ e ∈ kvs, GoodE S A B e.1 e.2) ∧ kvs.length ≤ 4000 ∧
  ∀ H' b, Same H H' → Bk P w C H' b S A B (keptOf kvs) → Q (.ref b) H'
theorem scMade : FnScope ["_law_book_here"] ["_law_book_here"] (C8.fnScope sMade) := ⟨rfl, rfl, rfl, by decide +kernel, rfl, by decide +kernel, by decide +kernel⟩
theorem okMade {f C : Addr} {fd : FuncData} (F : C8.Def K mg "_law_made" sMade f fd) (b : Binds K fd ["_law_book_here"] []) (G1 : C8.Mak P w K mg base 7 "Book" C (spBkInit P w C) []) : C8.Cal P w K mg base 9 "_law_made" (spMade P w C) [] := by
  refine C8.cal0 F b .nil scMade (fun vs H Q E h => ?_) (fun cdv A outer s H vs Q E hr h => ?_)
  · obtain ⟨lb, t, S, A, B, kvs, rfl, _⟩ := h; rfl
  · obtain ⟨lb, t, S, A', B, kvs, rfl, ⟨hlb, nd⟩, s0, s1, a0, a1, b0, b1, good, hz, k⟩ := h
    refine ⟨_, (pss_one (ps_ret (C8.pe_mk G1 hr (by decide) rfl (pa_cons (pe_ix ix_tup (pv 0) pe_int (fun _ _ => rfl)) (pa_cons (pe_ix ix_tup (pv 0) pe_int (fun _ _ => rfl)) (pa_cons (pe_ix ix_tup (pv 0) pe_int (fun _ _ => rfl)) (pa_cons (pe_ix ix_tup (pv 0) pe_int (fun _ _ => rfl)) pa_nil))))))), ?_⟩
    refine ⟨_, rfl, lb, _, _, _, rfl, rfl, SqT.of hlb, rfl, _, rfl, lb, _, _, _, rfl, rfl, SqT.of hlb, rfl, _, rfl, lb, _, _, _, rfl, rfl, SqT.of hlb, rfl, _, rfl, lb, _, _, _, rfl, rfl, SqT.of hlb, rfl, fun b dx nb ndx neb => ?_⟩
    have s0' : Same H (upd (upd H dx (.own b)) b (.ins C dx [])) := same_snew (same_new ndx) (by rw [upd_ne neb.symm]; exact nb)
    refine ⟨b, dx, t, S, A', B, kvs, rfl, upd_same, nd.same s0', hz, good, by omega, by omega, by omega, by omega, by omega, by omega, fun H1 b1 bk => ⟨rfl, k H1 b (fun x o q => b1 x o (fun z => by rw [z, nb] at q; cases q) (s0' x o q)) bk⟩⟩
/-! _law_met -/
def spMet (P : Program) (w : World) : Sp := fun vs H Q _ => ∃ (lb t la ra : Addr) (S A B : Nat) (kvs : List (NK × NK)) (x y : Row), vs = [.ref lb, .ref la, .ref ra] ∧ LBk P w H lb t S A B kvs ∧ TR H la x ∧ TR H ra y ∧ LenKv kvs ∧ x.length ≤ 1000 ∧ y.length ≤ 1000 ∧
  ∀ H' p, Same H H' → TR H' p (met (bF kvs) A B x y) → Q (.ref p) H'
abbrev nMt : List Str := ["_law_book_here", "_law_one", "_law_other", "_law_left", "_law_right", "_law_new_left", "_law_new_right"]
theorem scMet : FnScope nMt ["_law_book_here", "_law_one", "_law_other"] (C8.fnScope sMet) := ⟨rfl, rfl, rfl, by decide +kernel, rfl, by decide +kernel, by decide +kernel⟩

theorem okMet {f : Addr} {fd : FuncData} (F : C8.Def K mg "_law_met" sMet f fd) (b : Binds K fd ["_law_book_here", "_law_one", "_law_other"] []) (g : Gb mg) : C8.Cal P w K mg base 1 "_law_met" (spMet P w) [] := by
  refine C8.cal0 F b .nil scMet (fun vs H Q E h => ?_) (fun cdv A outer s H vs Q E hr h => ?_)
  · obtain ⟨lb, t, la, ra, S, A, B, kvs, x, y, rfl, _⟩ := h; rfl
  · obtain ⟨lb, t, la, ra, S, A', B, kvs, x, y, rfl, ⟨hlb, nd⟩, tl, tr, hl, hx, hy, k⟩ := h
    have hu : (A.deeper (PyProof.Rows.envOfC "_law_met" (C8.fnScope sMet) s.heap.objs.size f cdv)).units + 64 < cLine := hr.units
    refine ⟨_, (pss_cons (ps_set (i := 3) scMet.nd rfl (Or.inl rfl) (pe_slice sl_tupA (pv 1) (po_some (pe_callB (call_max2 rfl) rfl g.max PyProof.Rows.boot_max (pa_cons pe_int (pa_cons (pe_op op_sub (pe_callB call_len_seq rfl g.len PySem.boot_len (pa_cons (pv 1) pa_nil)) (pe_ix ix_tup (pv 0) pe_int (fun _ _ => rfl))) pa_nil)))) po_none)) (pss_cons (ps_set (i := 4) scMet.nd rfl (Or.inl rfl) (pe_slice sl_tupA (pv 2) po_none (po_some (pe_ix ix_tup (pv 0) pe_int (fun _ _ => rfl))))) (pss_cons (ps_asg (pe_getN hu (pe_ix ix_tup (pv 0) pe_int (fun _ _ => rfl)) (pe_tup (pa_cons (pv 3) (pa_cons (pv 4) pa_nil))) (pe_tup (pa_cons (pv 3) (pa_cons (pv 4) pa_nil))) ⟨rfl, rfl, rfl, rfl⟩) (pg_tup rfl (pgs_cons (pg_name (i := 5) scMet.nd rfl (Or.inl rfl)) (pgs_cons (pg_name (i := 6) scMet.nd rfl (Or.inl rfl)) pgs_nil)))) (pss_one (ps_ret (pe_op op_catA (pe_op op_catA (pe_op op_catA (pe_slice sl_tupA (pv 1) po_none (po_some (pe_op op_sub (pe_callB call_len_seq rfl g.len PySem.boot_len (pa_cons (pv 1) pa_nil)) (pe_callB call_len_seq rfl g.len PySem.boot_len (pa_cons (pv 3) pa_nil))))) (pv 5)) (pv 6)) (pe_slice sl_tupA (pv 2) (po_some (pe_callB call_len_seq rfl g.len PySem.boot_len (pa_cons (pv 4) pa_nil))) po_none))))))), ?_⟩
    refine ⟨_, rfl, _, rfl, la, _, rfl, .inr tl.seq, _, rfl, lb, _, _, _, rfl, rfl, SqT.of hlb, rfl, _, _, rfl, rfl, _, _, rfl, _, rfl, ?_⟩
    have ec : (if (((x.map V.int).length : Int) - (A' : Int)) > 0 then (((x.map V.int).length : Int) - (A' : Int)) else 0) = ((x.length - A' : Nat) : Int) := by rw [List.length_map]; split <;> omega
    rw [ec]
    refine sl_no (slA_go tl (cut_from x (x.length - A')) fun p1 H1 e1 t1 => ?_)
    refine ⟨_, rfl, _, rfl, lb, _, _, _, rfl, rfl, SqT.of (e1 _ _ hlb), rfl, _, rfl, ?_⟩
    refine slA_go (tr.mono e1) (cut_to y B) fun p2 H2 e2 t2 => ?_
    have e12 := e1.trans e2
    refine ⟨_, rfl, lb, _, _, _, rfl, rfl, SqT.of (e12 _ _ hlb), rfl, ⟨t, kvs, rfl, nd.same e12⟩, _, rfl, _, rfl, by show 2 ≤ sizeLine; decide, fun p3 np3 => ?_⟩
    have e3 := same_new (o := .tup [.ref p1, .ref p2]) np3
    refine ⟨_, rfl, _, rfl, by show 2 ≤ sizeLine; decide, fun p4 np4 => ?_⟩
    have e4 := same_new (o := .tup [.ref p1, .ref p2]) np4
    have t1b := (t1.mono e2).mono (e3.trans e4)
    have t2b := t2.mono (e3.trans e4)
    have e14 := e12.trans (e3.trans e4)
    refine ⟨t, p3, p4, (x.drop (x.length - A'), y.take B), (x.drop (x.length - A'), y.take B), kvs, rfl, rfl, nd.same e14, ⟨p1, p2, e4 _ _ upd_same, t1b, t2b⟩, ⟨p1, p2, upd_same, t1b, t2b⟩, fun q pq => ?_⟩
    obtain ⟨nl, nr, h5, n1, n2⟩ := pq
    replace n1 : TR _ nl (bF kvs (x.drop (x.length - A')) (y.take B)).1 := n1
    replace n2 : TR _ nr (bF kvs (x.drop (x.length - A')) (y.take B)).2 := n2
    have len1 := (hl.ok (x.drop (x.length - A')) (y.take B))
    refine ⟨q, _, rfl, SqT.of h5, rfl, _, _, rfl, _, _, rfl, rfl, ?_⟩
    generalize upd (upd H2 p3 (.tup [.ref p1, .ref p2])) p4 (.tup [.ref p1, .ref p2]) = H5 at e14 t1b t2b h5 n1 n2
    refine ⟨_, rfl, _, rfl, la, _, rfl, .inr (tl.mono e14).seq, _, rfl, p1, _, rfl, .inr t1b.seq, _, _, rfl, rfl, _, rfl, ?_⟩
    have ec : (((x.map V.int).length : Int) - (((x.drop (x.length - A')).map V.int).length : Int)) = ((x.length - A' : Nat) : Int) := by
      rw [List.length_map, List.length_map, List.length_drop]; omega
    rw [ec]
    refine slA_go (tl.mono e14) (cut_to x _) fun p6 H6 e6 t6 => ?_
    refine ⟨_, rfl, ?_⟩
    refine catA_go t6 (n1.mono e6) (by rw [len1.1, List.length_take, List.length_drop]; omega) fun p7 H7 e7 t7 => ?_
    refine ⟨_, rfl, ?_⟩
    refine catA_go t7 (n2.mono (e6.trans e7)) (by rw [len1.2, List.length_append, len1.1, List.length_take, List.length_drop, List.length_take]; omega) fun p8 H8 e8 t8 => ?_
    have e58 := (e6.trans e7).trans e8
    refine ⟨_, rfl, _, rfl, p2, _, rfl, .inr (t2b.mono e58).seq, _, rfl, ?_⟩
    rw [List.length_map, List.length_take]
    refine sl_no (slA_go (tr.mono (e14.trans e58)) (cut_from y _) fun p9 H9 e9 t9 => ?_)
    have ed : y.drop (min B y.length) = y.drop B := by
      by_cases h : B ≤ y.length
      · rw [Nat.min_eq_left h]
      · rw [Nat.min_eq_right (by omega), List.drop_length, List.drop_eq_nil_of_le (by omega)]
    rw [ed] at t9
    refine catA_go (t8.mono e9) t9 (by rw [List.length_append, len1.2, List.length_append, len1.1, List.length_take, List.length_drop, List.length_take, List.length_drop]; omega) fun p10 H10 e10 t10 => ?_
    refine k _ p10 (((e14.trans e58).trans e9).trans e10) ?_
    unfold met
    rw [List.append_assoc, List.append_assoc] at t10
    exact t10
end
end K66
namespace K66
open PySem L2
theorem seg_cut {L s : Row} {f : Nat} (h : Seg L f s) : (L.drop f).take s.length = s := by
  apply List.ext_getElem?
  intro k
  rw [List.getElem?_take, List.getElem?_drop]
  by_cases hk : k < s.length
  · rw [if_pos hk, h k _ (List.getElem?_eq_getElem hk), List.getElem?_eq_getElem hk]
  · rw [if_neg hk, List.getElem?_eq_none (by omega)]
theorem seg_len {L s : Row} {f : Nat} (h : Seg L f s) : s.length = 0 ∨ f + s.length ≤ L.length := by
  cases e : s.length with
  | zero => exact .inl rfl
  | succ n =>
    right
    have hk : n < s.length := by omega
    have := (List.getElem?_eq_some_iff.mp (h n _ (List.getElem?_eq_getElem hk))).1
    omega
theorem add_go {i j k : Int} {H : Hp} {Q : VK} (e : i + j = k) (h : Q (.int k) H) : rI0 (fun i j => V.int (i + j)) (.int i) (.int j) H Q := ⟨i, j, rfl, rfl, by subst e; exact h⟩
theorem part_le (ws : List Row) (f n : Nat) : (((ws.drop f).take n).flatten).length ≤ ws.flatten.length := by
  have h1 := st_part ws f n
  have h2 := take_flat_le ws (f + n)
  unfold st at h1
  omega
section
variable {P : Program} {w : World} {K : PySem.W.Frag} {mg : Str → Option Value} {base : Heap}
/-! _law_say, for phrases of at most n words -/
def spSay (P : Program) (w : World) (n : Nat) : Sp := fun vs H Q _ => ∃ (lb tb wa sa : Addr) (S A B : Nat) (kvs : List (NK × NK)) (ws : List Row) (full : Row) (t : Tr) (f : Nat) (d : Int),
  vs = [.ref lb, .ref wa, .ref sa, .int (f : Int), .int ((f + t.n - 1 : Nat) : Int)] ∧ LBk P w H lb tb S A B kvs ∧ TW H wa ws ∧ TX H sa full ∧ Seg full f (t.sh d) ∧ f + t.n ≤ ws.length ∧ t.n ≤ n ∧ LenKv kvs ∧ ws.flatten.length ≤ 1000 ∧
  ∀ H' p, Same H H' → TR H' p (t.say (met (bF kvs) A B) ws f) → Q (.ref p) H'
abbrev nSy : List Str := ["_law_book_here", "_law_words", "_law_shape", "_law_first", "_law_last", "_law_depths", "_law_seam", "_law_ahead"]
theorem scSay : FnScope nSy ["_law_book_here", "_law_words", "_law_shape", "_law_first", "_law_last"] (C8.fnScope sSay) := ⟨rfl, rfl, rfl, by decide +kernel, rfl, by decide +kernel, by decide +kernel⟩

theorem okSay {f : Addr} {fd : FuncData} (F : C8.Def K mg "_law_say" sSay f fd) (b : Binds K fd ["_law_book_here", "_law_words", "_law_shape", "_law_first", "_law_last"] []) (g : Gb mg) (M : C8.Cal P w K mg base 1 "_law_met" (spMet P w) []) :
    ∀ n, C8.Cal P w K mg base (n + 1) "_law_say" (spSay P w n) []
  | 0 => by
    refine C8.cal0 F b .nil scSay (fun vs H Q E h => ?_) (fun cdv A outer s H vs Q E hr h => ?_)
    · obtain ⟨lb, tb, wa, sa, S, A, B, kvs, ws, full, t, f, d, rfl, _⟩ := h; rfl
    · obtain ⟨lb, tb, wa, sa, S, A, B, kvs, ws, full, t, f, d, rfl, _, _, _, _, _, hn, _⟩ := h
      have := t.pos
      omega
  | n + 1 => by
    have G := okSay F b g M n
    refine C8.cal0 F b .nil scSay (fun vs H Q E h => ?_) (fun cdv A outer s H vs Q E hr h => ?_)
    · obtain ⟨lb, tb, wa, sa, S, A, B, kvs, ws, full, t, f, d, rfl, _⟩ := h; rfl
    · obtain ⟨lb, tb, wa, sa, S, A', B, kvs, ws, full, t, f, d, rfl, lbk, hw, tx, sg, hf, hn, hl, hz, k⟩ := h
      refine ⟨_, (pss_cons (ps_if (pt_cmpR op_eq (pv 3) (pv 4) (nomark _)) (pss_one (ps_ret (pe_ix ix_tup (pv 1) (pv 3) (fun _ _ => rfl)))) pss_nil) (pss_cons (ps_set (i := 5) scSay.nd rfl (Or.inl rfl) (pe_slice sl_X (pv 2) (po_some (pv 3)) (po_some (pv 4)))) (pss_cons (ps_set (i := 6) scSay.nd rfl (Or.inl rfl) (pe_op op_add (pv 3) (pe_indexX (pv 5) (pe_callB (cr_minX rfl) rfl g.min PyProof.Rows.boot_min (pa_cons (pv 5) pa_nil))))) (pss_cons (ps_set (i := 7) scSay.nd rfl (Or.inl rfl) (C8.pe_c G hr (by omega) rfl (pa_cons (pv 0) (pa_cons (pv 1) (pa_cons (pv 2) (pa_cons (pv 3) (pa_cons (pv 6) pa_nil))))))) (pss_one (ps_ret (C8.pe_c M hr (by omega) rfl (pa_cons (pv 0) (pa_cons (pv 7) (pa_cons (C8.pe_c G hr (by omega) rfl (pa_cons (pv 0) (pa_cons (pv 1) (pa_cons (pv 2) (pa_cons (pe_op op_add (pv 6) pe_int) (pa_cons (pv 4) pa_nil)))))) pa_nil)))))))))), ?_⟩
      cases t with
      | lf =>
        refine ⟨_, rfl, _, rfl, rfl, decide (V.int (f : Int) = V.int ((f + (Tr.lf).n - 1 : Nat) : Int)), rfl, ?_⟩
        rw [decide_eq_true (by rfl)]
        have hf' : f + 1 ≤ ws.length := hf
        obtain ⟨as, hwa, trs⟩ := hw
        have las := trs.len
        have ha : as[f]? = some (as[f]'(by omega)) := List.getElem?_eq_getElem (by omega)
        obtain ⟨r, hr', tr⟩ := trs.get ha
        refine iteT ⟨_, rfl, _, rfl, wa, _, _, .ref (as[f]'(by omega)), rfl, rfl, SqT.of hwa, at_of (j := f) rfl (by rw [List.getElem?_map, ha]; rfl), k _ _ (Same.refl _) ?_⟩
        show TR H _ (ws.getD f [])
        rw [List.getD_eq_getElem?_getD, hr']
        exact tr
      | nd l r =>
        have p1 := l.pos; have p2 := r.pos
        have en : (Tr.nd l r).n = l.n + r.n := rfl
        rw [en] at hf hn
        have ne : V.int (f : Int) ≠ V.int ((f + (Tr.nd l r).n - 1 : Nat) : Int) := fun e => by
          injection e with e
          rw [en] at e
          omega
        refine ⟨_, rfl, _, rfl, rfl, decide (V.int (f : Int) = V.int ((f + (Tr.nd l r).n - 1 : Nat) : Int)), rfl, ?_⟩
        rw [decide_eq_false ne]
        have ls := (Tr.nd l r).sh_len d
        rw [en] at ls
        have sl := seg_len sg
        have cutE : cutV (full.map V.int) (some (f : Int)) (some ((f + (Tr.nd l r).n - 1 : Nat) : Int)) = ((Tr.nd l r).sh d).map V.int := by
          rw [cut_mid full f (f + (Tr.nd l r).n - 1) (by rw [en]; omega) (by rw [en]; omega)]
          congr 1
          have h := seg_cut sg
          rw [show f + (Tr.nd l r).n - 1 - f = ((Tr.nd l r).sh d).length by rw [en]; omega]
          exact h
        refine iteF ⟨_, rfl, _, rfl, _, rfl, _, rfl, _, rfl, sa, full, _, rfl, tx, cutE, fun pd H1 e1 t1 => ?_⟩
        obtain ⟨g1, g2, g3⟩ := Seg.node (n := l.n) (show Seg full f (l.sh (d + 1) ++ d :: r.sh (d + 1)) from sg) (l.sh_len _)
        have ll := l.sh_len (d + 1)
        refine ⟨_, rfl, _, rfl, ⟨pd, _, rfl, t1⟩, _, rfl, pd, _, rfl, t1, by omega, fun m hm hle => ?_⟩
        have md : m = d := by
          have h1 := (Tr.nd l r).sh_ge d m hm
          have h2 := hle d (show d ∈ l.sh (d + 1) ++ d :: r.sh (d + 1) by simp)
          omega
        subst md
        refine ⟨pd, _, m, l.n - 1, rfl, rfl, t1, ?_, fun i hi hc => ?_, ?_⟩
        · show (l.sh (m + 1) ++ m :: r.sh (m + 1))[l.n - 1]? = some m
          rw [List.getElem?_append_right (by omega), show l.n - 1 - (l.sh (m + 1)).length = 0 by omega]; rfl
        · have hc : (l.sh (m + 1) ++ m :: r.sh (m + 1))[i]? = some m := hc
          rw [List.getElem?_append_left (by omega)] at hc
          have := l.sh_ge (m + 1) m (List.mem_of_getElem? hc)
          omega
        · have e6 : (f : Int) + ((l.n - 1 : Nat) : Int) = ((f + l.n - 1 : Nat) : Int) := by omega
          refine add_go e6 ?_
          refine ⟨_, rfl, _, rfl, _, rfl, _, rfl, _, rfl, lb, tb, wa, sa, S, A', B, kvs, ws, full, l, f, m + 1, rfl, lbk.same e1, hw.same e1, tx.same e1, g1, by omega, by omega, hl, hz, fun H2 q e2 t2 => ?_⟩
          have e12 := e1.trans e2
          refine ⟨_, rfl, _, rfl, _, rfl, _, rfl, _, rfl, _, rfl, _, _, rfl, rfl, _, rfl, lb, tb, wa, sa, S, A', B, kvs, ws, full, r, f + l.n, m + 1, ?_, lbk.same e12, hw.same e12, tx.same e12, g3, by omega, by omega, hl, hz, fun H3 q3 e3 t3 => ?_⟩
          · have h1 : ((f + l.n - 1 : Nat) : Int) + 1 = ((f + l.n : Nat) : Int) := by omega
            have h2 : f + (Tr.nd l r).n - 1 = f + l.n + r.n - 1 := by rw [en]; omega
            show [V.ref lb, V.ref wa, V.ref sa, V.int (((f + l.n - 1 : Nat) : Int) + 1), V.int ((f + (Tr.nd l r).n - 1 : Nat) : Int)] = _
            rw [h1, h2]
          · have sl1 := say_len (A := A') (B := B) hl.ok ws l f (by omega)
            have sl2 := say_len (A := A') (B := B) hl.ok ws r (f + l.n) (by omega)
            have pl1 := part_le ws f l.n
            have pl2 := part_le ws (f + l.n) r.n
            exact ⟨lb, tb, q, q3, S, A', B, kvs, _, _, rfl, lbk.same (e12.trans e3), t2.mono e3, t3, hl, by omega, by omega, fun H4 p4 e4 t4 => k H4 p4 ((e12.trans e3).trans e4) t4⟩
end
end K66
namespace K66
open PySem L2
/-- a comprehension with no free names stands in any scope -/
theorem blkOk_nofree {N : List Str} {sc scope : Scope} {own : List (Str × Nat)} (sc0 : Scope) (h : blkC N sc0 scope own = true) (hf : (scope.names.all fun y => match y.2 with | .free => false | _ => true) = true) : BlkOk N sc scope own := by
  have z := blkOk_by h
  refine ⟨z.kind, z.uniq, z.ix, fun y hy e => ?_, z.own⟩
  have := List.all_eq_true.mp hf y hy
  rw [e] at this
  cases this
theorem piT_K {X : Cx} (K : PySem.W.Frag) {tg l : Expr} {tl : TE} (hl : PE X l tl) (h : X.K = K := by rfl) : PI X tg l (iTup K tl) := h ▸ pi_tup hl
theorem tupOf_K {X : Cx} (K : PySem.W.Frag) (h : X.K = K := by rfl) : CallR X (.type "tuple") (fun xs H Q => ∃ p ys, xs = [.ref p] ∧ ((SqL K H p ys ∧ ∀ l, H l = none → Q (.ref l) (upd H l (.tup ys))) ∨ (SqT K H p ys ∧ Q (.ref p) H))) := h ▸ call_tuple_of
/-- the items of a row, each one more -/
theorem lc_inc {K : PySem.W.Frag} {H : Hp} {a D : Addr} {r : Row} {vs : List Nat} {σ : L2.St} {Qd : Hp → Prop} {te : TE} {j : Nat} (hD : H D = none) (hl : TR H a r) (hz : r.length ≤ 10000) (hw : ∀ x, wipe ((wipe σ vs).set j (some x)) vs = wipe σ vs)
    (ht : ∀ (x : Int) (H1 : Hp) (Q : VK), Q (.int (x + 1)) H1 → te ((wipe σ vs).set j (some (.int x))) H1 Q)
    (hd : ∀ H', Same H H' → H' D = some (.lst ((r.map (· + 1)).map V.int)) → Qd H') :
    ∃ W : Nat → Nat → Hp → Prop, (∃ m, W 0 m (upd H D (.lst []))) ∧ ∀ i m H, W i m H →
      ((Itt K a).stop i H ∧ Qd H) ∨ ((Itt K a).go i H ∧ ∃ Nx : Hp → Prop, (∀ H', Nx H' → ∃ m', m' < m ∧ W (i + 1) m' H') ∧ ∀ x H', (Itt K a).yld i H x H' → gName j x (wipe σ vs) H' fun σ2 H2 => wipe σ2 vs = wipe σ vs ∧ tYes σ2 H2 fun b H3 =>
        if b = true then te σ2 H3 fun y H4 => ∃ acc, H4 D = some (.lst acc) ∧ acc.length < sizeLine ∧ Nx (upd H4 D (.lst (acc ++ [y]))) else Nx H3) := by
  refine lc_tup (K := K) (a := a) (xs := r.map V.int) (fun i H' => Same H H' ∧ H' D = some (.lst (((r.map (· + 1)).take i).map V.int))) ⟨same_new hD, upd_same⟩ (fun i H' _ p => (hl.mono p.1).seq) (fun i x H' hx p => ?_) (fun H' p => hd H' p.1 ?_)
  · obtain ⟨x, rfl, hx'⟩ := ri_map hx
    have hi := (List.getElem?_eq_some_iff.mp hx').1
    refine ⟨hw _, lc_yes (ht x H' _ ⟨_, p.2, ?_, same_mut p.1 hD, ?_⟩)⟩
    · rw [List.length_map, List.length_take, List.length_map]
      exact Nat.lt_of_lt_of_le (show _ < 10001 by omega) (by decide)
    · rw [upd_same, List.take_add_one, List.getElem?_map, hx', List.map_append]; rfl
  · rw [p.2, List.length_map, List.take_of_length_le (by rw [List.length_map]; exact Nat.le_refl _)]
/-- the depths of t stand at a -/
def ShT (H : Hp) (a : Addr) (t : Tr) : Prop := TR H a (t.sh 0)
theorem ShT.tm : TMono ShT := fun _ _ _ _ e h => e _ _ h
theorem nd_sh (l r : Tr) : ((l.sh 0).map (· + 1) ++ [0]) ++ (r.sh 0).map (· + 1) = (Tr.nd l r).sh 0 := by
  rw [Tr.sh_add, Tr.sh_add, List.append_assoc]; rfl
/-- the lists of shapes known -/
def KL (H : Hp) : List Addr → List (List Tr) → Prop := Paired fun a ts => LP ShT H a ts
theorem paired_get2 {α β : Type} {F : α → β → Prop} {as : List α} {bs : List β} (p : Paired F as bs) : ∀ {i : Nat} {b : β}, bs[i]? = some b → ∃ a, as[i]? = some a ∧ F a b := by
  induction p with
  | nil => intro i b h; simp at h
  | cons r t ih =>
    intro i b h
    cases i with
    | zero => cases h; exact ⟨_, rfl, r⟩
    | succ i => exact ih h
theorem pow_split {p m : Nat} (h : p ≤ m) : 4 ^ p * 4 ^ (m - p) = 4 ^ m := by rw [← Nat.pow_add]; congr 1; omega
section
variable {P : Program} {w : World} {K : PySem.W.Frag} {mg : Str → Option Value} {base : Heap}
/-! _law_all -/
def spAll : Sp := fun vs H Q _ => ∃ (n : Nat), vs = [.int (n : Int)] ∧ 1 ≤ n ∧ n ≤ 5 ∧ ∀ H' p (ts : List Tr), Same H H' → LP ShT H' p ts → (∀ t ∈ ts, t.n = n) → ts.length ≤ 4 ^ n → Q (.ref p) H'
abbrev nAl : List Str := ["_law_words", "_law_known", "_law_many", "_law_found", "_law_part", "_law_ahead", "_law_inner", "_law_depth", "_law_behind"]
theorem scAll : FnScope nAl ["_law_words"] (C8.fnScope sAll) := ⟨rfl, rfl, rfl, by decide +kernel, rfl, by decide +kernel, by decide +kernel⟩

theorem okAll {f : Addr} {fd : FuncData} (F : C8.Def K mg "_law_all" sAll f fd) (b : Binds K fd ["_law_words"] []) (g : Gb mg) : C8.Cal P w K mg base 1 "_law_all" spAll [] := by
  refine C8.cal0 F b .nil scAll (fun vs H Q E h => ?_) (fun cdv A outer s H vs Q E hr h => ?_)
  · obtain ⟨n, rfl, _⟩ := h; rfl
  · obtain ⟨n, rfl, n1, n5, k⟩ := h
    refine ⟨_, (pss_cons (ps_set (i := 1) scAll.nd rfl (Or.inl rfl) (pe_lst (pa_cons (pe_lst pa_nil) (pa_cons (pe_lst (pa_cons (pe_tup pa_nil) pa_nil)) pa_nil)))) (pss_cons (ps_for PassesOwn.never rfl (pi_range2 rfl g.range (pa_cons pe_int (pa_cons (pe_op op_add (pv 0) pe_int) pa_nil))) (pg_name (i := 2) scAll.nd rfl (Or.inl rfl)) (pss_cons (ps_set (i := 3) scAll.nd rfl (Or.inl rfl) (pe_lst pa_nil)) (pss_cons (ps_for PassesOwn.never rfl (pi_range2 rfl g.range (pa_cons pe_int (pa_cons (pv 2) pa_nil))) (pg_name (i := 4) scAll.nd rfl (Or.inl rfl)) (pss_one (ps_for PassesOwn.never rfl (pi_list (pe_ix ix_list (pv 1) (pv 4) (fun _ _ => rfl))) (pg_name (i := 5) scAll.nd rfl (Or.inl rfl)) (pss_cons (ps_set (i := 6) scAll.nd rfl (Or.inr rfl) (pe_op op_catA (pe_callTy call_tuple_of rfl g.tuple bTuple (pa_cons (pe_lc (own := [("_law_depth", 7)]) (g := gName 7) (tt := tYes) rfl scAll.nd (pi_tup (pv 5)) (blkOk_by (N := nAl) (sc := C8.fnScope sAll) (by decide +kernel)) (fun _ _ _ _ _ => pg_name (i := 7) scAll.nd rfl (Or.inl rfl)) (fun _ _ _ _ _ => pts_nil) (fun _ _ _ _ _ => (pe_op op_add (pv 7) pe_int))) pa_nil)) (pe_tup (pa_cons pe_int pa_nil)))) (pss_one (ps_expr (pe_bm PySem.F.plainAttrs_list PySem.F.slot_list_extend PySem.F.type_list_extend mt_extend (pv 3) (pa_cons (pe_lc (own := [("_law_behind", 8)]) (g := gName 8) (tt := tYes) rfl scAll.nd (pi_list (pe_ix ix_list (pv 1) (pe_op op_sub (pv 2) (pv 4)) (fun _ _ => rfl))) (blkOk_by (N := nAl) (sc := C8.fnScope sAll) (by decide +kernel)) (fun _ _ _ _ _ => pg_name (i := 8) scAll.nd rfl (Or.inl rfl)) (fun _ _ _ _ _ => pts_nil) (fun _ _ _ _ _ => (pe_op (catA_K K) (pv 6) (pe_callTy (tupOf_K K) rfl g.tuple bTuple (pa_cons (pe_lc (own := [("_law_depth", 7)]) (g := gName 7) (tt := tYes) rfl scAll.nd (piT_K K (pv 8)) (blkOk_nofree (N := nAl) (C8.fnScope sAll) (by decide +kernel) (by decide +kernel)) (fun _ _ _ _ _ => pg_name (i := 7) scAll.nd rfl (Or.inl rfl)) (fun _ _ _ _ _ => pts_nil) (fun _ _ _ _ _ => (pe_op op_add (pv 7) pe_int))) pa_nil))))) pa_nil)))))))) (pss_one (ps_expr (pe_bm PySem.F.plainAttrs_list PySem.F.slot_list_append PySem.F.type_list_append mt_append (pv 1) (pa_cons (pv 3) pa_nil))))))) (pss_one (ps_ret (pe_ix ix_list (pv 1) (pv 0) (fun _ _ => rfl)))))), ?_⟩
    -- known
    refine ⟨Nat.zero_le _, fun k0 nk0 => ?_⟩
    have e1 := same_new (o := .lst []) nk0
    have h0 : LP ShT (upd H k0 (.lst [])) k0 [] := ⟨[], upd_same, .nil⟩
    generalize upd H k0 (.lst []) = H1 at e1 h0
    refine ⟨Nat.zero_le _, fun ue nue => ?_⟩
    have e2 := same_new (o := .tup []) nue
    have hu : ShT (upd H1 ue (.tup [])) ue .lf := upd_same
    replace h0 := h0.same ShT.tm e2
    replace e2 := e1.trans e2
    generalize upd H1 ue (.tup []) = H2 at e2 hu h0
    refine ⟨by show 1 ≤ sizeLine; decide, fun k1 nk1 => ?_⟩
    have e3 := same_new (o := .lst [.ref ue]) nk1
    have h1 : LP ShT (upd H2 k1 (.lst [.ref ue])) k1 [.lf] := ⟨[ue], upd_same, .cons (ShT.tm _ _ _ _ (fun b ys z => e3 b _ z) hu) .nil⟩
    replace h0 := h0.same ShT.tm e3
    replace e3 := e2.trans e3
    generalize upd H2 k1 (.lst [.ref ue]) = H3 at e3 h0 h1
    refine ⟨by show 2 ≤ sizeLine; decide, fun kn nkn => ?_⟩
    have e4 := same_new (o := .lst [.ref k0, .ref k1]) nkn
    have nk0' : k0 ≠ kn := by
      obtain ⟨_, z, _⟩ := h0
      exact free_ne z nkn
    have nk1' : k1 ≠ kn := by
      obtain ⟨_, z, _⟩ := h1
      exact free_ne z nkn
    have nknH : H kn = none := Same.free e3 nkn
    have hkl : KL (upd H3 kn (.lst [.ref k0, .ref k1])) [k0, k1] [[], [.lf]] := .cons (h0.same ShT.tm e4) (.cons (h1.same ShT.tm e4) .nil)
    replace e4 := e3.trans e4
    have hkn : (upd H3 kn (.lst [.ref k0, .ref k1])) kn = some (.lst ([k0, k1].map V.ref)) := upd_same
    generalize upd H3 kn (.lst [.ref k0, .ref k1]) = H4 at e4 hkl hkn
    clear e1 e2 e3 nk0 nue nk1 hu h0 h1
    refine ⟨_, rfl, _, _, rfl, rfl, 2, (n : Int) + 1, rfl, ⟨by omega, by omega, by omega, by omega⟩, ?_⟩
    rw [show ((n : Int) + 1 - 2).toNat = n - 1 by omega]
    refine for_range (lo := 2) (n := n - 1) (fun i σ H' => ∃ (v2 v3 v4 v5 v6 : Option V) (ks : List Addr) (tss : List (List Tr)), σ = [some (.int (n : Int)), some (.ref kn), v2, v3, v4, v5, v6, none, none] ∧ Same H H' ∧ H' kn = some (.lst (ks.map V.ref)) ∧ KL H' ks tss ∧ (∀ a ∈ ks, a ≠ kn) ∧ tss.length = i + 2 ∧ ∀ j ts, tss[j]? = some ts → (∀ t ∈ ts, t.n = j) ∧ 4 * ts.length ≤ 4 ^ j)
      ⟨none, none, none, none, none, [k0, k1], [[], [.lf]], rfl, e4, hkn, hkl, by simp [nk0', nk1'], rfl, ?_⟩ (fun i σ H' hi p => ?_) (fun σ H' p => ?_)
    · intro j ts hj
      match j, hj with
      | 0, hj => cases hj; exact ⟨fun t ht => (by cases ht), by decide⟩
      | 1, hj =>
        cases hj
        refine ⟨fun t ht => ?_, by decide⟩
        rw [List.mem_singleton] at ht
        rw [ht]; rfl
    · obtain ⟨v2, v3, v4, v5, v6, ks, tss, rfl, es, hk, kl, nks, hlen, hts⟩ := p
      have lks := Paired.length kl
      -- found
      refine ⟨Nat.zero_le _, fun fd nfd => ?_⟩
      have nfk : fd ≠ kn := (free_ne hk nfd).symm
      have hrest : ∃ ks : List Addr, H' kn = some (.lst (ks.map V.ref)) := ⟨_, hk⟩
      refine ⟨_, rfl, 1, (2 + i : Int), rfl, ⟨by omega, by omega, by omega, by omega⟩, ?_⟩
      rw [show ((2 + (i : Int)) - 1).toNat = i + 1 by omega]
      refine for_range (lo := 1) (n := i + 1) (fun q σ H2 => ∃ (v4 v5 v6 : Option V) (fts : List Tr), σ = [some (.int (n : Int)), some (.ref kn), some (.int (2 + (i : Int))), some (.ref fd), v4, v5, v6, none, none] ∧ Same H' H2 ∧ LP ShT H2 fd fts ∧ (∀ t ∈ fts, t.n = i + 2) ∧ 16 * fts.length ≤ q * 4 ^ (i + 2))
        ⟨_, _, _, [], rfl, same_new nfd, ⟨[], upd_same, .nil⟩, fun t ht => (by cases ht), Nat.zero_le _⟩ (fun q σ H2 hq p => ?_) (fun σ H2 p => ?_)
      · obtain ⟨v4, v5, v6, fts, rfl, e5, hf, hfn, hfl⟩ := p
        have hA : tss[1 + q]? = some (tss[1 + q]'(by omega)) := List.getElem?_eq_getElem (by omega)
        have hB : tss[i + 1 - q]? = some (tss[i + 1 - q]'(by omega)) := List.getElem?_eq_getElem (by omega)
        generalize tss[1 + q]'(by omega) = tsA at hA
        generalize tss[i + 1 - q]'(by omega) = tsB at hB
        obtain ⟨ka, hka, aas, hA1, hA2⟩ := paired_get2 kl hA
        obtain ⟨kb, hkb, hlB⟩ := paired_get2 kl hB
        obtain ⟨nA, zA⟩ := hts _ _ hA
        obtain ⟨nB, zB⟩ := hts _ _ hB
        have zAB : 16 * (tsA.length * tsB.length) ≤ 4 ^ (i + 2) := by
          have h1 := Nat.mul_le_mul zA zB
          rw [← pow_split (show 1 + q ≤ i + 2 by omega), show i + 2 - (1 + q) = i + 1 - q by omega]
          have : 4 * tsA.length * (4 * tsB.length) = 16 * (tsA.length * tsB.length) := by
            rw [Nat.mul_mul_mul_comm]
          omega
        have p5 : 4 ^ (i + 2) ≤ 4 ^ 5 := Nat.pow_le_pow_right (by decide) (by omega)
        have pA : 4 ^ (1 + q) ≤ 4 ^ 5 := Nat.pow_le_pow_right (by decide) (by omega)
        have pB : 4 ^ (i + 1 - q) ≤ 4 ^ 5 := Nat.pow_le_pow_right (by decide) (by omega)
        have hk2 := e5 _ _ hk
        have eA := Paired.length hA2
        refine ⟨_, rfl, _, rfl, kn, _, _, .ref ka, rfl, rfl, SqL.of hk2, at_of (j := 1 + q) (by omega) (by rw [List.getElem?_map, hka]; rfl), ka, rfl, ⟨_, SqL.of (e5 _ _ hA1)⟩, for_list (K := K) (a := ka) (xs := aas.map V.ref) (fun a σ H2 => ∃ (v5 v6 : Option V) (fts : List Tr), σ = [some (.int (n : Int)), some (.ref kn), some (.int (2 + (i : Int))), some (.ref fd), some (.int (1 + (q : Int))), v5, v6, none, none] ∧ Same H' H2 ∧ LP ShT H2 fd fts ∧ (∀ t ∈ fts, t.n = i + 2) ∧ 16 * fts.length ≤ q * 4 ^ (i + 2) + 16 * (a * tsB.length))
          ⟨_, _, fts, rfl, e5, hf, hfn, by omega⟩ (fun a σ H2 _ p => ?_) (fun a x σ H2 hx p => ?_) (fun σ H2 p => ?_)⟩
        · obtain ⟨_, _, _, _, z, _⟩ := p
          exact SqL.of (z _ _ hA1)
        · clear hk2 e5 hf hfn hfl
          obtain ⟨v5, v6, fts, rfl, e5, hf, hfn, hfl⟩ := p
          obtain ⟨la, rfl, hla⟩ := ref_at hx
          obtain ⟨l, hl, tl⟩ := paired_get hA2 hla
          have hla' := (List.getElem?_eq_some_iff.mp hl).1
          have nl := nA l (List.mem_of_getElem? hl)
          have tl2 : TR H2 la (l.sh 0) := tl.mono e5
          have ll := l.sh_len 0
          have hk2 := e5 _ _ hk
          have lz : fts.length ≤ 10000 := by
            have h2 : q * 4 ^ (i + 2) ≤ 4 * 4 ^ 5 := Nat.mul_le_mul (by omega) p5
            have h3 : a * tsB.length ≤ tsA.length * tsB.length := Nat.mul_le_mul (by omega) (Nat.le_refl _)
            omega
          -- inner
          refine ⟨_, rfl, la, rfl, ⟨_, tl2.seq⟩, fun D hD => lc_inc (K := K) hD tl2 (by omega) (fun x => rfl) (fun x H3 Q' q' => ⟨_, rfl, _, _, rfl, rfl, q'⟩) (fun H3 e3 h3 => ?_)⟩
          refine ⟨D, _, rfl, .inl ⟨SqL.of h3, fun p1 np1 => ?_⟩⟩
          have s4 := same_new (o := .tup (((l.sh 0).map (· + 1)).map V.int)) np1
          have t4 : TR (upd H3 p1 (.tup (((l.sh 0).map (· + 1)).map V.int))) p1 ((l.sh 0).map (· + 1)) := upd_same
          generalize upd H3 p1 (.tup (((l.sh 0).map (· + 1)).map V.int)) = H4' at s4 t4
          refine ⟨by show 1 ≤ sizeLine; decide, fun p2 np2 => ?_⟩
          have s5 := same_new (o := .tup [.int 0]) np2
          have t5 : TR (upd H4' p2 (.tup [.int 0])) p2 [0] := upd_same
          refine catA_go (t4.mono s5) t5 (by rw [List.length_map]; show _ + 1 ≤ _; omega) fun p3 H6 e6 t6 => ?_
          have e26 := (e3.trans s4).trans (s5.trans e6)
          have e56 := e5.trans e26
          obtain ⟨fas, hf1, hf2⟩ := hf.same ShT.tm e26
          clear s4 s5 t4 t5 h3
          -- found.extend
          refine ⟨_, rfl, .inl ⟨rfl, _, SqL.of hf1⟩, _, rfl, _, rfl, _, rfl, _, _, rfl, rfl, kn, _, _, .ref kb, rfl, rfl, SqL.of (e56 _ _ hk), at_of (j := i + 1 - q) (by omega) (by rw [List.getElem?_map, hkb]; rfl), kb, rfl, ?_⟩
          have hlB6 := hlB.same ShT.tm e56
          have hB1 : ∃ xs, SqL K H6 kb xs := by
            obtain ⟨bs, z, _⟩ := hlB6
            exact ⟨_, SqL.of z⟩
          refine ⟨hB1, fun D2 hD2 => lc_mapL ShT.tm ShT.tm (fun r => .nd l r) hD2 hlB6 (by omega) (fun x => rfl) (fun pr r H7 Q' e7 tr hr' k' => ?_) (fun H7 e7 hl7 => ?_)⟩
          · have nr := nB r hr'
            have lr := r.sh_len 0
            have tr7 : TR H7 pr (r.sh 0) := tr
            refine ⟨_, rfl, _, rfl, pr, rfl, ⟨_, tr7.seq⟩, fun D3 hD3 => lc_inc (K := K) hD3 tr7 (by omega) (fun x => rfl) (fun x H3 Q' q' => ⟨_, rfl, _, _, rfl, rfl, q'⟩) (fun H8 e8 h8 => ?_)⟩
            refine ⟨D3, _, rfl, .inl ⟨SqL.of h8, fun p4 np4 => ?_⟩⟩
            have s9 := same_new (o := .tup (((r.sh 0).map (· + 1)).map V.int)) np4
            have t9 : TR (upd H8 p4 (.tup (((r.sh 0).map (· + 1)).map V.int))) p4 ((r.sh 0).map (· + 1)) := upd_same
            refine catA_go (t6.mono (e7.trans (e8.trans s9))) t9 (by rw [List.length_append, List.length_map, List.length_map]; show _ + 1 + _ ≤ _; omega) fun p5' H9 e9 t10 => k' p5' H9 (e8.trans (s9.trans e9)) ?_
            rw [nd_sh] at t10
            exact t10
          · obtain ⟨das, hd1, hd2⟩ := hl7
            have hf1' := e7 _ _ hf1
            have hf2' : Paired (ShT H7) fas fts := Paired.mapP hf2 fun _ _ z => ShT.tm _ _ _ _ (fun b ys z => e7 b _ z) z
            have lf := Paired.length hf2'
            have ld := Paired.length hd2
            rw [List.length_map] at ld
            refine ⟨fd, D2, _, _, rfl, rfl, hf1', hd1, by rw [List.length_map, List.length_map]; exact Nat.le_trans (show _ ≤ 20000 by omega) (by decide), ?_⟩
            refine ⟨_, _, fts ++ tsB.map (fun r => .nd l r), rfl, same_mut (e56.trans e7) nfd, LP.grow ShT.tm hf1' hf2' hd2, fun t ht => ?_, ?_⟩
            · rcases List.mem_append.mp ht with z | z
              · exact hfn t z
              · obtain ⟨r, hr', rfl⟩ := List.mem_map.mp z
                have := nB r hr'
                show l.n + r.n = i + 2
                omega
            · rw [List.length_append, List.length_map, Nat.add_mul]
              omega
        · obtain ⟨v5, v6, fts, rfl, e5, hf, hfn, hfl⟩ := p
          refine ⟨_, _, _, fts, rfl, e5, hf, hfn, ?_⟩
          rw [List.length_map, eA] at hfl
          rw [Nat.add_mul, Nat.one_mul]
          omega
      · obtain ⟨v4, v5, v6, fts, rfl, e5, ⟨fas, hf, hfp⟩, hfn, hfl⟩ := p
        have lz : fts.length ≤ 100000 := by
          have : 4 ^ (i + 2) ≤ 4 ^ 5 := Nat.pow_le_pow_right (by decide) (by omega)
          have h2 : (i + 1) * 4 ^ (i + 2) ≤ 4 * 4 ^ 5 := Nat.mul_le_mul (by omega) this
          omega
        have hk2 := e5 _ _ hk
        refine ⟨_, rfl, .inl ⟨rfl, _, SqL.of hk2⟩, _, rfl, kn, _, _, rfl, rfl, hk2, by rw [List.length_map]; exact Nat.lt_trans (show ks.length < 100 by omega) (by decide), ?_⟩
        have kl2 : KL H2 ks tss := Paired.mapP kl fun _ _ z => z.same ShT.tm e5
        have kl3 : KL (upd H2 kn (.lst (ks.map V.ref ++ [.ref fd]))) (ks ++ [fd]) (tss ++ [fts]) := by
          have hmv : ∀ a ts, a ≠ kn → LP ShT H2 a ts → LP ShT (upd H2 kn (.lst (ks.map V.ref ++ [.ref fd]))) a ts := fun a ts ne z => z.other ShT.tm hk2 ne
          have : ∀ {as : List Addr} {bs : List (List Tr)}, KL H2 as bs → (∀ a ∈ as, a ≠ kn) → KL (upd H2 kn (.lst (ks.map V.ref ++ [.ref fd]))) as bs := by
            intro as bs p
            induction p with
            | nil => intro _; exact .nil
            | cons r t ih => intro h; exact .cons (hmv _ _ (h _ (List.mem_cons_self ..)) r) (ih fun a ha => h a (List.mem_cons_of_mem _ ha))
          exact paired_app (this kl2 nks) (.cons (hmv _ _ nfk ⟨fas, hf, hfp⟩) .nil)
        refine ⟨_, _, _, _, _, ks ++ [fd], tss ++ [fts], rfl, same_mut (es.trans e5) nknH, by rw [upd_same, List.map_append]; rfl, kl3, fun a ha => ?_, by rw [List.length_append, List.length_singleton]; omega, fun j ts hj => ?_⟩
        · rcases List.mem_append.mp ha with z | z
          · exact nks a z
          · rw [List.mem_singleton] at z
            rw [z]; exact nfk
        · by_cases hjl : j < tss.length
          · rw [List.getElem?_append_left hjl] at hj
            exact hts j ts hj
          · rw [List.getElem?_append_right (by omega)] at hj
            have : j = i + 2 := by
              have := (List.getElem?_eq_some_iff.mp hj).1
              simp at this
              omega
            subst this
            rw [hlen, Nat.sub_self] at hj
            cases hj
            refine ⟨hfn, ?_⟩
            have h2 : (i + 1) * 4 ^ (i + 2) ≤ 4 * 4 ^ (i + 2) := Nat.mul_le_mul (by omega) (Nat.le_refl _)
            omega
    · obtain ⟨v2, v3, v4, v5, v6, ks, tss, rfl, es, hk, kl, nks, hlen, hts⟩ := p
      have lks := Paired.length kl
      have ht : tss[n]? = some (tss[n]'(by omega)) := List.getElem?_eq_getElem (by omega)
      generalize tss[n]'(by omega) = ts at ht
      obtain ⟨kk, hkk, hl⟩ := paired_get2 kl ht
      obtain ⟨g1, g2⟩ := hts n ts ht
      exact ⟨_, rfl, _, rfl, kn, _, _, .ref kk, rfl, rfl, SqL.of hk, at_of (j := n) rfl (by rw [List.getElem?_map, hkk]; rfl), k _ kk ts es hl g1 (by omega)⟩
end
end K66
namespace K66
open PySem L2
/-- a stretch that waits to be drawn: its first word, how many words, its depth -/
structure Sw where
  f : Nat
  n : Nat
  d : Int
def SwAt (H : Hp) (a : Addr) (x : Sw) : Prop := H a = some (.tup [.int (x.f : Int), .int ((x.f + x.n - 1 : Nat) : Int), .int x.d])
theorem SwAt.tm : TMono SwAt := fun _ _ _ _ e h => e _ _ h
def swSum (xs : List Sw) : Nat := (xs.map fun x => 2 * x.n - 1).sum
theorem swSum_snoc (xs : List Sw) (x : Sw) : swSum (xs ++ [x]) = swSum xs + (2 * x.n - 1) := by
  unfold swSum
  rw [List.map_append, List.sum_append]; simp
theorem sw_len : ∀ {xs : List Sw}, (∀ x ∈ xs, 1 ≤ x.n) → xs.length ≤ swSum xs
  | [], _ => Nat.zero_le _
  | x :: xs, h => by
    have h1 := sw_len (xs := xs) fun y hy => h y (List.mem_cons_of_mem _ hy)
    have h2 := h x (List.mem_cons_self ..)
    have e : swSum (x :: xs) = (2 * x.n - 1) + swSum xs := by unfold swSum; rw [List.map_cons, List.sum_cons]
    rw [e, List.length_cons]
    omega
/-- however the stretches are drawn, all is a bracketing of N words -/
def Fits (N : Nat) (F : Row) (stk : List Sw) : Prop := ∀ G : Row, G.length = F.length → (∀ s ∈ stk, ∃ t : Tr, t.n = s.n ∧ Seg G s.f (t.sh s.d)) →
  (∀ (k : Nat) (x : Int), F[k]? = some x → G[k]? = some x ∨ ∃ s ∈ stk, s.f ≤ k ∧ k < s.f + s.n - 1) → ∃ t : Tr, t.n = N ∧ G = t.sh 0
theorem Fits.start {N : Nat} {F : Row} (h1 : 1 ≤ N) (h : F.length + 1 = N) : Fits N F [⟨0, N, 0⟩] := fun G hG hs _ => by
  obtain ⟨t, ht, sg⟩ := hs ⟨0, N, 0⟩ (List.mem_singleton.mpr rfl)
  have ht : t.n = N := ht
  have sg : Seg G 0 (t.sh 0) := sg
  refine ⟨t, ht, ?_⟩
  have h2 := seg_cut sg
  have ls := t.sh_len 0
  rw [List.drop_zero, List.take_of_length_le (by omega)] at h2
  exact h2
theorem Fits.leaf {N : Nat} {F : Row} {stk : List Sw} {f : Nat} {d : Int} (h : Fits N F (stk ++ [⟨f, 1, d⟩])) : Fits N F stk := fun G hG hs hF => by
  refine h G hG (fun s hs' => ?_) (fun k x hx => (hF k x hx).imp id fun ⟨s, a, b⟩ => ⟨s, List.mem_append_left _ a, b⟩)
  rcases List.mem_append.mp hs' with z | z
  · exact hs s z
  · rw [List.mem_singleton] at z
    subst z
    exact ⟨.lf, rfl, fun i x h => by simp [Tr.sh] at h⟩
theorem Seg.join {L a b : Row} {f : Nat} {x : Int} (h1 : Seg L f a) (h2 : L[f + a.length]? = some x) (h3 : Seg L (f + a.length + 1) b) : Seg L f (a ++ x :: b) := fun i y e => by
  rw [List.getElem?_append] at e
  split at e
  · exact h1 i y e
  · rename_i hlt
    cases hi : i - a.length with
    | zero =>
      rw [hi, List.getElem?_cons_zero] at e
      cases e
      rw [show f + i = f + a.length by omega]; exact h2
    | succ j =>
      rw [hi, List.getElem?_cons_succ] at e
      rw [show f + i = f + a.length + 1 + j by omega]
      exact h3 j y e
theorem Fits.node {N : Nat} {F : Row} {stk : List Sw} {f n k : Nat} {d : Int} (h : Fits N F (stk ++ [⟨f, n, d⟩])) (hk : 1 ≤ k) (hn : k < n) (hl : f + k - 1 < F.length) (hd : ∀ s ∈ stk, s.f + s.n ≤ f) :
    Fits N (F.set (f + k - 1) d) (stk ++ [⟨f, k, d + 1⟩] ++ [⟨f + k, n - k, d + 1⟩]) := fun G hG hs hF => by
  rw [List.length_set] at hG
  obtain ⟨l, hl1, hl2⟩ := hs ⟨f, k, d + 1⟩ (by simp)
  obtain ⟨r, hr1, hr2⟩ := hs ⟨f + k, n - k, d + 1⟩ (by simp)
  replace hl1 : l.n = k := hl1
  replace hl2 : Seg G f (l.sh (d + 1)) := hl2
  replace hr1 : r.n = n - k := hr1
  replace hr2 : Seg G (f + k) (r.sh (d + 1)) := hr2
  have ll := l.sh_len (d + 1)
  have hroot : G[f + k - 1]? = some d := by
    rcases hF (f + k - 1) d (List.getElem?_set_self hl) with z | ⟨s, hs', z1, z2⟩
    · exact z
    · exfalso
      rcases List.mem_append.mp hs' with q | q
      · rcases List.mem_append.mp q with q | q
        · have := hd s q; omega
        · rw [List.mem_singleton] at q
          subst q
          have z2 : f + k - 1 < f + k - 1 := z2
          omega
      · rw [List.mem_singleton] at q
        subst q
        have z1 : f + k ≤ f + k - 1 := z1
        omega
  refine h G hG (fun s hs' => ?_) (fun j x hx => ?_)
  · rcases List.mem_append.mp hs' with z | z
    · exact hs s (by simp [z])
    · rw [List.mem_singleton] at z
      subst z
      refine ⟨.nd l r, by show l.n + r.n = n; omega, ?_⟩
      show Seg G f (l.sh (d + 1) ++ d :: r.sh (d + 1))
      refine hl2.join (by rw [show f + (l.sh (d + 1)).length = f + k - 1 by omega]; exact hroot) ?_
      rw [show f + (l.sh (d + 1)).length + 1 = f + k by omega]
      exact hr2
  · by_cases e : j = f + k - 1
    · right
      refine ⟨⟨f, n, d⟩, by simp, ?_, ?_⟩
      · show f ≤ j; omega
      · show j < f + n - 1; omega
    · rcases hF j x (by rw [List.getElem?_set_ne (Ne.symm e)]; exact hx) with z | ⟨s, hs', z1, z2⟩
      · exact .inl z
      · right
        rcases List.mem_append.mp hs' with q | q
        · rcases List.mem_append.mp q with q | q
          · exact ⟨s, by simp [q], z1, z2⟩
          · rw [List.mem_singleton] at q
            subst q
            have z1 : f ≤ j := z1
            have z2 : j < f + k - 1 := z2
            exact ⟨⟨f, n, d⟩, by simp, z1, by show j < f + n - 1; omega⟩
        · rw [List.mem_singleton] at q
          subst q
          have z1 : f + k ≤ j := z1
          have z2 : j < f + k + (n - k) - 1 := z2
          exact ⟨⟨f, n, d⟩, by simp, by show f ≤ j; omega, by show j < f + n - 1; omega⟩
theorem Fits.done {N : Nat} {F : Row} (h : Fits N F []) : ∃ t : Tr, t.n = N ∧ F = t.sh 0 := h F rfl (fun s hs => by cases hs) fun k x hx => .inl hx
section
variable {P : Program} {w : World} {K : PySem.W.Frag} {mg : Str → Option Value} {base : Heap}
/-! _law_drawn_shape -/
def spDrawn : Sp := fun vs H Q _ => ∃ (d c : Addr) (n : Nat) (m : Bool), vs = [.ref d, .int (n : Int)] ∧ Dice H d c ∧ 1 ≤ n ∧ n ≤ 20 ∧ ∀ H' p (t : Tr), But d H H' → Dice H' d c → t.n = n → H' p = some (if m = true then txO p (t.sh 0) else .tup ((t.sh 0).map V.int)) → p ≠ d → Q (.ref p) H'
abbrev nDs : List Str := ["_law_dice_here", "_law_words", "_law_lean", "_law_found", "_law_seam", "_law_waiting", "_law_turn", "_law_first", "_law_last", "_law_depth"]
theorem scDrawn : FnScope nDs ["_law_dice_here", "_law_words"] (C8.fnScope sDrawnShape) := ⟨rfl, rfl, rfl, by decide +kernel, rfl, by decide +kernel, by decide +kernel⟩

theorem okDrawn {f : Addr} {fd : FuncData} (F : C8.Def K mg "_law_drawn_shape" sDrawnShape f fd) (b : Binds K fd ["_law_dice_here", "_law_words"] []) (g : Gb mg) (G1 : C8.Cal P w K mg base 1 "_law_draw" spDraw []) : C8.Cal P w K mg base 2 "_law_drawn_shape" spDrawn [] := by
  refine C8.cal0 F b .nil scDrawn (fun vs H Q E h => ?_) (fun cdv A outer s H vs Q E hr h => ?_)
  · obtain ⟨d, c, n, m, rfl, _⟩ := h; rfl
  · obtain ⟨d, c, N, m, rfl, di, n1, n2, k⟩ := h
    refine ⟨_, (pss_cons (ps_set (i := 2) scDrawn.nd rfl (Or.inl rfl) (C8.pe_c G1 hr (by decide) rfl (pa_cons (pv 0) (pa_cons pe_int pa_nil)))) (pss_cons (ps_setLc (i := 3) (own := [("_law_seam", 4)]) (g := gName 4) (tt := tYes) rfl scDrawn.nd rfl rfl (sw_true rfl rfl rfl (by decide +kernel)) (pi_range1 rfl g.range (pa_cons (pe_op op_sub (pv 1) pe_int) pa_nil)) (blkOk_by (N := nDs) (sc := C8.fnScope sDrawnShape) (by decide +kernel)) (fun _ _ _ _ _ => pg_name (i := 4) scDrawn.nd rfl (Or.inl rfl)) (fun _ _ _ _ _ => pts_nil) (fun _ _ _ _ _ => pe_int)) (pss_cons (ps_set (i := 5) scDrawn.nd rfl (Or.inl rfl) (pe_lst (pa_cons (pe_tup (pa_cons pe_int (pa_cons (pe_op op_sub (pv 1) pe_int) (pa_cons pe_int pa_nil)))) pa_nil))) (pss_cons (ps_for PassesOwn.never rfl (pi_range1 rfl g.range (pa_cons (pe_op op_mul pe_int (pv 1)) pa_nil)) (pg_name (i := 6) scDrawn.nd rfl (Or.inl rfl)) (pss_one (ps_if (pt_cmpR op_gt (pe_callB call_len_seq rfl g.len PySem.boot_len (pa_cons (pv 5) pa_nil)) pe_int (nomark _)) (pss_cons (ps_asg (pe_bm0 PySem.F.plainAttrs_list PySem.F.slot_list_pop PySem.F.type_list_pop mt_pop (pv 5)) (pg_tup rfl (pgs_cons (pg_name (i := 7) scDrawn.nd rfl (Or.inl rfl)) (pgs_cons (pg_name (i := 8) scDrawn.nd rfl (Or.inl rfl)) (pgs_cons (pg_name (i := 9) scDrawn.nd rfl (Or.inl rfl)) pgs_nil))))) (pss_one (ps_if (pt_cmpR op_lt (pv 7) (pv 8) (nomark _)) (pss_cons (ps_set (i := 4) scDrawn.nd rfl (Or.inl rfl) (pe_op op_add (pv 7) (C8.pe_c G1 hr (by decide) rfl (pa_cons (pv 0) (pa_cons (pe_op op_sub (pv 8) (pv 7)) pa_nil))))) (pss_cons (ps_if (PW.pt (pw_and (pt_cmpR op_eq (pv 2) pe_int (nomark _)) (pw_and1 (pt_cmpR op_gt (C8.pe_c G1 hr (by decide) rfl (pa_cons (pv 0) (pa_cons pe_int pa_nil))) pe_int (nomark _))))) (pss_one (ps_set (i := 4) scDrawn.nd rfl (Or.inl rfl) (pe_op op_sub (pv 8) pe_int))) pss_nil) (pss_cons (ps_if (PW.pt (pw_and (pt_cmpR op_eq (pv 2) pe_int (nomark _)) (pw_and1 (pt_cmpR op_gt (C8.pe_c G1 hr (by decide) rfl (pa_cons (pv 0) (pa_cons pe_int pa_nil))) pe_int (nomark _))))) (pss_one (ps_set (i := 4) scDrawn.nd rfl (Or.inl rfl) (pv 7))) pss_nil) (pss_cons (ps_asg (pv 9) (pg_sub (pv 3) (pv 4) set_list)) (pss_cons (ps_expr (pe_bm PySem.F.plainAttrs_list PySem.F.slot_list_append PySem.F.type_list_append mt_append (pv 5) (pa_cons (pe_tup (pa_cons (pv 7) (pa_cons (pv 4) (pa_cons (pe_op op_add (pv 9) pe_int) pa_nil)))) pa_nil))) (pss_one (ps_expr (pe_bm PySem.F.plainAttrs_list PySem.F.slot_list_append PySem.F.type_list_append mt_append (pv 5) (pa_cons (pe_tup (pa_cons (pe_op op_add (pv 4) pe_int) (pa_cons (pv 8) (pa_cons (pe_op op_add (pv 9) pe_int) pa_nil)))) pa_nil))))))))) pss_nil))) pss_nil))) (pss_one (ps_ret (pe_callTy call_tupX rfl g.tuple bTuple (pa_cons (pv 3) pa_nil)))))))), ?_⟩
    refine ⟨_, rfl, d, c, 3, rfl, di, by decide, by decide, fun H1 ln b1 di1 l0 l1 => ?_⟩
    -- found
    refine ⟨_, rfl, _, _, rfl, rfl, (N : Int) - 1, rfl, by omega, by omega, fun D hD => ?_⟩
    have nDd : D ≠ d := di1.free hD
    have nDc : D ≠ c := di1.freec hD
    have nDH : H D = none := but_free b1 hD nDd
    refine lc_range (lo := 0) (n := ((N : Int) - 1).toNat) (fun i H5 => Same H1 H5 ∧ H5 D = some (.lst ((List.replicate i (0 : Int)).map V.int)))
      ⟨same_new hD, upd_same⟩ (fun i H5 hi q => ?_) (fun H5 q => ?_)
    · refine ⟨rfl, lc_yes ⟨_, q.2, by rw [List.length_map, List.length_replicate]; exact Nat.lt_trans (show i < 20 by omega) (by decide), same_mut q.1 hD, ?_⟩⟩
      rw [upd_same, List.replicate_succ', List.map_append]; rfl
    obtain ⟨e5, hf5⟩ := q
    -- waiting
    refine ⟨_, rfl, _, _, rfl, rfl, by show 3 ≤ sizeLine; decide, fun pt npt => ?_⟩
    have s6 := same_new (o := .tup [.int 0, .int ((N : Int) - 1), .int 0]) npt
    have hpt : SwAt (upd H5 pt (.tup [.int 0, .int ((N : Int) - 1), .int 0])) pt ⟨0, N, 0⟩ := by
      show upd H5 pt _ pt = some (.tup [.int ((0 : Nat) : Int), .int ((0 + N - 1 : Nat) : Int), .int 0])
      rw [upd_same, show ((0 + N - 1 : Nat) : Int) = (N : Int) - 1 by omega]; rfl
    have hf6 := s6 _ _ hf5
    have e6 := e5.trans s6
    generalize upd H5 pt (.tup [.int 0, .int ((N : Int) - 1), .int 0]) = H6 at s6 hpt hf6 e6
    refine ⟨by show 1 ≤ sizeLine; decide, fun pw npw => ?_⟩
    have s7 := same_new (o := .lst [.ref pt]) npw
    have e7 := e6.trans s7
    have nDp : D ≠ pw := free_ne hf6 npw
    have npd : pw ≠ d := (di1.same e6).free npw
    have npc : pw ≠ c := (di1.same e6).freec npw
    have npH : H pw = none := but_free (b1.trans (But.of e6)) npw npd
    have b7 := b1.trans (But.of e7)
    have di7 := di1.same e7
    have hf7 := s7 _ _ hf6
    have hw7 : (upd H6 pw (.lst [.ref pt])) pw = some (.lst ([pt].map V.ref)) := upd_same
    have hp7 : Paired (SwAt (upd H6 pw (.lst [.ref pt]))) [pt] [⟨0, N, 0⟩] := .cons (SwAt.tm _ _ _ _ (fun b ys z => s7 b _ z) hpt) .nil
    generalize upd H6 pw (.lst [.ref pt]) = H7 at b7 di7 hf7 hw7 hp7
    clear e5 hf5 s6 hpt hf6 e6 s7 e7 npw npt hD b1 di1
    refine ⟨_, rfl, _, _, rfl, rfl, .inl ⟨by decide, by decide⟩, 2 * (N : Int), rfl, by omega, by omega, ?_⟩
    refine for_range (lo := 0) (n := (2 * (N : Int)).toNat) (fun i σ H' => ∃ (Fr : Row) (as : List Addr) (stk : List Sw) (v4 v6 v7 v8 v9 : Option V), σ = [some (.ref d), some (.int (N : Int)), some (.int ln), some (.ref D), v4, some (.ref pw), v6, v7, v8, v9] ∧ But d H H' ∧ Dice H' d c ∧ H' D = some (.lst (Fr.map V.int)) ∧ Fr.length + 1 = N ∧
      H' pw = some (.lst (as.map V.ref)) ∧ Paired (SwAt H') as stk ∧ Fits N Fr stk ∧ (∀ x ∈ stk, 1 ≤ x.n ∧ x.f + x.n ≤ N) ∧ stk.Pairwise (fun a b => a.f + a.n ≤ b.f) ∧ (swSum stk + i ≤ 2 * N - 1 ∨ stk = []))
      ⟨List.replicate ((N : Int) - 1).toNat 0, [pt], [⟨0, N, 0⟩], none, none, none, none, none, rfl, b7, di7, hf7, by rw [List.length_replicate]; omega, hw7, hp7, Fits.start n1 (by rw [List.length_replicate]; omega), fun x hx => ?_, List.pairwise_singleton .., ?_⟩ (fun i σ H' hi p => ?_) (fun σ H' p => ?_)
    · rw [List.mem_singleton] at hx
      subst hx
      exact ⟨n1, by show 0 + N ≤ N; omega⟩
    · left
      show 2 * N - 1 + 0 + 0 ≤ 2 * N - 1
      omega
    · obtain ⟨Fr, as, stk, v4, v6, v7, v8, v9, rfl, bX, dX, zD, hFl, zw, pp, fits, hok, hpw, hsum⟩ := p
      refine ⟨_, rfl, pw, _, rfl, .inl (SqL.of zw), _, _, rfl, rfl, _, rfl, ?_⟩
      rcases List.eq_nil_or_concat stk with rfl | ⟨stk', x, rfl⟩
      · cases pp
        exact iteF ⟨Fr, [], [], _, _, _, _, _, rfl, bX, dX, zD, hFl, zw, .nil, fits, hok, hpw, .inr rfl⟩
      · rw [List.concat_eq_append] at *
        obtain ⟨as', aw, rfl, pp2, haw⟩ := paired_snoc pp
        rw [decide_eq_true (show (0 : Int) < (((as' ++ [aw]).map V.ref).length : Int) by simp only [List.length_map, List.length_append, List.length_singleton]; omega)]
        obtain ⟨f, n, dd⟩ := x
        have okx := hok ⟨f, n, dd⟩ (by simp)
        replace okx : 1 ≤ n ∧ f + n ≤ N := okx
        replace hok : ∀ x ∈ stk', 1 ≤ x.n ∧ x.f + x.n ≤ N := fun x hx => hok x (List.mem_append_left _ hx)
        obtain ⟨hpw', _, hcr⟩ := List.pairwise_append.mp hpw
        replace hpw := hpw'
        have hbelow : ∀ a ∈ stk', a.f + a.n ≤ f := fun a ha => hcr a ha _ (List.mem_singleton.mpr rfl)
        replace hsum : swSum stk' + (2 * n - 1) + i ≤ 2 * N - 1 := by
          rcases hsum with z | z
          · rw [swSum_snoc] at z; exact z
          · exact absurd z (by simp)
        have lst' := sw_len (xs := stk') fun y hy => (hok y hy).1
        have las : as'.length ≤ 79 := by
          have := Paired.length pp2
          omega
        refine iteT ⟨_, rfl, .inl ⟨rfl, _, SqL.of zw⟩, pw, _, .ref aw, rfl, rfl, zw, last_at, ?_⟩
        rw [drop_last]
        have haw' : upd H' pw (.lst (as'.map V.ref)) aw = some (.tup [.int (f : Int), .int ((f + n - 1 : Nat) : Int), .int dd]) := upd_tup (ys := as'.map V.ref) zw haw
        refine ⟨aw, _, rfl, SqT.of haw', rfl, _, _, rfl, _, _, rfl, _, _, rfl, rfl, ?_⟩
        replace pp : Paired (SwAt (upd H' pw (.lst (as'.map V.ref)))) as' stk' := Paired.mapP pp2 fun a x q => SwAt.tm _ _ _ _ (fun b ys z => upd_tup zw z) q
        replace bX : But d H (upd H' pw (.lst (as'.map V.ref))) := but_mut bX npH
        replace dX := dX.mut (o := .lst (as'.map V.ref)) npd npc
        replace zD : (upd H' pw (.lst (as'.map V.ref))) D = _ := (upd_ne nDp).trans zD
        replace zw : (upd H' pw (.lst (as'.map V.ref))) pw = some (.lst (as'.map V.ref)) := upd_same
        refine ⟨_, rfl, _, rfl, (f : Int), ((f + n - 1 : Nat) : Int), rfl, rfl, _, rfl, ?_⟩
        generalize upd H' pw (.lst (as'.map V.ref)) = H2 at pp bX dX zD zw
        clear haw haw' pp2 hpw' hcr
        by_cases hn1 : n = 1
        · subst hn1
          rw [decide_eq_false (show ¬ ((f : Int) < ((f + 1 - 1 : Nat) : Int)) by omega)]
          refine iteF ⟨Fr, as', stk', _, _, _, _, _, rfl, bX, dX, zD, hFl, zw, pp, fits.leaf, hok, hpw, .inl (by omega)⟩
        · rw [decide_eq_true (show ((f : Int) < ((f + n - 1 : Nat) : Int)) by omega)]
          refine iteT ⟨_, rfl, _, rfl, _, rfl, _, rfl, _, _, rfl, rfl, d, c, _, rfl, dX, by omega, by omega, fun H3 v b3 d3 v0 v1 => ?_⟩
          replace bX := bX.trans b3
          replace pp : Paired (SwAt H3) as' stk' := Paired.mapP pp fun a x q => SwAt.tm _ _ _ _ (fun b ys z => tup_but dX b3 z) q
          replace zD := b3 _ _ nDd zD
          replace zw := b3 _ _ npd zw
          replace dX := d3
          clear b3 d3
          obtain ⟨vn, rfl⟩ : ∃ vn : Nat, v = (vn : Int) := ⟨v.toNat, by omega⟩
          have hvn : vn < n - 1 := by omega
          have hsm : (f : Int) + (vn : Int) = ((f + (vn + 1) - 1 : Nat) : Int) := by omega
          have hsm2 : ((f + n - 1 : Nat) : Int) - 1 = ((f + (n - 1) - 1 : Nat) : Int) := by omega
          have hsm3 : (f : Int) = ((f + 1 - 1 : Nat) : Int) := rfl
          refine ⟨_, _, rfl, rfl, _, rfl, rfl, decide (V.int ln = V.int 1), rfl, ?_⟩
          by_cases h1 : V.int ln = V.int 1
          · rw [decide_eq_true h1]
            have h2 : ¬ V.int ln = V.int 2 := fun e => by rw [e] at h1; cases h1
            refine iteT ⟨_, rfl, d, c, 4, rfl, dX, by decide, by decide, fun H4 u b4 d4 u0 u1 => ?_⟩
            replace bX := bX.trans b4
            replace pp : Paired (SwAt H4) as' stk' := Paired.mapP pp fun a x q => SwAt.tm _ _ _ _ (fun b ys z => tup_but dX b4 z) q
            replace zD := b4 _ _ nDd zD
            replace zw := b4 _ _ npd zw
            replace dX := d4
            clear b4 d4
            refine ⟨_, _, rfl, rfl, _, rfl, ?_⟩
            by_cases hu : (0 : Int) < u
            · rw [decide_eq_true hu]
              refine iteT ⟨_, rfl, _, _, rfl, rfl, _, rfl, rfl, decide (V.int ln = V.int 2), rfl, ?_⟩
              rw [decide_eq_false h2]
              refine iteF (iteF ?_)
              refine ⟨_, rfl, _, rfl, _, rfl, D, _, _, f + (n - 1) - 1, rfl, rfl, zD, by rw [hsm2]; exact ixN_nat (by rw [List.length_map]; omega), ?_⟩
              rw [← List.map_set]
              replace bX := but_mut (o := .lst ((Fr.set (f + (n - 1) - 1) dd).map V.int)) bX nDH
              replace dX := dX.mut (o := .lst ((Fr.set (f + (n - 1) - 1) dd).map V.int)) nDd nDc
              replace zw : (upd H4 D (.lst ((Fr.set (f + (n - 1) - 1) dd).map V.int))) pw = _ := (upd_ne nDp.symm).trans zw
              replace pp : Paired (SwAt (upd H4 D (.lst ((Fr.set (f + (n - 1) - 1) dd).map V.int)))) as' stk' := Paired.mapP pp fun a x q => SwAt.tm _ _ _ _ (fun b ys z => upd_tup zD z) q
              replace zD : (upd H4 D (.lst ((Fr.set (f + (n - 1) - 1) dd).map V.int))) D = some (.lst ((Fr.set (f + (n - 1) - 1) dd).map V.int)) := upd_same
              generalize upd H4 D (.lst ((Fr.set (f + (n - 1) - 1) dd).map V.int)) = J1 at bX dX zw pp zD
              refine ⟨_, rfl, .inl ⟨rfl, _, SqL.of zw⟩, _, rfl, _, rfl, _, rfl, _, _, rfl, rfl, by show 3 ≤ sizeLine; decide, fun q1 nq1 => ?_⟩
              have g1 := same_new (o := .tup [.int (f : Int), .int (((f + n - 1 : Nat) : Int) - 1), .int (dd + 1)]) nq1
              have hq1 : SwAt (upd J1 q1 (.tup [.int (f : Int), .int (((f + n - 1 : Nat) : Int) - 1), .int (dd + 1)])) q1 ⟨f, (n - 1), dd + 1⟩ := by
                show upd J1 q1 _ q1 = some (.tup [.int (f : Int), .int ((f + (n - 1) - 1 : Nat) : Int), .int (dd + 1)])
                rw [upd_same, hsm2]
              replace bX := bX.trans (But.of g1)
              replace dX := dX.same g1
              replace zw := g1 _ _ zw
              replace zD := g1 _ _ zD
              replace pp : Paired (SwAt (upd J1 q1 (.tup [.int (f : Int), .int (((f + n - 1 : Nat) : Int) - 1), .int (dd + 1)]))) as' stk' := Paired.mapP pp fun a x q => SwAt.tm _ _ _ _ (fun b ys z => g1 b _ z) q
              generalize upd J1 q1 (.tup [.int (f : Int), .int (((f + n - 1 : Nat) : Int) - 1), .int (dd + 1)]) = J2 at bX dX zw zD pp hq1
              refine ⟨pw, _, _, rfl, rfl, zw, by rw [List.length_map]; exact Nat.lt_of_le_of_lt las (by decide), ?_⟩
              obtain ⟨as1, zw3, pp3⟩ : LP SwAt (upd J2 pw (.lst (as'.map V.ref ++ [.ref q1]))) pw (stk' ++ [_]) := LP.grow (bs := [q1]) SwAt.tm zw pp (.cons hq1 .nil)
              replace bX : But d H (upd J2 pw (.lst (as'.map V.ref ++ [.ref q1]))) := but_mut bX npH
              replace dX := dX.mut (o := .lst (as'.map V.ref ++ [.ref q1])) npd npc
              replace zD : (upd J2 pw (.lst (as'.map V.ref ++ [.ref q1]))) D = _ := (upd_ne nDp).trans zD
              have la1 := Paired.length pp3
              rw [List.length_append, List.length_singleton] at la1
              generalize upd J2 pw (.lst (as'.map V.ref ++ [.ref q1])) = J3 at bX dX zD zw3 pp3
              refine ⟨_, rfl, .inl ⟨rfl, _, SqL.of zw3⟩, _, rfl, _, _, rfl, rfl, _, rfl, _, rfl, _, _, rfl, rfl, by show 3 ≤ sizeLine; decide, fun q2 nq2 => ?_⟩
              have g2 := same_new (o := .tup [.int ((((f + n - 1 : Nat) : Int) - 1) + 1), .int ((f + n - 1 : Nat) : Int), .int (dd + 1)]) nq2
              have hq2 : SwAt (upd J3 q2 (.tup [.int ((((f + n - 1 : Nat) : Int) - 1) + 1), .int ((f + n - 1 : Nat) : Int), .int (dd + 1)])) q2 ⟨f + (n - 1), n - ((n - 1)), dd + 1⟩ := by
                show upd J3 q2 _ q2 = some (.tup [.int ((f + (n - 1) : Nat) : Int), .int ((f + (n - 1) + (n - ((n - 1))) - 1 : Nat) : Int), .int (dd + 1)])
                rw [upd_same, show (((f + n - 1 : Nat) : Int) - 1) + 1 = ((f + (n - 1) : Nat) : Int) by rw [hsm2]; omega, show f + (n - 1) + (n - ((n - 1))) - 1 = f + n - 1 by omega]
              replace bX := bX.trans (But.of g2)
              replace dX := dX.same g2
              have zw4 := g2 _ _ zw3
              replace zD := g2 _ _ zD
              have pp4 : Paired (SwAt (upd J3 q2 (.tup [.int ((((f + n - 1 : Nat) : Int) - 1) + 1), .int ((f + n - 1 : Nat) : Int), .int (dd + 1)]))) as1 (stk' ++ [⟨f, (n - 1), dd + 1⟩]) := Paired.mapP pp3 fun a x q => SwAt.tm _ _ _ _ (fun b ys z => g2 b _ z) q
              generalize upd J3 q2 (.tup [.int ((((f + n - 1 : Nat) : Int) - 1) + 1), .int ((f + n - 1 : Nat) : Int), .int (dd + 1)]) = J4 at bX dX zw4 zD pp4 hq2
              refine ⟨pw, _, _, rfl, rfl, zw4, by rw [List.length_map]; exact Nat.lt_of_le_of_lt (show as1.length ≤ 80 by omega) (by decide), ?_⟩
              obtain ⟨as2, zw5, pp5⟩ := LP.grow (bs := [q2]) SwAt.tm zw4 pp4 (.cons hq2 .nil)
              refine ⟨Fr.set (f + (n - 1) - 1) dd, as2, _, _, _, _, _, _, rfl, but_mut bX npH, dX.mut npd npc, (upd_ne nDp).trans zD, by rw [List.length_set]; exact hFl, zw5, pp5, fits.node (by omega) (by omega) (by omega) hbelow, fun x hx => ?_, ?_, ?_⟩
              · rcases List.mem_append.mp hx with z | z
                · rcases List.mem_append.mp z with z | z
                  · exact hok x z
                  · rw [List.mem_singleton] at z
                    subst z
                    exact ⟨by show 1 ≤ (n - 1); omega, by show f + ((n - 1)) ≤ N; omega⟩
                · rw [List.mem_singleton] at z
                  subst z
                  exact ⟨by show 1 ≤ n - ((n - 1)); omega, by show f + (n - 1) + (n - ((n - 1))) ≤ N; omega⟩
              · refine List.pairwise_append.mpr ⟨List.pairwise_append.mpr ⟨hpw, List.pairwise_singleton .., fun a ha b hb => ?_⟩, List.pairwise_singleton .., fun a ha b hb => ?_⟩
                · rw [List.mem_singleton] at hb
                  subst hb
                  exact hbelow a ha
                · rw [List.mem_singleton] at hb
                  subst hb
                  show a.f + a.n ≤ f + (n - 1)
                  rcases List.mem_append.mp ha with z | z
                  · have := hbelow a z
                    omega
                  · rw [List.mem_singleton] at z
                    subst z
                    exact Nat.le_refl _
              · rw [swSum_snoc, swSum_snoc]
                left
                show swSum stk' + (2 * ((n - 1)) - 1) + (2 * (n - ((n - 1))) - 1) + (i + 1) ≤ 2 * N - 1
                omega
            · rw [decide_eq_false hu]
              refine iteF ⟨_, rfl, rfl, decide (V.int ln = V.int 2), rfl, ?_⟩
              rw [decide_eq_false h2]
              refine iteF (iteF ?_)
              refine ⟨_, rfl, _, rfl, _, rfl, D, _, _, f + (vn + 1) - 1, rfl, rfl, zD, by rw [hsm]; exact ixN_nat (by rw [List.length_map]; omega), ?_⟩
              rw [← List.map_set]
              replace bX := but_mut (o := .lst ((Fr.set (f + (vn + 1) - 1) dd).map V.int)) bX nDH
              replace dX := dX.mut (o := .lst ((Fr.set (f + (vn + 1) - 1) dd).map V.int)) nDd nDc
              replace zw : (upd H4 D (.lst ((Fr.set (f + (vn + 1) - 1) dd).map V.int))) pw = _ := (upd_ne nDp.symm).trans zw
              replace pp : Paired (SwAt (upd H4 D (.lst ((Fr.set (f + (vn + 1) - 1) dd).map V.int)))) as' stk' := Paired.mapP pp fun a x q => SwAt.tm _ _ _ _ (fun b ys z => upd_tup zD z) q
              replace zD : (upd H4 D (.lst ((Fr.set (f + (vn + 1) - 1) dd).map V.int))) D = some (.lst ((Fr.set (f + (vn + 1) - 1) dd).map V.int)) := upd_same
              generalize upd H4 D (.lst ((Fr.set (f + (vn + 1) - 1) dd).map V.int)) = J1 at bX dX zw pp zD
              refine ⟨_, rfl, .inl ⟨rfl, _, SqL.of zw⟩, _, rfl, _, rfl, _, rfl, _, _, rfl, rfl, by show 3 ≤ sizeLine; decide, fun q1 nq1 => ?_⟩
              have g1 := same_new (o := .tup [.int (f : Int), .int ((f : Int) + (vn : Int)), .int (dd + 1)]) nq1
              have hq1 : SwAt (upd J1 q1 (.tup [.int (f : Int), .int ((f : Int) + (vn : Int)), .int (dd + 1)])) q1 ⟨f, (vn + 1), dd + 1⟩ := by
                show upd J1 q1 _ q1 = some (.tup [.int (f : Int), .int ((f + (vn + 1) - 1 : Nat) : Int), .int (dd + 1)])
                rw [upd_same, hsm]
              replace bX := bX.trans (But.of g1)
              replace dX := dX.same g1
              replace zw := g1 _ _ zw
              replace zD := g1 _ _ zD
              replace pp : Paired (SwAt (upd J1 q1 (.tup [.int (f : Int), .int ((f : Int) + (vn : Int)), .int (dd + 1)]))) as' stk' := Paired.mapP pp fun a x q => SwAt.tm _ _ _ _ (fun b ys z => g1 b _ z) q
              generalize upd J1 q1 (.tup [.int (f : Int), .int ((f : Int) + (vn : Int)), .int (dd + 1)]) = J2 at bX dX zw zD pp hq1
              refine ⟨pw, _, _, rfl, rfl, zw, by rw [List.length_map]; exact Nat.lt_of_le_of_lt las (by decide), ?_⟩
              obtain ⟨as1, zw3, pp3⟩ : LP SwAt (upd J2 pw (.lst (as'.map V.ref ++ [.ref q1]))) pw (stk' ++ [_]) := LP.grow (bs := [q1]) SwAt.tm zw pp (.cons hq1 .nil)
              replace bX : But d H (upd J2 pw (.lst (as'.map V.ref ++ [.ref q1]))) := but_mut bX npH
              replace dX := dX.mut (o := .lst (as'.map V.ref ++ [.ref q1])) npd npc
              replace zD : (upd J2 pw (.lst (as'.map V.ref ++ [.ref q1]))) D = _ := (upd_ne nDp).trans zD
              have la1 := Paired.length pp3
              rw [List.length_append, List.length_singleton] at la1
              generalize upd J2 pw (.lst (as'.map V.ref ++ [.ref q1])) = J3 at bX dX zD zw3 pp3
              refine ⟨_, rfl, .inl ⟨rfl, _, SqL.of zw3⟩, _, rfl, _, _, rfl, rfl, _, rfl, _, rfl, _, _, rfl, rfl, by show 3 ≤ sizeLine; decide, fun q2 nq2 => ?_⟩
              have g2 := same_new (o := .tup [.int (((f : Int) + (vn : Int)) + 1), .int ((f + n - 1 : Nat) : Int), .int (dd + 1)]) nq2
              have hq2 : SwAt (upd J3 q2 (.tup [.int (((f : Int) + (vn : Int)) + 1), .int ((f + n - 1 : Nat) : Int), .int (dd + 1)])) q2 ⟨f + (vn + 1), n - ((vn + 1)), dd + 1⟩ := by
                show upd J3 q2 _ q2 = some (.tup [.int ((f + (vn + 1) : Nat) : Int), .int ((f + (vn + 1) + (n - ((vn + 1))) - 1 : Nat) : Int), .int (dd + 1)])
                rw [upd_same, show ((f : Int) + (vn : Int)) + 1 = ((f + (vn + 1) : Nat) : Int) by rw [hsm]; omega, show f + (vn + 1) + (n - ((vn + 1))) - 1 = f + n - 1 by omega]
              replace bX := bX.trans (But.of g2)
              replace dX := dX.same g2
              have zw4 := g2 _ _ zw3
              replace zD := g2 _ _ zD
              have pp4 : Paired (SwAt (upd J3 q2 (.tup [.int (((f : Int) + (vn : Int)) + 1), .int ((f + n - 1 : Nat) : Int), .int (dd + 1)]))) as1 (stk' ++ [⟨f, (vn + 1), dd + 1⟩]) := Paired.mapP pp3 fun a x q => SwAt.tm _ _ _ _ (fun b ys z => g2 b _ z) q
              generalize upd J3 q2 (.tup [.int (((f : Int) + (vn : Int)) + 1), .int ((f + n - 1 : Nat) : Int), .int (dd + 1)]) = J4 at bX dX zw4 zD pp4 hq2
              refine ⟨pw, _, _, rfl, rfl, zw4, by rw [List.length_map]; exact Nat.lt_of_le_of_lt (show as1.length ≤ 80 by omega) (by decide), ?_⟩
              obtain ⟨as2, zw5, pp5⟩ := LP.grow (bs := [q2]) SwAt.tm zw4 pp4 (.cons hq2 .nil)
              refine ⟨Fr.set (f + (vn + 1) - 1) dd, as2, _, _, _, _, _, _, rfl, but_mut bX npH, dX.mut npd npc, (upd_ne nDp).trans zD, by rw [List.length_set]; exact hFl, zw5, pp5, fits.node (by omega) (by omega) (by omega) hbelow, fun x hx => ?_, ?_, ?_⟩
              · rcases List.mem_append.mp hx with z | z
                · rcases List.mem_append.mp z with z | z
                  · exact hok x z
                  · rw [List.mem_singleton] at z
                    subst z
                    exact ⟨by show 1 ≤ (vn + 1); omega, by show f + ((vn + 1)) ≤ N; omega⟩
                · rw [List.mem_singleton] at z
                  subst z
                  exact ⟨by show 1 ≤ n - ((vn + 1)); omega, by show f + (vn + 1) + (n - ((vn + 1))) ≤ N; omega⟩
              · refine List.pairwise_append.mpr ⟨List.pairwise_append.mpr ⟨hpw, List.pairwise_singleton .., fun a ha b hb => ?_⟩, List.pairwise_singleton .., fun a ha b hb => ?_⟩
                · rw [List.mem_singleton] at hb
                  subst hb
                  exact hbelow a ha
                · rw [List.mem_singleton] at hb
                  subst hb
                  show a.f + a.n ≤ f + (vn + 1)
                  rcases List.mem_append.mp ha with z | z
                  · have := hbelow a z
                    omega
                  · rw [List.mem_singleton] at z
                    subst z
                    exact Nat.le_refl _
              · rw [swSum_snoc, swSum_snoc]
                left
                show swSum stk' + (2 * ((vn + 1)) - 1) + (2 * (n - ((vn + 1))) - 1) + (i + 1) ≤ 2 * N - 1
                omega
          · rw [decide_eq_false h1]
            refine iteF (iteF ⟨_, rfl, rfl, decide (V.int ln = V.int 2), rfl, ?_⟩)
            by_cases h2 : V.int ln = V.int 2
            · rw [decide_eq_true h2]
              refine iteT ⟨_, rfl, d, c, 4, rfl, dX, by decide, by decide, fun H4 u b4 d4 u0 u1 => ?_⟩
              replace bX := bX.trans b4
              replace pp : Paired (SwAt H4) as' stk' := Paired.mapP pp fun a x q => SwAt.tm _ _ _ _ (fun b ys z => tup_but dX b4 z) q
              replace zD := b4 _ _ nDd zD
              replace zw := b4 _ _ npd zw
              replace dX := d4
              clear b4 d4
              refine ⟨_, _, rfl, rfl, _, rfl, ?_⟩
              by_cases hu : (0 : Int) < u
              · rw [decide_eq_true hu]
                refine iteT ⟨_, rfl, ?_⟩
                refine ⟨_, rfl, _, rfl, _, rfl, D, _, _, f + 1 - 1, rfl, rfl, zD, by rw [hsm3]; exact ixN_nat (by rw [List.length_map]; omega), ?_⟩
                rw [← List.map_set]
                replace bX := but_mut (o := .lst ((Fr.set (f + 1 - 1) dd).map V.int)) bX nDH
                replace dX := dX.mut (o := .lst ((Fr.set (f + 1 - 1) dd).map V.int)) nDd nDc
                replace zw : (upd H4 D (.lst ((Fr.set (f + 1 - 1) dd).map V.int))) pw = _ := (upd_ne nDp.symm).trans zw
                replace pp : Paired (SwAt (upd H4 D (.lst ((Fr.set (f + 1 - 1) dd).map V.int)))) as' stk' := Paired.mapP pp fun a x q => SwAt.tm _ _ _ _ (fun b ys z => upd_tup zD z) q
                replace zD : (upd H4 D (.lst ((Fr.set (f + 1 - 1) dd).map V.int))) D = some (.lst ((Fr.set (f + 1 - 1) dd).map V.int)) := upd_same
                generalize upd H4 D (.lst ((Fr.set (f + 1 - 1) dd).map V.int)) = J1 at bX dX zw pp zD
                refine ⟨_, rfl, .inl ⟨rfl, _, SqL.of zw⟩, _, rfl, _, rfl, _, rfl, _, _, rfl, rfl, by show 3 ≤ sizeLine; decide, fun q1 nq1 => ?_⟩
                have g1 := same_new (o := .tup [.int (f : Int), .int ((f : Int)), .int (dd + 1)]) nq1
                have hq1 : SwAt (upd J1 q1 (.tup [.int (f : Int), .int ((f : Int)), .int (dd + 1)])) q1 ⟨f, 1, dd + 1⟩ := by
                  show upd J1 q1 _ q1 = some (.tup [.int (f : Int), .int ((f + 1 - 1 : Nat) : Int), .int (dd + 1)])
                  rw [upd_same, hsm3]
                replace bX := bX.trans (But.of g1)
                replace dX := dX.same g1
                replace zw := g1 _ _ zw
                replace zD := g1 _ _ zD
                replace pp : Paired (SwAt (upd J1 q1 (.tup [.int (f : Int), .int ((f : Int)), .int (dd + 1)]))) as' stk' := Paired.mapP pp fun a x q => SwAt.tm _ _ _ _ (fun b ys z => g1 b _ z) q
                generalize upd J1 q1 (.tup [.int (f : Int), .int ((f : Int)), .int (dd + 1)]) = J2 at bX dX zw zD pp hq1
                refine ⟨pw, _, _, rfl, rfl, zw, by rw [List.length_map]; exact Nat.lt_of_le_of_lt las (by decide), ?_⟩
                obtain ⟨as1, zw3, pp3⟩ : LP SwAt (upd J2 pw (.lst (as'.map V.ref ++ [.ref q1]))) pw (stk' ++ [_]) := LP.grow (bs := [q1]) SwAt.tm zw pp (.cons hq1 .nil)
                replace bX : But d H (upd J2 pw (.lst (as'.map V.ref ++ [.ref q1]))) := but_mut bX npH
                replace dX := dX.mut (o := .lst (as'.map V.ref ++ [.ref q1])) npd npc
                replace zD : (upd J2 pw (.lst (as'.map V.ref ++ [.ref q1]))) D = _ := (upd_ne nDp).trans zD
                have la1 := Paired.length pp3
                rw [List.length_append, List.length_singleton] at la1
                generalize upd J2 pw (.lst (as'.map V.ref ++ [.ref q1])) = J3 at bX dX zD zw3 pp3
                refine ⟨_, rfl, .inl ⟨rfl, _, SqL.of zw3⟩, _, rfl, _, _, rfl, rfl, _, rfl, _, rfl, _, _, rfl, rfl, by show 3 ≤ sizeLine; decide, fun q2 nq2 => ?_⟩
                have g2 := same_new (o := .tup [.int (((f : Int)) + 1), .int ((f + n - 1 : Nat) : Int), .int (dd + 1)]) nq2
                have hq2 : SwAt (upd J3 q2 (.tup [.int (((f : Int)) + 1), .int ((f + n - 1 : Nat) : Int), .int (dd + 1)])) q2 ⟨f + 1, n - (1), dd + 1⟩ := by
                  show upd J3 q2 _ q2 = some (.tup [.int ((f + 1 : Nat) : Int), .int ((f + 1 + (n - (1)) - 1 : Nat) : Int), .int (dd + 1)])
                  rw [upd_same, show ((f : Int)) + 1 = ((f + 1 : Nat) : Int) by rw [hsm3]; omega, show f + 1 + (n - (1)) - 1 = f + n - 1 by omega]
                replace bX := bX.trans (But.of g2)
                replace dX := dX.same g2
                have zw4 := g2 _ _ zw3
                replace zD := g2 _ _ zD
                have pp4 : Paired (SwAt (upd J3 q2 (.tup [.int (((f : Int)) + 1), .int ((f + n - 1 : Nat) : Int), .int (dd + 1)]))) as1 (stk' ++ [⟨f, 1, dd + 1⟩]) := Paired.mapP pp3 fun a x q => SwAt.tm _ _ _ _ (fun b ys z => g2 b _ z) q
                generalize upd J3 q2 (.tup [.int (((f : Int)) + 1), .int ((f + n - 1 : Nat) : Int), .int (dd + 1)]) = J4 at bX dX zw4 zD pp4 hq2
                refine ⟨pw, _, _, rfl, rfl, zw4, by rw [List.length_map]; exact Nat.lt_of_le_of_lt (show as1.length ≤ 80 by omega) (by decide), ?_⟩
                obtain ⟨as2, zw5, pp5⟩ := LP.grow (bs := [q2]) SwAt.tm zw4 pp4 (.cons hq2 .nil)
                refine ⟨Fr.set (f + 1 - 1) dd, as2, _, _, _, _, _, _, rfl, but_mut bX npH, dX.mut npd npc, (upd_ne nDp).trans zD, by rw [List.length_set]; exact hFl, zw5, pp5, fits.node (by omega) (by omega) (by omega) hbelow, fun x hx => ?_, ?_, ?_⟩
                · rcases List.mem_append.mp hx with z | z
                  · rcases List.mem_append.mp z with z | z
                    · exact hok x z
                    · rw [List.mem_singleton] at z
                      subst z
                      exact ⟨by show 1 ≤ 1; omega, by show f + (1) ≤ N; omega⟩
                  · rw [List.mem_singleton] at z
                    subst z
                    exact ⟨by show 1 ≤ n - (1); omega, by show f + 1 + (n - (1)) ≤ N; omega⟩
                · refine List.pairwise_append.mpr ⟨List.pairwise_append.mpr ⟨hpw, List.pairwise_singleton .., fun a ha b hb => ?_⟩, List.pairwise_singleton .., fun a ha b hb => ?_⟩
                  · rw [List.mem_singleton] at hb
                    subst hb
                    exact hbelow a ha
                  · rw [List.mem_singleton] at hb
                    subst hb
                    show a.f + a.n ≤ f + 1
                    rcases List.mem_append.mp ha with z | z
                    · have := hbelow a z
                      omega
                    · rw [List.mem_singleton] at z
                      subst z
                      exact Nat.le_refl _
                · rw [swSum_snoc, swSum_snoc]
                  left
                  show swSum stk' + (2 * (1) - 1) + (2 * (n - (1)) - 1) + (i + 1) ≤ 2 * N - 1
                  omega
              · rw [decide_eq_false hu]
                refine iteF ?_
                refine ⟨_, rfl, _, rfl, _, rfl, D, _, _, f + (vn + 1) - 1, rfl, rfl, zD, by rw [hsm]; exact ixN_nat (by rw [List.length_map]; omega), ?_⟩
                rw [← List.map_set]
                replace bX := but_mut (o := .lst ((Fr.set (f + (vn + 1) - 1) dd).map V.int)) bX nDH
                replace dX := dX.mut (o := .lst ((Fr.set (f + (vn + 1) - 1) dd).map V.int)) nDd nDc
                replace zw : (upd H4 D (.lst ((Fr.set (f + (vn + 1) - 1) dd).map V.int))) pw = _ := (upd_ne nDp.symm).trans zw
                replace pp : Paired (SwAt (upd H4 D (.lst ((Fr.set (f + (vn + 1) - 1) dd).map V.int)))) as' stk' := Paired.mapP pp fun a x q => SwAt.tm _ _ _ _ (fun b ys z => upd_tup zD z) q
                replace zD : (upd H4 D (.lst ((Fr.set (f + (vn + 1) - 1) dd).map V.int))) D = some (.lst ((Fr.set (f + (vn + 1) - 1) dd).map V.int)) := upd_same
                generalize upd H4 D (.lst ((Fr.set (f + (vn + 1) - 1) dd).map V.int)) = J1 at bX dX zw pp zD
                refine ⟨_, rfl, .inl ⟨rfl, _, SqL.of zw⟩, _, rfl, _, rfl, _, rfl, _, _, rfl, rfl, by show 3 ≤ sizeLine; decide, fun q1 nq1 => ?_⟩
                have g1 := same_new (o := .tup [.int (f : Int), .int ((f : Int) + (vn : Int)), .int (dd + 1)]) nq1
                have hq1 : SwAt (upd J1 q1 (.tup [.int (f : Int), .int ((f : Int) + (vn : Int)), .int (dd + 1)])) q1 ⟨f, (vn + 1), dd + 1⟩ := by
                  show upd J1 q1 _ q1 = some (.tup [.int (f : Int), .int ((f + (vn + 1) - 1 : Nat) : Int), .int (dd + 1)])
                  rw [upd_same, hsm]
                replace bX := bX.trans (But.of g1)
                replace dX := dX.same g1
                replace zw := g1 _ _ zw
                replace zD := g1 _ _ zD
                replace pp : Paired (SwAt (upd J1 q1 (.tup [.int (f : Int), .int ((f : Int) + (vn : Int)), .int (dd + 1)]))) as' stk' := Paired.mapP pp fun a x q => SwAt.tm _ _ _ _ (fun b ys z => g1 b _ z) q
                generalize upd J1 q1 (.tup [.int (f : Int), .int ((f : Int) + (vn : Int)), .int (dd + 1)]) = J2 at bX dX zw zD pp hq1
                refine ⟨pw, _, _, rfl, rfl, zw, by rw [List.length_map]; exact Nat.lt_of_le_of_lt las (by decide), ?_⟩
                obtain ⟨as1, zw3, pp3⟩ : LP SwAt (upd J2 pw (.lst (as'.map V.ref ++ [.ref q1]))) pw (stk' ++ [_]) := LP.grow (bs := [q1]) SwAt.tm zw pp (.cons hq1 .nil)
                replace bX : But d H (upd J2 pw (.lst (as'.map V.ref ++ [.ref q1]))) := but_mut bX npH
                replace dX := dX.mut (o := .lst (as'.map V.ref ++ [.ref q1])) npd npc
                replace zD : (upd J2 pw (.lst (as'.map V.ref ++ [.ref q1]))) D = _ := (upd_ne nDp).trans zD
                have la1 := Paired.length pp3
                rw [List.length_append, List.length_singleton] at la1
                generalize upd J2 pw (.lst (as'.map V.ref ++ [.ref q1])) = J3 at bX dX zD zw3 pp3
                refine ⟨_, rfl, .inl ⟨rfl, _, SqL.of zw3⟩, _, rfl, _, _, rfl, rfl, _, rfl, _, rfl, _, _, rfl, rfl, by show 3 ≤ sizeLine; decide, fun q2 nq2 => ?_⟩
                have g2 := same_new (o := .tup [.int (((f : Int) + (vn : Int)) + 1), .int ((f + n - 1 : Nat) : Int), .int (dd + 1)]) nq2
                have hq2 : SwAt (upd J3 q2 (.tup [.int (((f : Int) + (vn : Int)) + 1), .int ((f + n - 1 : Nat) : Int), .int (dd + 1)])) q2 ⟨f + (vn + 1), n - ((vn + 1)), dd + 1⟩ := by
                  show upd J3 q2 _ q2 = some (.tup [.int ((f + (vn + 1) : Nat) : Int), .int ((f + (vn + 1) + (n - ((vn + 1))) - 1 : Nat) : Int), .int (dd + 1)])
                  rw [upd_same, show ((f : Int) + (vn : Int)) + 1 = ((f + (vn + 1) : Nat) : Int) by rw [hsm]; omega, show f + (vn + 1) + (n - ((vn + 1))) - 1 = f + n - 1 by omega]
                replace bX := bX.trans (But.of g2)
                replace dX := dX.same g2
                have zw4 := g2 _ _ zw3
                replace zD := g2 _ _ zD
                have pp4 : Paired (SwAt (upd J3 q2 (.tup [.int (((f : Int) + (vn : Int)) + 1), .int ((f + n - 1 : Nat) : Int), .int (dd + 1)]))) as1 (stk' ++ [⟨f, (vn + 1), dd + 1⟩]) := Paired.mapP pp3 fun a x q => SwAt.tm _ _ _ _ (fun b ys z => g2 b _ z) q
                generalize upd J3 q2 (.tup [.int (((f : Int) + (vn : Int)) + 1), .int ((f + n - 1 : Nat) : Int), .int (dd + 1)]) = J4 at bX dX zw4 zD pp4 hq2
                refine ⟨pw, _, _, rfl, rfl, zw4, by rw [List.length_map]; exact Nat.lt_of_le_of_lt (show as1.length ≤ 80 by omega) (by decide), ?_⟩
                obtain ⟨as2, zw5, pp5⟩ := LP.grow (bs := [q2]) SwAt.tm zw4 pp4 (.cons hq2 .nil)
                refine ⟨Fr.set (f + (vn + 1) - 1) dd, as2, _, _, _, _, _, _, rfl, but_mut bX npH, dX.mut npd npc, (upd_ne nDp).trans zD, by rw [List.length_set]; exact hFl, zw5, pp5, fits.node (by omega) (by omega) (by omega) hbelow, fun x hx => ?_, ?_, ?_⟩
                · rcases List.mem_append.mp hx with z | z
                  · rcases List.mem_append.mp z with z | z
                    · exact hok x z
                    · rw [List.mem_singleton] at z
                      subst z
                      exact ⟨by show 1 ≤ (vn + 1); omega, by show f + ((vn + 1)) ≤ N; omega⟩
                  · rw [List.mem_singleton] at z
                    subst z
                    exact ⟨by show 1 ≤ n - ((vn + 1)); omega, by show f + (vn + 1) + (n - ((vn + 1))) ≤ N; omega⟩
                · refine List.pairwise_append.mpr ⟨List.pairwise_append.mpr ⟨hpw, List.pairwise_singleton .., fun a ha b hb => ?_⟩, List.pairwise_singleton .., fun a ha b hb => ?_⟩
                  · rw [List.mem_singleton] at hb
                    subst hb
                    exact hbelow a ha
                  · rw [List.mem_singleton] at hb
                    subst hb
                    show a.f + a.n ≤ f + (vn + 1)
                    rcases List.mem_append.mp ha with z | z
                    · have := hbelow a z
                      omega
                    · rw [List.mem_singleton] at z
                      subst z
                      exact Nat.le_refl _
                · rw [swSum_snoc, swSum_snoc]
                  left
                  show swSum stk' + (2 * ((vn + 1)) - 1) + (2 * (n - ((vn + 1))) - 1) + (i + 1) ≤ 2 * N - 1
                  omega
            · rw [decide_eq_false h2]
              refine iteF (iteF ?_)
              refine ⟨_, rfl, _, rfl, _, rfl, D, _, _, f + (vn + 1) - 1, rfl, rfl, zD, by rw [hsm]; exact ixN_nat (by rw [List.length_map]; omega), ?_⟩
              rw [← List.map_set]
              replace bX := but_mut (o := .lst ((Fr.set (f + (vn + 1) - 1) dd).map V.int)) bX nDH
              replace dX := dX.mut (o := .lst ((Fr.set (f + (vn + 1) - 1) dd).map V.int)) nDd nDc
              replace zw : (upd H3 D (.lst ((Fr.set (f + (vn + 1) - 1) dd).map V.int))) pw = _ := (upd_ne nDp.symm).trans zw
              replace pp : Paired (SwAt (upd H3 D (.lst ((Fr.set (f + (vn + 1) - 1) dd).map V.int)))) as' stk' := Paired.mapP pp fun a x q => SwAt.tm _ _ _ _ (fun b ys z => upd_tup zD z) q
              replace zD : (upd H3 D (.lst ((Fr.set (f + (vn + 1) - 1) dd).map V.int))) D = some (.lst ((Fr.set (f + (vn + 1) - 1) dd).map V.int)) := upd_same
              generalize upd H3 D (.lst ((Fr.set (f + (vn + 1) - 1) dd).map V.int)) = J1 at bX dX zw pp zD
              refine ⟨_, rfl, .inl ⟨rfl, _, SqL.of zw⟩, _, rfl, _, rfl, _, rfl, _, _, rfl, rfl, by show 3 ≤ sizeLine; decide, fun q1 nq1 => ?_⟩
              have g1 := same_new (o := .tup [.int (f : Int), .int ((f : Int) + (vn : Int)), .int (dd + 1)]) nq1
              have hq1 : SwAt (upd J1 q1 (.tup [.int (f : Int), .int ((f : Int) + (vn : Int)), .int (dd + 1)])) q1 ⟨f, (vn + 1), dd + 1⟩ := by
                show upd J1 q1 _ q1 = some (.tup [.int (f : Int), .int ((f + (vn + 1) - 1 : Nat) : Int), .int (dd + 1)])
                rw [upd_same, hsm]
              replace bX := bX.trans (But.of g1)
              replace dX := dX.same g1
              replace zw := g1 _ _ zw
              replace zD := g1 _ _ zD
              replace pp : Paired (SwAt (upd J1 q1 (.tup [.int (f : Int), .int ((f : Int) + (vn : Int)), .int (dd + 1)]))) as' stk' := Paired.mapP pp fun a x q => SwAt.tm _ _ _ _ (fun b ys z => g1 b _ z) q
              generalize upd J1 q1 (.tup [.int (f : Int), .int ((f : Int) + (vn : Int)), .int (dd + 1)]) = J2 at bX dX zw zD pp hq1
              refine ⟨pw, _, _, rfl, rfl, zw, by rw [List.length_map]; exact Nat.lt_of_le_of_lt las (by decide), ?_⟩
              obtain ⟨as1, zw3, pp3⟩ : LP SwAt (upd J2 pw (.lst (as'.map V.ref ++ [.ref q1]))) pw (stk' ++ [_]) := LP.grow (bs := [q1]) SwAt.tm zw pp (.cons hq1 .nil)
              replace bX : But d H (upd J2 pw (.lst (as'.map V.ref ++ [.ref q1]))) := but_mut bX npH
              replace dX := dX.mut (o := .lst (as'.map V.ref ++ [.ref q1])) npd npc
              replace zD : (upd J2 pw (.lst (as'.map V.ref ++ [.ref q1]))) D = _ := (upd_ne nDp).trans zD
              have la1 := Paired.length pp3
              rw [List.length_append, List.length_singleton] at la1
              generalize upd J2 pw (.lst (as'.map V.ref ++ [.ref q1])) = J3 at bX dX zD zw3 pp3
              refine ⟨_, rfl, .inl ⟨rfl, _, SqL.of zw3⟩, _, rfl, _, _, rfl, rfl, _, rfl, _, rfl, _, _, rfl, rfl, by show 3 ≤ sizeLine; decide, fun q2 nq2 => ?_⟩
              have g2 := same_new (o := .tup [.int (((f : Int) + (vn : Int)) + 1), .int ((f + n - 1 : Nat) : Int), .int (dd + 1)]) nq2
              have hq2 : SwAt (upd J3 q2 (.tup [.int (((f : Int) + (vn : Int)) + 1), .int ((f + n - 1 : Nat) : Int), .int (dd + 1)])) q2 ⟨f + (vn + 1), n - ((vn + 1)), dd + 1⟩ := by
                show upd J3 q2 _ q2 = some (.tup [.int ((f + (vn + 1) : Nat) : Int), .int ((f + (vn + 1) + (n - ((vn + 1))) - 1 : Nat) : Int), .int (dd + 1)])
                rw [upd_same, show ((f : Int) + (vn : Int)) + 1 = ((f + (vn + 1) : Nat) : Int) by rw [hsm]; omega, show f + (vn + 1) + (n - ((vn + 1))) - 1 = f + n - 1 by omega]
              replace bX := bX.trans (But.of g2)
              replace dX := dX.same g2
              have zw4 := g2 _ _ zw3
              replace zD := g2 _ _ zD
              have pp4 : Paired (SwAt (upd J3 q2 (.tup [.int (((f : Int) + (vn : Int)) + 1), .int ((f + n - 1 : Nat) : Int), .int (dd + 1)]))) as1 (stk' ++ [⟨f, (vn + 1), dd + 1⟩]) := Paired.mapP pp3 fun a x q => SwAt.tm _ _ _ _ (fun b ys z => g2 b _ z) q
              generalize upd J3 q2 (.tup [.int (((f : Int) + (vn : Int)) + 1), .int ((f + n - 1 : Nat) : Int), .int (dd + 1)]) = J4 at bX dX zw4 zD pp4 hq2
              refine ⟨pw, _, _, rfl, rfl, zw4, by rw [List.length_map]; exact Nat.lt_of_le_of_lt (show as1.length ≤ 80 by omega) (by decide), ?_⟩
              obtain ⟨as2, zw5, pp5⟩ := LP.grow (bs := [q2]) SwAt.tm zw4 pp4 (.cons hq2 .nil)
              refine ⟨Fr.set (f + (vn + 1) - 1) dd, as2, _, _, _, _, _, _, rfl, but_mut bX npH, dX.mut npd npc, (upd_ne nDp).trans zD, by rw [List.length_set]; exact hFl, zw5, pp5, fits.node (by omega) (by omega) (by omega) hbelow, fun x hx => ?_, ?_, ?_⟩
              · rcases List.mem_append.mp hx with z | z
                · rcases List.mem_append.mp z with z | z
                  · exact hok x z
                  · rw [List.mem_singleton] at z
                    subst z
                    exact ⟨by show 1 ≤ (vn + 1); omega, by show f + ((vn + 1)) ≤ N; omega⟩
                · rw [List.mem_singleton] at z
                  subst z
                  exact ⟨by show 1 ≤ n - ((vn + 1)); omega, by show f + (vn + 1) + (n - ((vn + 1))) ≤ N; omega⟩
              · refine List.pairwise_append.mpr ⟨List.pairwise_append.mpr ⟨hpw, List.pairwise_singleton .., fun a ha b hb => ?_⟩, List.pairwise_singleton .., fun a ha b hb => ?_⟩
                · rw [List.mem_singleton] at hb
                  subst hb
                  exact hbelow a ha
                · rw [List.mem_singleton] at hb
                  subst hb
                  show a.f + a.n ≤ f + (vn + 1)
                  rcases List.mem_append.mp ha with z | z
                  · have := hbelow a z
                    omega
                  · rw [List.mem_singleton] at z
                    subst z
                    exact Nat.le_refl _
              · rw [swSum_snoc, swSum_snoc]
                left
                show swSum stk' + (2 * ((vn + 1)) - 1) + (2 * (n - ((vn + 1))) - 1) + (i + 1) ≤ 2 * N - 1
                omega
    · obtain ⟨Fr, as, stk, v4, v6, v7, v8, v9, rfl, bX, dX, zD, hFl, zw, pp, fits, hok, hpw, hsum⟩ := p
      have hst : stk = [] := by
        rcases hsum with z | z
        · exfalso; omega
        · exact z
      subst hst
      obtain ⟨t, ht1, ht2⟩ := fits.done
      refine ⟨_, rfl, D, Fr, m, rfl, SqL.of zD, fun p np => ?_⟩
      rw [ht2]
      refine k _ p t (bX.trans (But.of (same_new np))) (dX.same (same_new np)) ht1 upd_same (dX.free np)
end
end K66
namespace K66
open PySem L2
theorem isi_K {X : Cx} (K : PySem.W.Frag) (h : X.K = K := by rfl) : CallR X (.builtin "isinstance") (rIsi K) := h ▸ call_isi
section
variable {P : Program} {w : World} {K : PySem.W.Frag} {mg : Str → Option Value} {base : Heap}
/-! _law_is_row -/
def spIsRow : Sp := fun vs H Q _ => ∃ (a : Addr) (r : Row) (S hi : Int), vs = [.ref a, .int S, .int hi] ∧ TR H a r ∧ Val S r ∧ r.length ≤ 10000 ∧ 1 ≤ (r.length : Int) ∧ (r.length : Int) ≤ hi ∧ ∀ H', Same H H' → Q (.bl true) H'
abbrev nIr : List Str := ["_law_thing", "_law_sounds", "_law_most", "_law_sound"]
theorem scIsRow : FnScope nIr ["_law_thing", "_law_sounds", "_law_most"] (C8.fnScope sIsRow) := ⟨rfl, rfl, rfl, by decide +kernel, rfl, by decide +kernel, by decide +kernel⟩

theorem okIsRow {f : Addr} {fd : FuncData} (F : C8.Def K mg "_law_is_row" sIsRow f fd) (b : Binds K fd ["_law_thing", "_law_sounds", "_law_most"] []) (g : Gb mg) : C8.Cal P w K mg base 1 "_law_is_row" spIsRow [] := by
  refine C8.cal0 F b .nil scIsRow (fun vs H Q E h => ?_) (fun cdv A outer s H vs Q E hr h => ?_)
  · obtain ⟨a, r, S, hi, rfl, _⟩ := h; rfl
  · obtain ⟨a, r, S, hi, rfl, ht, hv, hz, h1, h2, k⟩ := h
    refine ⟨_, (pss_cons (ps_if (PW.pt (pw_or (pt_not (pt_val (pe_callB call_isi rfl g.isi bIsi (pa_cons (pv 0) (pa_cons (pe_bltn (v := .ty "tuple") rfl g.tuple bTuple rfl) pa_nil))))) (pw_or1 (pt_not (pt_chain op_le op_le pe_int (pe_callB call_len_seq rfl g.len PySem.boot_len (pa_cons (pv 0) pa_nil)) (pv 2)))))) (pss_one (ps_ret pe_bl)) pss_nil) (pss_one (ps_ret (pe_callB (cr_all rfl) rfl g.all bAll (pa_cons (pe_lc (own := [("_law_sound", 3)]) (g := gName 3) (tt := tYes) rfl scIsRow.nd (pi_tup (pv 0)) (blkOk_by (N := nIr) (sc := C8.fnScope sIsRow) (by decide +kernel)) (fun _ _ _ _ _ => pg_name (i := 3) scIsRow.nd rfl (Or.inl rfl)) (fun _ _ _ _ _ => pts_nil) (fun _ _ _ _ _ => (pe_and (pe_callB (isi_K K) rfl g.isi bIsi (pa_cons (pv 3) (pa_cons (pe_bltn (v := .ty "int") rfl g.int bInt rfl) pa_nil))) (pe_and (pe_not (pe_callB (isi_K K) rfl g.isi bIsi (pa_cons (pv 3) (pa_cons (pe_bltn (v := .ty "bool") rfl g.bool bBool rfl) pa_nil)))) (pe_one (pe_chain op_le op_lt pe_int (pv 3) (pv 1))))))) pa_nil))))), ?_⟩
    refine ⟨_, rfl, _, _, _, _, _, rfl, .ty _, .base (.tup ht), kTupTup, ?_⟩
    refine ⟨_, rfl, iteF ?_⟩
    refine ⟨_, rfl, a, _, rfl, .inr ht.seq, _, _, rfl, rfl, ?_⟩
    rw [List.length_map]
    refine ⟨_, rfl, ?_⟩
    rw [decide_eq_true h1]
    refine iteT ⟨_, rfl, _, _, rfl, rfl, _, rfl, ?_⟩
    rw [decide_eq_true h2]
    refine iteF ?_
    refine ⟨_, rfl, a, rfl, ⟨_, ht.seq⟩, fun D hD => ?_⟩
    refine lc_trues (K := K) (j := 3) hD ht (by rw [List.length_map]; omega) (fun x => rfl) (fun i x H1 Q' e1 hx k1 => ?_) (fun H1 e1 h1' => ?_)
    · obtain ⟨n, rfl, hn'⟩ := ri_map hx
      have vn := hv n (List.mem_of_getElem? hn')
      refine ⟨_, rfl, _, _, _, _, _, rfl, .ty _, .base (.int _), kIntInt, ?_⟩
      refine ⟨_, rfl, iteT ?_⟩
      refine ⟨_, rfl, _, _, _, _, _, rfl, .ty _, .base (.int _), kIntBool, ?_⟩
      refine ⟨_, rfl, _, rfl, iteT ?_⟩
      refine ⟨_, rfl, _, _, rfl, rfl, _, rfl, ?_⟩
      rw [decide_eq_true (show (0 : Int) ≤ n from vn.1)]
      refine iteT ⟨_, rfl, _, _, rfl, rfl, ?_⟩
      show Q' (.bl (decide (n < S))) H1
      rw [decide_eq_true vn.2]
      exact k1 H1 (Same.refl _)
    · refine ⟨D, _, rfl, SqL.of h1', ?_⟩
      rw [trues_all]
      exact k _ e1
/-! _law_shapes -/
def spShapes : Sp := fun vs H Q _ => ∃ (d c : Addr) (n : Nat), vs = [.ref d, .int (n : Int)] ∧ Dice H d c ∧ 1 ≤ n ∧ n ≤ 20 ∧ ∀ H' p (ts : List Tr), But d H H' → Dice H' d c → LP ShT H' p ts → (∀ t ∈ ts, t.n = n) → ts.length ≤ 1024 → p ≠ d → Q (.ref p) H'
abbrev nSh : List Str := ["_law_dice_here", "_law_words", "_law_k"]
theorem scShapes : FnScope nSh ["_law_dice_here", "_law_words"] (C8.fnScope sShapes) := ⟨rfl, rfl, rfl, by decide +kernel, rfl, by decide +kernel, by decide +kernel⟩

theorem okShapes {f : Addr} {fd : FuncData} (F : C8.Def K mg "_law_shapes" sShapes f fd) (b : Binds K fd ["_law_dice_here", "_law_words"] []) (g : Gb mg) (G1 : C8.Cal P w K mg base 1 "_law_all" spAll []) (G2 : C8.Cal P w K mg base 2 "_law_drawn_shape" spDrawn []) : C8.Cal P w K mg base 3 "_law_shapes" spShapes [] := by
  refine C8.cal0 F b .nil scShapes (fun vs H Q E h => ?_) (fun cdv A outer s H vs Q E hr h => ?_)
  · obtain ⟨d, c, n, rfl, _⟩ := h; rfl
  · obtain ⟨d, c, n, rfl, di, n1, n2, k⟩ := h
    refine ⟨_, (pss_cons (ps_if (pt_cmpR op_lt (pv 1) pe_int (nomark _)) (pss_one (ps_ret (C8.pe_c G1 hr (by decide) rfl (pa_cons (pv 1) pa_nil)))) pss_nil) (pss_one (ps_ret (pe_lc (own := [("_law_k", 2)]) (g := gName 2) (tt := tYes) rfl scShapes.nd (pi_range1 rfl g.range (pa_cons pe_int pa_nil)) (blkOk_by (N := nSh) (sc := C8.fnScope sShapes) (by decide +kernel)) (fun _ _ _ _ _ => pg_name (i := 2) scShapes.nd rfl (Or.inl rfl)) (fun _ _ _ _ _ => pts_nil) (fun _ _ _ _ _ => (C8.pe_c G2 hr (by decide) rfl (pa_cons (pv 0) (pa_cons (pv 1) pa_nil)))))))), ?_⟩
    refine ⟨_, rfl, _, _, rfl, rfl, _, rfl, ?_⟩
    by_cases h6 : (n : Int) < 6
    · rw [decide_eq_true h6]
      refine iteT ⟨_, rfl, n, rfl, n1, by omega, fun H1 p ts e1 hl hn hz => ?_⟩
      refine k H1 p ts (But.of e1) (di.same e1) hl hn (Nat.le_trans hz (Nat.le_trans (Nat.pow_le_pow_right (by decide) (show n ≤ 5 by omega)) (by decide))) (fun z => ?_)
      obtain ⟨cells, i, b, s, m, h1, _⟩ := di.same e1
      obtain ⟨as, h2, _⟩ := hl
      rw [z, h1] at h2
      injection h2 with h2
      injection h2 with h2
      match as, h2 with
      | [], h2 => cases h2
      | [_], h2 => cases h2
      | _ :: _ :: _, h2 => cases h2
    · rw [decide_eq_false h6]
      refine iteF ⟨8, rfl, by decide, by decide, fun D hD => ?_⟩
      have nDd : D ≠ d := di.free hD
      have nDc : D ≠ c := di.freec hD
      refine lc_range (lo := 0) (n := (8 : Int).toNat) (fun i H5 => But d H H5 ∧ Dice H5 d c ∧ ∃ ts : List Tr, LP ShT H5 D ts ∧ ts.length = i ∧ ∀ t ∈ ts, t.n = n)
        ⟨But.of (same_new hD), di.same (same_new hD), [], ⟨[], upd_same, .nil⟩, rfl, fun x hx => by cases hx⟩ (fun i H5 hi q => ?_) (fun H5 q => ?_)
      · obtain ⟨q1, q2, ts, ⟨as, q3, q4⟩, q5, q6⟩ := q
        have hi8 : i < 8 := hi
        refine ⟨rfl, lc_yes ⟨_, rfl, _, rfl, d, c, n, false, rfl, q2, n1, n2, fun H6 p t b6 d6 hn hp npd => ?_⟩⟩
        have h6' := b6 _ _ nDd q3
        have t6 : Paired (ShT H6) as ts := Paired.mapP q4 fun _ _ z => TR.but z q2 b6
        have hp' : ShT H6 p t := hp
        have la := Paired.length t6
        refine ⟨_, h6', by rw [List.length_map]; exact Nat.lt_trans (show as.length < 9 by omega) (by decide), but_mut (q1.trans b6) (by cases e : H D with | none => rfl | some o => exact absurd hD (by rw [e]; simp)), d6.mut nDd nDc, ts ++ [t], LP.grow (bs := [p]) ShT.tm h6' t6 (.cons hp' .nil), by simp [q5], fun x hx => ?_⟩
        rcases List.mem_append.mp hx with z | z
        · exact q6 x z
        · rw [List.mem_singleton] at z
          rw [z]; exact hn
      · obtain ⟨q1, q2, ts, q3, q5, q6⟩ := q
        exact k H5 D ts q1 q2 q3 q6 (by rw [q5]; decide) nDd
end
end K66
namespace K66
open PySem L2
theorem pe_c0 {X : Cx} {k j : Nat} {x : Str} {sp : Sp} {dvs : List V} {p pos : Pos} (c : C8.Cal X.prog X.w X.K X.mg X.base k x sp dvs) (hr : Room j X.A) (hk : k ≤ j) (hg : Gl X x) (hdb : (x == ("__debug__" : Str)) = false := by decide) :
    PE X (.Call (.Name x p) [] [] pos) (tCall sp dvs C8.E0 tNil) := by
  obtain ⟨f, fd, ps, ds, F, hm, kp, b, d⟩ := c.ex
  exact pe_call0 F (hr.mono hk) hg hm kp b d C8.pass0 hdb
theorem Bk.but {P : Program} {w : World} {C : Addr} {H H' : Hp} {b d c : Addr} {S A B : Int} {kvs : List (NK × NK)} (h : Bk P w C H b S A B kvs) (di : Dice H d c) (e : But d H H') : Bk P w C H' b S A B kvs := by
  obtain ⟨dx, t, h1, h2⟩ := h
  exact ⟨dx, t, e _ _ (di.ne h1 (fun _ e => nomatch e)) h1, h2.but di e⟩
theorem LBk.but {P : Program} {w : World} {H H' : Hp} {lb t d c : Addr} {S A B : Int} {kvs : List (NK × NK)} (h : LBk P w H lb t S A B kvs) (di : Dice H d c) (e : But d H H') : LBk P w H' lb t S A B kvs := ⟨tup_but di e h.1, h.2.but di e⟩
theorem TW.but {H H' : Hp} {a d c : Addr} {ws : List Row} (h : TW H a ws) (di : Dice H d c) (e : But d H H') : TW H' a ws := by
  obtain ⟨as, h1, h2⟩ := h
  exact ⟨as, tup_but di e h1, Paired.mapP h2 fun _ _ z => z.but di e⟩
theorem good_len {S A B : Int} {kvs : List (NK × NK)} (h : ∀ e ∈ kvs, GoodE S A B e.1 e.2) : LenKv kvs := fun e he => ⟨(h e he).e1, (h e he).e2⟩
theorem good_val {S A B : Int} {kvs : List (NK × NK)} (h : ∀ e ∈ kvs, GoodE S A B e.1 e.2) : ValKv S kvs := fun e he => ⟨(h e he).v1, (h e he).v2⟩
theorem good_kept {S A B : Int} {kvs : List (NK × NK)} (h : ∀ e ∈ kvs, GoodE S A B e.1 e.2) : ∀ e ∈ keptOf kvs, GoodE S A B e.1 e.2 := fun e he => h e (List.mem_filter.mp he).1
/-- no three short rows matter: no brackets matter -/
theorem all_alike {S A B : Nat} {kvs : List (NK × NK)} (hg : ∀ e ∈ kvs, GoodE S A B e.1 e.2) (hA : 1 ≤ A) (hB : 1 ≤ B) (h : ∀ t ∈ trips S A B, As3 kvs A B t) {ws : List Row} (hw : ∀ r ∈ ws, Val S r ∧ 1 ≤ r.length) (t u : Tr) (ht : t.n = ws.length) (hu : u.n = ws.length) :
    t.say (met (bF kvs) A B) ws 0 = u.say (met (bF kvs) A B) ws 0 := by
  have lo := (good_len hg).ok
  have vo : ValOk (F := bF kvs) (S : Int) := (good_val hg).ok
  refine say_alike (G := fun r => Val S r ∧ 1 ≤ r.length) (fun a b ga gb => ⟨met_val vo ga.1 gb.1, by rw [met_len lo]; omega⟩) (fun a b c ga gb gc => ?_) hw t u ht hu
  refine assoc_all (S := (S : Int)) lo hA hB (fun x y z vx vy vz nx lx ny ly nz lz => ?_) a b c ga.1 gb.1 gc.1 ga.2 gb.2 gc.2
  exact h (x, y, z) (mem_trips.mpr ⟨mem_rowsT.mpr ⟨nx, lx, vx⟩, mem_rowsT.mpr ⟨ny, ly, vy⟩, mem_rowsT.mpr ⟨nz, lz, vz⟩⟩)
section
variable {P : Program} {w : World} {K : PySem.W.Frag} {mg : Str → Option Value} {base : Heap}
/-! law -/
def spLaw (K : PySem.W.Frag) : Sp := fun vs H Q _ => ∃ (a : Addr) (ns : Row), vs = [.ref a] ∧ SqL K H a (ns.map V.int) ∧ ns.length ≤ 63 ∧ ∀ H', Q (.bl true) H'
abbrev nLw : List Str := ["_law_script", "_law_dice_here", "_law_book_here", "_law_made_here", "_law_many", "_law_words", "_law_told", "_law_due", "_law_shape", "_law_x", "_law_y", "_law_z", "_law_one", "_law_other"]
theorem scLaw : FnScope nLw ["_law_script"] (C8.fnScope sLaw) := ⟨rfl, rfl, rfl, by decide +kernel, rfl, by decide +kernel, by decide +kernel⟩

theorem okLaw {f CB : Addr} {fd : FuncData} (F : C8.Fun K "law" "law" sLaw f fd) (g : Gb mg)
    (Gdice : C8.Cal P w K mg base 1 "_law_dice" (spDice K) []) (Gsz : C8.Cal P w K mg base 1 "_law_small_sizes" spSizes []) (Gbook : C8.Cal P w K mg base 3 "_law_book" (spBook P w) []) (Gmade : C8.Cal P w K mg base 9 "_law_made" (spMade P w CB) [])
    (Gdraw : C8.Cal P w K mg base 1 "_law_draw" spDraw []) (Gfew : C8.Cal P w K mg base 3 "_law_few_words" spFew []) (Gmat : C8.Cal P w K mg base 5 "matters" (spMatters P w CB) []) (Gsay : C8.Cal P w K mg base 10 "_law_say" (spSay P w 9) [])
    (Gdrawn : C8.Cal P w K mg base 2 "_law_drawn_shape" spDrawn []) (Gshapes : C8.Cal P w K mg base 3 "_law_shapes" spShapes []) (Gsaid : C8.Cal P w K mg base 8 "said" (spSaid P w CB) []) (Gisrow : C8.Cal P w K mg base 1 "_law_is_row" spIsRow []) (Gmet : C8.Cal P w K mg base 1 "_law_met" (spMet P w) []) :
    FnOk P w K mg base CX0 11 f fd ["_law_script"] (spLaw K) := by
  refine C8.fn0 F scLaw (fun vs H Q E h => ?_) (fun cdv A outer s H vs Q E hr h => ?_)
  · obtain ⟨a, ns, rfl, _⟩ := h; rfl
  · obtain ⟨a, ns, rfl, hS, hns, k⟩ := h
    have hu : (A.deeper (PyProof.Rows.envOfC "law" (C8.fnScope sLaw) s.heap.objs.size f cdv)).units + 64 < cLine := hr.units
    refine ⟨_, (pss_cons (ps_set (i := 1) scLaw.nd rfl (Or.inl rfl) (C8.pe_c Gdice hr (by decide) rfl (pa_cons (pv 0) pa_nil))) (pss_cons (ps_set (i := 2) scLaw.nd rfl (Or.inl rfl) (C8.pe_c Gbook hr (by decide) rfl (pa_cons (pv 1) (pa_cons (pe_c0 Gsz hr (by decide) rfl) pa_nil)))) (pss_cons (ps_set (i := 3) scLaw.nd rfl (Or.inr rfl) (C8.pe_c Gmade hr (by decide) rfl (pa_cons (pv 2) pa_nil))) (pss_cons (ps_set (i := 4) scLaw.nd rfl (Or.inl rfl) (pe_op op_add pe_int (C8.pe_c Gdraw hr (by decide) rfl (pa_cons (pv 1) (pa_cons pe_int pa_nil))))) (pss_cons (ps_set (i := 5) scLaw.nd rfl (Or.inr rfl) (C8.pe_c Gfew hr (by decide) rfl (pa_cons (pv 1) (pa_cons (pv 2) (pa_cons (pv 4) (pa_cons pe_int pa_nil)))))) (pss_cons (ps_set (i := 6) scLaw.nd rfl (Or.inl rfl) (C8.pe_c Gmat hr (by decide) rfl (pa_cons (pv 3) pa_nil))) (pss_cons (ps_if (pt_cmpR op_isN (pv 6) pe_non (nomark _)) (pss_cons (ps_set (i := 7) scLaw.nd rfl (Or.inr rfl) (C8.pe_c Gsay hr (by decide) rfl (pa_cons (pv 2) (pa_cons (pv 5) (pa_cons (C8.pe_c Gdrawn hr (by decide) rfl (pa_cons (pv 1) (pa_cons (pv 4) pa_nil))) (pa_cons pe_int (pa_cons (pe_op op_sub (pv 4) pe_int) pa_nil))))))) (pss_one (ps_ret (pe_cmpR op_eq (pe_callB call_len_seq rfl g.len PySem.boot_len (pa_cons (pe_lc (own := [("_law_shape", 8)]) (g := gName 8)  rfl scLaw.nd (pi_list (C8.pe_c Gshapes hr (by decide) rfl (pa_cons (pv 1) (pa_cons (pv 4) pa_nil)))) (blkOk_by (N := nLw) (sc := C8.fnScope sLaw) (by decide +kernel)) (fun _ _ _ _ _ => pg_name (i := 8) scLaw.nd rfl (Or.inl rfl)) (fun _ _ _ _ _ => (pts_one (pt_cmpR (neD_K K hu) (C8.pe_c Gsaid hr (by decide) rfl (pa_cons (pv 3) (pa_cons (pv 5) (pa_cons (pv 8) pa_nil)))) (pv 7) (nomark _)))) (fun _ _ _ _ _ => (pv 8))) pa_nil)) pe_int (nomark _))))) pss_nil) (pss_cons (ps_if (PW.pt (pw_or (pt_not (pt_val (pe_callB call_isi rfl g.isi bIsi (pa_cons (pv 6) (pa_cons (pe_bltn (v := .ty "tuple") rfl g.tuple bTuple rfl) pa_nil))))) (pw_or1 (pt_cmpR op_ne (pe_callB call_len_seq rfl g.len PySem.boot_len (pa_cons (pv 6) pa_nil)) pe_int (nomark _))))) (pss_one (ps_ret pe_bl)) pss_nil) (pss_cons (ps_asg (pv 6) (pg_tup rfl (pgs_cons (pg_name (i := 9) scLaw.nd rfl (Or.inl rfl)) (pgs_cons (pg_name (i := 10) scLaw.nd rfl (Or.inl rfl)) (pgs_cons (pg_name (i := 11) scLaw.nd rfl (Or.inl rfl)) pgs_nil))))) (pss_cons (ps_if (PW.pt (pw_or (pt_not (pt_val (C8.pe_c Gisrow hr (by decide) rfl (pa_cons (pv 9) (pa_cons (pe_ix ix_tup (pv 2) pe_int (fun _ _ => rfl)) (pa_cons (pe_ix ix_tup (pv 2) pe_int (fun _ _ => rfl)) pa_nil)))))) (pw_or1 (pt_not (pt_val (C8.pe_c Gisrow hr (by decide) rfl (pa_cons (pv 11) (pa_cons (pe_ix ix_tup (pv 2) pe_int (fun _ _ => rfl)) (pa_cons (pe_ix ix_tup (pv 2) pe_int (fun _ _ => rfl)) pa_nil))))))))) (pss_one (ps_ret pe_bl)) pss_nil) (pss_cons (ps_if (pt_not (pt_val (C8.pe_c Gisrow hr (by decide) rfl (pa_cons (pv 10) (pa_cons (pe_ix ix_tup (pv 2) pe_int (fun _ _ => rfl)) (pa_cons (pe_op op_sub (pe_op op_add (pe_ix ix_tup (pv 2) pe_int (fun _ _ => rfl)) (pe_ix ix_tup (pv 2) pe_int (fun _ _ => rfl))) pe_int) pa_nil)))))) (pss_one (ps_ret pe_bl)) pss_nil) (pss_cons (ps_set (i := 12) scLaw.nd rfl (Or.inl rfl) (C8.pe_c Gsaid hr (by decide) rfl (pa_cons (pv 3) (pa_cons (pe_tup (pa_cons (pv 9) (pa_cons (pv 10) (pa_cons (pv 11) pa_nil)))) (pa_cons (pe_tup (pa_cons pe_int (pa_cons pe_int pa_nil))) pa_nil))))) (pss_cons (ps_set (i := 13) scLaw.nd rfl (Or.inl rfl) (C8.pe_c Gsaid hr (by decide) rfl (pa_cons (pv 3) (pa_cons (pe_tup (pa_cons (pv 9) (pa_cons (pv 10) (pa_cons (pv 11) pa_nil)))) (pa_cons (pe_tup (pa_cons pe_int (pa_cons pe_int pa_nil))) pa_nil))))) (pss_cons (ps_if (PW.pt (pw_or (pt_cmpR (neD_K K hu) (pv 12) (C8.pe_c Gmet hr (by decide) rfl (pa_cons (pv 2) (pa_cons (pv 9) (pa_cons (C8.pe_c Gmet hr (by decide) rfl (pa_cons (pv 2) (pa_cons (pv 10) (pa_cons (pv 11) pa_nil)))) pa_nil)))) (nomark _)) (pw_or1 (pt_cmpR (neD_K K hu) (pv 13) (C8.pe_c Gmet hr (by decide) rfl (pa_cons (pv 2) (pa_cons (C8.pe_c Gmet hr (by decide) rfl (pa_cons (pv 2) (pa_cons (pv 9) (pa_cons (pv 10) pa_nil)))) (pa_cons (pv 11) pa_nil)))) (nomark _))))) (pss_one (ps_ret pe_bl)) pss_nil) (pss_one (ps_ret (pe_cmpR (neD_K K hu) (pv 12) (pv 13) (nomark _)))))))))))))))))), ?_⟩
    -- dice, book, made
    refine ⟨_, rfl, a, ns, rfl, hS, hns, fun H1 d c e1 nd di1 => ?_⟩
    refine ⟨_, rfl, rfl, fun H2 z as e2 nz hz trs => ?_⟩
    have di2 := di1.same e2
    refine ⟨d, c, z, as, rfl, di2, (di1.free nz), hz, trs, fun H3 lb t S A' B kvs b3 di3 lbk s0 s1 a0 a1 b0 b1 good hk4 => ?_⟩
    refine ⟨_, rfl, lb, t, S, A', B, kvs, rfl, lbk, by omega, by omega, a0, by omega, b0, by omega, good, hk4, fun H4 b e4 bk => ?_⟩
    have di4 := di3.same e4
    have lbk4 := lbk.same e4
    clear e1 e2 b3 e4 di1 di2 di3 lbk nz hz trs hS
    -- many
    refine ⟨_, rfl, d, c, 8, rfl, di4, by decide, by decide, fun H5 v b5 di5 v0 v1 => ?_⟩
    have bk5 := bk.but di4 b5
    have lbk5 := lbk4.but di4 b5
    obtain ⟨vn, rfl⟩ : ∃ vn : Nat, v = (vn : Int) := ⟨v.toNat, by omega⟩
    refine add_go (show (2 : Int) + (vn : Int) = ((vn + 2 : Nat) : Int) by omega) ?_
    have hn1 : 2 ≤ vn + 2 := by omega
    have hn2 : vn + 2 ≤ 9 := by omega
    generalize vn + 2 = n at hn1 hn2
    clear v0 v1 di4 bk lbk4 b5
    -- words
    refine ⟨_, rfl, _, rfl, _, rfl, d, c, lb, (S : Int), (A' : Int), (B : Int), 4, (n : Int), .ref t, rfl, di5, lbk5.1, by omega, by omega, by decide, by decide, by omega, by omega, fun H6 wa ws b6 di6 tw hws hlw => ?_⟩
    have bk6 := bk5.but di5 b6
    have lbk6 := lbk5.but di5 b6
    clear bk5 lbk5 di5 b6
    have hln : ws.length = n := by omega
    have nodup := lbk6.2.keys
    have eF : bF (keptOf kvs) = bF kvs := kept_F nodup
    have lenK := good_len (good_kept good)
    have lenO := good_len good
    have hflat : ws.flatten.length ≤ 40 := by
      have := flat_le ws 4 (fun r hr => by have := (hws r hr).2.2; omega)
      omega
    -- told
    refine ⟨_, rfl, b, S, A', B, keptOf kvs, rfl, bk6, lenK, by omega, s1, a0, a1, b0, b1, fun H7 e7 hall => ?_, fun H7 ta t3 e7 htr hna tt => ?_⟩
    · -- no three rows
      refine ⟨_, rfl, rfl, true, rfl, iteT ?_⟩
      have di7 := di6.same e7
      have bk7 := bk6.same e7
      have lbk7 := lbk6.same e7
      have tw7 := tw.same e7
      refine ⟨_, rfl, _, rfl, _, rfl, _, rfl, d, c, n, true, rfl, di7, by omega, by omega, fun H8 sa t8 b8 di8 ht8 hsa _ => ?_⟩
      have tx : TX H8 sa (t8.sh 0) := hsa
      have bk8 := bk7.but di7 b8
      have lbk8 := lbk7.but di7 b8
      have tw8 := tw7.but di7 b8
      refine ⟨_, rfl, _, _, rfl, rfl, lb, t, wa, sa, S, A', B, kvs, ws, t8.sh 0, t8, 0, 0, ?_, lbk8, tw8, tx, Seg.all _, by omega, by omega, lenO, by omega, fun H9 due e9 tdue => ?_⟩
      · have : ((n : Int) - 1) = ((0 + t8.n - 1 : Nat) : Int) := by omega
        show [V.ref lb, V.ref wa, V.ref sa, V.int 0, V.int ((n : Int) - 1)] = _
        rw [this]; rfl
      have di9 := di8.same e9
      have bk9 := bk8.same e9
      have tw9 := tw8.same e9
      refine ⟨_, rfl, _, rfl, d, c, n, rfl, di9, by omega, by omega, fun H10 sp ts b10 di10 lp hts htl _ => ?_⟩
      have bk10 := bk9.but di9 b10
      have tw10 := tw9.but di9 b10
      have due10 := tdue.but di9 b10
      obtain ⟨sas, hsp, hsps⟩ := lp
      refine ⟨sp, rfl, ⟨_, SqL.of hsp⟩, fun D hD => ?_⟩
      refine lc_list (K := K) (a := sp) (xs := sas.map V.ref) (fun i H' => Same H10 H' ∧ H' D = some (.lst [])) ⟨same_new hD, upd_same⟩ (fun i H' _ p => SqL.of (p.1 _ _ hsp)) (fun i x H' hx p => ?_) (fun H' p => ?_)
      · obtain ⟨p1, p2⟩ := p
        obtain ⟨pa', rfl, hpa⟩ := ref_at hx
        obtain ⟨tr, htr', hsh⟩ := paired_get hsps hpa
        have hn := hts tr (List.mem_of_getElem? htr')
        have hsh' : TR H' pa' (tr.sh 0) := (show TR H10 pa' (tr.sh 0) from hsh).mono p1
        refine ⟨rfl, ?_⟩
        refine ⟨_, rfl, _, rfl, _, rfl, b, wa, pa', S, A', B, keptOf kvs, ws, tr, rfl, bk10.same p1, tw10.same p1, hsh', lenK, a0, by omega, b0, by omega, fun r hr => ⟨(hws r hr).1, (hws r hr).2.1, by have := (hws r hr).2.2; omega⟩, by omega, by omega, fun H11 q e11 tq => ?_⟩
        have eq1 : tr.say (met (bF (keptOf kvs)) A' B) ws 0 = t8.say (met (bF kvs) A' B) ws 0 := by
          rw [eF]
          have hall' : ∀ t ∈ trips S A' B, As3 kvs A' B t := fun t ht => by
            have := hall t ht
            unfold As3 at this ⊢
            rw [eF] at this
            exact this
          exact all_alike good a0 b0 hall' (fun r hr => ⟨(hws r hr).1, (hws r hr).2.1⟩) tr t8 (by omega) (by omega)
        rw [eq1] at tq
        refine ⟨_, rfl, _, _, tq.dp, ((due10.mono p1).mono e11).dp, shaped_tup _, shaped_tup _, _, rfl, ?_⟩
        rw [eqv_tup, decide_eq_true rfl]
        exact iteF ⟨p1.trans e11, e11 _ _ p2⟩
      · obtain ⟨p1, p2⟩ := p
        refine ⟨D, _, rfl, .inl (SqL.of p2), rfl, ?_⟩
        exact k _
    · -- three rows
      obtain ⟨x, y, z⟩ := t3
      obtain ⟨xa, ya, za, hta, tx, ty, tz⟩ := tt
      replace tx : TR H7 xa x := tx
      replace ty : TR H7 ya y := ty
      replace tz : TR H7 za z := tz
      obtain ⟨mx, my, mz⟩ := mem_trips.mp htr
      obtain ⟨x1, x2, x3⟩ := mem_rowsT.mp mx
      obtain ⟨y1, y2, y3⟩ := mem_rowsT.mp my
      obtain ⟨z1, z2, z3⟩ := mem_rowsT.mp mz
      have bk7 := bk6.same e7
      have lbk7 := lbk6.same e7
      refine ⟨_, rfl, rfl, false, rfl, iteF ?_⟩
      refine ⟨_, rfl, _, _, _, _, _, rfl, .ty _, .base (.tup hta), kTupTup, _, rfl, iteF ?_⟩
      refine ⟨_, rfl, ta, _, rfl, .inr (SqT.of hta), rfl, false, rfl, iteF ?_⟩
      refine ⟨_, rfl, ta, _, rfl, SqT.of hta, rfl, _, _, rfl, _, _, rfl, _, _, rfl, rfl, ?_⟩
      -- the rows are rows
      refine ⟨_, rfl, _, rfl, lb, _, _, .int (S : Int), rfl, rfl, SqT.of lbk7.1, rfl, _, rfl, lb, _, _, .int (A' : Int), rfl, rfl, SqT.of lbk7.1, rfl, xa, x, S, A', rfl, tx, x3, by omega, by omega, by omega, fun H8 e8 => ?_⟩
      have lbk8 := lbk7.same e8
      refine ⟨_, rfl, iteF ?_⟩
      refine ⟨_, rfl, _, rfl, lb, _, _, .int (S : Int), rfl, rfl, SqT.of lbk8.1, rfl, _, rfl, lb, _, _, .int (B : Int), rfl, rfl, SqT.of lbk8.1, rfl, za, z, S, B, rfl, tz.mono e8, z3, by omega, by omega, by omega, fun H9 e9 => ?_⟩
      have e79 := e8.trans e9
      have lbk9 := lbk7.same e79
      refine ⟨_, rfl, iteF ?_⟩
      refine ⟨_, rfl, _, rfl, lb, _, _, .int (S : Int), rfl, rfl, SqT.of lbk9.1, rfl, _, rfl, lb, _, _, .int (A' : Int), rfl, rfl, SqT.of lbk9.1, rfl, _, rfl, lb, _, _, .int (B : Int), rfl, rfl, SqT.of lbk9.1, rfl, _, _, rfl, rfl, _, _, rfl, rfl, ya, y, S, (A' : Int) + (B : Int) - 1, rfl, ty.mono e79, y3, by omega, by omega, by omega, fun H10 e10 => ?_⟩
      have e7t := e79.trans e10
      refine ⟨_, rfl, iteF ?_⟩
      replace tx := tx.mono e7t
      replace ty := ty.mono e7t
      replace tz := tz.mono e7t
      have bk10 := bk7.same e7t
      have lbk10 := lbk7.same e7t
      clear lbk8 lbk9 e8 e9 e79 e10 e7t hta lbk7 bk7 lbk6 bk6 e7
      have hws3 : ∀ r ∈ [x, y, z], Val S r ∧ 1 ≤ r.length ∧ r.length ≤ 200 := fun r hr => by
        rcases List.mem_cons.mp hr with e | hr
        · rw [e]; exact ⟨x3, x1, by omega⟩
        · rcases List.mem_cons.mp hr with e | hr
          · rw [e]; exact ⟨y3, y1, by omega⟩
          · rw [List.mem_singleton.mp hr]; exact ⟨z3, z1, by omega⟩
      -- one
      refine ⟨_, rfl, _, rfl, _, rfl, _, rfl, by show 3 ≤ sizeLine; decide, fun p1 np1 => ?_⟩
      have f1 := same_new (o := .tup [.ref xa, .ref ya, .ref za]) np1
      have tw1 : TW (upd H10 p1 (.tup [.ref xa, .ref ya, .ref za])) p1 [x, y, z] := ⟨[xa, ya, za], upd_same, .cons (tx.mono f1) (.cons (ty.mono f1) (.cons (tz.mono f1) .nil))⟩
      refine ⟨by show 2 ≤ sizeLine; decide, fun p2 np2 => ?_⟩
      have f2 := same_new (o := .tup [.int 0, .int 1]) np2
      have sh1 : TR (upd (upd H10 p1 (.tup [.ref xa, .ref ya, .ref za])) p2 (.tup [.int 0, .int 1])) p2 ((Tr.nd .lf (.nd .lf .lf)).sh 0) := upd_same
      have f12 := f1.trans f2
      refine ⟨b, p1, p2, S, A', B, keptOf kvs, [x, y, z], .nd .lf (.nd .lf .lf), rfl, bk10.same f12, tw1.same f2, sh1, lenK, a0, by omega, b0, by omega, hws3, rfl, by decide, fun H11 o1 e11 t11 => ?_⟩
      have f11 := f12.trans e11
      replace t11 : TR H11 o1 (met (bF (keptOf kvs)) A' B x (met (bF (keptOf kvs)) A' B y z)) := t11
      rw [eF] at t11
      clear tw1 sh1 f1 f2 np1 np2
      have tx11 := tx.mono f11
      have ty11 := ty.mono f11
      have tz11 := tz.mono f11
      -- other
      refine ⟨_, rfl, _, rfl, _, rfl, _, rfl, by show 3 ≤ sizeLine; decide, fun p3 np3 => ?_⟩
      have f1 := same_new (o := .tup [.ref xa, .ref ya, .ref za]) np3
      have tw1 : TW (upd H11 p3 (.tup [.ref xa, .ref ya, .ref za])) p3 [x, y, z] := ⟨[xa, ya, za], upd_same, .cons (tx11.mono f1) (.cons (ty11.mono f1) (.cons (tz11.mono f1) .nil))⟩
      refine ⟨by show 2 ≤ sizeLine; decide, fun p4 np4 => ?_⟩
      have f2 := same_new (o := .tup [.int 1, .int 0]) np4
      have sh1 : TR (upd (upd H11 p3 (.tup [.ref xa, .ref ya, .ref za])) p4 (.tup [.int 1, .int 0])) p4 ((Tr.nd (.nd .lf .lf) .lf).sh 0) := upd_same
      have f34 := f1.trans f2
      refine ⟨b, p3, p4, S, A', B, keptOf kvs, [x, y, z], .nd (.nd .lf .lf) .lf, rfl, bk10.same (f11.trans f34), tw1.same f2, sh1, lenK, a0, by omega, b0, by omega, hws3, rfl, by decide, fun H12 o2 e12 t12 => ?_⟩
      have f112 := f34.trans e12
      have f12 := f11.trans f112
      replace t12 : TR H12 o2 (met (bF (keptOf kvs)) A' B (met (bF (keptOf kvs)) A' B x y) z) := t12
      rw [eF] at t12
      have u11 := t11.mono f112
      clear tw1 sh1 f1 f2 np3 np4 tx11 ty11 tz11 t11 f112 e12 e11 f34
      replace tx := tx.mono f12
      replace ty := ty.mono f12
      replace tz := tz.mono f12
      have lbk12 := lbk10.same f12
      have lyz := met_len (A := A') (B := B) lenO.ok y z
      have lxy := met_len (A := A') (B := B) lenO.ok x y
      clear f12 f11 lbk10 bk10
      -- against the rows that meet
      refine ⟨_, rfl, _, rfl, _, rfl, _, rfl, _, rfl, _, rfl, lb, t, ya, za, S, A', B, kvs, y, z, rfl, lbk12, ty, tz, lenO, by omega, by omega, fun H13 m1 g1 tm1 => ?_⟩
      refine ⟨lb, t, xa, m1, S, A', B, kvs, x, _, rfl, lbk12.same g1, tx.mono g1, tm1, lenO, by omega, by omega, fun H14 m2 g2 tm2 => ?_⟩
      have g12 := g1.trans g2
      refine ⟨_, _, (u11.mono g12).dp, tm2.dp, shaped_tup _, shaped_tup _, _, rfl, ?_⟩
      rw [eqv_tup, decide_eq_true rfl]
      refine iteF ?_
      refine ⟨_, rfl, _, rfl, _, rfl, _, rfl, _, rfl, lb, t, xa, ya, S, A', B, kvs, x, y, rfl, lbk12.same g12, tx.mono g12, ty.mono g12, lenO, by omega, by omega, fun H15 m3 g3 tm3 => ?_⟩
      have g13 := g12.trans g3
      refine ⟨_, rfl, lb, t, m3, za, S, A', B, kvs, _, z, rfl, lbk12.same g13, tm3, tz.mono g13, lenO, by omega, by omega, fun H16 m4 g4 tm4 => ?_⟩
      have g14 := g13.trans g4
      refine ⟨_, _, (t12.mono g14).dp, tm4.dp, shaped_tup _, shaped_tup _, _, rfl, ?_⟩
      rw [eqv_tup, decide_eq_true rfl]
      refine iteF ?_
      refine ⟨_, rfl, _, rfl, _, _, (u11.mono g14).dp, (t12.mono g14).dp, shaped_tup _, shaped_tup _, ?_⟩
      rw [eqv_tup]
      have hne : ¬ met (bF kvs) A' B x (met (bF kvs) A' B y z) = met (bF kvs) A' B (met (bF kvs) A' B x y) z := fun e => hna (by
        show Assoc (bF (keptOf kvs)) A' B x y z
        rw [eF]
        exact e)
      rw [decide_eq_false hne]
      exact k _
end
end K66
namespace K66
open PySem L2
def DefAt (K : PySem.W.Frag) (mg : Str → Option Value) (x : Str) (st : Stmt) (ps : List Str) : Prop := ∃ (f : Addr) (fd : FuncData), C8.Def K mg x st f fd ∧ Binds K fd ps []
/-- its parameters are given, all of them -/
def Given (x qual : Str) (st : Stmt) (ps : List Str) : Prop := ∀ (kV doc pm : Value) (an : Option Addr) (cdv ct : Value) (us : List Value), us.length = ps.length → bindArgs (PySem.W.fnOf x qual (C8.fnArgs st) (C8.fnBody st) (C8.fnScope st) .none kV doc pm an cdv ct) ⟨us, []⟩ = pure (ps.zip us)
theorem fun_mk {K : PySem.W.Frag} {x qual : Str} {st : Stmt} {ps : List Str} {f : Addr} {od an : Option Addr} {sl : Array (Option Value)} {oc kV doc pm cd ct : Value} (gv : Given x qual st ps)
    (l : K.lookup f = some ⟨oc, od, .func (PySem.W.fnOf x qual (C8.fnArgs st) (C8.fnBody st) (C8.fnScope st) .none kV doc pm an cd ct), sl⟩) (c : PySem.W.codeIn K cd qual = true) : ∃ fd : FuncData, C8.Fun K x qual st f fd ∧ Binds K fd ps [] := by
  have F : C8.Fun K x qual st f (PySem.W.fnOf x qual (C8.fnArgs st) (C8.fnBody st) (C8.fnScope st) .none kV doc pm an cd ct) := ⟨⟨oc, od, .none, kV, doc, pm, an, cd, ct, sl, rfl, l, c⟩⟩
  exact ⟨_, F, F.binds rfl gv⟩
theorem def_mk {K : PySem.W.Frag} {h : Heap} {mg : Str → Option Value} {x : Str} {st : Stmt} {ps : List Str} {f : Addr} {od an : Option Addr} {sl : Array (Option Value)} {oc kV doc pm cd ct : Value} (gv : Given x x st ps) (X : K.In h) (G : h.Ns mainGlobals mg)
    (a : PySem.W.nsIn K mainGlobals x = some (some (.ref f))) (l : K.lookup f = some ⟨oc, od, .func (PySem.W.fnOf x x (C8.fnArgs st) (C8.fnBody st) (C8.fnScope st) .none kV doc pm an cd ct), sl⟩) (c : PySem.W.codeIn K cd x = true) (k : PySem.W.keepIn K (.ref f) = true) : DefAt K mg x st ps := by
  obtain ⟨fd, F, b⟩ := fun_mk gv l c
  exact ⟨f, fd, ⟨F, PySem.W.mg_of X G a, k⟩, b⟩
theorem gv_law : Given "law" "law" sLaw ["_law_script"] := fun _ _ _ _ _ _ us hl => match us, hl with | [_], _ => rfl
theorem gv_is_integer : Given "is_integer" "is_integer" sIsInteger ["thing"] := fun _ _ _ _ _ _ us hl => match us, hl with | [_], _ => rfl
theorem gv_is_between : Given "is_between" "is_between" sIsBetween ["thing", "least", "most"] := fun _ _ _ _ _ _ us hl => match us, hl with | [_, _, _], _ => rfl
theorem gv_is_index : Given "is_index" "is_index" sIsIndex ["thing", "many"] := fun _ _ _ _ _ _ us hl => match us, hl with | [_, _], _ => rfl
theorem gv_is_sounds : Given "is_sounds" "is_sounds" sIsSounds ["thing", "sounds", "least", "most"] := fun _ _ _ _ _ _ us hl => match us, hl with | [_, _, _, _], _ => rfl
theorem gv_is_side_pair : Given "is_side_pair" "is_side_pair" sIsSidePair ["thing", "sounds", "ahead", "behind"] := fun _ _ _ _ _ _ us hl => match us, hl with | [_, _, _, _], _ => rfl
theorem gv_is_table : Given "is_table" "is_table" sIsTable ["thing", "sounds", "ahead", "behind"] := fun _ _ _ _ _ _ us hl => match us, hl with | [_, _, _, _], _ => rfl
theorem gv_check_sizes : Given "check_sizes" "check_sizes" sCheckSizes ["sounds", "ahead", "behind"] := fun _ _ _ _ _ _ us hl => match us, hl with | [_, _, _], _ => rfl
theorem gv_told : Given "told" "told" sTold ["book", "left", "right"] := fun _ _ _ _ _ _ us hl => match us, hl with | [_, _, _], _ => rfl
theorem gv_joined_rows : Given "joined_rows" "joined_rows" sJoinedRows ["book", "one", "other"] := fun _ _ _ _ _ _ us hl => match us, hl with | [_, _, _], _ => rfl
theorem gv_met_rows : Given "met_rows" "met_rows" sMetRows ["book", "one", "other"] := fun _ _ _ _ _ _ us hl => match us, hl with | [_, _, _], _ => rfl
theorem gv_matters_at : Given "matters_at" "matters_at" sMattersAt ["book", "x", "y", "z"] := fun _ _ _ _ _ _ us hl => match us, hl with | [_, _, _, _], _ => rfl
theorem gv_rows_many : Given "rows_many" "rows_many" sRowsMany ["sounds", "most"] := fun _ _ _ _ _ _ us hl => match us, hl with | [_, _], _ => rfl
theorem gv_rows_to : Given "rows_to" "rows_to" sRowsTo ["sounds", "most"] := fun _ _ _ _ _ _ us hl => match us, hl with | [_, _], _ => rfl
theorem gv__law_rows : Given "_law_rows" "_law_rows" sRows ["_law_sounds", "_law_most"] := fun _ _ _ _ _ _ us hl => match us, hl with | [_, _], _ => rfl
theorem gv_triples : Given "triples" "triples" sTriples ["book"] := fun _ _ _ _ _ _ us hl => match us, hl with | [_], _ => rfl
theorem gv_matters : Given "matters" "matters" sMatters ["book"] := fun _ _ _ _ _ _ us hl => match us, hl with | [_], _ => rfl
theorem gv_is_fair : Given "is_fair" "is_fair" sIsFair ["thing"] := fun _ _ _ _ _ _ us hl => match us, hl with | [_], _ => rfl
theorem gv_is_shape : Given "is_shape" "is_shape" sIsShape ["thing"] := fun _ _ _ _ _ _ us hl => match us, hl with | [_], _ => rfl
theorem gv_check_shape_for : Given "check_shape_for" "check_shape_for" sCheckShapeFor ["words", "thing"] := fun _ _ _ _ _ _ us hl => match us, hl with | [_, _], _ => rfl
theorem gv_is_word : Given "is_word" "is_word" sIsWord ["thing", "sounds"] := fun _ _ _ _ _ _ us hl => match us, hl with | [_, _], _ => rfl
theorem gv_check_words : Given "check_words" "check_words" sCheckWords ["sounds", "thing"] := fun _ _ _ _ _ _ us hl => match us, hl with | [_, _], _ => rfl
theorem gv_check_phrase : Given "check_phrase" "check_phrase" sCheckPhrase ["book", "words", "shape"] := fun _ _ _ _ _ _ us hl => match us, hl with | [_, _, _], _ => rfl
theorem gv_inner_first : Given "inner_first" "inner_first" sInnerFirst ["shape"] := fun _ _ _ _ _ _ us hl => match us, hl with | [_], _ => rfl
theorem gv_said_row : Given "said_row" "said_row" sSaidRow ["book", "words", "shape"] := fun _ _ _ _ _ _ us hl => match us, hl with | [_, _, _], _ => rfl
theorem gv_said : Given "said" "said" sSaid ["book", "words", "shape"] := fun _ _ _ _ _ _ us hl => match us, hl with | [_, _, _], _ => rfl
theorem gv__law_dice : Given "_law_dice" "_law_dice" sDice ["_law_script"] := fun _ _ _ _ _ _ us hl => match us, hl with | [_], _ => rfl
theorem gv__law_draw : Given "_law_draw" "_law_draw" sDraw ["_law_dice_here", "_law_sides"] := fun _ _ _ _ _ _ us hl => match us, hl with | [_, _], _ => rfl
theorem gv__law_row : Given "_law_row" "_law_row" sRow ["_law_dice_here", "_law_sounds", "_law_most"] := fun _ _ _ _ _ _ us hl => match us, hl with | [_, _, _], _ => rfl
theorem gv__law_few_words : Given "_law_few_words" "_law_few_words" sFewWords ["_law_dice_here", "_law_book_here", "_law_many", "_law_most"] := fun _ _ _ _ _ _ us hl => match us, hl with | [_, _, _, _], _ => rfl
theorem gv__law_like : Given "_law_like" "_law_like" sLike ["_law_dice_here", "_law_sounds", "_law_row_here"] := fun _ _ _ _ _ _ us hl => match us, hl with | [_, _, _], _ => rfl
theorem gv__law_small_sizes : Given "_law_small_sizes" "_law_small_sizes" sSmallSizes [] := fun _ _ _ _ _ _ us hl => match us, hl with | [], _ => rfl
theorem gv__law_book : Given "_law_book" "_law_book" sBook ["_law_dice_here", "_law_sizes"] := fun _ _ _ _ _ _ us hl => match us, hl with | [_, _], _ => rfl
theorem gv__law_made : Given "_law_made" "_law_made" sMade ["_law_book_here"] := fun _ _ _ _ _ _ us hl => match us, hl with | [_], _ => rfl
theorem gv__law_met : Given "_law_met" "_law_met" sMet ["_law_book_here", "_law_one", "_law_other"] := fun _ _ _ _ _ _ us hl => match us, hl with | [_, _, _], _ => rfl
theorem gv__law_say : Given "_law_say" "_law_say" sSay ["_law_book_here", "_law_words", "_law_shape", "_law_first", "_law_last"] := fun _ _ _ _ _ _ us hl => match us, hl with | [_, _, _, _, _], _ => rfl
theorem gv__law_all : Given "_law_all" "_law_all" sAll ["_law_words"] := fun _ _ _ _ _ _ us hl => match us, hl with | [_], _ => rfl
theorem gv__law_drawn_shape : Given "_law_drawn_shape" "_law_drawn_shape" sDrawnShape ["_law_dice_here", "_law_words"] := fun _ _ _ _ _ _ us hl => match us, hl with | [_, _], _ => rfl
theorem gv__law_is_row : Given "_law_is_row" "_law_is_row" sIsRow ["_law_thing", "_law_sounds", "_law_most"] := fun _ _ _ _ _ _ us hl => match us, hl with | [_, _, _], _ => rfl
theorem gv__law_shapes : Given "_law_shapes" "_law_shapes" sShapes ["_law_dice_here", "_law_words"] := fun _ _ _ _ _ _ us hl => match us, hl with | [_, _], _ => rfl
theorem gv_BkInit : Given "__init__" "Book.__init__" sBkInit ["self", "sounds", "ahead", "behind", "table"] := fun _ _ _ _ _ _ us hl => match us, hl with | [_, _, _, _, _], _ => rfl
theorem gv_BkKeep : Given "keep" "Book.keep" sBkKeep ["self", "sounds", "ahead", "behind", "table"] := fun _ _ _ _ _ _ us hl => match us, hl with | [_, _, _, _, _], _ => rfl
theorem gv_BkReach : Given "reach" "Book.reach" sBkReach ["self"] := fun _ _ _ _ _ _ us hl => match us, hl with | [_], _ => rfl
theorem gv_JnInit : Given "__init__" "Joinings.__init__" sJnInit ["self", "shape"] := fun _ _ _ _ _ _ us hl => match us, hl with | [_, _], _ => rfl
theorem gv_SyInit : Given "__init__" "Sayer.__init__" sSyInit ["self", "book", "words", "shape"] := fun _ _ _ _ _ _ us hl => match us, hl with | [_, _, _, _], _ => rfl
theorem gv_SyJoin : Given "join" "Sayer.join" sSyJoin ["self", "seam"] := fun _ _ _ _ _ _ us hl => match us, hl with | [_, _], _ => rfl
theorem gv_SySay : Given "say" "Sayer.say" sSySay ["self"] := fun _ _ _ _ _ _ us hl => match us, hl with | [_], _ => rfl
structure BookAt (K : PySem.W.Frag) (mg : Str → Option Value) (C f1 f2 f3 : Addr) : Prop where
  hm : mg "Book" = some (.ref C)
  tx : TxB K C
  mkc : Mk K C f1
  i : (∃ fd : FuncData, C8.Fun K "__init__" "Book.__init__" sBkInit f1 fd ∧ Binds K fd ["self", "sounds", "ahead", "behind", "table"] [])
  mk2 : Meth K C "keep" f2
  i2 : (∃ fd : FuncData, C8.Fun K "keep" "Book.keep" sBkKeep f2 fd ∧ Binds K fd ["self", "sounds", "ahead", "behind", "table"] [])
  mk3 : Meth K C "reach" f3
  i3 : (∃ fd : FuncData, C8.Fun K "reach" "Book.reach" sBkReach f3 fd ∧ Binds K fd ["self"] [])
structure JoinAt (K : PySem.W.Frag) (mg : Str → Option Value) (C f1 : Addr) : Prop where
  hm : mg "Joinings" = some (.ref C)
  tx : TxJ K C
  mkc : Mk K C f1
  i : (∃ fd : FuncData, C8.Fun K "__init__" "Joinings.__init__" sJnInit f1 fd ∧ Binds K fd ["self", "shape"] [])
structure SayerAt (K : PySem.W.Frag) (mg : Str → Option Value) (C f1 f2 f3 : Addr) : Prop where
  hm : mg "Sayer" = some (.ref C)
  tx : TxY K C
  mkc : Mk K C f1
  i : (∃ fd : FuncData, C8.Fun K "__init__" "Sayer.__init__" sSyInit f1 fd ∧ Binds K fd ["self", "book", "words", "shape"] [])
  mk2 : Meth K C "join" f2
  i2 : (∃ fd : FuncData, C8.Fun K "join" "Sayer.join" sSyJoin f2 fd ∧ Binds K fd ["self", "seam"] [])
  mk3 : Meth K C "say" f3
  i3 : (∃ fd : FuncData, C8.Fun K "say" "Sayer.say" sSySay f3 fd ∧ Binds K fd ["self"] [])
structure Facts (K : PySem.W.Frag) (mg : Str → Option Value) : Prop where
  g : Gb mg
  m1 : ∃ t, mg "MOST_SOUNDS" = some (.int 8 t)
  m2 : ∃ t, mg "MOST_SIDE" = some (.int 4 t)
  m3 : ∃ t, mg "MOST_ENTRIES" = some (.int 4000 t)
  m4 : ∃ t, mg "MOST_WORDS" = some (.int 40 t)
  m5 : ∃ t, mg "MOST_WORD" = some (.int 200 t)
  m6 : ∃ t, mg "MOST_TRIPLES" = some (.int 20000 t)
  bk : ∃ C f1 f2 f3, BookAt K mg C f1 f2 f3
  jn : ∃ C f1, JoinAt K mg C f1
  sy : ∃ C f1 f2 f3, SayerAt K mg C f1 f2 f3
  d_is_integer : DefAt K mg "is_integer" sIsInteger ["thing"]
  d_is_between : DefAt K mg "is_between" sIsBetween ["thing", "least", "most"]
  d_is_index : DefAt K mg "is_index" sIsIndex ["thing", "many"]
  d_is_sounds : DefAt K mg "is_sounds" sIsSounds ["thing", "sounds", "least", "most"]
  d_is_side_pair : DefAt K mg "is_side_pair" sIsSidePair ["thing", "sounds", "ahead", "behind"]
  d_is_table : DefAt K mg "is_table" sIsTable ["thing", "sounds", "ahead", "behind"]
  d_check_sizes : DefAt K mg "check_sizes" sCheckSizes ["sounds", "ahead", "behind"]
  d_told : DefAt K mg "told" sTold ["book", "left", "right"]
  d_joined_rows : DefAt K mg "joined_rows" sJoinedRows ["book", "one", "other"]
  d_met_rows : DefAt K mg "met_rows" sMetRows ["book", "one", "other"]
  d_matters_at : DefAt K mg "matters_at" sMattersAt ["book", "x", "y", "z"]
  d_rows_many : DefAt K mg "rows_many" sRowsMany ["sounds", "most"]
  d_rows_to : DefAt K mg "rows_to" sRowsTo ["sounds", "most"]
  d__law_rows : DefAt K mg "_law_rows" sRows ["_law_sounds", "_law_most"]
  d_triples : DefAt K mg "triples" sTriples ["book"]
  d_matters : DefAt K mg "matters" sMatters ["book"]
  d_is_fair : DefAt K mg "is_fair" sIsFair ["thing"]
  d_is_shape : DefAt K mg "is_shape" sIsShape ["thing"]
  d_check_shape_for : DefAt K mg "check_shape_for" sCheckShapeFor ["words", "thing"]
  d_is_word : DefAt K mg "is_word" sIsWord ["thing", "sounds"]
  d_check_words : DefAt K mg "check_words" sCheckWords ["sounds", "thing"]
  d_check_phrase : DefAt K mg "check_phrase" sCheckPhrase ["book", "words", "shape"]
  d_inner_first : DefAt K mg "inner_first" sInnerFirst ["shape"]
  d_said_row : DefAt K mg "said_row" sSaidRow ["book", "words", "shape"]
  d_said : DefAt K mg "said" sSaid ["book", "words", "shape"]
  d__law_dice : DefAt K mg "_law_dice" sDice ["_law_script"]
  d__law_draw : DefAt K mg "_law_draw" sDraw ["_law_dice_here", "_law_sides"]
  d__law_row : DefAt K mg "_law_row" sRow ["_law_dice_here", "_law_sounds", "_law_most"]
  d__law_few_words : DefAt K mg "_law_few_words" sFewWords ["_law_dice_here", "_law_book_here", "_law_many", "_law_most"]
  d__law_like : DefAt K mg "_law_like" sLike ["_law_dice_here", "_law_sounds", "_law_row_here"]
  d__law_small_sizes : DefAt K mg "_law_small_sizes" sSmallSizes []
  d__law_book : DefAt K mg "_law_book" sBook ["_law_dice_here", "_law_sizes"]
  d__law_made : DefAt K mg "_law_made" sMade ["_law_book_here"]
  d__law_met : DefAt K mg "_law_met" sMet ["_law_book_here", "_law_one", "_law_other"]
  d__law_say : DefAt K mg "_law_say" sSay ["_law_book_here", "_law_words", "_law_shape", "_law_first", "_law_last"]
  d__law_all : DefAt K mg "_law_all" sAll ["_law_words"]
  d__law_drawn_shape : DefAt K mg "_law_drawn_shape" sDrawnShape ["_law_dice_here", "_law_words"]
  d__law_is_row : DefAt K mg "_law_is_row" sIsRow ["_law_thing", "_law_sounds", "_law_most"]
  d__law_shapes : DefAt K mg "_law_shapes" sShapes ["_law_dice_here", "_law_words"]
theorem law_ok {P : Program} {w : World} {K : PySem.W.Frag} {mg : Str → Option Value} {base : Heap} (Φ : Facts K mg) {f : Addr} {fd : FuncData} (F : C8.Fun K "law" "law" sLaw f fd) : FnOk P w K mg base CX0 11 f fd ["_law_script"] (spLaw K) := by
  have g := Φ.g
  obtain ⟨CB, fb1, fb2, fb3, B⟩ := Φ.bk
  obtain ⟨CJ, fj1, J⟩ := Φ.jn
  obtain ⟨CY, fy1, fy2, fy3, Y⟩ := Φ.sy
  obtain ⟨_, B1, b1⟩ := B.i
  obtain ⟨_, B2, b2⟩ := B.i2
  obtain ⟨_, B3, b3⟩ := B.i3
  obtain ⟨_, J1, j1⟩ := J.i
  obtain ⟨_, Y1, y1⟩ := Y.i
  obtain ⟨_, Y2, y2⟩ := Y.i2
  obtain ⟨_, Y3, y3⟩ := Y.i3
  obtain ⟨_, _, D0, e0⟩ := Φ.d_is_integer
  obtain ⟨_, _, D1, e1⟩ := Φ.d_is_between
  obtain ⟨_, _, D2, e2⟩ := Φ.d_is_index
  obtain ⟨_, _, D3, e3⟩ := Φ.d_is_sounds
  obtain ⟨_, _, D4, e4⟩ := Φ.d_is_side_pair
  obtain ⟨_, _, D5, e5⟩ := Φ.d_is_table
  obtain ⟨_, _, D6, e6⟩ := Φ.d_check_sizes
  obtain ⟨_, _, D7, e7⟩ := Φ.d_told
  obtain ⟨_, _, D8, e8⟩ := Φ.d_joined_rows
  obtain ⟨_, _, D9, e9⟩ := Φ.d_met_rows
  obtain ⟨_, _, D10, e10⟩ := Φ.d_matters_at
  obtain ⟨_, _, D11, e11⟩ := Φ.d_rows_many
  obtain ⟨_, _, D12, e12⟩ := Φ.d_rows_to
  obtain ⟨_, _, D13, e13⟩ := Φ.d__law_rows
  obtain ⟨_, _, D14, e14⟩ := Φ.d_triples
  obtain ⟨_, _, D15, e15⟩ := Φ.d_matters
  obtain ⟨_, _, D16, e16⟩ := Φ.d_is_fair
  obtain ⟨_, _, D17, e17⟩ := Φ.d_is_shape
  obtain ⟨_, _, D18, e18⟩ := Φ.d_check_shape_for
  obtain ⟨_, _, D19, e19⟩ := Φ.d_is_word
  obtain ⟨_, _, D20, e20⟩ := Φ.d_check_words
  obtain ⟨_, _, D21, e21⟩ := Φ.d_check_phrase
  obtain ⟨_, _, D22, e22⟩ := Φ.d_inner_first
  obtain ⟨_, _, D23, e23⟩ := Φ.d_said_row
  obtain ⟨_, _, D24, e24⟩ := Φ.d_said
  obtain ⟨_, _, D25, e25⟩ := Φ.d__law_dice
  obtain ⟨_, _, D26, e26⟩ := Φ.d__law_draw
  obtain ⟨_, _, D27, e27⟩ := Φ.d__law_row
  obtain ⟨_, _, D28, e28⟩ := Φ.d__law_few_words
  obtain ⟨_, _, D29, e29⟩ := Φ.d__law_like
  obtain ⟨_, _, D30, e30⟩ := Φ.d__law_small_sizes
  obtain ⟨_, _, D31, e31⟩ := Φ.d__law_book
  obtain ⟨_, _, D32, e32⟩ := Φ.d__law_made
  obtain ⟨_, _, D33, e33⟩ := Φ.d__law_met
  obtain ⟨_, _, D34, e34⟩ := Φ.d__law_say
  obtain ⟨_, _, D35, e35⟩ := Φ.d__law_all
  obtain ⟨_, _, D36, e36⟩ := Φ.d__law_drawn_shape
  obtain ⟨_, _, D37, e37⟩ := Φ.d__law_is_row
  obtain ⟨_, _, D38, e38⟩ := Φ.d__law_shapes
  have cInt := okIsInteger (P := P) (w := w) (base := base) D0 e0 g
  have cBet := okIsBetween (P := P) (w := w) (base := base) D1 e1 g cInt
  have cIdx := okIsIndex (P := P) (w := w) (base := base) D2 e2 cBet
  have cSnd := okIsSounds (P := P) (w := w) (base := base) D3 e3 g cIdx
  have cPair := okIsSidePair (P := P) (w := w) (base := base) D4 e4 g cSnd
  have cTab := okIsTable (P := P) (w := w) (base := base) D5 e5 g Φ.m3 cPair
  have cSiz := okCheckSizes (P := P) (w := w) (base := base) D6 e6 Φ.m1 Φ.m2 cBet
  have mKeep := okKeep (P := P) (w := w) (mg := mg) (base := base) B2 b2 B.mk2 B.tx
  have kBook := okBkInit (P := P) (w := w) (base := base) B1 b1 B.mkc B.hm B.tx cSiz cTab mKeep
  have cTold := okTold (P := P) (w := w) (base := base) D7 e7 B.tx
  have cJoin := okJoinedRows (P := P) (w := w) (base := base) D8 e8 g B.tx cTold
  have cMetR := okMetRows (P := P) (w := w) (base := base) D9 e9 cJoin
  have cMatA := okMattersAt (P := P) (w := w) (base := base) D10 e10 cMetR
  have mReach := okReach (P := P) (w := w) (mg := mg) (base := base) B3 b3 B.mk3 B.tx
  have cMany := okRowsMany (P := P) (w := w) (base := base) D11 e11 g
  have cTo := okRowsTo (P := P) (w := w) (base := base) D12 e12 g
  have cTri := okTriples (P := P) (w := w) (base := base) D14 e14 g B.tx Φ.m6 mReach cMany cTo
  have cMat := okMatters (P := P) (w := w) (base := base) D15 e15 g cTri cMatA
  have kJoin := okJnInit (P := P) (w := w) (base := base) J1 j1 J.mkc J.hm g J.tx
  have cFair := okIsFair (P := P) (w := w) (base := base) D16 e16 g J.tx cInt kJoin
  have cShape := okIsShape (P := P) (w := w) (base := base) D17 e17 g Φ.m4 cFair
  have cShFor := okCheckShapeFor (P := P) (w := w) (base := base) D18 e18 g cShape
  have cWord := okIsWord (P := P) (w := w) (base := base) D19 e19 Φ.m5 cSnd
  have cWords := okCheckWords (P := P) (w := w) (base := base) D20 e20 g Φ.m4 cWord
  have cPhr := okCheckPhrase (P := P) (w := w) (base := base) D21 e21 g B.tx cWords cShFor
  have cInner := okInnerFirst (P := P) (w := w) (base := base) D22 e22 g J.tx kJoin
  have mJoin := okSyJoin (P := P) (w := w) (base := base) Y2 y2 Y.mk2 g B.tx J.tx Y.tx cTold
  have kSayer := okSyInit (P := P) (w := w) (base := base) (CB := CB) Y1 y1 Y.mkc Y.hm g J.tx Y.tx kJoin cInner
  have mSay := okSySay (P := P) (w := w) (mg := mg) (base := base) Y3 y3 Y.mk3 Y.tx mJoin
  have cSaidR := okSaidRow (P := P) (w := w) (base := base) D23 e23 g Y.tx kSayer mSay
  have cSaid := okSaid (P := P) (w := w) (base := base) D24 e24 cPhr cSaidR
  have cDice := okDice (P := P) (w := w) (base := base) D25 e25 g
  have cDraw := okDraw (P := P) (w := w) (base := base) D26 e26 g
  have cRow := okRow (P := P) (w := w) (base := base) D27 e27 g cDraw
  have cFew := okFew (P := P) (w := w) (base := base) D28 e28 g cRow
  have cLike := okLike (P := P) (w := w) (base := base) D29 e29 g cDraw
  have cSizes := okSizes (P := P) (w := w) (base := base) D30 e30 
  have cLRows := okLRows (P := P) (w := w) (base := base) D13 e13 g
  have cBook := okBook (P := P) (w := w) (base := base) D31 e31 g cDraw cLRows cLike
  have cMade := okMade (P := P) (w := w) (base := base) D32 e32 kBook
  have cMet := okMet (P := P) (w := w) (base := base) D33 e33 g
  have cSay := okSay (P := P) (w := w) (base := base) D34 e34 g cMet 9
  have cAll := okAll (P := P) (w := w) (base := base) D35 e35 g
  have cDrawn := okDrawn (P := P) (w := w) (base := base) D36 e36 g cDraw
  have cIsRow := okIsRow (P := P) (w := w) (base := base) D37 e37 g
  have cShapes := okShapes (P := P) (w := w) (base := base) D38 e38 g cAll cDrawn
  exact okLaw F g cDice cSizes cBook cMade cDraw cFew cMat cSay cDrawn cShapes cSaid cIsRow cMet
end K66
namespace K66
open PySem L2
section
variable {K : PySem.W.Frag} {h : Heap} {mg : Str → Option Value}
theorem gb_mk (X : K.In h) (G : h.Ns mainGlobals mg) (z1 : PySem.W.nsIn K mainGlobals "len" = some none) (z2 : PySem.W.nsIn K mainGlobals "isinstance" = some none) (z3 : PySem.W.nsIn K mainGlobals "int" = some none) (z4 : PySem.W.nsIn K mainGlobals "bool" = some none) (z5 : PySem.W.nsIn K mainGlobals "tuple" = some none) (z6 : PySem.W.nsIn K mainGlobals "dict" = some none) (z7 : PySem.W.nsIn K mainGlobals "list" = some none)
    (z8 : PySem.W.nsIn K mainGlobals "all" = some none) (z9 : PySem.W.nsIn K mainGlobals "range" = some none) (z10 : PySem.W.nsIn K mainGlobals "abs" = some none) (z11 : PySem.W.nsIn K mainGlobals "max" = some none) (z12 : PySem.W.nsIn K mainGlobals "min" = some none) (z13 : PySem.W.nsIn K mainGlobals "zip" = some none) : Gb mg :=
  ⟨PySem.W.mg_none_of X G z1, PySem.W.mg_none_of X G z2, PySem.W.mg_none_of X G z3, PySem.W.mg_none_of X G z4, PySem.W.mg_none_of X G z5, PySem.W.mg_none_of X G z6, PySem.W.mg_none_of X G z7, PySem.W.mg_none_of X G z8, PySem.W.mg_none_of X G z9, PySem.W.mg_none_of X G z10, PySem.W.mg_none_of X G z11, PySem.W.mg_none_of X G z12, PySem.W.mg_none_of X G z13⟩
theorem con_mk {x : Str} {n : Int} {t : Tok} (X : K.In h) (G : h.Ns mainGlobals mg) (a : PySem.W.nsIn K mainGlobals x = some (some (.int n t))) : ∃ t, mg x = some (.int n t) := ⟨t, PySem.W.mg_of X G a⟩
theorem law_mk {P : Program} {w : World} {fa f : Addr} {od an : Option Addr} {sl : Array (Option Value)} {oc kV doc pm cd ct : Value} (X : K.In h) (G : h.Ns mainGlobals mg) (hfa : mg "law" = some (.ref fa)) (Φ : Facts K mg)
    (a : PySem.W.nsIn K mainGlobals "law" = some (some (.ref f))) (l : K.lookup f = some ⟨oc, od, .func (PySem.W.fnOf "law" "law" (C8.fnArgs sLaw) (C8.fnBody sLaw) (C8.fnScope sLaw) .none kV doc pm an cd ct), sl⟩) (c : PySem.W.codeIn K cd "law" = true) :
    ∃ fd : FuncData, (∀ (s : Shared) (u : Value), BindsTo s fd ⟨[u], []⟩ [("_law_script", u)]) ∧ ∀ base : Heap, K.In base → base.Ns mainGlobals mg → FnOk P w K mg base CX0 11 fa fd ["_law_script"] (spLaw K) := by
  have e := hfa.symm.trans (PySem.W.mg_of X G a)
  cases e
  have F : C8.Fun K "law" "law" sLaw fa (PySem.W.fnOf "law" "law" (C8.fnArgs sLaw) (C8.fnBody sLaw) (C8.fnScope sLaw) .none kV doc pm an cd ct) := ⟨⟨oc, od, .none, kV, doc, pm, an, cd, ct, sl, rfl, l, c⟩⟩
  exact ⟨_, fun s u => .of_eq (gv_law kV doc pm an cd ct [u] rfl), fun base _ _ => law_ok Φ F⟩
theorem book_mk {C : Addr} {f1 : Addr} {od1 an1 : Option Addr} {sl1 : Array (Option Value)} {oc1 kV1 doc1 pm1 cd1 ct1 : Value} {f2 : Addr} {od2 an2 : Option Addr} {sl2 : Array (Option Value)} {oc2 kV2 doc2 pm2 cd2 ct2 : Value} {f3 : Addr} {od3 an3 : Option Addr} {sl3 : Array (Option Value)} {oc3 kV3 doc3 pm3 cd3 ct3 : Value} (X : K.In h) (G : h.Ns mainGlobals mg) (aC : PySem.W.nsIn K mainGlobals "Book" = some (some (.ref C))) (a1 : PySem.W.findIn K (.ref C) "__init__" = some (some (.ref f1))) (i1 : PySem.W.isFn K (.ref f1) = true) (l1 : K.lookup f1 = some ⟨oc1, od1, .func (PySem.W.fnOf "__init__" "Book.__init__" (C8.fnArgs sBkInit) (C8.fnBody sBkInit) (C8.fnScope sBkInit) .none kV1 doc1 pm1 an1 cd1 ct1), sl1⟩) (c1 : PySem.W.codeIn K cd1 "Book.__init__" = true) (k1 : PySem.W.keepIn K (.ref f1) = true) (a2 : PySem.W.findIn K (.ref C) "keep" = some (some (.ref f2))) (i2 : PySem.W.isFn K (.ref f2) = true) (l2 : K.lookup f2 = some ⟨oc2, od2, .func (PySem.W.fnOf "keep" "Book.keep" (C8.fnArgs sBkKeep) (C8.fnBody sBkKeep) (C8.fnScope sBkKeep) .none kV2 doc2 pm2 an2 cd2 ct2), sl2⟩) (c2 : PySem.W.codeIn K cd2 "Book.keep" = true) (k2 : PySem.W.keepIn K (.ref f2) = true) (a3 : PySem.W.findIn K (.ref C) "reach" = some (some (.ref f3))) (i3 : PySem.W.isFn K (.ref f3) = true) (l3 : K.lookup f3 = some ⟨oc3, od3, .func (PySem.W.fnOf "reach" "Book.reach" (C8.fnArgs sBkReach) (C8.fnBody sBkReach) (C8.fnScope sBkReach) .none kV3 doc3 pm3 an3 cd3 ct3), sl3⟩) (c3 : PySem.W.codeIn K cd3 "Book.reach" = true) (k3 : PySem.W.keepIn K (.ref f3) = true) 
    (pg : PySem.W.plainGet K C Str.empty = true) (hd : PySem.W.hasDictIn K C = true) (po : PySem.W.plainOver K C = true) (sa : PySem.W.findIn K (.ref C) "__setattr__" = some (some (.builtin "object.__setattr__"))) (mk : PySem.W.makesIn K C = true) (kc : PySem.W.keepIn K (.ref C) = true)
    (n1 : PySem.W.findIn K (.ref C) "kept_sounds" = some none) (n2 : PySem.W.findIn K (.ref C) "kept_ahead" = some none) (n3 : PySem.W.findIn K (.ref C) "kept_behind" = some none) (n4 : PySem.W.findIn K (.ref C) "kept_table" = some none) : ∃ C f1 f2 f3, BookAt K mg C f1 f2 f3 :=
  ⟨C, f1, f2, f3, ⟨PySem.W.mg_of X G aC, ⟨⟨pg, hd, po, sa⟩, n1, n2, n3, n4⟩, ⟨mk, a1, i1, kc⟩, fun_mk gv_BkInit l1 c1, ⟨a2, i2, k2⟩, fun_mk gv_BkKeep l2 c2, ⟨a3, i3, k3⟩, fun_mk gv_BkReach l3 c3⟩⟩
theorem join_mk {C : Addr} {f1 : Addr} {od1 an1 : Option Addr} {sl1 : Array (Option Value)} {oc1 kV1 doc1 pm1 cd1 ct1 : Value} (X : K.In h) (G : h.Ns mainGlobals mg) (aC : PySem.W.nsIn K mainGlobals "Joinings" = some (some (.ref C))) (a1 : PySem.W.findIn K (.ref C) "__init__" = some (some (.ref f1))) (i1 : PySem.W.isFn K (.ref f1) = true) (l1 : K.lookup f1 = some ⟨oc1, od1, .func (PySem.W.fnOf "__init__" "Joinings.__init__" (C8.fnArgs sJnInit) (C8.fnBody sJnInit) (C8.fnScope sJnInit) .none kV1 doc1 pm1 an1 cd1 ct1), sl1⟩) (c1 : PySem.W.codeIn K cd1 "Joinings.__init__" = true) (k1 : PySem.W.keepIn K (.ref f1) = true) 
    (pg : PySem.W.plainGet K C Str.empty = true) (hd : PySem.W.hasDictIn K C = true) (po : PySem.W.plainOver K C = true) (sa : PySem.W.findIn K (.ref C) "__setattr__" = some (some (.builtin "object.__setattr__"))) (mk : PySem.W.makesIn K C = true) (kc : PySem.W.keepIn K (.ref C) = true)
    (n1 : PySem.W.findIn K (.ref C) "first" = some none) (n2 : PySem.W.findIn K (.ref C) "last" = some none) (n3 : PySem.W.findIn K (.ref C) "above" = some none) (n4 : PySem.W.findIn K (.ref C) "fair" = some none) : ∃ C f1, JoinAt K mg C f1 :=
  ⟨C, f1, ⟨PySem.W.mg_of X G aC, ⟨⟨pg, hd, po, sa⟩, n1, n2, n3, n4⟩, ⟨mk, a1, i1, kc⟩, fun_mk gv_JnInit l1 c1⟩⟩
theorem sayer_mk {C : Addr} {f1 : Addr} {od1 an1 : Option Addr} {sl1 : Array (Option Value)} {oc1 kV1 doc1 pm1 cd1 ct1 : Value} {f2 : Addr} {od2 an2 : Option Addr} {sl2 : Array (Option Value)} {oc2 kV2 doc2 pm2 cd2 ct2 : Value} {f3 : Addr} {od3 an3 : Option Addr} {sl3 : Array (Option Value)} {oc3 kV3 doc3 pm3 cd3 ct3 : Value} (X : K.In h) (G : h.Ns mainGlobals mg) (aC : PySem.W.nsIn K mainGlobals "Sayer" = some (some (.ref C))) (a1 : PySem.W.findIn K (.ref C) "__init__" = some (some (.ref f1))) (i1 : PySem.W.isFn K (.ref f1) = true) (l1 : K.lookup f1 = some ⟨oc1, od1, .func (PySem.W.fnOf "__init__" "Sayer.__init__" (C8.fnArgs sSyInit) (C8.fnBody sSyInit) (C8.fnScope sSyInit) .none kV1 doc1 pm1 an1 cd1 ct1), sl1⟩) (c1 : PySem.W.codeIn K cd1 "Sayer.__init__" = true) (k1 : PySem.W.keepIn K (.ref f1) = true) (a2 : PySem.W.findIn K (.ref C) "join" = some (some (.ref f2))) (i2 : PySem.W.isFn K (.ref f2) = true) (l2 : K.lookup f2 = some ⟨oc2, od2, .func (PySem.W.fnOf "join" "Sayer.join" (C8.fnArgs sSyJoin) (C8.fnBody sSyJoin) (C8.fnScope sSyJoin) .none kV2 doc2 pm2 an2 cd2 ct2), sl2⟩) (c2 : PySem.W.codeIn K cd2 "Sayer.join" = true) (k2 : PySem.W.keepIn K (.ref f2) = true) (a3 : PySem.W.findIn K (.ref C) "say" = some (some (.ref f3))) (i3 : PySem.W.isFn K (.ref f3) = true) (l3 : K.lookup f3 = some ⟨oc3, od3, .func (PySem.W.fnOf "say" "Sayer.say" (C8.fnArgs sSySay) (C8.fnBody sSySay) (C8.fnScope sSySay) .none kV3 doc3 pm3 an3 cd3 ct3), sl3⟩) (c3 : PySem.W.codeIn K cd3 "Sayer.say" = true) (k3 : PySem.W.keepIn K (.ref f3) = true) 
    (pg : PySem.W.plainGet K C Str.empty = true) (hd : PySem.W.hasDictIn K C = true) (po : PySem.W.plainOver K C = true) (sa : PySem.W.findIn K (.ref C) "__setattr__" = some (some (.builtin "object.__setattr__"))) (mk : PySem.W.makesIn K C = true) (kc : PySem.W.keepIn K (.ref C) = true)
    (n1 : PySem.W.findIn K (.ref C) "book" = some none) (n2 : PySem.W.findIn K (.ref C) "row" = some none) (n3 : PySem.W.findIn K (.ref C) "starts" = some none) (n4 : PySem.W.findIn K (.ref C) "joinings" = some none) (n5 : PySem.W.findIn K (.ref C) "order" = some none) (n6 : PySem.W.findIn K (.ref C) "changed" = some none) (n7 : PySem.W.findIn K (.ref C) "looked" = some none) : ∃ C f1 f2 f3, SayerAt K mg C f1 f2 f3 :=
  ⟨C, f1, f2, f3, ⟨PySem.W.mg_of X G aC, ⟨⟨pg, hd, po, sa⟩, n1, n2, n3, n4, n5, n6, n7⟩, ⟨mk, a1, i1, kc⟩, fun_mk gv_SyInit l1 c1, ⟨a2, i2, k2⟩, fun_mk gv_SyJoin l2 c2, ⟨a3, i3, k3⟩, fun_mk gv_SySay l3 c3⟩⟩
end
theorem walk {l : PySem.W.OpenLaw} {q : Program} {loose : List Str} {XP : (Str → Option Value) → Heap → Prop} {YP : World → Heap → Prop} {d : DefRec} {K : Params → PySem.W.Frag} (hn : l.most = some 63) (hdf : d.params.defaults = [])
    (hY : ∀ (w : World) (h : Heap), YP w h → (K w.params).In h)
    (F : ∀ (w : World) (mg : Str → Option Value) (fa : Addr) (h : Heap), (K w.params).In h → h.Ns mainGlobals mg → mg d.name = some (.ref fa) →
      ∃ fd : FuncData, (∀ (s : Shared) (u : Value), BindsTo s fd ⟨[u], []⟩ [("_law_script", u)]) ∧ ∀ base : Heap, (K w.params).In base → base.Ns mainGlobals mg → FnOk l.prog w (K w.params) mg base CX0 11 fa fd ["_law_script"] (spLaw (K w.params))) :
    PySem.W.WalkO q loose XP YP l.row.toRowW d [] (fun f vs => PySem.call f vs) :=
  L2.walk_of (n := 63) (k := 11) (x := "_law_script") (CX := fun _ => CX0) (sp := fun w => spLaw (K w.params)) hn (by decide) hdf ⟨rfl, by decide, by decide⟩ hY F (fun _ _ a ns hl _ hS => ⟨a, ns, rfl, hS, hl, fun _ => rfl⟩) fun _ _ _ _ _ z => z
end K66

open PySem PySem.W PyProof.Rows in
set_option maxRecDepth 100000 in
set_option maxHeartbeats 0 in
theorem PySem.Challenge.cw_heardseams_k66_whole_books_with_which_br_holds : PySem.Challenge.rw_heardseams_k66_whole_books_with_which_br.Holds := by
  w_on; o_law; k_head; (case hw => w_witness2)
  k_fill
  refine K66.walk (l := PySem.Challenge.rw_heardseams_k66_whole_books_with_which_br) rfl rfl (fun w h Y => PySem.W.kIn_of Y) ?F
  case F =>
    intro w mg fa h KX G hmg
    refine' K66.law_mk KX G hmg ?Φ ?a ?l ?c
    (case a => k_is)
    (case l => k_is)
    (case c => k_is)
    case Φ =>
      refine' K66.Facts.mk ?g ?m1 ?m2 ?m3 ?m4 ?m5 ?m6 ?bk ?jn ?sy ?d_is_integer ?d_is_between ?d_is_index ?d_is_sounds ?d_is_side_pair ?d_is_table ?d_check_sizes ?d_told ?d_joined_rows ?d_met_rows ?d_matters_at ?d_rows_many ?d_rows_to ?d__law_rows ?d_triples ?d_matters ?d_is_fair ?d_is_shape ?d_check_shape_for ?d_is_word ?d_check_words ?d_check_phrase ?d_inner_first ?d_said_row ?d_said ?d__law_dice ?d__law_draw ?d__law_row ?d__law_few_words ?d__law_like ?d__law_small_sizes ?d__law_book ?d__law_made ?d__law_met ?d__law_say ?d__law_all ?d__law_drawn_shape ?d__law_is_row ?d__law_shapes
      case g =>
        refine' K66.gb_mk KX G ?z1 ?z2 ?z3 ?z4 ?z5 ?z6 ?z7 ?z8 ?z9 ?z10 ?z11 ?z12 ?z13
        (case z1 => k_is)
        (case z2 => k_is)
        (case z3 => k_is)
        (case z4 => k_is)
        (case z5 => k_is)
        (case z6 => k_is)
        (case z7 => k_is)
        (case z8 => k_is)
        (case z9 => k_is)
        (case z10 => k_is)
        (case z11 => k_is)
        (case z12 => k_is)
        (case z13 => k_is)
      case m1 =>
        refine' K66.con_mk KX G ?a
        (case a => k_is)
      case m2 =>
        refine' K66.con_mk KX G ?a
        (case a => k_is)
      case m3 =>
        refine' K66.con_mk KX G ?a
        (case a => k_is)
      case m4 =>
        refine' K66.con_mk KX G ?a
        (case a => k_is)
      case m5 =>
        refine' K66.con_mk KX G ?a
        (case a => k_is)
      case m6 =>
        refine' K66.con_mk KX G ?a
        (case a => k_is)
      case bk =>
        refine' K66.book_mk KX G ?aC ?a1 ?i1 ?l1 ?c1 ?k1 ?a2 ?i2 ?l2 ?c2 ?k2 ?a3 ?i3 ?l3 ?c3 ?k3 ?pg ?hd ?po ?sa ?mk ?kc ?n1 ?n2 ?n3 ?n4
        (case aC => k_is)
        (case a1 => k_is)
        (case i1 => k_is)
        (case l1 => k_is)
        (case c1 => k_is)
        (case k1 => k_is)
        (case a2 => k_is)
        (case i2 => k_is)
        (case l2 => k_is)
        (case c2 => k_is)
        (case k2 => k_is)
        (case a3 => k_is)
        (case i3 => k_is)
        (case l3 => k_is)
        (case c3 => k_is)
        (case k3 => k_is)
        (case pg => k_is)
        (case hd => k_is)
        (case po => k_is)
        (case sa => k_is)
        (case mk => k_is)
        (case kc => k_is)
        (case n1 => k_is)
        (case n2 => k_is)
        (case n3 => k_is)
        (case n4 => k_is)
      case jn =>
        refine' K66.join_mk KX G ?aC ?a1 ?i1 ?l1 ?c1 ?k1 ?pg ?hd ?po ?sa ?mk ?kc ?n1 ?n2 ?n3 ?n4
        (case aC => k_is)
        (case a1 => k_is)
        (case i1 => k_is)
        (case l1 => k_is)
        (case c1 => k_is)
        (case k1 => k_is)
        (case pg => k_is)
        (case hd => k_is)
        (case po => k_is)
        (case sa => k_is)
        (case mk => k_is)
        (case kc => k_is)
        (case n1 => k_is)
        (case n2 => k_is)
        (case n3 => k_is)
        (case n4 => k_is)
      case sy =>
        refine' K66.sayer_mk KX G ?aC ?a1 ?i1 ?l1 ?c1 ?k1 ?a2 ?i2 ?l2 ?c2 ?k2 ?a3 ?i3 ?l3 ?c3 ?k3 ?pg ?hd ?po ?sa ?mk ?kc ?n1 ?n2 ?n3 ?n4 ?n5 ?n6 ?n7
        (case aC => k_is)
        (case a1 => k_is)
        (case i1 => k_is)
        (case l1 => k_is)
        (case c1 => k_is)
        (case k1 => k_is)
        (case a2 => k_is)
        (case i2 => k_is)
        (case l2 => k_is)
        (case c2 => k_is)
        (case k2 => k_is)
        (case a3 => k_is)
        (case i3 => k_is)
        (case l3 => k_is)
        (case c3 => k_is)
        (case k3 => k_is)
        (case pg => k_is)
        (case hd => k_is)
        (case po => k_is)
        (case sa => k_is)
        (case mk => k_is)
        (case kc => k_is)
        (case n1 => k_is)
        (case n2 => k_is)
        (case n3 => k_is)
        (case n4 => k_is)
        (case n5 => k_is)
        (case n6 => k_is)
        (case n7 => k_is)
      case d_is_integer =>
        refine' K66.def_mk K66.gv_is_integer KX G ?a ?l ?c ?k
        (case a => k_is)
        (case l => k_is)
        (case c => k_is)
        (case k => k_is)
      case d_is_between =>
        refine' K66.def_mk K66.gv_is_between KX G ?a ?l ?c ?k
        (case a => k_is)
        (case l => k_is)
        (case c => k_is)
        (case k => k_is)
      case d_is_index =>
        refine' K66.def_mk K66.gv_is_index KX G ?a ?l ?c ?k
        (case a => k_is)
        (case l => k_is)
        (case c => k_is)
        (case k => k_is)
      case d_is_sounds =>
        refine' K66.def_mk K66.gv_is_sounds KX G ?a ?l ?c ?k
        (case a => k_is)
        (case l => k_is)
        (case c => k_is)
        (case k => k_is)
      case d_is_side_pair =>
        refine' K66.def_mk K66.gv_is_side_pair KX G ?a ?l ?c ?k
        (case a => k_is)
        (case l => k_is)
        (case c => k_is)
        (case k => k_is)
      case d_is_table =>
        refine' K66.def_mk K66.gv_is_table KX G ?a ?l ?c ?k
        (case a => k_is)
        (case l => k_is)
        (case c => k_is)
        (case k => k_is)
      case d_check_sizes =>
        refine' K66.def_mk K66.gv_check_sizes KX G ?a ?l ?c ?k
        (case a => k_is)
        (case l => k_is)
        (case c => k_is)
        (case k => k_is)
      case d_told =>
        refine' K66.def_mk K66.gv_told KX G ?a ?l ?c ?k
        (case a => k_is)
        (case l => k_is)
        (case c => k_is)
        (case k => k_is)
      case d_joined_rows =>
        refine' K66.def_mk K66.gv_joined_rows KX G ?a ?l ?c ?k
        (case a => k_is)
        (case l => k_is)
        (case c => k_is)
        (case k => k_is)
      case d_met_rows =>
        refine' K66.def_mk K66.gv_met_rows KX G ?a ?l ?c ?k
        (case a => k_is)
        (case l => k_is)
        (case c => k_is)
        (case k => k_is)
      case d_matters_at =>
        refine' K66.def_mk K66.gv_matters_at KX G ?a ?l ?c ?k
        (case a => k_is)
        (case l => k_is)
        (case c => k_is)
        (case k => k_is)
      case d_rows_many =>
        refine' K66.def_mk K66.gv_rows_many KX G ?a ?l ?c ?k
        (case a => k_is)
        (case l => k_is)
        (case c => k_is)
        (case k => k_is)
      case d_rows_to =>
        refine' K66.def_mk K66.gv_rows_to KX G ?a ?l ?c ?k
        (case a => k_is)
        (case l => k_is)
        (case c => k_is)
        (case k => k_is)
      case d__law_rows =>
        refine' K66.def_mk K66.gv__law_rows KX G ?a ?l ?c ?k
        (case a => k_is)
        (case l => k_is)
        (case c => k_is)
        (case k => k_is)
      case d_triples =>
        refine' K66.def_mk K66.gv_triples KX G ?a ?l ?c ?k
        (case a => k_is)
        (case l => k_is)
        (case c => k_is)
        (case k => k_is)
      case d_matters =>
        refine' K66.def_mk K66.gv_matters KX G ?a ?l ?c ?k
        (case a => k_is)
        (case l => k_is)
        (case c => k_is)
        (case k => k_is)
      case d_is_fair =>
        refine' K66.def_mk K66.gv_is_fair KX G ?a ?l ?c ?k
        (case a => k_is)
        (case l => k_is)
        (case c => k_is)
        (case k => k_is)
      case d_is_shape =>
        refine' K66.def_mk K66.gv_is_shape KX G ?a ?l ?c ?k
        (case a => k_is)
        (case l => k_is)
        (case c => k_is)
        (case k => k_is)
      case d_check_shape_for =>
        refine' K66.def_mk K66.gv_check_shape_for KX G ?a ?l ?c ?k
        (case a => k_is)
        (case l => k_is)
        (case c => k_is)
        (case k => k_is)
      case d_is_word =>
        refine' K66.def_mk K66.gv_is_word KX G ?a ?l ?c ?k
        (case a => k_is)
        (case l => k_is)
        (case c => k_is)
        (case k => k_is)
      case d_check_words =>
        refine' K66.def_mk K66.gv_check_words KX G ?a ?l ?c ?k
        (case a => k_is)
        (case l => k_is)
        (case c => k_is)
        (case k => k_is)
      case d_check_phrase =>
        refine' K66.def_mk K66.gv_check_phrase KX G ?a ?l ?c ?k
        (case a => k_is)
        (case l => k_is)
        (case c => k_is)
        (case k => k_is)
      case d_inner_first =>
        refine' K66.def_mk K66.gv_inner_first KX G ?a ?l ?c ?k
        (case a => k_is)
        (case l => k_is)
        (case c => k_is)
        (case k => k_is)
      case d_said_row =>
        refine' K66.def_mk K66.gv_said_row KX G ?a ?l ?c ?k
        (case a => k_is)
        (case l => k_is)
        (case c => k_is)
        (case k => k_is)
      case d_said =>
        refine' K66.def_mk K66.gv_said KX G ?a ?l ?c ?k
        (case a => k_is)
        (case l => k_is)
        (case c => k_is)
        (case k => k_is)
      case d__law_dice =>
        refine' K66.def_mk K66.gv__law_dice KX G ?a ?l ?c ?k
        (case a => k_is)
        (case l => k_is)
        (case c => k_is)
        (case k => k_is)
      case d__law_draw =>
        refine' K66.def_mk K66.gv__law_draw KX G ?a ?l ?c ?k
        (case a => k_is)
        (case l => k_is)
        (case c => k_is)
        (case k => k_is)
      case d__law_row =>
        refine' K66.def_mk K66.gv__law_row KX G ?a ?l ?c ?k
        (case a => k_is)
        (case l => k_is)
        (case c => k_is)
        (case k => k_is)
      case d__law_few_words =>
        refine' K66.def_mk K66.gv__law_few_words KX G ?a ?l ?c ?k
        (case a => k_is)
        (case l => k_is)
        (case c => k_is)
        (case k => k_is)
      case d__law_like =>
        refine' K66.def_mk K66.gv__law_like KX G ?a ?l ?c ?k
        (case a => k_is)
        (case l => k_is)
        (case c => k_is)
        (case k => k_is)
      case d__law_small_sizes =>
        refine' K66.def_mk K66.gv__law_small_sizes KX G ?a ?l ?c ?k
        (case a => k_is)
        (case l => k_is)
        (case c => k_is)
        (case k => k_is)
      case d__law_book =>
        refine' K66.def_mk K66.gv__law_book KX G ?a ?l ?c ?k
        (case a => k_is)
        (case l => k_is)
        (case c => k_is)
        (case k => k_is)
      case d__law_made =>
        refine' K66.def_mk K66.gv__law_made KX G ?a ?l ?c ?k
        (case a => k_is)
        (case l => k_is)
        (case c => k_is)
        (case k => k_is)
      case d__law_met =>
        refine' K66.def_mk K66.gv__law_met KX G ?a ?l ?c ?k
        (case a => k_is)
        (case l => k_is)
        (case c => k_is)
        (case k => k_is)
      case d__law_say =>
        refine' K66.def_mk K66.gv__law_say KX G ?a ?l ?c ?k
        (case a => k_is)
        (case l => k_is)
        (case c => k_is)
        (case k => k_is)
      case d__law_all =>
        refine' K66.def_mk K66.gv__law_all KX G ?a ?l ?c ?k
        (case a => k_is)
        (case l => k_is)
        (case c => k_is)
        (case k => k_is)
      case d__law_drawn_shape =>
        refine' K66.def_mk K66.gv__law_drawn_shape KX G ?a ?l ?c ?k
        (case a => k_is)
        (case l => k_is)
        (case c => k_is)
        (case k => k_is)
      case d__law_is_row =>
        refine' K66.def_mk K66.gv__law_is_row KX G ?a ?l ?c ?k
        (case a => k_is)
        (case l => k_is)
        (case c => k_is)
        (case k => k_is)
      case d__law_shapes =>
        refine' K66.def_mk K66.gv__law_shapes KX G ?a ?l ?c ?k
        (case a => k_is)
        (case l => k_is)
        (case c => k_is)
        (case k => k_is)
