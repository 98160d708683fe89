import PyProof.Rows.All
import Wide.All
import OpenK.AllK
import Wide.FinOn
import PySem.Challenge.RW_nn0051_01
set_option Elab.async false
set_option linter.all false
set_option maxRecDepth 100000
noncomputable section
section
open PyProof.Rows
set_option genSizeOf false
set_option genInjectivity false
namespace Mine.Li
noncomputable section
noncomputable abbrev L := List Int
noncomputable def tS (w : Nat -> Int) (l : L) : Nat -> Int := List.rec (λ _ => 0) (λ c _ r i => c * w i + r (i + 1)) l
noncomputable abbrev ev (w : Nat -> Int) (l : L) : Int := tS w l 0
noncomputable def add (a : L) : L -> L := List.rec (λ b => b) (λ x a r b => List.rec (x :: a) (λ y b _ => (x + y) :: r b) b) a
noncomputable abbrev mul (k : Int) (a : L) : L := a.map (k * ·)
noncomputable abbrev sub (a b : L) : L := add a (mul (-1) b)
noncomputable abbrev vm (i : Nat) : L := List.replicate i 0 ++ [1]
variable {w : Nat -> Int}
theorem qA (a : L) : ∀ b i, tS w (add a b) i = tS w a i + tS w b i :=
 List.rec (λ b i => (Int.zero_add _).symm) (λ x a ih b => List.rec (λ i => (Int.add_zero _).symm) (λ y b _ i => by
  show (x + y) * w i + tS w (add a b) (i + 1) = (x * w i + tS w a (i + 1)) + (y * w i + tS w b (i + 1))
  rw [ih, Int.add_mul]; ac_rfl) b) a
theorem mt (k : Int) (a : L) : ∀ i, tS w (mul k a) i = k * tS w a i :=
 List.rec (λ _ => (Int.mul_zero k).symm) (λ x a ih i => by
  show k * x * w i + tS w (mul k a) (i + 1) = k * (x * w i + tS w a (i + 1))
  rw [ih, Int.mul_add, Int.mul_assoc]) a
theorem ui (a b : L) : ev w (add a b) = ev w a + ev w b := qA a b 0
theorem ny (k : Int) (a : L) : ev w (mul k a) = k * ev w a := mt k a 0
theorem j2 (a b : L) : ev w (sub a b) = ev w a - ev w b := by rw [ev, qA, mt, Int.neg_one_mul]; rfl
theorem sq (n : Nat) : ∀ i, tS w (vm n) i = w (i + n) :=
 Nat.rec (λ i => by show 1 * w i + 0 = w i; rw [Int.add_zero, Int.one_mul]) (λ n ih i => by
  show 0 * w i + tS w (vm n) (i + 1) = _
  rw [ih, Int.zero_mul, Int.zero_add, Nat.add_right_comm]; rfl) n
noncomputable def Co (i : Int) : Bool := Int.rec (λ n => Nat.ble 1 n) (λ _ => false) i
noncomputable def zg (i : Int) : Bool := Int.rec (λ _ => false) (λ _ => true) i
noncomputable def Go (i : Int) : Bool := Int.rec (λ n => Nat.beq n 0) (λ _ => false) i
theorem zh {i : Int} (h : Co i = true) : 0 ≤ i := by cases i with | ofNat n => exact Int.natCast_nonneg n | negSucc n => cases h
theorem sO {i : Int} (h : zg i = true) : i < 0 := by cases i with | ofNat n => cases h | negSucc n => exact Int.negSucc_lt_zero n
theorem DV {i : Int} (h : Go i = true) : i = 0 := by cases i with | ofNat n => exact congrArg Int.ofNat (Nat.eq_of_beq_eq_true h) | negSucc n => cases h
noncomputable def at_ (l : L) : Nat -> Int := List.rec (λ _ => 0) (λ c _ r i => Nat.rec c (λ i _ => r i) i) l
noncomputable def Fm (i : Nat) (p q : L) : L := add (mul (- at_ q i) p) (mul (at_ p i) q)
noncomputable def elim (i : Nat) (cs : List L) : List L := cs.filter (λ c => Go (at_ c i)) ++ (cs.filter λ c => Co (at_ c i)).flatMap λ p => (cs.filter λ c => zg (at_ c i)).map (Fm i p)
noncomputable def bad (l : L) : Bool := List.rec false (λ c l _ => zg c && l.all Go) l
noncomputable def zS (n : Nat) : List L -> Bool := Nat.rec (λ cs => cs.any bad) (λ n r cs => r (elim (n + 1) cs)) n
noncomputable abbrev yk (w : Nat -> Int) (cs : List L) : Prop := ∀ c ∈ cs, 0 ≤ ev w c
theorem A5 {cs : List L} (i : Nat) (h : yk w cs) : yk w (elim i cs) := λ c hc =>
 (List.mem_append.mp hc).elim (λ hc => h c (List.mem_filter.mp hc).1) λ hc => by
  obtain ⟨p, hp, hc⟩ := List.mem_flatMap.mp hc
  obtain ⟨q, hq, rfl⟩ := List.mem_map.mp hc
  have hp := List.mem_filter.mp hp
  have hq := List.mem_filter.mp hq
  rw [Fm, ev, qA, mt, mt]
  exact Int.add_nonneg (Int.mul_nonneg (Int.neg_nonneg_of_nonpos (Int.le_of_lt (sO hq.2))) (h p hp.1)) (Int.mul_nonneg (zh hp.2) (h q hq.1))
theorem yH (l : L) : ∀ i, l.all Go = true -> tS w l i = 0 :=
 List.rec (λ _ _ => rfl) (λ c l ih i h => by
  have h := Bool.and_eq_true_iff.mp h
  show c * w i + tS w l (i + 1) = 0
  rw [DV h.1, ih _ h.2, Int.zero_mul]; rfl) l
theorem xV (h1 : w 0 = 1) (n : Nat) : ∀ cs, zS n cs = true -> yk w cs -> False :=
 Nat.rec (λ cs e h => by
  obtain ⟨c, hc, e⟩ := List.any_eq_true.mp e
  have h := h c hc
  cases c with
  | nil => cases e
  | cons c l =>
   have e := Bool.and_eq_true_iff.mp e
   have h : 0 ≤ c * w 0 + tS w l (0 + 1) := h
   rw [yH l _ e.2, h1, Int.mul_one, Int.add_zero] at h
   exact absurd h (Int.not_le.mpr (sO e.1))) (λ n ih cs e h => ih _ e (A5 _ h)) n
inductive E | v (i : Nat) | k (n : Nat) | add (a b : E) | sub (a b : E) | mul (n : Nat) (a : E) | mulR (a : E) (n : Nat) | c (a : E) | neg (a : E) | min (a b : E) | max (a b : E)
noncomputable def get {α : Type} (z : α) (l : List α) : Nat -> α := (λ _ : String => List.rec (λ _ => z) (λ c _ r i => Nat.rec c (λ i _ => r i) i) l) (toString 1)
noncomputable def E.den (N : List Nat) (I : List Int) (e : E) : Nat × Int := E.rec (motive := λ _ => Nat × Int) (λ i => (get 0 N i, get 0 I i)) (λ n => (n, (n : Int)))
 (λ _ _ a b => (a.1 + b.1, a.2 + b.2)) (λ _ _ a b => (a.1 - b.1, a.2 - b.2)) (λ n _ a => (n * a.1, (n : Int) * a.2)) (λ _ n a => (a.1 * n, a.2 * (n : Int)))
 (λ _ a => (a.2.toNat, (a.1 : Int))) (λ _ a => (a.1, - a.2)) (λ _ _ a b => (Min.min a.1 b.1, Min.min a.2 b.2)) (λ _ _ a b => (Max.max a.1 b.1, Max.max a.2 b.2)) e
noncomputable abbrev pe := List (L × List L)
noncomputable def bin (f : L -> L -> pe) (p q : pe) : pe := p.flatMap λ a => q.flatMap λ b => (f a.1 b.1).map λ r => (r.1, r.2 ++ (a.2 ++ b.2))
noncomputable abbrev one (a : L) : pe := [(a, [])]
noncomputable abbrev mx (a b : L) : pe := [(a, [sub a b]), (b, [sub b a])]
noncomputable abbrev mn (a b : L) : pe := [(b, [sub a b]), (a, [sub b a])]
noncomputable abbrev ns (a b : L) : pe := [(sub a b, [sub a b]), ([], [sub b a])]
noncomputable def E.lin (e : E) : pe × pe := E.rec (motive := λ _ => pe × pe) (λ i => (one (vm (2 * i + 1)), one (vm (2 * i + 2)))) (λ n => (one [(n : Int)], one [(n : Int)]))
 (λ _ _ a b => (bin (λ a b => one (Li.add a b)) a.1 b.1, bin (λ a b => one (Li.add a b)) a.2 b.2)) (λ _ _ a b => (bin ns a.1 b.1, bin (λ a b => one (Li.sub a b)) a.2 b.2))
 (λ n _ a => (bin (λ a _ => one (Li.mul n a)) a.1 (one []), bin (λ a _ => one (Li.mul n a)) a.2 (one []))) (λ _ n a => (bin (λ a _ => one (Li.mul n a)) a.1 (one []), bin (λ a _ => one (Li.mul n a)) a.2 (one [])))
 (λ _ a => (bin ns a.2 (one []), a.1)) (λ _ a => (a.1, bin (λ a _ => one (Li.mul (-1) a)) a.2 (one [])))
 (λ _ _ a b => (bin mn a.1 b.1, bin mn a.2 b.2)) (λ _ _ a b => (bin mx a.1 b.1, bin mx a.2 b.2)) e
noncomputable def i8 (w : Nat -> Int) (p : pe) (x : Int) : Prop := ∃ q, q ∈ p ∧ ev w q.1 = x ∧ yk w q.2
theorem i8.bin {f : L -> L -> pe} {p q : pe} {x y z : Int} (hf : ∀ a b, ev w a = x -> ev w b = y -> i8 w (f a b) z) : i8 w p x -> i8 w q y -> i8 w (bin f p q) z :=
 λ ⟨a, ha, ea, va⟩ ⟨b, hb, eb, vb⟩ => let ⟨r, hr, er, vr⟩ := hf _ _ ea eb
  ⟨_, List.mem_flatMap.mpr ⟨a, ha, List.mem_flatMap.mpr ⟨b, hb, List.mem_map.mpr ⟨r, hr, rfl⟩⟩⟩, er, λ c hc => (List.mem_append.mp hc).elim (vr c) λ hc => (List.mem_append.mp hc).elim (va c) (vb c)⟩
theorem i8.one {a : L} {x : Int} (h : ev w a = x) : i8 w (one a) x := ⟨_, List.mem_singleton.mpr rfl, h, λ _ q => nomatch q⟩
theorem rM {a b : L} (h : ev w b ≤ ev w a) : yk w [sub a b] := λ c hc => by rw [List.mem_singleton.mp hc, j2]; exact Int.sub_nonneg_of_le h
theorem i8.two {a b c d : L} {z : Int} (h1 : ev w b ≤ ev w a -> ev w c = z) (h2 : ev w a ≤ ev w b -> ev w d = z) : i8 w [(c, [sub a b]), (d, [sub b a])] z :=
 (Int.le_total (ev w b) (ev w a)).elim (λ h => ⟨_, List.mem_cons_self, h1 h, rM h⟩) λ h => ⟨_, List.mem_cons_of_mem _ (List.mem_singleton.mpr rfl), h2 h, rM h⟩
noncomputable def val (N : List Nat) (I : List Int) (k : Nat) : Int := Nat.rec 1 (λ k _ => bif Nat.beq (k % 2) 0 then (get 0 N (k / 2) : Nat) else get 0 I (k / 2)) k
variable {N : List Nat} {I : List Int}
theorem CH (i : Nat) : ev (val N I) (vm (2 * i + 1)) = (get 0 N i : Nat) := by
 rw [ev, sq, Nat.zero_add]; show cond (Nat.beq (2 * i % 2) 0) _ _ = _; rw [Nat.mul_mod_right, Nat.mul_div_cancel_left _ (Nat.succ_pos 1)]; rfl
theorem F8 (i : Nat) : ev (val N I) (vm (2 * i + 2)) = get 0 I i := by
 rw [ev, sq, Nat.zero_add]; show cond (Nat.beq ((2 * i + 1) % 2) 0) _ _ = _; rw [Nat.mul_add_mod, Nat.mul_add_div (Nat.succ_pos 1)]; rfl
theorem uj (n : Int) : ev (val N I) [n] = n := by show n * 1 + 0 = n; rw [Int.mul_one, Int.add_zero]
noncomputable abbrev W (N : List Nat) (I : List Int) (p : pe × pe) (x : Nat × Int) : Prop := i8 (val N I) p.1 x.1 ∧ i8 (val N I) p.2 x.2
theorem f7 {w : Nat -> Int} : i8 w (one []) 0 := .one rfl
theorem E.ok (e : E) : W N I e.lin (e.den N I) := E.rec (motive := λ e => W N I e.lin (e.den N I)) (λ i => ⟨.one (CH i), .one (F8 i)⟩) (λ n => ⟨.one (uj n), .one (uj n)⟩)
 (λ _ _ a b => ⟨.bin (λ a b p q => .one (by rw [ui, p, q]; rfl)) a.1 b.1, .bin (λ a b p q => .one (by rw [ui, p, q]; rfl)) a.2 b.2⟩)
 (λ _ _ a b => ⟨.bin (λ a b p q => .two (λ h => by rw [p, q] at h; rw [j2, p, q]; exact (Int.ofNat_sub (Int.ofNat_le.mp h)).symm) (λ h => by rw [p, q] at h; exact congrArg Int.ofNat (Nat.sub_eq_zero_of_le (Int.ofNat_le.mp h)).symm)) a.1 b.1,
  .bin (λ a b p q => .one (by rw [j2, p, q]; rfl)) a.2 b.2⟩)
 (λ n _ a => ⟨.bin (λ a _ p _ => .one (a := Li.mul n a) (by rw [ny, p]; rfl)) a.1 f7, .bin (λ a _ p _ => .one (a := Li.mul n a) (by rw [ny, p]; rfl)) a.2 f7⟩)
 (λ _ n a => ⟨.bin (λ a _ p _ => .one (a := Li.mul n a) (by rw [ny, p, Int.mul_comm]; rfl)) a.1 f7, .bin (λ a _ p _ => .one (a := Li.mul n a) (by rw [ny, p, Int.mul_comm]; rfl)) a.2 f7⟩)
 (λ _ a => ⟨.bin (λ a b p q => .two (λ h => by rw [p, q] at h; rw [j2, p, q, Int.sub_zero]; exact (Int.toNat_of_nonneg h).symm) (λ h => by rw [p, q] at h; exact congrArg Int.ofNat (Int.toNat_of_nonpos h).symm)) a.2 f7, a.1⟩)
 (λ _ a => ⟨a.1, .bin (λ a _ p _ => .one (a := Li.mul (-1) a) (by rw [ny, p, Int.neg_one_mul]; rfl)) a.2 f7⟩)
 (λ _ _ a b => ⟨.bin (λ a b p q => .two (λ h => by rw [p, q] at h; rw [q]; exact congrArg Int.ofNat (Nat.min_eq_right (Int.ofNat_le.mp h)).symm) (λ h => by rw [p, q] at h; rw [p]; exact congrArg Int.ofNat (Nat.min_eq_left (Int.ofNat_le.mp h)).symm)) a.1 b.1,
  .bin (λ a b p q => .two (λ h => by rw [p, q] at h; rw [q]; exact (Int.min_eq_right h).symm) (λ h => by rw [p, q] at h; rw [p]; exact (Int.min_eq_left h).symm)) a.2 b.2⟩)
 (λ _ _ a b => ⟨.bin (λ a b p q => .two (λ h => by rw [p, q] at h; rw [p]; exact congrArg Int.ofNat (Nat.max_eq_left (Int.ofNat_le.mp h)).symm) (λ h => by rw [p, q] at h; rw [q]; exact congrArg Int.ofNat (Nat.max_eq_right (Int.ofNat_le.mp h)).symm)) a.1 b.1,
  .bin (λ a b p q => .two (λ h => by rw [p, q] at h; rw [p]; exact (Int.max_eq_left h).symm) (λ h => by rw [p, q] at h; rw [q]; exact (Int.max_eq_right h).symm)) a.2 b.2⟩) e
inductive F | le (t : Bool) (a b : E) | lt (t : Bool) (a b : E) | eq (t : Bool) (a b : E) | not (f : F) | and (f g : F) | or (f g : F) | imp (f g : F) | ff
noncomputable def F.den (N : List Nat) (I : List Int) (f : F) : Prop := F.rec (motive := λ _ => Prop)
 (λ t a b => bif t then (a.den N I).1 ≤ (b.den N I).1 else (a.den N I).2 ≤ (b.den N I).2) (λ t a b => bif t then (a.den N I).1 < (b.den N I).1 else (a.den N I).2 < (b.den N I).2)
 (λ t a b => bif t then (a.den N I).1 = (b.den N I).1 else (a.den N I).2 = (b.den N I).2) (λ _ f => ¬ f) (λ _ _ f g => f ∧ g) (λ _ _ f g => f ∨ g) (λ _ _ f g => f -> g) False f
noncomputable abbrev D := List (List L)
noncomputable def cmp (f : L -> L -> D) (p q : pe) : D := p.flatMap λ a => q.flatMap λ b => (f a.1 b.1).map λ r => r ++ (a.2 ++ b.2)
noncomputable def mj (t : Bool) (p : pe × pe) : pe := bif t then p.1 else p.2
noncomputable def prod (p q : D) : D := p.flatMap λ a => q.map λ b => a ++ b
noncomputable abbrev Bt (a b : L) : L := sub b a
noncomputable abbrev yl (a b : L) : L := add (sub b a) [-1]
noncomputable def F.alt (f : F) : D × D := F.rec (motive := λ _ => D × D)
 (λ t a b => (cmp (λ a b => [[Bt a b]]) (mj t a.lin) (mj t b.lin), cmp (λ a b => [[yl b a]]) (mj t a.lin) (mj t b.lin)))
 (λ t a b => (cmp (λ a b => [[yl a b]]) (mj t a.lin) (mj t b.lin), cmp (λ a b => [[Bt b a]]) (mj t a.lin) (mj t b.lin)))
 (λ t a b => (cmp (λ a b => [[Bt a b, Bt b a]]) (mj t a.lin) (mj t b.lin), cmp (λ a b => [[yl a b], [yl b a]]) (mj t a.lin) (mj t b.lin)))
 (λ _ f => (f.2, f.1)) (λ _ _ f g => (prod f.1 g.1, f.2 ++ g.2)) (λ _ _ f g => (f.1 ++ g.1, prod f.2 g.2)) (λ _ _ f g => (f.2 ++ g.1, prod f.1 g.2)) ([], [[]]) f
noncomputable def rO (w : Nat -> Int) (d : D) : Prop := ∃ cs, cs ∈ d ∧ yk w cs
theorem rO.cmp {f : L -> L -> D} {p q : pe} {x y : Int} (hp : i8 w p x) (hq : i8 w q y) (hf : ∀ a b, ev w a = x -> ev w b = y -> rO w (f a b)) : rO w (cmp f p q) :=
 let ⟨a, ha, ea, va⟩ := hp
 let ⟨b, hb, eb, vb⟩ := hq
 let ⟨r, hr, vr⟩ := hf _ _ ea eb
 ⟨_, List.mem_flatMap.mpr ⟨a, ha, List.mem_flatMap.mpr ⟨b, hb, List.mem_map.mpr ⟨r, hr, rfl⟩⟩⟩, λ c hc => (List.mem_append.mp hc).elim (vr c) λ hc => (List.mem_append.mp hc).elim (va c) (vb c)⟩
theorem rO.prod {p q : D} : rO w p -> rO w q -> rO w (prod p q) :=
 λ ⟨a, ha, va⟩ ⟨b, hb, vb⟩ => ⟨_, List.mem_flatMap.mpr ⟨a, ha, List.mem_map.mpr ⟨b, hb, rfl⟩⟩, λ c hc => (List.mem_append.mp hc).elim (va c) (vb c)⟩
theorem rO.l {p q : D} : rO w p -> rO w (p ++ q) := λ ⟨a, ha, va⟩ => ⟨a, List.mem_append_left _ ha, va⟩
theorem rO.r {p q : D} : rO w q -> rO w (p ++ q) := λ ⟨a, ha, va⟩ => ⟨a, List.mem_append_right _ ha, va⟩
theorem rL {a b : L} (h : ev (val N I) a < ev (val N I) b) : yk (val N I) [yl a b] := λ c hc => by
 rw [List.mem_singleton.mp hc, ui, j2, uj]; exact Int.le_sub_one_of_lt (Int.sub_pos_of_lt h)
theorem tF {cs : List L} (h : yk w cs) : rO w [cs] := ⟨_, List.mem_singleton.mpr rfl, h⟩
theorem Hf {a : L} {cs : List L} (h : yk w [a]) (h' : yk w cs) : yk w (a :: cs) := λ c hc => (List.mem_cons.mp hc).elim (λ e => h c (List.mem_singleton.mpr e)) (h' c)
noncomputable abbrev S (N : List Nat) (I : List Int) (d : D × D) (P : Prop) : Prop := (P -> rO (val N I) d.1) ∧ (¬ P -> rO (val N I) d.2)
theorem S.cmp {x y : Int} {p q : pe} (hp : i8 (val N I) p x) (hq : i8 (val N I) q y) :
  S N I (Li.cmp (λ a b => [[Bt a b]]) p q, Li.cmp (λ a b => [[yl b a]]) p q) (x ≤ y) ∧ S N I (Li.cmp (λ a b => [[yl a b]]) p q, Li.cmp (λ a b => [[Bt b a]]) p q) (x < y) ∧
  S N I (Li.cmp (λ a b => [[Bt a b, Bt b a]]) p q, Li.cmp (λ a b => [[yl a b], [yl b a]]) p q) (x = y) :=
 have c {d : L -> L -> D} (h : ∀ a b, x = ev (val N I) a -> y = ev (val N I) b -> rO (val N I) (d a b)) := rO.cmp hp hq λ a b ea eb => h a b ea.symm eb.symm
 have l {a b : L} (h : ev (val N I) a ≤ ev (val N I) b) : yk (val N I) [Bt a b] := rM h
 ⟨⟨λ h => c λ a b ea eb => tF (l (ea ▸ eb ▸ h)), λ h => c λ a b ea eb => tF (rL (ea ▸ eb ▸ Int.not_le.mp h))⟩,
  ⟨λ h => c λ a b ea eb => tF (rL (ea ▸ eb ▸ h)), λ h => c λ a b ea eb => tF (l (ea ▸ eb ▸ Int.not_lt.mp h))⟩,
  λ h => c λ a b ea eb => tF (Hf (l (ea ▸ eb ▸ Int.le_of_eq h)) (l (ea ▸ eb ▸ Int.le_of_eq h.symm))),
  λ h => c λ a b ea eb => (Int.lt_or_gt_of_ne h).elim (λ h => .l (p := [[yl a b]]) (q := [[yl b a]]) (tF (rL (ea ▸ eb ▸ h)))) λ h => .r (p := [[yl a b]]) (tF (rL (ea ▸ eb ▸ h)))⟩
theorem S.iff {d : D × D} {P Q : Prop} (h : S N I d P) (e : P ↔ Q) : S N I d Q := ⟨λ q => h.1 (e.mpr q), λ q => h.2 λ p => q (e.mp p)⟩
theorem F.ok (f : F) : S N I f.alt (f.den N I) := F.rec (motive := λ f => S N I f.alt (f.den N I))
 (λ t a b => Bool.rec (S.cmp a.ok.2 b.ok.2).1 ((S.cmp a.ok.1 b.ok.1).1.iff Int.ofNat_le) t)
 (λ t a b => Bool.rec (S.cmp a.ok.2 b.ok.2).2.1 ((S.cmp a.ok.1 b.ok.1).2.1.iff Int.ofNat_lt) t)
 (λ t a b => Bool.rec (S.cmp a.ok.2 b.ok.2).2.2 ((S.cmp a.ok.1 b.ok.1).2.2.iff Int.ofNat_inj) t)
 (λ _ f => ⟨f.2, λ h => f.1 (Classical.not_not.mp h)⟩)
 (λ _ _ f g => ⟨λ h => (f.1 h.1).prod (g.1 h.2), λ h => (Classical.not_and_iff_not_or_not.mp h).elim (λ h => (f.2 h).l) λ h => (g.2 h).r⟩)
 (λ _ _ f g => ⟨λ h => h.elim (λ h => (f.1 h).l) λ h => (g.1 h).r, λ h => (f.2 λ q => h (.inl q)).prod (g.2 λ q => h (.inr q))⟩)
 (λ _ _ f g => ⟨λ h => (Classical.em _).elim (λ q => (g.1 (h q)).r) λ q => (f.2 q).l, λ h => (f.1 (Classical.byContradiction λ q => h λ z => (q z).elim)).prod (g.2 λ q => h λ _ => q)⟩)
 ⟨λ h => h.elim, λ _ => tF λ _ q => nomatch q⟩ f
noncomputable def pN (u : Nat) : Nat -> Nat × Nat := Nat.rec (λ c => (0, c)) (λ _ r c => bif Nat.ble (c % 16) 7 then (c % 16, c / 16) else (c % 16 - 8 + 8 * (r (c / 16)).1, (r (c / 16)).2)) u
noncomputable def nth {α : Type} (d : α) (l : List α) (n : Nat) : α := get d l n
noncomputable abbrev bn (o : E -> E -> E) (r : Nat -> E × Nat) (c : Nat) : E × Nat := (o (r c).1 (r (r c).2).1, (r (r c).2).2)
noncomputable def pE (u : Nat) : Nat -> E × Nat := Nat.rec (λ c => (.k 0, c)) (λ u r c => nth (λ c => (.v 0, c)) [λ c => (.v 0, c), λ c => (.v 1, c), λ c => (.v 2, c), λ c => (.v 3, c), λ c => (.v 4, c),
 λ c => (.v (pN u c).1, (pN u c).2), λ c => (.k (pN u c).1, (pN u c).2), λ c => (.mul (pN u c).1 (r (pN u c).2).1, (r (pN u c).2).2), λ c => (.mulR (r c).1 (pN u (r c).2).1, (pN u (r c).2).2),
 bn .add r, bn .sub r, λ c => (.c (r c).1, (r c).2), λ c => (.neg (r c).1, (r c).2), bn .min r, bn .max r] (c % 16) (c / 16)) u
noncomputable abbrev ba (o : E -> E -> F) (u c : Nat) : F × Nat := (o (pE u c).1 (pE u (pE u c).2).1, (pE u (pE u c).2).2)
noncomputable abbrev bf (o : F -> F -> F) (r : Nat -> F × Nat) (c : Nat) : F × Nat := (o (r c).1 (r (r c).2).1, (r (r c).2).2)
noncomputable def pF (u : Nat) : Nat -> F × Nat := Nat.rec (λ c => (.ff, c)) (λ u r c => nth (λ c => (.ff, c)) [ba (.le true) u, ba (.lt true) u, ba (.eq true) u, ba (.le false) u, ba (.lt false) u, ba (.eq false) u,
 λ c => (.not (r c).1, (r c).2), bf .and r, bf .or r, bf .imp r] (c % 16) (c / 16)) u
noncomputable def G5 (c : Nat) : F := (pF 100 c).1
noncomputable def GJ (c : Nat) : Bool := (G5 (c / 16)).alt.2.all λ cs => zS (2 * (c % 16)) ((List.range (c % 16)).map (λ i => vm (2 * i + 1)) ++ cs)
theorem _root_.Mine.lnr (N : List Nat) (I : List Int) (c : Nat) (h : GJ c = true := by kernel_rfl) : (G5 (c / 16)).den N I := Classical.byContradiction λ q =>
 let ⟨cs, hc, v⟩ := (G5 (c / 16)).ok.2 q
 xV rfl _ _ (List.all_eq_true.mp h cs hc) λ c hc => (List.mem_append.mp hc).elim (λ hc => by
  obtain ⟨i, _, rfl⟩ := List.mem_map.mp hc
  rw [CH]; exact Int.natCast_nonneg _) (v c)
end
end Mine.Li
end
section
open PySem PySem.W PyProof.Rows
set_option genSizeOf false
set_option genInjectivity false
namespace Mine
noncomputable section
inductive dL where | place | token | reader | cursor
 deriving DecidableEq, Inhabited
inductive hJ where | line | column | kind | text | worth | pat | tokens
 deriving DecidableEq, Inhabited
noncomputable def sE : dL -> List hJ
 | .place => [.line, .column]
 | .token => [.kind, .text, .worth, .pat]
 | .reader => [.text, .line, .pat]
 | .cursor => [.tokens, .pat]
noncomputable def j4 (c : dL) (f : hJ) : Option Nat := (sE c).findIdx? (· == f)
inductive AV where
 | none
 | bool (b : Bool)
 | int (i : Int)
 | str (s : List Nat)
 | tup (l : List AV)
 | loc (n : Nat)
 | inst (c : dL) (vs : List AV)
 | esc
 | script (l : List Int)
 deriving Inhabited
inductive aG where
 | list (l : List AV)
 | inst (c : dL) (vs : List AV)
 deriving Inhabited
noncomputable abbrev aa := List aG
noncomputable abbrev aj := List (Option AV)
inductive Fn where
 | digit_of | is_letter | begins_name | is_name_sign | read_escape | read_char | text_end | quoted | line_end | piece_end | split_lines
 | number_worth | local_worth | line_tokens | show_tokens
 | l_ESCAPES | l_figure | l_escape | l_constant | l_pieces | l_number | l_quote | l_token | l_tokens | l_heard | l_walked
 | place_init | place_told | token_init | token_back | token_told
 | reader_init | r_place | r_is_done | r_passed | r_name_end | r_number | r_constant | r_quote | r_register | r_mark | r_token
 | cursor_init | c_peek | c_take | c_is_end | c_skip_name
 deriving DecidableEq, Inhabited
inductive yh where
 | told | is_backward | place | is_done | passed | name_end | number | constant | quote | register | mark | token | peek | take | is_end | skip_name
 deriving DecidableEq, Inhabited
noncomputable def zB : dL -> yh -> Option Fn
 | .place, .told => some .place_told
 | .token, .told => some .token_told
 | .token, .is_backward => some .token_back
 | .reader, .place => some .r_place
 | .reader, .is_done => some .r_is_done
 | .reader, .passed => some .r_passed
 | .reader, .name_end => some .r_name_end
 | .reader, .number => some .r_number
 | .reader, .constant => some .r_constant
 | .reader, .quote => some .r_quote
 | .reader, .register => some .r_register
 | .reader, .mark => some .r_mark
 | .reader, .token => some .r_token
 | .cursor, .peek => some .c_peek
 | .cursor, .take => some .c_take
 | .cursor, .is_end => some .c_is_end
 | .cursor, .skip_name => some .c_skip_name
 | _, _ => none
noncomputable def jG : dL -> Fn
 | .place => .place_init | .token => .token_init | .reader => .reader_init | .cursor => .cursor_init
noncomputable def y8 : dL -> Bool
 | .place | .token => true
 | _ => false
inductive EB where | add | sub | mul | mod | fdiv | pow | shl
 deriving DecidableEq
inductive vq where | eq | ne | lt | le | gt | ge | is_ | in_ | notIn
 deriving DecidableEq
inductive Bi where | ord | len | str | chr | sum | int
 deriving DecidableEq
inductive SM where | find | join | lower | isalpha | isdigit
 deriving DecidableEq
mutual
inductive ME where
 | var (i : Nat) | none | bool (b : Bool) | int (i : Int) | str (s : List Nat) | neg (i : Int)
 | gstr (x : String) (s : List Nat) | gint (x : String) (i : Int) | gtup (x : String) (l : List (List Nat))
 | bin (op : EB) (a b : ME)
 | cmp (op : vq) (a b : ME) | cmp2 (op1 op2 : vq) (a b c : ME)
 | andE (es : fC) | orE (es : fC) | notE (a : ME) | ite (t a b : ME)
 | call (f : Fn) (es : fC) | new (c : dL) (es : fC) | bi (b : Bi) (e : ME)
 | sm0 (m : SM) (o : ME) | sm1 (m : SM) (o a : ME)
 | app (o e : ME) | meth (m : yh) (o : ME) (es : fC) | attr (f : hJ) (o : ME)
 | idx (o i : ME) | slice (o : ME) (lo hi : MO) | rev (o : ME)
 | tup (es : fC) | lst (es : fC) | escD
 | comp (elt : ME) (tg : List Nat) (it : MI) (test : MO)
 | isList (o : ME)
inductive fC where | nil | cons (e : ME) (es : fC)
inductive MO where | none | some (e : ME)
inductive MI where | plain (e : ME) | range (e : ME) | enum (e : ME)
end
mutual
inductive MS where
 | asg (i : Nat) (e : ME) | asgT (is : List Nat) (e : ME) | asgA (f : hJ) (o e : ME) | exprS (e : ME)
 | ifS (t : ME) (a b : bq) | while (t : ME) (b : bq) | forS (tg : List Nat) (it : MI) (b : bq)
 | ret (e : ME) | raise (w a : ME) | brk | tryTold (e : ME)
 | ifHeard (es : fC) (op : vq) (b : ME) (x y : bq) | retHeard (es : fC) (op : vq) (b : ME)
inductive bq where | nil | cons (s : MS) (ss : bq)
end
noncomputable def fD : Nat := 1048576
section
variable {β : Type}
noncomputable abbrev dp {α : Type} : α -> Option β := λ _ => .none
noncomputable abbrev uJ {α γ : Type} : α -> γ -> Option β := λ _ _ => .none
noncomputable def lA (a : AV) (fi : Int -> Option β) (fs : List Nat -> Option β) (ft : List AV -> Option β) (fl : Nat -> Option β) (fe : Option β) (fx : List Int -> Option β) : Option β :=
 AV.casesOn (motive_1 := λ _ => Option β) a .none dp fi fs ft fl uJ fe fx
noncomputable def jt (a : AV) (f : Int -> Option β) : Option β := lA a f dp dp dp .none dp
noncomputable def tZ (a : AV) (f : List Nat -> Option β) : Option β := lA a dp f dp dp .none dp
noncomputable def cF (σ : aa) (n : Nat) (fl : List AV -> Option β) (fc : dL -> List AV -> Option β) : Option β :=
 Option.casesOn (motive := λ _ => Option β) σ[n]? .none λ c => aG.casesOn (motive := λ _ => Option β) c fl fc
noncomputable def Gh (σ : aa) (a : AV) (f : List AV -> Option β) : Option β := lA a dp dp dp (λ n => cF σ n f uJ) .none dp
noncomputable def GF (σ : aa) (a : AV) (f : dL -> List AV -> Option β) : Option β := AV.casesOn (motive_1 := λ _ => Option β) a .none dp dp dp dp (λ n => cF σ n dp f) f .none dp
noncomputable def EF (s : List Nat) (f : Nat -> Option β) : Option β := List.casesOn (motive := λ _ => Option β) s .none λ c r => List.casesOn (motive := λ _ => Option β) r (f c) uJ
end
noncomputable def f5 (op : EB) (a b : AV) (σ : aa) : Option (AV × aa) := EB.casesOn (motive := λ _ => Option (AV × aa)) op
 (lA a (λ x => jt b λ y => some (.int (x + y), σ)) (λ x => tZ b λ y => if x.length + y.length ≤ fD then some (.str (x ++ y), σ) else none) dp
  (λ n => cF σ n (λ xs => Gh σ b λ ys => if xs.length + ys.length ≤ fD then some (.loc σ.length, σ ++ [.list (xs ++ ys)]) else none) uJ) none dp)
 (jt a λ x => jt b λ y => some (.int (x - y), σ))
 (lA a (λ x => jt b λ y => if x.natAbs < 1000000 ∨ y.natAbs < 1000000 then some (.int (x * y), σ) else none)
  (λ x => jt b λ y => if x.length * y.toNat ≤ fD ∧ -1000000 ≤ y ∧ y ≤ 1000000 then some (.str (List.replicate y.toNat x).flatten, σ) else none) dp dp none dp)
 (jt a λ x => jt b λ y => if 0 < y then some (.int (x % y), σ) else none)
 (jt a λ x => jt b λ y => if 0 < y ∧ y < 1000000 then some (.int (x / y), σ) else none)
 (jt a λ x => jt b λ y => if 0 ≤ y ∧ y ≤ 1000 ∧ 0 < x ∧ x ≤ 100 then some (.int (x ^ y.toNat), σ) else none)
 (jt a λ x => jt b λ y => if 0 ≤ y ∧ y ≤ 1000 ∧ 0 < x ∧ x ≤ 100 then some (.int (x * 2 ^ y.toNat), σ) else none)
noncomputable def cI (σ : aa) (a : AV) (f : hJ) : Option AV := GF σ a λ c vs => (j4 c f).bind (vs[·]?)
noncomputable def fu {α : Type} (l : List α) (i : Int) : Option α := if 0 ≤ i then l[i.toNat]? else if 0 ≤ i + l.length then l[(i + l.length).toNat]? else none
noncomputable def bR : List (Nat × Int) := [(98, 8), (116, 9), (110, 10), (102, 12), (114, 13), (34, 34), (39, 39), (92, 92)]
noncomputable def jn (σ : aa) (o i : AV) : Option AV :=
 lA o dp (λ s => jt i λ k => (fu s k).map λ c => .str [c]) (λ l => jt i λ k => fu l k) (λ n => cF σ n (λ l => jt i λ k => fu l k) uJ) (tZ i λ s => EF s λ c => (bR.lookup c).map .int) dp
noncomputable def eL (n : Nat) (i : Int) : Nat := (max 0 (min (if i < 0 then i + n else i) n)).toNat
noncomputable def iq {α : Type} (l : List α) (lo hi : Option Int) : List α := (l.take (hi.elim l.length (eL l.length))).drop (lo.elim 0 (eL l.length))
noncomputable def oP (o : Option AV) : Option (Option Int) := o.elim (some none) λ v => jt v λ i => some (some i)
noncomputable def mN (σ : aa) (o : AV) (lo hi : Option Int) : Option (AV × aa) :=
 lA o dp (λ s => some (.str (iq s lo hi), σ)) (λ l => lo.elim (hi.elim none λ k => if 0 ≤ k ∧ k < l.length then some (.tup (l.take k.toNat), σ) else none) dp)
  (λ n => cF σ n (λ l => some (.loc σ.length, σ ++ [.list (iq l lo hi)])) uJ) none λ l => some (.loc σ.length, σ ++ [.list (iq (l.map .int) lo hi)])
noncomputable def wU (σ : aa) (o : AV) : Option (AV × aa) :=
 lA o dp (λ s => some (.str s.reverse, σ)) dp (λ n => cF σ n (λ l => some (.loc σ.length, σ ++ [.list l.reverse])) uJ) none dp
noncomputable def AV.py (a : AV) : Option PyData := AV.rec (motive_1 := λ _ => Option PyData) (motive_2 := λ _ => Option (List PyData)) (some .none) (λ b => some (.bool b)) (λ i => some (.int i)) (λ s => some (.str ⟨s.toArray⟩)) (λ _ l => l.map .tuple)
 dp (λ _ _ _ => Option.none) Option.none dp (some []) (λ _ _ a l => a.bind λ x => l.map (x :: ·)) a
noncomputable def AV.pyL (l : List AV) : Option (List PyData) := AV.rec_1 (motive_1 := λ _ => Option PyData) (motive_2 := λ _ => Option (List PyData)) (some .none) (λ b => some (.bool b)) (λ i => some (.int i)) (λ s => some (.str ⟨s.toArray⟩)) (λ _ l => l.map .tuple)
 dp (λ _ _ _ => Option.none) Option.none dp (some []) (λ _ _ a l => a.bind λ x => l.map (x :: ·)) l
noncomputable def ml (σ : aa) (a : AV) : Option PyData := AV.casesOn (motive_1 := λ _ => Option PyData) a (some .none) (λ b => some (.bool b)) (λ i => some (.int i)) (λ s => some (.str ⟨s.toArray⟩)) (λ l => (AV.pyL l).map .tuple)
 (λ n => cF σ n (λ l => (AV.pyL l).map .list) uJ) uJ none dp
noncomputable def nt (a b : AV) : Option Bool := AV.casesOn (motive_1 := λ _ => Option Bool) a none (λ x => AV.casesOn (motive_1 := λ _ => Option Bool) b none (λ y => some (x == y)) dp dp dp dp uJ none dp)
 (λ x => jt b λ y => some (decide (x = y))) (λ x => tZ b λ y => some (decide (x = y))) dp dp uJ none dp
noncomputable def Fz (σ : aa) (a b : AV) : Option Bool := (ml σ a).bind λ x => (ml σ b).bind λ y => if (SeqAt.shaped x && SeqAt.shaped y) = true then some (PyData.eqv x y) else none
noncomputable def ir (σ : aa) (a b : AV) : Option Bool := (nt a b).elim (Fz σ a b) some
noncomputable def o7 (l : List AV) : Option (List (List Nat)) := List.rec (some []) (λ a _ r => tZ a λ s => r.map (s :: ·)) l
noncomputable def iz (l : List AV) : Option (List Int) := List.rec (some []) (λ a _ r => jt a λ i => r.map (i :: ·)) l
noncomputable def FH (a b : AV) : Option Bool :=
 tZ a λ x => lA b dp (λ s => EF x λ c => some (s.contains c)) (λ l => (o7 l).map λ ls => ls.contains x) dp (List.casesOn (motive := λ _ => Option Bool) x (some false) λ c r => List.casesOn (motive := λ _ => Option Bool) r (some (bR.lookup c).isSome) uJ) dp
noncomputable def isNone (a : AV) : Bool := AV.casesOn (motive_1 := λ _ => Bool) a true (λ _ => false) (λ _ => false) (λ _ => false) (λ _ => false) (λ _ => false) (λ _ _ => false) false λ _ => false
noncomputable def dl (op : vq) (σ : aa) (a b : AV) : Option Bool := vq.casesOn (motive := λ _ => Option Bool) op (ir σ a b) ((ir σ a b).map (!·))
 (jt a λ x => jt b λ y => some (decide (x < y))) (jt a λ x => jt b λ y => some (decide (x ≤ y))) (jt a λ x => jt b λ y => some (decide (y < x))) (jt a λ x => jt b λ y => some (decide (y ≤ x)))
 (bif isNone b then some (isNone a) else none) (FH a b) (tZ a λ x => EF x λ c => tZ b λ s => some (!(s.contains c)))
noncomputable def l9 (b : Bi) (σ : aa) (a : AV) : Option AV := Bi.casesOn (motive := λ _ => Option AV) b (tZ a λ s => EF s λ c => some (.int c))
 (lA a dp (λ s => some (.int s.length)) (λ l => some (.int l.length)) (λ n => cF σ n (λ l => some (.int l.length)) uJ) none dp)
 (jt a λ i => if 0 ≤ i ∧ i ≤ 9 then some (.str [48 + i.toNat]) else none) (jt a λ i => if 0 ≤ i ∧ i < 1114112 then some (.str [i.toNat]) else none)
 (Gh σ a λ l => (iz l).map λ is => .int is.sum) (jt a λ i => some (.int i))
noncomputable def isAl (c : Nat) : Bool := (65 ≤ c && c ≤ 90) || (97 ≤ c && c ≤ 122)
noncomputable def isDi (c : Nat) : Bool := 48 ≤ c && c ≤ 57
noncomputable def oh (c : Nat) : Nat := if 65 ≤ c && c ≤ 90 then c + 32 else c
noncomputable def nB (s : List Nat) (c : Nat) : Int := (s.findIdx? (· == c)).elim (-1) λ i => i
noncomputable def bV (sep : List Nat) : List (List Nat) -> List Nat
 | [] => []
 | [x] => x
 | x :: rest => x ++ sep ++ bV sep rest
noncomputable def jo (m : SM) (a : AV) : Option AV := SM.casesOn (motive := λ _ => Option AV) m none none (tZ a λ s => if s.all (· < 128) = true then some (.str (s.map oh)) else none)
 (tZ a λ s => if s.all (· < 128) = true then some (.bool (!s.isEmpty && s.all isAl)) else none) (tZ a λ s => if s.all (· < 128) = true then some (.bool (!s.isEmpty && s.all isDi)) else none)
noncomputable def qg (m : SM) (σ : aa) (o a : AV) : Option AV := SM.casesOn (motive := λ _ => Option AV) m (tZ o λ s => tZ a λ t => EF t λ c => some (.int (nB s c)))
 (tZ o λ sep => Gh σ a λ l => (o7 l).bind λ ls => if (ls.map List.length).sum + ls.length * sep.length ≤ fD then some (.str (bV sep ls)) else none) none none none
noncomputable def E1 (c : dL) : Nat := dL.casesOn c 2 4 2 1
noncomputable def CJ (c : dL) : List AV := dL.casesOn c [] [] [.int 0] [.int 0]
noncomputable def nV (c : dL) (args : List AV) : Option (List AV) := if args.length = E1 c then some (args ++ CJ c) else none
noncomputable def om (c : dL) (args : List AV) (σ : aa) : Option (AV × aa) :=
 (nV c args).map λ vs => if y8 c = true then (.inst c vs, σ) else (.loc σ.length, σ ++ [.inst c vs])
noncomputable def setL {α : Type} (l : List α) : Nat -> α -> List α := List.rec (motive := λ _ => Nat -> α -> List α) (λ _ v => [v]) (λ a l r i v => Nat.casesOn (motive := λ _ => List α) i (v :: l) λ i => a :: r i v) l
noncomputable def setField (σ : aa) (n : Nat) (f : hJ) (v : AV) : Option aa :=
 cF σ n dp λ c vs => (j4 c f).bind λ i => if i ≤ vs.length then some (σ.set n (.inst c (setL vs i v))) else none
noncomputable def sf (σ : aa) (a : AV) : Option dL := GF σ a λ c _ => some c
noncomputable def cV (ρ : aj) : List Nat -> List AV -> aj
 | i :: is, v :: vs => cV (ρ.set i (some v)) is vs
 | _, _ => ρ
noncomputable def f6 (tg : List Nat) (v : AV) (ρ : aj) : Option aj := List.casesOn (motive := λ _ => Option aj) tg none λ i is =>
 List.casesOn (motive := λ _ => Option aj) is (some (ρ.set i (some v))) λ _ _ => lA v dp dp (λ vs => if tg.length = vs.length then some (cV ρ tg vs) else none) dp none dp
noncomputable def my (σ : aa) (v : AV) : Option (List AV) := lA v dp (λ s => some (s.map λ c => .str [c])) dp (λ n => cF σ n some uJ) none dp
noncomputable def ch (σ : aa) : AV -> Option aG
 | .loc n => σ[n]?
 | _ => none
noncomputable def cz : Nat -> List AV -> List AV
 | _, [] => []
 | k, v :: vs => .tup [.int k, v] :: cz (k + 1) vs
noncomputable def oX (n : Nat) : List AV := (List.range n).map λ (k : Nat) => .int k
inductive aA where | next | brk | ret (v : AV)
noncomputable abbrev ac := List AV -> aa -> (AV -> aa -> Prop) -> (AV -> aa -> Prop) -> Prop
noncomputable def iy (c : dL) : ac := λ args σ Q _ => ∃ n rest vs, args = .loc n :: rest ∧ σ[n]? = some (.inst c []) ∧ nV c rest = some vs ∧ Q .none (σ.set n (.inst c vs))
noncomputable def m9 (ev : AV -> (Option AV -> Prop) -> Prop) : List AV -> List AV -> (List AV -> Prop) -> Prop
 | [], acc, Q => Q acc
 | v :: vs, acc, Q => ev v λ r => m9 ev vs (match r with | some x => acc ++ [x] | none => acc) Q
noncomputable def GD (test : aj -> aa -> (Bool -> aa -> Prop) -> Prop) (body : aj -> aa -> (aA -> aj -> aa -> Prop) -> Prop) :
  Nat -> aj -> aa -> (aA -> aj -> aa -> Prop) -> Prop
 | 0, _, _, _ => False
 | n + 1, ρ, σ, Q => test ρ σ λ b σ' => if b = true then body ρ σ' λ fl ρ' σ'' => match fl with
   | .next => GD test body n ρ' σ'' Q
   | .brk => Q .next ρ' σ''
   | .ret v => Q (.ret v) ρ' σ''
  else Q .next ρ σ'
noncomputable def y0 (tg : List Nat) (same : aa -> Prop) (body : aj -> aa -> (aA -> aj -> aa -> Prop) -> Prop) :
  List AV -> aj -> aa -> (aA -> aj -> aa -> Prop) -> Prop
 | [], ρ, σ, Q => same σ ∧ Q .next ρ σ
 | v :: vs, ρ, σ, Q => same σ ∧ ∃ ρ', f6 tg v ρ = some ρ' ∧ body ρ' σ λ fl ρ'' σ' => match fl with
   | .next => y0 tg same body vs ρ'' σ' Q
   | .brk => Q .next ρ'' σ'
   | .ret v => Q (.ret v) ρ'' σ'
section
variable (T : Fn -> ac)
mutual
noncomputable def br : ME -> aj -> aa -> (AV -> aa -> Prop) -> (AV -> aa -> Prop) -> Prop
 | .var i, ρ, σ, Q, _ => ∃ v, ρ[i]? = some (some v) ∧ Q v σ
 | .none, _, σ, Q, _ => Q .none σ
 | .bool b, _, σ, Q, _ => Q (.bool b) σ
 | .int i, _, σ, Q, _ => Q (.int i) σ
 | .str s, _, σ, Q, _ => Q (.str s) σ
 | .neg i, _, σ, Q, _ => Q (.int (-i)) σ
 | .gstr _ s, _, σ, Q, _ => Q (.str s) σ
 | .gint _ i, _, σ, Q, _ => Q (.int i) σ
 | .gtup _ l, _, σ, Q, _ => Q (.tup (l.map .str)) σ
 | .bin op a b, ρ, σ, Q, X => br a ρ σ (λ va σ₁ => br b ρ σ₁ (λ vb σ₂ => ∃ r, f5 op va vb σ₂ = some r ∧ Q r.1 r.2) X) X
 | .cmp op a b, ρ, σ, Q, X => br a ρ σ (λ va σ₁ => br b ρ σ₁ (λ vb σ₂ => ∃ r, dl op σ₂ va vb = some r ∧ Q (.bool r) σ₂) X) X
 | .cmp2 o₁ o₂ a b c, ρ, σ, Q, X => br a ρ σ (λ va σ₁ => br b ρ σ₁ (λ vb σ₂ => ∃ r, dl o₁ σ₂ va vb = some r ∧
   if r = true then br c ρ σ₂ (λ vc σ₃ => ∃ r, dl o₂ σ₃ vb vc = some r ∧ Q (.bool r) σ₃) X else Q (.bool false) σ₂) X) X
 | .andE es, ρ, σ, Q, X => yx es ρ σ Q X
 | .orE es, ρ, σ, Q, X => yz es ρ σ Q X
 | .notE a, ρ, σ, Q, X => br a ρ σ (λ v σ₁ => ∃ b, v = .bool b ∧ Q (.bool (!b)) σ₁) X
 | .ite t a b, ρ, σ, Q, X => br t ρ σ (λ v σ₁ => ∃ r, v = .bool r ∧ if r = true then br a ρ σ₁ Q X else br b ρ σ₁ Q X) X
 | .call f es, ρ, σ, Q, X => mQ es ρ σ (λ vs σ₁ => T f vs σ₁ Q X) X
 | .new c es, ρ, σ, Q, X => mQ es ρ σ (λ vs σ₁ => ∃ r, om c vs σ₁ = some r ∧ Q r.1 r.2) X
 | .bi b e, ρ, σ, Q, X => br e ρ σ (λ v σ₁ => ∃ r, l9 b σ₁ v = some r ∧ Q r σ₁) X
 | .sm0 m o, ρ, σ, Q, X => br o ρ σ (λ v σ₁ => ∃ r, jo m v = some r ∧ Q r σ₁) X
 | .sm1 m o a, ρ, σ, Q, X => br o ρ σ (λ v σ₁ => (∃ x, v = .str x) ∧ br a ρ σ₁ (λ va σ₂ => ∃ r, qg m σ₂ v va = some r ∧ Q r σ₂) X) X
 | .app o e, ρ, σ, Q, X => br o ρ σ (λ v σ₁ => (∃ n l, v = .loc n ∧ σ₁[n]? = some (.list l)) ∧ br e ρ σ₁ (λ x σ₂ => ∃ n l, v = .loc n ∧ σ₂[n]? = some (.list l) ∧ l.length < fD ∧ Q .none (σ₂.set n (.list (l ++ [x])))) X) X
 | .meth m o es, ρ, σ, Q, X => br o ρ σ (λ v σ₁ => ∃ c, sf σ₁ v = some c ∧ ∃ f, zB c m = some f ∧ mQ es ρ σ₁ (λ vs σ₂ => T f (v :: vs) σ₂ Q X) X) X
 | .attr f o, ρ, σ, Q, X => br o ρ σ (λ v σ₁ => ∃ r, cI σ₁ v f = some r ∧ Q r σ₁) X
 | .idx o i, ρ, σ, Q, X => br o ρ σ (λ v σ₁ => br i ρ σ₁ (λ k σ₂ => ∃ r, jn σ₂ v k = some r ∧ Q r σ₂) X) X
 | .slice o lo hi, ρ, σ, Q, X => br o ρ σ (λ v σ₁ => t3 lo ρ σ₁ (λ l σ₂ => t3 hi ρ σ₂ (λ h σ₃ => ∃ l', oP l = some l' ∧ ∃ h', oP h = some h' ∧
   ∃ r, mN σ₃ v l' h' = some r ∧ Q r.1 r.2) X) X) X
 | .rev o, ρ, σ, Q, X => br o ρ σ (λ v σ₁ => ∃ r, wU σ₁ v = some r ∧ Q r.1 r.2) X
 | .tup es, ρ, σ, Q, X => mQ es ρ σ (λ vs σ₁ => Q (.tup vs) σ₁) X
 | .lst es, ρ, σ, Q, X => mQ es ρ σ (λ vs σ₁ => Q (.loc σ₁.length) (σ₁ ++ [.list vs])) X
 | .escD, _, σ, Q, _ => Q .esc σ
 | .comp elt tg it test, ρ, σ, Q, X => AK it ρ σ (λ items same σ₁ => same σ₁ ∧ items.length ≤ fD ∧
   m9 (λ v K => ∃ ρ', f6 tg v ρ = some ρ' ∧ t3 test ρ' σ₁ (λ b σ₂ => σ₂ = σ₁ ∧
    ((b = none ∨ b = some (.bool true)) ∧ br elt ρ' σ₁ (λ r σ₂ => σ₂ = σ₁ ∧ K (some r)) (λ _ _ => False) ∨ b = some (.bool false) ∧ K none)) (λ _ _ => False)) items []
    (λ acc => Q (.loc σ₁.length) (σ₁ ++ [.list acc]))) X
 | .isList o, ρ, σ, Q, X => br o ρ σ (λ v σ₁ => (∃ n l, v = .loc n ∧ σ₁[n]? = some (.list l) ∧ Q (.bool true) σ₁) ∨ (∃ l, v = .tup l ∧ Q (.bool false) σ₁)) X
noncomputable def mQ : fC -> aj -> aa -> (List AV -> aa -> Prop) -> (AV -> aa -> Prop) -> Prop
 | .nil, _, σ, Q, _ => Q [] σ
 | .cons e es, ρ, σ, Q, X => br e ρ σ (λ v σ₁ => mQ es ρ σ₁ (λ vs σ₂ => Q (v :: vs) σ₂) X) X
noncomputable def yx : fC -> aj -> aa -> (AV -> aa -> Prop) -> (AV -> aa -> Prop) -> Prop
 | .nil, _, _, _, _ => False
 | .cons e es, ρ, σ, Q, X => br e ρ σ (λ v σ₁ => ∃ b, v = .bool b ∧ match es with
   | .nil => Q (.bool b) σ₁
   | .cons _ _ => if b = true then yx es ρ σ₁ Q X else Q (.bool false) σ₁) X
noncomputable def yz : fC -> aj -> aa -> (AV -> aa -> Prop) -> (AV -> aa -> Prop) -> Prop
 | .nil, _, _, _, _ => False
 | .cons e es, ρ, σ, Q, X => br e ρ σ (λ v σ₁ => ∃ b, v = .bool b ∧ match es with
   | .nil => Q (.bool b) σ₁
   | .cons _ _ => if b = true then Q (.bool true) σ₁ else yz es ρ σ₁ Q X) X
noncomputable def t3 : MO -> aj -> aa -> (Option AV -> aa -> Prop) -> (AV -> aa -> Prop) -> Prop
 | .none, _, σ, Q, _ => Q none σ
 | .some e, ρ, σ, Q, X => br e ρ σ (λ v σ₁ => Q (some v) σ₁) X
noncomputable def AK : MI -> aj -> aa -> (List AV -> (aa -> Prop) -> aa -> Prop) -> (AV -> aa -> Prop) -> Prop
 | .plain e, ρ, σ, Q, X => br e ρ σ (λ v σ₁ => ∃ l, my σ₁ v = some l ∧ Q l (λ σ₂ => ch σ₂ v = ch σ₁ v) σ₁) X
 | .range e, ρ, σ, Q, X => br e ρ σ (λ v σ₁ => v = .int 8 ∧ Q (oX 8) (λ _ => True) σ₁) X
 | .enum e, ρ, σ, Q, X => br e ρ σ (λ v σ₁ => (∃ s, v = .str s ∧ Q (cz 0 (s.map λ c => .str [c])) (λ _ => True) σ₁) ∨
   (∃ l is, v = .loc σ.length ∧ σ₁ = σ ++ [.list l] ∧ iz l = some is ∧ Q (cz 0 l) (λ _ => True) σ)) X
end
mutual
noncomputable def AL : MS -> aj -> aa -> (aA -> aj -> aa -> Prop) -> (AV -> aa -> Prop) -> Prop
 | .asg i e, ρ, σ, Q, X => br T e ρ σ (λ v σ₁ => Q .next (ρ.set i (some v)) σ₁) X
 | .asgT is e, ρ, σ, Q, X => br T e ρ σ (λ v σ₁ => ∃ l, v = .tup l ∧ is.length = l.length ∧ Q .next (cV ρ is l) σ₁) X
 | .asgA f o e, ρ, σ, Q, X => br T e ρ σ (λ v σ₁ => br T o ρ σ₁ (λ vo σ₂ => ∃ n, vo = .loc n ∧ ∃ σ₃, setField σ₂ n f v = some σ₃ ∧ Q .next ρ σ₃) X) X
 | .exprS e, ρ, σ, Q, X => br T e ρ σ (λ _ σ₁ => Q .next ρ σ₁) X
 | .ifS t a b, ρ, σ, Q, X => br T t ρ σ (λ v σ₁ => ∃ r, v = .bool r ∧ if r = true then fE a ρ σ₁ Q X else fE b ρ σ₁ Q X) X
 | .while t b, ρ, σ, Q, X => ∃ n, GD (λ ρ σ K => br T t ρ σ (λ v σ₁ => ∃ r, v = .bool r ∧ K r σ₁) X) (λ ρ σ K => fE b ρ σ K X) n ρ σ Q
 | .forS tg it b, ρ, σ, Q, X => AK T it ρ σ (λ items same σ₁ => y0 tg same (λ ρ σ K => fE b ρ σ K X) items ρ σ₁ Q) X
 | .ret e, ρ, σ, Q, X => br T e ρ σ (λ v σ₁ => Q (.ret v) ρ σ₁) X
 | .raise w a, ρ, σ, _, X => br T w ρ σ (λ _ σ₁ => br T a ρ σ₁ (λ v σ₂ => ∃ l c, v = .inst .place [l, c] ∧ X v σ₂) X) X
 | .brk, ρ, σ, Q, _ => Q .brk ρ σ
 | .tryTold e, ρ, σ, Q, _ => br T e ρ σ (λ v σ₁ => Q (.ret v) ρ σ₁) (λ v σ₁ => ∃ l c, v = .inst .place [l, c] ∧ Q (.ret (.tup [l, c])) [] σ₁)
 | .ifHeard es op b x y, ρ, σ, Q, X => mQ T es ρ σ (λ vs σ₁ => T .l_heard vs σ₁ (λ v σ₂ => br T b ρ σ₂ (λ w σ₃ => ∃ r, dl op σ₃ v w = some r ∧ if r = true then fE x ρ σ₃ Q X else fE y ρ σ₃ Q X) (λ _ _ => False)) (λ _ _ => False)) X
 | .retHeard es op b, ρ, σ, Q, X => mQ T es ρ σ (λ vs σ₁ => T .l_heard vs σ₁ (λ v σ₂ => br T b ρ σ₂ (λ w σ₃ => ∃ r, dl op σ₃ v w = some r ∧ Q (.ret (.bool r)) ρ σ₃) (λ _ _ => False)) (λ _ _ => False)) X
noncomputable def fE : bq -> aj -> aa -> (aA -> aj -> aa -> Prop) -> (AV -> aa -> Prop) -> Prop
 | .nil, ρ, σ, Q, _ => Q .next ρ σ
 | .cons s ss, ρ, σ, Q, X => AL s ρ σ (λ fl ρ' σ' => match fl with
   | .next => fE ss ρ' σ' Q X
   | fl => Q fl ρ' σ') X
end
end
noncomputable def aJ (T : Fn -> ac) (m n : Nat) (ms : bq) : ac := λ args σ Q X => args.length = n ∧
 fE T ms (args.map some ++ List.replicate (m - n) none) σ (λ fl _ σ' => match fl with | .ret V => Q V σ' | .next => Q .none σ' | .brk => False) X
noncomputable def rT (C : Fn -> ac) (D : List Fn) : Fn -> ac := λ f => if f ∈ D then C f else λ _ _ _ _ => False
end
end Mine
end
section
open PySem PySem.W PyProof.Rows
namespace Mine
noncomputable abbrev up (s : Shared) (h : Heap) (t : Nat) : Shared := { s with heap := h, toks := t }
noncomputable abbrev aO := List (Addr × Addr)
noncomputable def bZ (F : List Addr) (φ : aO) (a : Addr) : Prop := a ∈ F ∨ ∃ p ∈ φ, a = p.1 ∨ a = p.2
noncomputable def aC : hJ -> Str
 | .line => Str.ofString "line" | .column => Str.ofString "column" | .kind => Str.ofString "kind" | .text => Str.ofString "text"
 | .worth => Str.ofString "worth" | .pat => Str.ofString "at" | .tokens => Str.ofString "tokens"
noncomputable def uc : dL -> Str
 | .place => Str.ofString "Place" | .token => Str.ofString "Token" | .reader => Str.ofString "LineReader" | .cursor => Str.ofString "Cursor"
structure Kx where
 frag : Frag
 prog : Program
 w : World
 scr : Option (Addr × List Value)
section
variable (K : Kx)
noncomputable def Eh (v : Value) : Option Addr := if h : v.ctorIdx = 10 then @PySem.Value.ref.elim (λ _ => Option Addr) v h some else none
noncomputable def oY (o : Option (Option Value)) : Option Addr := o.bind λ o => o.bind Eh
theorem zR {v : Value} {a : Addr} (e : Eh v = some a) : v = .ref a :=
 if c : v.ctorIdx = 10 then @PySem.Value.ref.elim (λ v => Eh v = some a -> v = .ref a) v c (λ b e => congrArg Value.ref (Option.some.inj e)) e else nomatch (dif_neg c).symm.trans e
theorem eY {o : Option (Option Value)} {a : Addr} (e : oY o = some a) : o = some (some (.ref a)) :=
 (Option.bind_eq_some_iff.mp e).elim λ p x => (Option.bind_eq_some_iff.mp x.2).elim λ v y => x.1.trans (congrArg some (y.1.trans (congrArg some (zR y.2))))
noncomputable def bS (c : dL) : Option Addr := oY (nsIn K.frag mainGlobals (uc c))
theorem C9 {K : Kx} {c : dL} {C : Addr} (h : bS K c = some C) : nsIn K.frag mainGlobals (uc c) = some (some (.ref C)) := eY h
noncomputable def cG : List hJ -> List DictEntry -> Prop
 | _, [] => True
 | [], _ :: _ => False
 | f :: fs, e :: es => (∃ t, e.key = .str (aC f) t) ∧ cG fs es
noncomputable def li : List (PyData × PyData) := bR.map λ p => (.str ⟨#[p.1]⟩, .int p.2)
section
variable (h : Heap) (F : List Addr) (φ : aO)
inductive EY (l : List AV) (R : List Value -> Prop) (v : Value) : Prop
 | mk (vs : Array Value) (a : Addr) (e : v = .ref a) (z : l.length ≤ sizeLine) (ht : h.IsTuple a vs) (n : ¬ bZ F φ a) (r : R vs.toList)
inductive Cg (c : dL) (R : List Value -> Prop) (v : Value) : Prop
 | mk (C x d : Addr) (es : List DictEntry) (n : Nat) (e : v = .ref x) (hc : bS K c = some C) (hx : h.get? x = some (instObj C d)) (hd : h.get? d = some (dictOf es n)) (nx : ¬ bZ F φ x) (nd : ¬ bZ F φ d)
  (ks : cG (sE c) es) (r : R (es.map (·.val)))
inductive EX (v : Value) : Prop
 | mk (d : Addr) (o : Obj) (kvs : List (Str × Value)) (e : v = .ref d) (n : ¬ bZ F φ d) (hs : (d == sysModules) = false) (ho : h.get? d = some o) (hd : o.IsDictOf (strKind K.prog K.w) kvs) (r : PyProof.V.FlatPairs PyData.str kvs li)
inductive CR (l : List Int) (v : Value) : Prop
 | mk (a : Addr) (vs : List Value) (e : v = .ref a) (hs : K.scr = some (a, vs)) (hi : IntsAre vs l) (z : l.length ≤ sizeLine)
inductive Cf (P : Value -> Prop) (R : List Value -> Prop) (vs : List Value) : Prop
 | mk (v : Value) (ws : List Value) (e : vs = v :: ws) (a : P v) (r : R ws)
noncomputable def aM (a : AV) : Value -> Prop :=
 AV.rec (motive_1 := λ _ => Value -> Prop) (motive_2 := λ _ => List Value -> Prop) (λ v => v = .none) (λ b v => v = .bool b) (λ i v => ∃ t, v = .int i t) (λ l v => ∃ t, v = .str ⟨l.toArray⟩ t ∧ l.length ≤ sizeLine)
  (EY h F φ) (λ n v => ∃ x d, v = .ref x ∧ φ[n]? = some (x, d)) (λ c _ => Cg K h F φ c) (EX K h F φ) (CR K) (λ vs => vs = []) (λ _ _ => Cf) a
noncomputable def ao (l : List AV) : List Value -> Prop :=
 AV.rec_1 (motive_1 := λ _ => Value -> Prop) (motive_2 := λ _ => List Value -> Prop) (λ v => v = .none) (λ b v => v = .bool b) (λ i v => ∃ t, v = .int i t) (λ l v => ∃ t, v = .str ⟨l.toArray⟩ t ∧ l.length ≤ sizeLine)
  (EY h F φ) (λ n v => ∃ x d, v = .ref x ∧ φ[n]? = some (x, d)) (λ c _ => Cg K h F φ c) (EX K h F φ) (CR K) (λ vs => vs = []) (λ _ _ => Cf) l
end
section
variable {K} {h : Heap} {F : List Addr} {φ : aO}
theorem aM.none : aM K h F φ .none .none := rfl
theorem aM.bool (b : Bool) : aM K h F φ (.bool b) (.bool b) := rfl
theorem aM.int (i : Int) (t : Tok) : aM K h F φ (.int i) (.int i t) := ⟨t, rfl⟩
theorem aM.str (l : List Nat) (t : Tok) (z : l.length ≤ sizeLine) : aM K h F φ (.str l) (.str ⟨l.toArray⟩ t) := ⟨t, rfl, z⟩
theorem aM.tup {l : List AV} {vs : Array Value} {a : Addr} (z : l.length ≤ sizeLine) (ht : h.IsTuple a vs) (n : ¬ bZ F φ a) (r : ao K h F φ l vs.toList) : aM K h F φ (.tup l) (.ref a) := .mk vs a rfl z ht n r
theorem aM.loc {n : Nat} {x d : Addr} (e : φ[n]? = some (x, d)) : aM K h F φ (.loc n) (.ref x) := ⟨x, d, rfl, e⟩
theorem aM.inst {c : dL} {vs : List AV} {C x d : Addr} {es : List DictEntry} {n : Nat} (hc : bS K c = some C) (hx : h.get? x = some (instObj C d)) (hd : h.get? d = some (dictOf es n)) (nx : ¬ bZ F φ x) (nd : ¬ bZ F φ d)
  (ks : cG (sE c) es) (r : ao K h F φ vs (es.map (·.val))) : aM K h F φ (.inst c vs) (.ref x) := .mk C x d es n rfl hc hx hd nx nd ks r
theorem aM.esc {d : Addr} {o : Obj} {kvs : List (Str × Value)} (n : ¬ bZ F φ d) (hs : (d == sysModules) = false) (ho : h.get? d = some o) (hd : o.IsDictOf (strKind K.prog K.w) kvs) (r : PyProof.V.FlatPairs PyData.str kvs li) :
  aM K h F φ .esc (.ref d) := .mk d o kvs rfl n hs ho hd r
theorem ao.nil : ao K h F φ [] [] := rfl
theorem ao.cons {a : AV} {l : List AV} {v : Value} {vs : List Value} (r : aM K h F φ a v) (rs : ao K h F φ l vs) : ao K h F φ (a :: l) (v :: vs) := .mk v vs rfl r rs
noncomputable def Gd (P : Nat -> Prop) (a : AV) : Prop := AV.rec (motive_1 := λ _ => Prop) (motive_2 := λ _ => Prop) True (λ _ => True) (λ _ => True) (λ _ => True) (λ _ p => p) P (λ _ _ p => p) True (λ _ => True) True (λ _ _ p q => p ∧ q) a
noncomputable def tU (P : Nat -> Prop) (l : List AV) : Prop := AV.rec_1 (motive_1 := λ _ => Prop) (motive_2 := λ _ => Prop) True (λ _ => True) (λ _ => True) (λ _ => True) (λ _ p => p) P (λ _ _ p => p) True (λ _ => True) True (λ _ _ p q => p ∧ q) l
noncomputable abbrev jR (φ : aO) (n : Nat) : Prop := n < φ.length
theorem aM.low (a : AV) : ∀ v, aM K h F φ a v -> Gd (jR φ) a :=
 AV.rec (motive_1 := λ a => ∀ v, aM K h F φ a v -> Gd (jR φ) a) (motive_2 := λ l => ∀ vs, ao K h F φ l vs -> tU (jR φ) l) (λ _ _ => trivial) (λ _ _ _ => trivial) (λ _ _ _ => trivial) (λ _ _ _ => trivial)
  (λ _ ih _ r => by cases r with | mk vs a e z ht n r => exact ih _ r) (λ _ _ r => r.elim λ _ r => r.elim λ _ r => (List.getElem?_eq_some_iff.mp r.2).1)
  (λ _ _ ih _ r => by cases r with | mk C x d es n e hc hx hd nx nd ks r => exact ih _ r) (λ _ _ => trivial) (λ _ _ _ => trivial) (λ _ _ => trivial) (λ _ _ ia il _ r => by cases r with | mk v ws e a r => exact ⟨ia _ a, il _ r⟩) a
theorem ao.low (l : List AV) : ∀ vs, ao K h F φ l vs -> tU (jR φ) l :=
 List.rec (λ _ _ => trivial) (λ _ _ ih _ r => by cases r with | mk v ws e a r => exact ⟨aM.low _ _ a, ih _ r⟩) l
noncomputable def NR (o : Obj) : Prop := ∀ vs, o.data ≠ .fields vs
theorem NR.seq {o : Obj} {vs : Array Value} {n : Nat} (h : o.data = .seq vs n) : NR o := λ _ q => by rw [h] at q; cases q
theorem NR.dict {o : Obj} {vs : Array DictEntry} {n : Nat} (h : o.data = .dict vs n) : NR o := λ _ q => by rw [h] at q; cases q
theorem NR.inst (C d : Addr) : NR (instObj C d) := λ _ q => by cases q
noncomputable abbrev rQ (h : Heap) (F : List Addr) (φ : aO) (h' : Heap) (F' : List Addr) (φ' : aO) : Prop := ∀ a o, h.get? a = some o -> NR o -> ¬ bZ F φ a -> h'.get? a = some o ∧ ¬ bZ F' φ' a
noncomputable abbrev mP (h : Heap) (F : List Addr) (φ : aO) (h' : Heap) (F' : List Addr) (φ' : aO) : Prop := ∀ a o, h.get? a = some o -> NR o -> o.cls ≠ .type "list" -> ¬ bZ F φ a -> h'.get? a = some o ∧ ¬ bZ F' φ' a
theorem rK {a b : String} (h : a ≠ b) : Value.type a ≠ Value.type b := λ e => h (Value.type.inj e)
theorem Ez : ("tuple" : String) ≠ "list" := by decide
theorem vK : ("dict" : String) ≠ "list" := by decide
variable {h' : Heap} {F' : List Addr} {φ' : aO} {P : Nat -> Prop} (hk : mP h F φ h' F' φ') (hφ : ∀ (n : Nat) p, P n -> φ[n]? = some p -> φ'[n]? = some p)
include hk hφ
theorem aM.map (a : AV) : ∀ v, Gd P a -> aM K h F φ a v -> aM K h' F' φ' a v :=
 AV.rec (motive_1 := λ a => ∀ v, Gd P a -> aM K h F φ a v -> aM K h' F' φ' a v) (motive_2 := λ l => ∀ vs, tU P l -> ao K h F φ l vs -> ao K h' F' φ' l vs) (λ _ _ r => r) (λ _ _ _ r => r) (λ _ _ _ r => r) (λ _ _ _ r => r)
  (λ _ ih _ lw r => by
   cases r with | mk vs a e z ht n r =>
   obtain ⟨o, ho, hc, m, hd⟩ := ht
   have q := hk _ _ ho (.seq hd) (hc ▸ rK Ez) n
   exact .mk vs a e z ⟨o, q.1, hc, m, hd⟩ q.2 (ih _ lw r))
  (λ _ _ lw r => r.elim λ x r => r.elim λ d r => ⟨x, d, r.1, hφ _ _ lw r.2⟩)
  (λ c _ ih _ lw r => by
   cases r with | mk C x d es n e hc hx hd nx nd ks r =>
   have p := hk _ _ hx (.inst C d) (λ q => nomatch q) nx
   have q := hk _ _ hd (.dict rfl) (rK vK) nd
   exact .mk C x d es n e hc p.1 q.1 p.2 q.2 ks (ih _ lw r))
  (λ _ _ r => by
   cases r with | mk d o kvs e n hs ho hd r =>
   have q := hk _ _ ho (let ⟨_, _, _, e, _⟩ := hd; .dict e) (let ⟨_, _, x, _⟩ := hd; x.1 ▸ rK vK) n
   exact .mk d o kvs e q.2 hs q.1 hd r)
  (λ _ _ _ r => r) (λ _ _ r => r) (λ _ _ ia il _ lw r => by cases r with | mk v ws e a r => exact .mk v ws e (ia _ lw.1 a) (il _ lw.2 r)) a
theorem ao.map (l : List AV) : ∀ vs, tU P l -> ao K h F φ l vs -> ao K h' F' φ' l vs :=
 List.rec (λ _ _ r => r) (λ _ _ ih _ lw r => by cases r with | mk v ws e a r => exact .mk v ws e (aM.map hk hφ _ _ lw.1 a) (ih _ lw.2 r)) l
end
theorem uK {φ φ' : aO} (hφ : ∀ (n : Nat) p, φ[n]? = some p -> φ'[n]? = some p) : ∀ (n : Nat) p, jR φ n -> φ[n]? = some p -> φ'[n]? = some p := λ n p _ => hφ n p
section
variable {K} {h h' : Heap} {F F' : List Addr} {φ φ' : aO}
theorem aM.monoL (hk : mP h F φ h' F' φ') (hφ : ∀ (n : Nat) p, φ[n]? = some p -> φ'[n]? = some p) {a : AV} {v : Value} (r : aM K h F φ a v) : aM K h' F' φ' a v := aM.map hk (uK hφ) a v (aM.low a v r) r
theorem ao.monoL (hk : mP h F φ h' F' φ') (hφ : ∀ (n : Nat) p, φ[n]? = some p -> φ'[n]? = some p) {a : List AV} {v : List Value} (r : ao K h F φ a v) : ao K h' F' φ' a v := ao.map hk (uK hφ) a v (ao.low a v r) r
end
section
variable {h h' : Heap} {F F' : List Addr} {φ φ' : aO}
theorem aM.mono (hk : rQ h F φ h' F' φ') (hφ : ∀ (n : Nat) p, φ[n]? = some p -> φ'[n]? = some p) {a : AV} {v : Value} (r : aM K h F φ a v) : aM K h' F' φ' a v := aM.monoL (λ a o e n _ => hk a o e n) hφ r
theorem ao.mono (hk : rQ h F φ h' F' φ') (hφ : ∀ (n : Nat) p, φ[n]? = some p -> φ'[n]? = some p) {a : List AV} {v : List Value} (r : ao K h F φ a v) : ao K h' F' φ' a v := ao.monoL (λ a o e n _ => hk a o e n) hφ r
end
end
theorem iM {F F' : List Addr} {φ φ' : aO} {a : Addr} (h : bZ F φ a) (hF : ∀ a ∈ F, a ∈ F') (hφ : ∀ p ∈ φ, p ∈ φ') : bZ F' φ' a :=
 h.elim (λ q => .inl (hF _ q)) λ ⟨p, hp, e⟩ => .inr ⟨p, hφ _ hp, e⟩
section
variable (K : Kx) (g : Heap)
section
variable (h : Heap) (F : List Addr) (φ : aO)
inductive EO (l : List AV) (p : Addr × Addr) : Prop
 | mk (q : p.2 = p.1 ∧ l.length ≤ sizeLine) (vs : Array Value) (hl : h.PlainList p.1 vs) (r : ao K h F φ l vs.toList)
inductive EN (c : dL) (vs : List AV) (p : Addr × Addr) : Prop
 | mk (ne : p.1 ≠ p.2) (C : Addr) (es : List DictEntry) (n : Nat) (hc : bS K c = some C) (hx : h.get? p.1 = some (instObj C p.2)) (hd : h.get? p.2 = some (dictOf es n)) (ks : cG (sE c) es) (r : ao K h F φ vs (es.map (·.val)))
noncomputable def b0 (c : aG) : Addr × Addr -> Prop := aG.rec (EO K h F φ) (EN K h F φ) c
end
noncomputable def AF (P : Nat -> Prop) (c : aG) : Prop := aG.rec (tU P) (λ _ => tU P) c
theorem b0.low {h : Heap} {F : List Addr} {φ : aO} {c : aG} {p : Addr × Addr} (x : b0 K h F φ c p) : AF (jR φ) c := by
 cases c with
 | list l => cases x with | mk q vs hl r => exact ao.low _ _ r
 | inst c vs => cases x with | mk ne C es n hc hx hd ks r => exact ao.low _ _ r
theorem b0.map {h h' : Heap} {F F' : List Addr} {φ φ' : aO} {P : Nat -> Prop} (hk : mP h F φ h' F' φ') (hφ : ∀ (n : Nat) p, P n -> φ[n]? = some p -> φ'[n]? = some p) {c : aG} {p : Addr × Addr}
  (hc : ∀ a o, a = p.1 ∨ a = p.2 -> h.get? a = some o -> NR o -> h'.get? a = some o) (lw : AF P c) (x : b0 K h F φ c p) : b0 K h' F' φ' c p := by
 cases c with
 | list l => cases x with | mk q vs hl r => exact .mk q vs (hl.elim λ n e => ⟨n, hc _ _ (.inl rfl) e (.seq rfl)⟩) (ao.map hk hφ _ _ lw r)
 | inst c vs => cases x with | mk ne C es n h1 hx hd ks r => exact .mk ne C es n h1 (hc _ _ (.inl rfl) hx (.inst C _)) (hc _ _ (.inr rfl) hd (.dict rfl)) ks (ao.map hk hφ _ _ lw r)
theorem b0.mono {h h' : Heap} {F F' : List Addr} {φ φ' : aO} (hk : rQ h F φ h' F' φ') (hφ : ∀ (n : Nat) p, φ[n]? = some p -> φ'[n]? = some p) {c : aG} {p : Addr × Addr}
  (hc : ∀ a o, a = p.1 ∨ a = p.2 -> h.get? a = some o -> NR o -> h'.get? a = some o) (x : b0 K h F φ c p) : b0 K h' F' φ' c p :=
 b0.map K (λ a o e n _ => hk a o e n) (uK hφ) hc (b0.low K x) x
structure St (F : List Addr) (φ : aO) (σ : aa) (h : Heap) : Prop where
 keep : g.StaysIn h
 off : ∀ a, bZ F φ a -> g.get? a = none
 dis : ∀ (i j : Nat) p q, φ[i]? = some p -> φ[j]? = some q -> i ≠ j -> p.1 ≠ q.1 ∧ p.1 ≠ q.2 ∧ p.2 ≠ q.1 ∧ p.2 ≠ q.2
 offF : ∀ p ∈ φ, p.1 ∉ F ∧ p.2 ∉ F
 len : φ.length = σ.length
 cell : ∀ (n : Nat) c p, σ[n]? = some c -> φ[n]? = some p -> b0 K h F φ c p
 bound : ∀ a, bZ F φ a -> h.get? a ≠ none
 fr : ∀ a ∈ F, ∃ o, h.get? a = some o ∧ NR o
inductive eG (φ φ' : aO) (h : Heap) : Prop
 | mk (ψ : aO) (e : φ' = φ ++ ψ) (n : ∀ p ∈ ψ, h.get? p.1 = none ∧ h.get? p.2 = none)
theorem eG.refl (φ : aO) (h : Heap) : eG φ φ h := ⟨[], (List.append_nil φ).symm, λ _ q => nomatch q⟩
theorem eG.one {φ : aO} {h : Heap} {p : Addr × Addr} (h1 : h.get? p.1 = none) (h2 : h.get? p.2 = none) : eG φ (φ ++ [p]) h := ⟨[p], rfl, λ _ q => List.mem_singleton.mp q ▸ ⟨h1, h2⟩⟩
theorem eG.not_own {F : List Addr} {φ φ' : aO} {h : Heap} (x : eG φ φ' h) {a : Addr} {o : Obj} (e : h.get? a = some o) (n : ¬ bZ F φ a) : ¬ bZ F φ' a := λ q => by
 cases x with | mk ψ e' hψ =>
 have no : h.get? a ≠ none := e ▸ λ z => nomatch z
 exact q.elim (λ q => n (.inl q)) λ q => q.elim λ p q => (List.mem_append.mp (e' ▸ q.1)).elim (λ hp => n (.inr ⟨p, hp, q.2⟩)) λ hp => no (q.2.elim (λ z => z ▸ (hψ p hp).1) λ z => z ▸ (hψ p hp).2)
theorem eG.trans {φ φ' φ'' : aO} {h h' : Heap} (x : eG φ φ' h) (all : ∀ a, h'.get? a = none -> h.get? a = none) (y : eG φ' φ'' h') : eG φ φ'' h := by
 cases x with | mk ψ e hψ =>
 cases y with | mk χ e' hχ =>
 exact ⟨ψ ++ χ, by rw [e', e, List.append_assoc], λ p hp => (List.mem_append.mp hp).elim (hψ p) λ hp => ⟨all _ (hχ p hp).1, all _ (hχ p hp).2⟩⟩
theorem eG.nth {φ φ' : aO} {h : Heap} (x : eG φ φ' h) (n : Nat) (p : Addr × Addr) (e : φ[n]? = some p) : φ'[n]? = some p := by
 cases x with | mk ψ e' hψ => exact (congrArg (·[n]?) e').trans ((List.getElem?_append_left (List.getElem?_eq_some_iff.mp e).1).trans e)
structure an (F : List Addr) (φ φ' : aO) (h h' : Heap) : Prop where
 grow : eG φ φ' h
 chg : ∀ a o, h.get? a = some o -> ¬ bZ F φ a -> h'.get? a = some o
 all : ∀ a, h'.get? a = none -> h.get? a = none
theorem an.refl (F : List Addr) (φ : aO) (h : Heap) : an F φ φ h h := ⟨.refl φ h, λ _ _ e _ => e, λ _ e => e⟩
theorem an.not_own {F G : List Addr} {φ φ' : aO} {h h' : Heap} (x : an F φ φ' h h') {a : Addr} {o : Obj} (e : h.get? a = some o) (n : ¬ bZ G φ a) : ¬ bZ G φ' a := x.grow.not_own e n
theorem an.trans {F : List Addr} {φ φ' φ'' : aO} {h h' h'' : Heap} (x : an F φ φ' h h') (y : an F φ' φ'' h' h'') : an F φ φ'' h h'' :=
 ⟨x.grow.trans x.all y.grow, λ a o e n => y.chg a o (x.chg a o e n) (x.grow.not_own e n), λ a e => x.all a (y.all a e)⟩
theorem an.nth {F : List Addr} {φ φ' : aO} {h h' : Heap} (x : an F φ φ' h h') : ∀ (n : Nat) p, φ[n]? = some p -> φ'[n]? = some p := x.grow.nth
theorem dF {F F' : List Addr} {φ : aO} {a : Addr} (hF : ∀ a ∈ F, a ∈ F') (h : bZ F φ a) : bZ F' φ a := iM h hF λ _ h => h
theorem an.mono {F F' : List Addr} {φ φ' : aO} {h h' : Heap} (x : an F φ φ' h h') (hF : ∀ a ∈ F, a ∈ F') : an F' φ φ' h h' :=
 ⟨x.grow, λ a o e n => x.chg a o e λ q => n (dF hF q), x.all⟩
theorem an.keep {F F₀ : List Addr} {φ φ' : aO} {h h' : Heap} (x : an F₀ φ φ' h h') (hF : ∀ a ∈ F₀, a ∈ F) : rQ h F φ h' F φ' := λ a o e _ n => ⟨x.chg a o e λ q => n (dF hF q), x.not_own e n⟩
theorem an.rep {F F₀ : List Addr} {φ φ' : aO} {h h' : Heap} (x : an F₀ φ φ' h h') (hF : ∀ a ∈ F₀, a ∈ F) {a : AV} {v : Value} (r : aM K h F φ a v) : aM K h' F φ' a v :=
 aM.mono K (x.keep hF) x.nth r
theorem an.repL {F F₀ : List Addr} {φ φ' : aO} {h h' : Heap} (x : an F₀ φ φ' h h') (hF : ∀ a ∈ F₀, a ∈ F) {a : List AV} {v : List Value} (r : ao K h F φ a v) : ao K h' F φ' a v :=
 ao.mono K (x.keep hF) x.nth r
theorem av {h : Heap} {a : Addr} {o : Obj} (e : h.get? a = some o) : h.get? a ≠ none := e ▸ λ z => nomatch z
theorem tv {F : List Addr} {φ : aO} {σ : aa} {h : Heap} (st : St K g F φ σ h) {a : Addr} (q : bZ F φ a) : ∃ o, h.get? a = some o ∧ NR o := by
 cases q with
 | inl q => exact st.fr a q
 | inr q =>
  obtain ⟨p, hp, q⟩ := q
  obtain ⟨n, hn⟩ := List.mem_iff_getElem?.mp hp
  have hlt := (List.getElem?_eq_some_iff.mp hn).1
  have z := st.cell n _ p (List.getElem?_eq_getElem (st.len ▸ hlt)) hn
  generalize σ[n]'(st.len ▸ hlt) = c at z
  cases c with
  | list l => cases z with | mk y vs hl r => exact hl.elim λ n e => ⟨_, q.elim (λ q => q ▸ e) (λ q => q ▸ y.1 ▸ e), .seq rfl⟩
  | inst c vs => cases z with | mk ne C es n h1 hx hd ks r => exact q.elim (λ q => ⟨_, q ▸ hx, .inst C _⟩) λ q => ⟨_, q ▸ hd, .dict rfl⟩
noncomputable abbrev EU (g : Heap) (F : List Addr) (φ : aO) (h : Heap) : Prop := ∀ a ∈ F, g.get? a = none ∧ (∃ o, h.get? a = some o ∧ NR o) ∧ ¬ bZ [] φ a
theorem St.frOK {F : List Addr} {φ : aO} {σ : aa} {h h' : Heap} (st : St K g F φ σ h) (hf : ∀ a ∈ F, ∀ o, h.get? a = some o -> NR o -> h'.get? a = some o) : EU g F φ h' := λ a ha =>
 ⟨st.off a (.inl ha), (st.fr a ha).elim λ o x => ⟨o, hf a ha o x.1 x.2, x.2⟩, λ q => q.elim (λ q => nomatch q) λ q => q.elim λ p q => q.2.elim (λ z => (st.offF p q.1).1 (z ▸ ha)) λ z => (st.offF p q.1).2 (z ▸ ha)⟩
theorem St.map {F F' : List Addr} {φ : aO} {σ : aa} {h h' : Heap} (st : St K g F φ σ h) (hg : g.StaysIn h') (hk : mP h F φ h' F' φ) (hc : ∀ a o, bZ [] φ a -> h.get? a = some o -> NR o -> h'.get? a = some o) (hF : EU g F' φ h') : St K g F' φ σ h' where
 keep := hg
 off := λ a q => q.elim (λ q => (hF a q).1) λ q => st.off a (.inr q)
 dis := st.dis
 offF := λ p hp => ⟨λ q => (hF _ q).2.2 (.inr ⟨p, hp, .inl rfl⟩), λ q => (hF _ q).2.2 (.inr ⟨p, hp, .inr rfl⟩)⟩
 len := st.len
 cell := λ n c p e1 e2 => b0.map K hk (λ _ _ _ e => e) (λ a o q => hc a o (.inr ⟨p, List.mem_of_getElem? e2, q⟩)) (b0.low K (st.cell n c p e1 e2)) (st.cell n c p e1 e2)
 bound := λ a q => q.elim (λ q => (hF a q).2.1.elim λ _ e => av e.1) λ q => (tv K g st (.inr q)).elim λ o e => av (hc a o (.inr q) e.1 e.2)
 fr := λ a ha => (hF a ha).2.1
theorem St.keeps {F : List Addr} {φ : aO} {σ : aa} {h h' : Heap} (s : St K g F φ σ h) (hk : ∀ b o, h.get? b = some o -> h'.get? b = some o) : St K g F φ σ h' :=
 St.map K g s (λ b o e => hk b o (s.keep b o e)) (λ a o e _ _ n => ⟨hk a o e, n⟩) (λ a o _ e _ => hk a o e) (St.frOK K g s λ a _ o e _ => hk a o e)
end
section
variable (K : Kx) (g : Heap) (mg mb : Str -> Option Value)
structure dw : Prop where
 kin : K.frag.In g
 gns : g.Ns mainGlobals mg
 bns : g.Ns builtinsNs mb
 lim : g.NoLimit
 blt : ∀ x : Str, x ≠ "__name__" -> mb x = bootBuiltins x
 scr : ∀ a vs, K.scr = some (a, vs) -> g.IsList a vs.toArray
structure i7 (A : Around) (outer : List Env) (F : List Addr) : Prop where
 hand : A.handled = none
 frames : A.frames = some outer
 outs : ∀ env ∈ outer, env.scope.kind ≠ .module ∧ ∃ L ∈ F, env.frame = some L
 nil : outer = [] -> F = []
noncomputable def cR (k : Nat) (A : Around) : Prop := A.depth + k < recursionLimit ∧ A.units + 4 * k + 100 < cLine
noncomputable def dB : Option Addr := oY (nsIn K.frag mainGlobals "ReadError")
inductive EZ (h : Heap) (e : Addr) (vs : Array Value) : Prop
 | mk (T : Addr) (oT : Obj) (ts : Array Value) (h1 : vs[1]? = some (.ref T)) (h2 : g.get? T = none) (h3 : T ≠ e) (h4 : h.get? T = some oT) (h5 : oT.data = .fields ts) (h6 : ts[3]? = some .none)
noncomputable def rS (h : Heap) (e : Addr) (vs : Array Value) : Prop := vs[1]? = some .none ∨ EZ g h e vs
inductive EE (F : List Addr) (φ : aO) (V : AV) (e : Addr) (h : Heap) : Prop
 | mk (C d : Addr) (es : List DictEntry) (n : Nat) (v : Value) (vs : Array Value) (sl : Array (Option Value)) (hC : dB K = some C) (he : h.get? e = some ⟨.ref C, some d, .fields vs, sl⟩) (ge : g.get? e = none) (hd : h.get? d = some (dictOf es n))
  (nd : ¬ bZ F φ d) (hat : getL "at" es = some (some v)) (hto : getL "told" es = some none) (r : aM K h F φ V v) (z : 1 < vs.size) (tb : rS g h e vs)
theorem rS.mono {g g' h : Heap} {e : Addr} {vs : Array Value} (k : ∀ a, g'.get? a = none -> g.get? a = none) (x : rS g' h e vs) : rS g h e vs :=
 x.imp id λ x => by cases x with | mk T oT ts a b c d e f => exact .mk T oT ts a (k _ b) c d e f
theorem EE.mono {g g' : Heap} {F : List Addr} {φ : aO} {V : AV} {e : Addr} {h : Heap} (k : ∀ a, g'.get? a = none -> g.get? a = none) (x : EE K g' F φ V e h) : EE K g F φ V e h := by
 cases x with | mk C d es n v vs sl a1 a2 a3 a4 a5 a6 a7 a8 a9 a10 => exact .mk C d es n v vs sl a1 a2 (k _ a3) a4 a5 a6 a7 a8 a9 (rS.mono k a10)
structure eC (F₀ F : List Addr) (φ φ' : aO) (h h' : Heap) : Prop where
 grow : eG φ φ' h
 nr : ∀ a o, h.get? a = some o -> ¬ bZ F φ a -> h'.get? a = some o
 frs : ∀ a ∈ F, a ∉ F₀ -> ∀ o, h.get? a = some o -> ∃ sl, h'.get? a = some { o with slots := sl }
 all : ∀ a, h'.get? a = none -> h.get? a = none
theorem eC.mono {F₀ F₁ F : List Addr} {φ φ' : aO} {h h' : Heap} (x : eC F₀ F φ φ' h h') (hF : ∀ a ∈ F₀, a ∈ F₁) : eC F₁ F φ φ' h h' :=
 ⟨x.grow, x.nr, λ a ha hn => x.frs a ha λ q => hn (hF a q), x.all⟩
theorem St.notCell {F : List Addr} {φ : aO} {h : Heap} {σ : aa} (s : St K g F φ σ h) {a : Addr} (ha : a ∈ F) : ¬ bZ [] φ a := (St.frOK K g s (λ _ _ _ e _ => e) a ha).2.2
theorem an.inF {F₀ F : List Addr} {φ φ' : aO} {h h' : Heap} {σ : aa} (s : St K g F φ σ h) (x : an F₀ φ φ' h h') {a : Addr} (ha : a ∈ F) (hn : a ∉ F₀) {o : Obj} (e : h.get? a = some o) : h'.get? a = some o :=
 x.chg a o e λ q => q.elim hn λ q => St.notCell K g s ha (.inr q)
theorem an.xstep {F₀ F : List Addr} {φ φ' : aO} {h h' : Heap} {σ : aa} (s : St K g F φ σ h) (x : an F₀ φ φ' h h') (hF : ∀ a ∈ F₀, a ∈ F) : eC F₀ F φ φ' h h' :=
 ⟨x.grow, λ a o e n => x.chg a o e λ q => n (dF hF q), λ _ ha hn o e => ⟨o.slots, an.inF K g s x ha hn e⟩, x.all⟩
theorem an.xtrans {F₀ F : List Addr} {φ φ' φ'' : aO} {h h' h'' : Heap} {σ : aa} (s : St K g F φ σ h) (x : an F₀ φ φ' h h') (y : eC F₀ F φ' φ'' h' h'') (hF : ∀ a ∈ F₀, a ∈ F) :
  eC F₀ F φ φ'' h h'' :=
 ⟨x.grow.trans x.all y.grow, λ a o e n => y.nr a o (x.chg a o e λ q => n (dF hF q)) (x.grow.not_own e n), λ a ha hn o e => y.frs a ha hn o (an.inF K g s x ha hn e), λ a e => x.all a (y.all a e)⟩
noncomputable def PQ (F₀ F : List Addr) (φ : aO) (s : Shared) (Q : AV -> aa -> Prop) (Q' : Value -> Shared -> Prop) : Prop :=
 ∀ V σ' φ' h' t' v, Q V σ' -> St K g F φ' σ' h' -> an F₀ φ φ' s.heap h' -> aM K h' F φ' V v -> Q' v (up s h' t')
noncomputable def PX (F₀ F : List Addr) (φ : aO) (s : Shared) (X : AV -> aa -> Prop) (E' : Value -> Shared -> Prop) : Prop :=
 ∀ V σ' φ' h' t' e, X V σ' -> St K g F φ' σ' h' -> EE K s.heap F φ' V e h' -> eC F₀ F φ φ' s.heap h' -> E' (.ref e) (up s h' t')
theorem PX.step {F₀ F : List Addr} {φ φ' : aO} {s : Shared} {X : AV -> aa -> Prop} {E' : Value -> Shared -> Prop} {σ : aa} {h' : Heap} {t' : Nat} (x : PX K g F₀ F φ s X E') (st : St K g F φ σ s.heap)
  (sp : an F₀ φ φ' s.heap h') (hF : ∀ a ∈ F₀, a ∈ F) : PX K g F₀ F φ' (up s h' t') X E' :=
 λ V σ' φ'' h'' t'' e hX hS hI hx => x V σ' φ'' h'' t'' e hX hS (EE.mono K sp.all hI) (an.xtrans K g st sp hx hF)
theorem PX.none {F₀ F : List Addr} {φ : aO} {s : Shared} {E' : Value -> Shared -> Prop} : PX K g F₀ F φ s (λ _ _ => False) E' := λ _ _ _ _ _ _ h => h.elim
noncomputable def Gg (Q' E' : Value -> Shared -> Prop) : Result -> Shared -> Prop := λ r s' => match r with
 | .ok (.ret v) => Q' v s'
 | .ok _ => False
 | .error e => E' e s'
noncomputable def ja (k : Nat) (a : Addr) (C : ac) : Prop :=
 ∀ (A : Around) (outer : List Env) (F : List Addr) (φ : aO) (σ : aa) (s : Shared) (args : List AV) (vs : List Value) (Q X : AV -> aa -> Prop) (Q' E' : Value -> Shared -> Prop),
  cR k A -> i7 A outer F -> St K g F φ σ s.heap -> ao K s.heap F φ args vs -> C args σ Q X -> PQ K g [] F φ s Q Q' -> PX K g [] F φ s X E' ->
  codeAny (model K.prog K.w) A (.call (.ref a) ⟨vs, []⟩) (Gg Q' E') s
theorem cR.mono {j k : Nat} {A : Around} (h : cR k A) (hj : j ≤ k) : cR j A := ⟨by have := h.1; exact (lnr [_,_,_,_] [] 0x2109123091931094) hj this, by have := h.2; exact (lnr [_,_,_,_] [] 0x21CC6147099121CC63470991931094) hj this⟩
theorem ja.mono {j k : Nat} {a : Addr} {C : ac} (h : ja K g j a C) (hj : j ≤ k) : ja K g k a C :=
 λ A outer F φ σ s args vs Q X Q' E' hR hA => h A outer F φ σ s args vs Q X Q' E' (hR.mono hj) hA
noncomputable def pA (L C : Value -> Prop) (o : Option NameKind) : Prop := Option.rec True (λ k => NameKind.rec (∃ v, L v) (∃ v, C v) (∃ v, C v) True True k) o
theorem pA.map {L C L' C' : Value -> Prop} (hl : ∀ v, L v -> L' v) (hc : ∀ v, C v -> C' v) {o : Option NameKind} (x : pA L C o) : pA L' C' o := by
 cases o with
 | none => trivial
 | some k => exact NameKind.rec (motive := λ k => pA L C (some k) -> pA L' C' (some k)) (λ x => x.imp hl) (λ x => x.imp hc) (λ x => x.imp hc) id id k x
noncomputable def ym (env : Env) (h : Heap) (x : Str) (v : Value) : Prop := ∃ c, env.cells.lookup x = some c ∧ h.IsCell c (some v)
inductive dc (env : Env) (Γ : List Str) (ρ : aj) (F : List Addr) (φ : aO) (h : Heap) : Prop
 | mk (m : Str -> Option Value) (hn : h.Ns env.locals m) (hc : ∀ x c, env.cells.lookup x = some c -> ∃ v₀, h.IsCell c v₀)
  (hv : ∀ (i : Nat) x V, Γ[i]? = some x -> ρ[i]? = some (some V) -> pA (λ v => m x = some v ∧ aM K h F φ V v) (λ v => ym env h x v ∧ aM K h F φ V v) (env.scope.names.lookup x))
structure aX (env : Env) (F : List Addr) : Prop where
 kind : env.scope.kind = .function
 glob : env.globals = mainGlobals
 blt : env.builtins = builtinsNs
 loc : env.locals ∈ F
 cells : ∀ x c, env.cells.lookup x = some c -> c ∈ F
 has : ∀ x, env.scope.names.lookup x = some .cell -> ∃ c, env.cells.lookup x = some c
 inj : ∀ x y c, env.cells.lookup x = some c -> env.cells.lookup y = some c -> x = y
 ne : ∀ x c, env.cells.lookup x = some c -> c ≠ env.locals
theorem dc.map {env : Env} {Γ : List Str} {ρ : aj} {F F' : List Addr} {φ φ' : aO} {h h' : Heap} (x : dc K env Γ ρ F φ h) (kn : ∀ m, h.Ns env.locals m -> h'.Ns env.locals m)
  (kc : ∀ x c v, env.cells.lookup x = some c -> h.IsCell c v -> h'.IsCell c v) (up : ∀ V v, aM K h F φ V v -> aM K h' F' φ' V v) : dc K env Γ ρ F' φ' h' := by
 cases x with | mk m hn hc hv =>
 exact .mk m (kn m hn) (λ x c e => (hc x c e).imp λ v => kc x c v e) λ i x V e1 e2 => (hv i x V e1 e2).map (λ v q => ⟨q.1, up _ _ q.2⟩) λ v q => ⟨q.1.imp λ c q => ⟨q.1, kc x c v q.1 q.2⟩, up _ _ q.2⟩
theorem dc.at {env : Env} {Γ : List Str} {ρ : aj} {F F' : List Addr} {φ φ' : aO} {h h' : Heap} (x : dc K env Γ ρ F φ h) (eo : aX env F) (hF : ∀ a ∈ F, ∀ o, h.get? a = some o -> h'.get? a = some o)
  (up : ∀ V v, aM K h F φ V v -> aM K h' F' φ' V v) : dc K env Γ ρ F' φ' h' :=
 x.map K (λ _ n => n.at (hF _ eo.loc)) (λ _ _ _ e n => n.imp λ _ y => ⟨hF _ (eo.cells _ _ e) _ y.1, y.2⟩) up
theorem dc.step {env : Env} {Γ : List Str} {ρ : aj} {F : List Addr} {φ φ' : aO} {σ : aa} {h h' : Heap} (x : dc K env Γ ρ F φ h) (st : St K g F φ σ h) (eo : aX env F) (sp : an [] φ φ' h h') :
  dc K env Γ ρ F φ' h' :=
 x.at K eo (λ _ ha _ e => an.inF K g st sp ha (λ q => nomatch q) e) λ _ _ r => an.rep K sp (λ _ q => nomatch q) r
end
section
variable {K : Kx} {g : Heap} {F F₀ : List Addr} {φ : aO} {σ : aa} {h : Heap}
theorem GB {φ : aO} {a : Addr} : bZ [] φ a ↔ ∃ p ∈ φ, a = p.1 ∨ a = p.2 := ⟨λ q => q.elim (λ q => nomatch q) id, .inr⟩
theorem cJ {h h' : Heap} (hk : ∀ b o, h.get? b = some o -> h'.get? b = some o) (a : Addr) (e : h'.get? a = none) : h.get? a = none := by
 cases z : h.get? a with
 | none => rfl
 | some o => rw [hk a o z] at e; cases e
theorem an.kept {h h' : Heap} (φ : aO) (hk : ∀ b o, h.get? b = some o -> h'.get? b = some o) : an F₀ φ φ h h' := ⟨.refl φ h, λ _ _ e _ => hk _ _ e, cJ hk⟩
theorem an.pushed (φ : aO) (h : Heap) (o : Obj) : an F₀ φ φ h (h.push o) := an.kept φ λ _ _ e => Heap.get?_push_of_some _ e
theorem St.pushed (s : St K g F φ σ h) (o : Obj) : St K g F φ σ (h.push o) :=
 St.keeps K g s (λ _ _ e => Heap.get?_push_of_some _ e)
theorem o0 {a : AV} {v : Value} (r : aM K h F φ a v) (o : Obj) : aM K (h.push o) F φ a v := an.rep K (F₀ := []) (an.pushed φ h o) (λ _ q => nomatch q) r
theorem tB {a : List AV} {v : List Value} (r : ao K h F φ a v) (o : Obj) : ao K (h.push o) F φ a v := an.repL K (F₀ := []) (an.pushed φ h o) (λ _ q => nomatch q) r
theorem bp (h : Heap) : h.get? h.objs.size = none := by
 cases q : h.get? h.objs.size with
 | none => rfl
 | some o => exact absurd (Heap.lt_size q) (Nat.lt_irrefl _)
theorem St.fresh (s : St K g F φ σ h) {a : Addr} (ha : h.get? a = none) : ¬ bZ F φ a := λ q => s.bound a q ha
theorem St.baseFresh (s : St K g F φ σ h) {a : Addr} (ha : h.get? a = none) : g.get? a = none := by
 cases q : g.get? a with
 | none => rfl
 | some o => rw [s.keep _ _ q] at ha; cases ha
theorem cf {F : List Addr} : ∀ a ∈ ([] : List Addr), a ∈ F := λ _ q => nomatch q
theorem kT {α : Type} {l : List α} {x y : α} {i : Nat} (e : (l ++ [x])[i]? = some y) : l[i]? = some y ∨ (i = l.length ∧ y = x) :=
 if h : i < l.length then .inl (List.getElem?_append_left h ▸ e) else
  have k : i < (l ++ [x]).length := (List.getElem?_eq_some_iff.mp e).1
  have k : i = l.length := Nat.le_antisymm (Nat.le_of_lt_succ (List.length_append (as := l) (bs := [x]) ▸ k : i < l.length + 1)) (Nat.not_lt.mp h)
  .inr ⟨k, Option.some.inj ((e.symm.trans (congrArg ((l ++ [x])[·]?) k)).trans List.getElem?_concat_length)⟩
theorem i6 {p : Addr × Addr} {a : Addr} (q : bZ F (φ ++ [p]) a) : bZ F φ a ∨ a = p.1 ∨ a = p.2 := q.elim (λ q => .inl (.inl q)) λ q => q.elim λ r q => (List.mem_append.mp q.1).elim (λ hr => .inl (.inr ⟨r, hr, q.2⟩)) λ hr => .inr (List.mem_singleton.mp hr ▸ q.2)
theorem St.addG {h' : Heap} (s : St K g F φ σ h) {p : Addr × Addr} {c : aG} (hk : ∀ b o, h.get? b = some o -> h'.get? b = some o) (n1 : ¬ bZ F φ p.1) (n2 : ¬ bZ F φ p.2) (g1 : g.get? p.1 = none) (g2 : g.get? p.2 = none)
  (h1' : h'.get? p.1 ≠ none) (h2' : h'.get? p.2 ≠ none) (hn : ∀ a o, h.get? a = some o -> o.cls ≠ .type "list" -> a ≠ p.1 ∧ a ≠ p.2) (hc : b0 K h' F (φ ++ [p]) c p) : St K g F (φ ++ [p]) (σ ++ [c]) h' := by
 have ne : ∀ {q a b}, q ∈ φ -> a = q.1 ∨ a = q.2 -> ¬ bZ F φ b -> a ≠ b := λ hq ha hb z => hb (.inr ⟨_, hq, z ▸ ha⟩)
 refine ⟨λ b o e => hk b o (s.keep b o e), λ a q => ?_, λ i j q r e1 e2 hij => ?_, λ q hq => ?_, ?_, λ n c' q e1 e2 => ?_, λ a q => ?_, λ a ha => (s.fr a ha).imp λ o e => ⟨hk _ _ e.1, e.2⟩⟩
 ·exact (i6 q).elim (s.off a) λ q => q.elim (λ z => z ▸ g1) λ z => z ▸ g2
 ·cases kT e1 with
  | inl a => cases kT e2 with
   | inl b => exact s.dis i j q r a b hij
   | inr b =>
    have m := List.mem_of_getElem? a
    rw [b.2]; exact ⟨ne m (.inl rfl) n1, ne m (.inl rfl) n2, ne m (.inr rfl) n1, ne m (.inr rfl) n2⟩
  | inr a => cases kT e2 with
   | inl b =>
    have m := List.mem_of_getElem? b
    rw [a.2]; exact ⟨(ne m (.inl rfl) n1).symm, (ne m (.inr rfl) n1).symm, (ne m (.inl rfl) n2).symm, (ne m (.inr rfl) n2).symm⟩
   | inr b => exact absurd (a.1.trans b.1.symm) hij
 ·exact (List.mem_append.mp hq).elim (s.offF q) λ hq => List.mem_singleton.mp hq ▸ ⟨λ z => n1 (.inl z), λ z => n2 (.inl z)⟩
 ·rw [List.length_append, List.length_append, s.len]; rfl
 ·cases kT e1 with
  | inl a => cases kT e2 with
   | inl b => exact b0.map K (λ a o e _ cl no => ⟨hk a o e, λ q => (i6 q).elim no λ q => q.elim (hn a o e cl).1 (hn a o e cl).2⟩) (λ n q _ e => (List.getElem?_append_left (List.getElem?_eq_some_iff.mp e).1).trans e) (λ a o _ e _ => hk a o e) (b0.low K (s.cell n c' q a b)) (s.cell n c' q a b)
   | inr b => exact absurd (List.getElem?_eq_some_iff.mp a).1 (Nat.not_lt.mpr (Nat.le_of_eq (s.len ▸ b.1.symm)))
  | inr a => cases kT e2 with
   | inl b => exact absurd (List.getElem?_eq_some_iff.mp b).1 (Nat.not_lt.mpr (Nat.le_of_eq (s.len ▸ a.1.symm)))
   | inr b => rw [a.2, b.2]; exact hc
 ·exact (i6 q).elim (λ q e => s.bound a q (cJ hk _ e)) λ q => q.elim (λ z => z ▸ h1') λ z => z ▸ h2'
theorem St.add {h' : Heap} (s : St K g F φ σ h) {p : Addr × Addr} {c : aG} (hk : ∀ b o, h.get? b = some o -> h'.get? b = some o) (h1 : h.get? p.1 = none) (h2 : h.get? p.2 = none)
  (h1' : h'.get? p.1 ≠ none) (h2' : h'.get? p.2 ≠ none) (hc : b0 K h' F (φ ++ [p]) c p) : St K g F (φ ++ [p]) (σ ++ [c]) h' :=
 s.addG hk (s.fresh h1) (s.fresh h2) (s.baseFresh h1) (s.baseFresh h2) h1' h2' (λ _ _ e _ => ⟨λ q => av e (q ▸ h1), λ q => av e (q ▸ h2)⟩) hc
theorem zE {h : Heap} {o : Obj} (e : o.isFreed = false) : (h.push o).get? h.objs.size ≠ none := av (Heap.get?_push_size _ e)
theorem i4 (s : St K g F φ σ h) {p : Addr × Addr} : (φ ++ [p])[σ.length]? = some p := s.len ▸ List.getElem?_concat_length
theorem St.newList {l : List AV} {vs : List Value} (s : St K g F φ σ h) (z : l.length ≤ sizeLine) (r : ao K h F φ l vs) :
  St K g F (φ ++ [(h.objs.size, h.objs.size)]) (σ ++ [.list l]) (h.push { cls := .type "list", data := .seq vs.toArray }) ∧
  an F₀ φ (φ ++ [(h.objs.size, h.objs.size)]) h (h.push { cls := .type "list", data := .seq vs.toArray }) ∧
  aM K (h.push { cls := .type "list", data := .seq vs.toArray }) F (φ ++ [(h.objs.size, h.objs.size)]) (.loc σ.length) (.ref h.objs.size) := by
 have hk : ∀ b o, h.get? b = some o -> (h.push { cls := .type "list", data := .seq vs.toArray }).get? b = some o := λ _ _ e => Heap.get?_push_of_some _ e
 have sp : ∀ F₀, an F₀ φ (φ ++ [(h.objs.size, h.objs.size)]) h (h.push { cls := .type "list", data := .seq vs.toArray }) := λ F₀ => ⟨.one (bp h) (bp h), λ a o e _ => hk a o e, cJ hk⟩
 exact ⟨s.add hk (bp h) (bp h) (zE rfl) (zE rfl) (.mk ⟨rfl, z⟩ vs.toArray ⟨_, Heap.get?_push_size _ rfl⟩ (an.repL K (sp []) cf r)), sp _, .loc (d := h.objs.size) (i4 s)⟩
theorem St.newTup {l : List AV} {vs : List Value} (s : St K g F φ σ h) (z : l.length ≤ sizeLine) (r : ao K h F φ l vs) :
  aM K (h.push { cls := .type "tuple", data := .seq vs.toArray }) F φ (.tup l) (.ref h.objs.size) :=
 .tup z ⟨_, Heap.get?_push_size _ rfl, rfl, _, rfl⟩ (s.fresh (bp h)) (tB r _)
theorem St.change {h' : Heap} (s : St K g F φ σ h) {n : Nat} {c : aG} {p : Addr × Addr} (hp : φ[n]? = some p)
  (hk : ∀ b o, b ≠ p.1 -> b ≠ p.2 -> h.get? b = some o -> h'.get? b = some o) (hx : h'.get? p.1 ≠ none ∧ h'.get? p.2 ≠ none) (hc : b0 K h' F φ c p) :
  St K g F φ (σ.set n c) h' ∧ an F₀ φ φ h h' := by
 have hm := List.mem_of_getElem? hp
 have go : ∀ {b}, bZ F φ b -> ∀ {o}, g.get? b = some o -> False := λ q _ e => absurd (s.off _ q) (av e)
 have hall : ∀ a, h'.get? a = none -> h.get? a = none := λ a e => by
  cases z : h.get? a with
  | none => rfl
  | some o => exact absurd e (av (hk a o (λ q => hx.1 (q ▸ e)) (λ q => hx.2 (q ▸ e)) z))
 have ko : ∀ a o, h.get? a = some o -> ¬ bZ [] φ a -> h'.get? a = some o := λ a o e no => hk a o (λ q => no (.inr ⟨p, hm, .inl q⟩)) (λ q => no (.inr ⟨p, hm, .inr q⟩)) e
 have sp : ∀ F₀, an F₀ φ φ h h' := λ F₀ => ⟨.refl φ h, λ a o e no => ko a o e λ q => no (dF cf q), hall⟩
 refine ⟨⟨λ b o e => hk b o (λ z => go (.inr ⟨p, hm, .inl z⟩) e) (λ z => go (.inr ⟨p, hm, .inr z⟩) e) (s.keep b o e), s.off, s.dis, s.offF, List.length_set.symm ▸ s.len, λ j c' q e1 e2 => ?_, λ a q e => s.bound a q (hall a e), λ a ha => ?_⟩, sp _⟩
 ·by_cases hj : j = n
  ·subst hj
   rw [List.getElem?_set_self (s.len ▸ (List.getElem?_eq_some_iff.mp hp).1)] at e1
   cases Option.some.inj e1
   cases Option.some.inj (hp.symm.trans e2)
   exact hc
  ·rw [List.getElem?_set_ne (Ne.symm hj)] at e1
   have d := s.dis j n q p e2 hp hj
   exact b0.mono K ((sp []).keep cf) (sp []).nth (λ a o z e _ => hk a o (z.elim (λ z => z ▸ d.1) λ z => z ▸ d.2.2.1) (z.elim (λ z => z ▸ d.2.1) λ z => z ▸ d.2.2.2) e) (s.cell j c' q e1 e2)
 ·exact (s.fr a ha).imp λ o e => ⟨ko _ _ e.1 (St.notCell K g s ha), e.2⟩
end
theorem ej : fD ≤ sizeLine := by decide
section
variable {K : Kx} {g : Heap} {F : List Addr} {φ : aO} {σ : aa} {A : Around} {E : Value -> Shared -> Prop} {s : Shared}
noncomputable def Ok (K : Kx) (g : Heap) (F : List Addr) (φ : aO) (s : Shared) (r : AV × aa) (Q' : Value -> Shared -> Prop) : Prop :=
 ∀ φ' h' t' v, St K g F φ' r.2 h' -> an [] φ φ' s.heap h' -> aM K h' F φ' r.1 v -> Q' v { s with heap := h', toks := t' }
theorem Ok.pure {Q' : Value -> Shared -> Prop} {r : AV × aa} {V : AV} {v : Value} (o : Ok K g F φ s r Q') (e : some (V, σ) = some r) (st : St K g F φ σ s.heap) (rv : aM K s.heap F φ V v) (t : Nat) : Q' v { s with toks := t } :=
 have o : Ok K g F φ s (V, σ) Q' := (Option.some.inj e) ▸ o
 o φ s.heap t v st (an.refl _ _ _) rv
theorem Ok.val {Q' : Value -> Shared -> Prop} {r V : AV} {v : Value} (o : Ok K g F φ s (r, σ) Q') (e : some V = some r) (st : St K g F φ σ s.heap) (rv : aM K s.heap F φ V v) (t : Nat) : Q' v { s with toks := t } :=
 o.pure (congrArg (Option.map (·, σ)) e) st rv t
theorem Ok.list {Q' : Value -> Shared -> Prop} {r : AV × aa} {l : List AV} {vs : List Value} (o : Ok K g F φ s r Q') (e : some (.loc σ.length, σ ++ [.list l]) = some r) (st : St K g F φ σ s.heap) (z : l.length ≤ sizeLine) (rl : ao K s.heap F φ l vs) (t : Nat) :
  Q' (.ref s.heap.objs.size) { s with heap := s.heap.push { cls := .type "list", data := .seq vs.toArray }, toks := t } :=
 have o : Ok K g F φ s (.loc σ.length, σ ++ [.list l]) Q' := (Option.some.inj e) ▸ o
 have y := st.newList (F₀ := []) z rl
 o _ _ t _ y.1 y.2.1 y.2.2
theorem ao.length {h : Heap} (l : List AV) : ∀ vs : List Value, ao K h F φ l vs -> vs.length = l.length :=
 List.rec (λ _ e => congrArg List.length e) (λ a l ih vs r => by cases r with | mk v ws e a r => exact (congrArg List.length e).trans (congrArg (· + 1) (ih ws r))) l
theorem ao.len {h : Heap} {l : List AV} {vs : List Value} (r : ao K h F φ l vs) : vs.length = l.length := ao.length l vs r
theorem ao.size {h : Heap} {l : List AV} {vs : Array Value} (r : ao K h F φ l vs.toList) : vs.size = l.length := Array.length_toList.symm.trans r.len
theorem ao.app {h : Heap} {l' : List AV} {vs' : List Value} (r' : ao K h F φ l' vs') (l : List AV) : ∀ vs : List Value, ao K h F φ l vs -> ao K h F φ (l ++ l') (vs ++ vs') :=
 List.rec (λ _ e => (show _ = [] from e) ▸ r') (λ a l ih vs r => by cases r with | mk v ws e a r => exact e ▸ .cons a (ih ws r)) l
theorem ao.append {h : Heap} {l l' : List AV} {vs vs' : List Value} (r : ao K h F φ l vs) (r' : ao K h F φ l' vs') : ao K h F φ (l ++ l') (vs ++ vs') := ao.app r' l vs r
theorem ao.take {h : Heap} {l : List AV} {vs : List Value} (n : Nat) (r : ao K h F φ l vs) : ao K h F φ (l.take n) (vs.take n) :=
 List.rec (motive := λ l => ∀ n vs, ao K h F φ l vs -> ao K h F φ (l.take n) (vs.take n)) (λ n vs e => by rw [show vs = [] from e, List.take_nil, List.take_nil]; exact .nil)
  (λ a l ih n vs r => by cases r with | mk v ws e a r => exact e ▸ Nat.casesOn (motive := λ n => ao K h F φ ((_ :: l).take n) ((v :: ws).take n)) n .nil λ n => .cons a (ih n ws r)) l n vs r
theorem ao.drop {h : Heap} {l : List AV} {vs : List Value} (n : Nat) (r : ao K h F φ l vs) : ao K h F φ (l.drop n) (vs.drop n) :=
 List.rec (motive := λ l => ∀ n vs, ao K h F φ l vs -> ao K h F φ (l.drop n) (vs.drop n)) (λ n vs e => by rw [show vs = [] from e, List.drop_nil, List.drop_nil]; exact .nil)
  (λ a l ih n vs r => by cases r with | mk v ws e a r => exact e ▸ Nat.casesOn (motive := λ n => ao K h F φ ((_ :: l).drop n) ((v :: ws).drop n)) n (.cons a r) λ n => ih n ws r) l n vs r
theorem ao.reverse {h : Heap} {l : List AV} {vs : List Value} (r : ao K h F φ l vs) : ao K h F φ l.reverse vs.reverse :=
 List.rec (motive := λ l => ∀ vs, ao K h F φ l vs -> ao K h F φ l.reverse vs.reverse) (λ vs e => (show vs = [] from e) ▸ .nil)
  (λ a l ih vs r => by cases r with | mk v ws e a r => rw [e, List.reverse_cons, List.reverse_cons]; exact (ih ws r).append (.cons a .nil)) l vs r
theorem ao.get {h : Heap} {l : List AV} {vs : List Value} {n : Nat} {a : AV} (r : ao K h F φ l vs) (e : l[n]? = some a) : ∃ v, vs[n]? = some v ∧ aM K h F φ a v :=
 List.rec (motive := λ l => ∀ n vs, ao K h F φ l vs -> l[n]? = some a -> ∃ v, vs[n]? = some v ∧ aM K h F φ a v) (λ n vs _ e => nomatch List.getElem?_nil.symm.trans e)
  (λ b l ih n vs r => by cases r with | mk v ws e x r => exact e ▸ Nat.casesOn (motive := λ n => (b :: l)[n]? = some a -> ∃ y, (v :: ws)[n]? = some y ∧ aM K h F φ a y) n (λ e => ⟨v, rfl, Option.some.inj e ▸ x⟩) λ n => ih n ws r) l n vs r e
theorem ak {α : Type} {r : α} {P : Prop} (e : none = some r) : P := nomatch e
theorem bG {α : Type} {c : Prop} [Decidable c] {x r : α} {P : Prop} (e : (if c then some x else none) = some r) (k : c -> some x = some r -> P) : P :=
 if h : c then k h ((if_pos h).symm.trans e) else ak ((if_neg h).symm.trans e)
section
variable {β : Type} {r : β} {h : Heap} {va : AV} {v : Value} {P : Value -> Prop}
theorem fZ {fi : Int -> Option β} {fs : List Nat -> Option β} {ft : List AV -> Option β} {fl : Nat -> Option β} {fe : Option β} {fx : List Int -> Option β} (e : lA va fi fs ft fl fe fx = some r) (ra : aM K h F φ va v)
  (ki : ∀ i t, fi i = some r -> P (.int i t)) (ks : ∀ l t, l.length ≤ sizeLine -> fs l = some r -> P (.str ⟨l.toArray⟩ t)) (kt : ∀ l vs a, ft l = some r -> l.length ≤ sizeLine -> h.IsTuple a vs -> ¬ bZ F φ a -> ao K h F φ l vs.toList -> P (.ref a))
  (kl : ∀ n, fl n = some r -> aM K h F φ (.loc n) v -> P v)
  (ke : ∀ d o kvs, fe = some r -> ¬ bZ F φ d -> (d == sysModules) = false -> h.get? d = some o -> o.IsDictOf (strKind K.prog K.w) kvs -> PyProof.V.FlatPairs PyData.str kvs li -> P (.ref d))
  (kx : ∀ l a vs, fx l = some r -> K.scr = some (a, vs) -> IntsAre vs l -> l.length ≤ sizeLine -> P (.ref a)) : P v := by
 cases va with
 | none => exact ak e
 | bool b => exact ak e
 | int i => exact ra.elim λ t z => z ▸ ki i t e
 | str l => exact ra.elim λ t z => z.1 ▸ ks l t z.2 e
 | tup l => cases ra with | mk vs a q z ht n r => exact q ▸ kt l vs a e z ht n r
 | loc n => exact kl n e ra
 | inst c vs => exact ak e
 | esc => cases ra with | mk d o kvs q n hs ho hd r => exact q ▸ ke d o kvs e n hs ho hd r
 | script l => cases ra with | mk a vs q hs hi z => exact q ▸ kx l a vs e hs hi z
theorem dx {f : Int -> Option β} (e : jt va f = some r) (ra : aM K h F φ va v) (k : ∀ i t, f i = some r -> P (.int i t)) : P v :=
 fZ e ra k (λ _ _ _ => ak) (λ _ _ _ e _ _ _ _ => ak e) (λ _ e _ => ak e) (λ _ _ _ e _ _ _ _ _ => ak e) λ _ _ _ e _ _ _ => ak e
theorem g9 {f : List Nat -> Option β} (e : tZ va f = some r) (ra : aM K h F φ va v) (k : ∀ l t, l.length ≤ sizeLine -> f l = some r -> P (.str ⟨l.toArray⟩ t)) : P v :=
 fZ e ra (λ _ _ => ak) k (λ _ _ _ e _ _ _ _ => ak e) (λ _ e _ => ak e) (λ _ _ _ e _ _ _ _ _ => ak e) λ _ _ _ e _ _ _ => ak e
theorem oN {s : List Nat} {f : Nat -> Option β} {P : List Nat -> Prop} (e : EF s f = some r) (k : ∀ c, f c = some r -> P [c]) : P s :=
 match s, e with | [c], e => k c e
theorem qw {n : Nat} {fl : List AV -> Option β} {fc : dL -> List AV -> Option β} {G : Prop} (e : cF σ n fl fc = some r) (kl : ∀ l : List AV, σ[n]? = some (.list l) -> fl l = some r -> G)
  (kc : ∀ (c : dL) (vs : List AV), σ[n]? = some (.inst c vs) -> fc c vs = some r -> G) : G := by
 unfold cF at e
 cases q : σ[n]? with
 | none => rw [q] at e; exact ak e
 | some c =>
  rw [q] at e
  cases c with
  | list l => exact kl l q e
  | inst c vs => exact kc c vs q e
theorem dk {n : Nat} {f : List AV -> Option β} {G : Prop} (e : cF σ n f uJ = some r) (k : ∀ l : List AV, σ[n]? = some (.list l) -> f l = some r -> G) : G := qw e k λ _ _ _ => ak
theorem St.list (st : St K g F φ σ h) {n : Nat} {l : List AV} (hn : σ[n]? = some (.list l)) (ra : aM K h F φ (.loc n) v)
  (k : ∀ (x : Addr) (vs : Array Value), φ[n]? = some (x, x) -> h.IsList x vs -> ao K h F φ l vs.toList -> l.length ≤ sizeLine -> P (.ref x)) : P v :=
 ra.elim λ x z => z.elim λ d z => by
  cases st.cell n _ _ hn z.2 with | mk q vs hl rl =>
  exact z.1 ▸ k x vs (z.2.trans (congrArg (λ d => some (x, d)) q.1)) hl.isList rl q.2
theorem repL {f : List AV -> Option β} (st : St K g F φ σ h) (e : Gh σ va f = some r) (ra : aM K h F φ va v)
  (k : ∀ (n : Nat) (l : List AV) (x : Addr) (vs : Array Value), σ[n]? = some (.list l) -> φ[n]? = some (x, x) -> h.IsList x vs -> ao K h F φ l vs.toList -> l.length ≤ sizeLine -> f l = some r -> P (.ref x)) : P v :=
 fZ e ra (λ _ _ => ak) (λ _ _ _ => ak) (λ _ _ _ e _ _ _ _ => ak e) (λ n e ra => dk e λ l hn e => st.list hn ra λ x vs a b c d => k n l x vs hn a b c d e) (λ _ _ _ e _ _ _ _ _ => ak e) λ _ _ _ e _ _ _ => ak e
end
noncomputable def FQ : EB -> Operator
 | .add => .Add | .sub => .Sub | .mul => .Mult | .mod => .Mod | .fdiv => .FloorDiv | .pow => .Pow | .shl => .LShift
theorem yX (x : List Nat) (k : Nat) : (List.replicate k (x.toArray)).foldl (· ++ ·) #[] = (List.replicate k x).flatten.toArray := by
 have : ∀ (k : Nat) (a : List Nat), (List.replicate k (x.toArray)).foldl (· ++ ·) a.toArray = (a ++ (List.replicate k x).flatten).toArray := by
  intro k
  induction k with
  | zero => intro a; simp
  | succ k ih => intro a; rw [List.replicate_succ, List.foldl_cons, List.append_toArray, ih, List.replicate_succ, List.flatten_cons, List.append_assoc]
 simpa using this k []
theorem rD (x y : List Nat) : (Str.mk x.toArray ++ Str.mk y.toArray : Str) = Str.mk (x ++ y).toArray := by
 show Str.append _ _ = _
 unfold Str.append
 rw [List.append_toArray]
theorem tY {y : Int} {n : Nat} (h0 : 0 ≤ y) (h : y < n) : y.natAbs < n := Int.ofNat_lt.mp ((Int.natAbs_of_nonneg h0).symm ▸ h)
theorem vA {i : Int} (hi : i.natAbs < 1000000) : Builtin.Int.intBits i ≤ 64 := by
 have : i.natAbs.log2 < 20 := by
  by_cases h0 : i.natAbs = 0
  ·rw [h0]; decide
  ·exact (Nat.log2_lt h0).mpr (Nat.lt_trans hi (by decide))
 show (if (i == 0) = true then 0 else i.natAbs.log2 + 1) ≤ 64
 split
 ·exact Nat.zero_le _
 ·exact Nat.le_trans this (by decide)
theorem BF (x : List Nat) (y : Int) : Txt.mul ⟨x.toArray⟩ y = ⟨(List.replicate y.toNat x).flatten.toArray⟩ := by
 unfold Txt.mul
 by_cases h1 : y < 1
 ·rw [if_pos h1, Int.toNat_of_nonpos (Int.le_of_lt_add_one h1)]; rfl
 ·rw [if_neg h1]
  by_cases h2 : (y == 1 || (Str.mk x.toArray).length == 0) = true
  ·rw [if_pos h2]
   rcases Bool.or_eq_true_iff.mp h2 with h2 | h2
   ·rw [eq_of_beq h2]; exact congrArg (λ l => Str.mk (List.toArray l)) (List.append_nil x).symm
   ·rw [show x = [] from List.length_eq_zero_iff.mp (eq_of_beq h2), List.flatten_replicate_nil]
  ·rw [if_neg h2, yX]
theorem G7 {op : EB} {va vb : AV} {a b : Value} {r : AV × aa} {Q' : Value -> Shared -> Prop} (e : f5 op va vb σ = some r) (st : St K g F φ σ s.heap) (ra : aM K s.heap F φ va a) (rb : aM K s.heap F φ vb b)
  (o : Ok K g F φ s r Q') : wpAny (model K.prog K.w) A (binaryOp (FQ op) a b) Q' E s := by
 cases op with
 | add =>
  apply fZ e ra ?_ ?_ (λ _ _ _ e _ _ _ _ => ak e) ?_ (λ _ _ _ e _ _ _ _ _ => ak e) λ _ _ _ e _ _ _ => ak e
  ·intro x t e; apply dx e rb
   exact λ y u e => PySem.P.add_int (o.pure e st (.int _ _) _)
  ·intro x t hx e; apply g9 e rb
   refine λ y u hy e => bG e λ hl e => PyProof.Rows.add_str (λ t' tk => ?_) (Nat.le_trans hl ej)
   rw [rD]
   exact o.pure e st (.str _ _ (List.length_append.symm ▸ Nat.le_trans hl ej)) _
  ·intro n e ra; refine dk e λ l hn e => ?_; apply st.list hn ra; intro x vs ex lx rx _; apply repL st e rb
   refine λ m l' y ws hm ey ly ry _ e => bG e λ hl e => ?_
   obtain ⟨⟨cls, dd, data, sl⟩, ho, hc, n, hd⟩ := lx
   obtain ⟨⟨cls2, dd2, data2, sl2⟩, ho2, hc2, n2, hd2⟩ := ly
   cases hc; cases hd; cases hc2; cases hd2
   refine PySem.concat_meets ⟨_, ho, rfl⟩ ⟨_, ho2, rfl⟩ noFill_list_add seq_list_add PySem.F.slot_list_add PySem.F.entry_list_add (PySem.F.args_list_add_2 _ _)
    (list_addW x y vs ws n n2 dd dd2 sl sl2 (rx.size.symm ▸ ry.size.symm ▸ Nat.le_trans hl ej)) ⟨ho, ho2, ?_⟩
   rw [show vs ++ ws = (vs.toList ++ ws.toList).toArray from Array.ext' Array.toList_append]
   exact o.list e st (List.length_append.symm ▸ Nat.le_trans hl ej) (rx.append ry) s.toks
 | sub =>
  apply dx e ra; intro x t e; apply dx e rb
  exact λ y u e => PySem.P.sub_int (o.pure e st (.int _ _) _)
 | mul =>
  apply fZ e ra ?_ ?_ (λ _ _ _ e _ _ _ _ => ak e) (λ _ e _ => ak e) (λ _ _ _ e _ _ _ _ _ => ak e) λ _ _ _ e _ _ _ => ak e
  ·intro x t e; apply dx e rb
   exact λ y u e => bG e λ hl e => PySem.P.mul_int (o.pure e st (.int _ _) _) (hl.elim (λ q => IntMulOk.of_left (vA q)) λ q => IntMulOk.of_right (vA q))
  ·intro x t hx e; apply dx e rb
   refine λ y u e => bG e λ hl e => PySem.SB.mul ?_ λ t' k => ?_
   ·have h0 : (x.length : Int) * y ≤ 1048576 := if h : 0 ≤ y then by
     have := Int.ofNat_le.mpr hl.1
     rw [Int.natCast_mul, Int.toNat_of_nonneg h] at this
     exact this
    else Int.le_trans (Int.mul_nonpos_of_nonneg_of_nonpos (Int.natCast_nonneg _) (Int.le_of_lt (Int.not_le.mp h))) (by decide)
    refine ⟨Bool.or_eq_false_iff.mpr ⟨decide_eq_false λ q => absurd (Int.lt_of_le_of_lt hl.2.1 q) (by decide), decide_eq_false λ q => absurd (Int.le_trans q hl.2.2) (by decide)⟩, λ h1 h2 => ?_, λ h1 h2 => ?_⟩
    ·exact Int.not_lt.mpr (Int.le_ediv_of_mul_le (Int.not_lt.mp h1) (Int.le_trans h0 (by decide)))
    ·exact decide_eq_false (Nat.not_lt.mpr (Nat.le_trans hl.1 ej))
   ·rw [BF]
    exact o.pure e st (.str _ _ (by rw [List.length_flatten, List.map_replicate, List.sum_replicate_nat]; exact Nat.le_trans (Nat.mul_comm _ _ ▸ hl.1) ej)) _
 | mod =>
  apply dx e ra; intro x t e; apply dx e rb
  refine λ y u e => bG e λ hl e => mod_int' (Int.ne_of_gt hl) ?_
  rw [Int.fmod_eq_emod_of_nonneg _ (Int.le_of_lt hl)]
  exact o.pure e st (.int _ _) _
 | fdiv =>
  apply dx e ra; intro x t e; apply dx e rb
  refine λ y u e => bG e λ hl e => floordiv_int (Int.ne_of_gt hl.1) ?_ ?_
  ·rw [Int.fdiv_eq_ediv_of_nonneg _ (Int.le_of_lt hl.1)]
   exact o.pure e st (.int _ _) _
  ·exact .inl (PyProof.noPylong_small (tY (Int.le_of_lt hl.1) (Int.lt_trans hl.2 (by decide))))
 | pow =>
  apply dx e ra; intro x t e; apply dx e rb
  exact λ y u e => bG e λ hl e => pow_int_small hl.1 (Int.le_trans hl.2.1 (by decide)) (tY (Int.le_of_lt hl.2.2.1) (Int.lt_of_le_of_lt hl.2.2.2 (by decide))) (o.pure e st (.int _ _) _)
 | shl =>
  apply dx e ra; intro x t e; apply dx e rb
  exact λ y u e => bG e λ hl e => lshift_int_small hl.1 (Int.le_trans hl.2.1 (by decide)) (tY (Int.le_of_lt hl.2.2.1) (Int.lt_of_le_of_lt hl.2.2.2 (by decide))) (o.pure e st (.int _ _) _)
end
section
variable {K : Kx} {g : Heap} {F : List Addr} {φ : aO} {σ : aa} {A : Around} {E : Value -> Shared -> Prop} {s : Shared}
theorem aM.reads {h : Heap} (a : AV) : ∀ (v : Value) (d : PyData), aM K h F φ a v -> a.py = some d -> ∃ as, Reads h v d as :=
 AV.rec (motive_1 := λ a => ∀ (v : Value) (d : PyData), aM K h F φ a v -> a.py = some d -> ∃ as, Reads h v d as) (motive_2 := λ l => ∀ (vs : List Value) (ds : List PyData), ao K h F φ l vs -> AV.pyL l = some ds -> ∃ as, ReadsAll h vs ds as)
  (λ _ _ r e => (show _ = _ from r) ▸ Option.some.inj e ▸ ⟨_, .none⟩) (λ b _ _ r e => (show _ = _ from r) ▸ Option.some.inj e ▸ ⟨_, .bool b⟩) (λ i _ _ r e => r.elim λ t r => r ▸ Option.some.inj e ▸ ⟨_, .int i t⟩)
  (λ l _ _ r e => r.elim λ t r => r.1 ▸ Option.some.inj e ▸ ⟨_, .str _ t⟩)
  (λ _ ih _ _ r e => (Option.map_eq_some_iff.mp e).elim λ ds q => by
   cases r with | mk vs a e' z ht n r =>
   exact ht.elim λ o ho => ho.2.2.elim λ n hd => (ih _ _ r q.1).elim λ as z => e' ▸ q.2 ▸ ⟨_, .tuple ho.1 ho.2.1 hd z⟩)
  (λ _ _ _ _ => ak) (λ _ _ _ _ _ _ => ak) (λ _ _ _ => ak) (λ _ _ _ _ => ak) (λ _ _ r e => (show _ = _ from r) ▸ Option.some.inj e ▸ ⟨_, .nil⟩)
  (λ _ _ ia il _ _ r e => (Option.bind_eq_some_iff.mp e).elim λ d q => (Option.map_eq_some_iff.mp q.2).elim λ ds p => by
   cases r with | mk v ws e' a r =>
   exact (ia _ _ a q.1).elim λ as x => (il _ _ r p.1).elim λ bs y => e' ▸ p.2 ▸ ⟨_, .cons x y⟩) a
theorem ao.reads {h : Heap} (l : List AV) : ∀ (vs : List Value) (ds : List PyData), ao K h F φ l vs -> AV.pyL l = some ds -> ∃ as, ReadsAll h vs ds as :=
 List.rec (λ _ _ r e => (show _ = _ from r) ▸ Option.some.inj e ▸ ⟨_, .nil⟩)
  (λ _ _ il _ _ r e => (Option.bind_eq_some_iff.mp e).elim λ d q => (Option.map_eq_some_iff.mp q.2).elim λ ds p => by
   cases r with | mk v ws e' a r =>
   exact (aM.reads _ _ _ a q.1).elim λ as x => (il _ _ r p.1).elim λ bs y => e' ▸ p.2 ▸ ⟨_, .cons x y⟩) l
theorem St.reads (st : St K g F φ σ s.heap) {a : AV} {v : Value} {d : PyData} (r : aM K s.heap F φ a v) (e : ml σ a = some d) : ∃ as, Reads s.heap v d as := by
 cases a with
 | loc n =>
  refine dk e λ l hn e => ?_
  apply st.list hn r
  intro x vs _ ⟨o, ho, hc, n, hd⟩ rl _
  exact (Option.map_eq_some_iff.mp e).elim λ ds q => (ao.reads _ _ _ rl q.1).elim λ as z => q.2 ▸ ⟨_, .list ho hc hd z⟩
 | _ => exact aM.reads _ _ _ r e
theorem rE (x y : List Nat) : (Str.mk x.toArray == Str.mk y.toArray) = decide (x = y) := by
 rw [Bool.eq_iff_iff]; simp
noncomputable def EG : vq -> CmpOp
 | .eq => .Eq | .ne => .NotEq | .lt => .Lt | .le => .LtE | .gt => .Gt | .ge => .GtE | .is_ => .Is | .in_ => .In | .notIn => .NotIn
theorem wO {va vb : AV} {a b : Value} {h : Heap} {r : Bool} {P : Value -> Value -> Prop} (e : nt va vb = some r) (ra : aM K h F φ va a) (rb : aM K h F φ vb b) (ki : ∀ x y t u, decide (x = y) = r -> P (.int x t) (.int y u))
  (ks : ∀ x y t u, decide (x = y) = r -> P (.str ⟨List.toArray x⟩ t) (.str ⟨List.toArray y⟩ u)) (kb : ∀ x y, (x == y) = r -> P (.bool x) (.bool y)) : P a b := by
 cases va with
 | bool x =>
  cases vb with
  | bool y => exact (show a = _ from ra) ▸ (show b = _ from rb) ▸ kb x y (Option.some.inj e)
  | _ => exact ak e
 | int x =>
  obtain ⟨t, rfl⟩ := ra
  apply dx e rb
  exact λ y u e => ki x y t u (Option.some.inj e)
 | str x =>
  obtain ⟨t, rfl, _⟩ := ra
  apply g9 e rb
  exact λ y u _ e => ks x y t u (Option.some.inj e)
 | _ => exact ak e
theorem Cj {va vb : AV} {r : Bool} {G : Prop} (e : ir σ va vb = some r) (k1 : nt va vb = some r -> G) (k2 : ∀ x y, ml σ va = some x -> ml σ vb = some y -> SeqAt.shaped x = true -> SeqAt.shaped y = true -> PyData.eqv x y = r -> G) : G := by
 unfold ir at e
 cases q : nt va vb with
 | some b => rw [q] at e; exact k1 (q.trans e)
 | none =>
  rw [q] at e
  exact (Option.bind_eq_some_iff.mp e).elim λ x hx => (Option.bind_eq_some_iff.mp hx.2).elim λ y hy => bG hy.2 λ hs e => k2 x y hx.1 hy.1 (Bool.and_eq_true_iff.mp hs).1 (Bool.and_eq_true_iff.mp hs).2 (Option.some.inj e)
theorem sEq {va vb : AV} {a b : Value} {r : Bool} {Q' : Value -> Shared -> Prop} (hu : A.units + 100 < cLine) (e : ir σ va vb = some r) (st : St K g F φ σ s.heap) (ra : aM K s.heap F φ va a) (rb : aM K s.heap F φ vb b)
  (o : Ok K g F φ s (.bool r, σ) Q') : wpAny (model K.prog K.w) A (compareOp .Eq a b) Q' E s := by
 have hu' : A.units + 64 < cLine := by exact (lnr [_,_] [] 0x1188609111CC609192) hu
 have hr := o.val rfl st (.bool r) s.toks
 refine Cj e (λ e => ?_) λ x y e1 e2 h1 h2 e => ?_
 ·refine wO (P := λ a b => wpAny (model K.prog K.w) A (compareOp .Eq a b) Q' E s) e ra rb (λ x y t u e => PySem.P.eq_int ?_) (λ x y t u e => PyProof.Rows.eq_str ?_) λ x y e => ?_
  ·rw [Bool.beq_eq_decide_eq, e]; exact hr
  ·rw [rE, e]; exact hr
  ·exact PySem.SeqAt.compareEq_shaped (.bool x) (.bool y) rfl rfl hu' (show Q' (.bool (x == y)) s from e.symm ▸ hr)
 ·exact (st.reads ra e1).elim λ as x => (st.reads rb e2).elim λ bs y => PySem.SeqAt.compareEq_shaped x y h1 h2 hu' (e ▸ hr)
theorem sNe {va vb : AV} {a b : Value} {r : Bool} {Q' : Value -> Shared -> Prop} (hu : A.units + 100 < cLine) (e : ir σ va vb = some r) (st : St K g F φ σ s.heap) (ra : aM K s.heap F φ va a) (rb : aM K s.heap F φ vb b)
  (o : Ok K g F φ s (.bool (!r), σ) Q') : wpAny (model K.prog K.w) A (compareOp .NotEq a b) Q' E s := by
 have hu' : A.units + 64 < cLine := by exact (lnr [_,_] [] 0x1188609111CC609192) hu
 have hr := o.val rfl st (.bool (!r)) s.toks
 refine Cj e (λ e => ?_) λ x y e1 e2 h1 h2 e => ?_
 ·refine wO (P := λ a b => wpAny (model K.prog K.w) A (compareOp .NotEq a b) Q' E s) e ra rb (λ x y t u e => PySem.P.ne_int ?_) (λ x y t u e => PyProof.Rows.ne_str ?_) λ x y e => ?_
  ·rw [bne, Bool.beq_eq_decide_eq, e]; exact hr
  ·rw [bne, rE, e]; exact hr
  ·exact PySem.SeqAt.compareNe_shaped (.bool x) (.bool y) rfl rfl hu' (show Q' (.bool (!(x == y))) s from e.symm ▸ hr)
 ·exact (st.reads ra e1).elim λ as x => (st.reads rb e2).elim λ bs y => PySem.SeqAt.compareNe_shaped x y h1 h2 hu' (e ▸ hr)
theorem zX (c x : Nat) : Spec.same (.str ⟨#[c]⟩) (.str ⟨#[x]⟩) = (x == c) :=
 (PyProof.V.same_str _ _).trans (if h : x = c then h ▸ (decide_eq_true rfl).trans (beq_self_eq_true x).symm else
  (decide_eq_false λ q => h (List.cons.inj (congrArg Array.toList (congrArg Str.cps q))).1.symm).trans (beq_eq_false_iff_ne.mpr h).symm)
theorem nv (x : Nat) (l : List (Nat × Int)) : Spec.lookup (.str ⟨#[x]⟩) (l.map λ p => (PyData.str ⟨#[p.1]⟩, PyData.int p.2)) = (l.lookup x).map PyData.int := by
 induction l with
 | nil => rfl
 | cons p l ih =>
  rw [List.map_cons, Spec.lookup, List.lookup_cons, zX]
  cases x == p.1
  ·exact ih
  ·rfl
theorem nw (l : List (Nat × Int)) : Spec.lookup (.str ⟨#[]⟩) (l.map λ p => (PyData.str ⟨#[p.1]⟩, PyData.int p.2)) = none := by
 induction l with
 | nil => rfl
 | cons p l ih =>
  rw [List.map_cons, Spec.lookup, show Spec.same (.str ⟨#[p.1]⟩) (.str ⟨#[]⟩) = false from (PyProof.V.same_str _ _).trans (decide_eq_false λ q => List.cons_ne_nil _ _ (congrArg (λ s : Str => s.cps.toList) q))]
  exact ih
theorem vd {h : Heap} (l : List AV) : ∀ {vs : List Value} {ls : List (List Nat)}, ao K h F φ l vs -> o7 l = some ls -> StrsAre vs (ls.map λ x => ⟨x.toArray⟩) := by
 induction l with
 | nil => exact λ r e => (show _ = [] from r) ▸ Option.some.inj e ▸ .nil
 | cons v l ih =>
  intro vs ls r e
  cases r with | mk w ws e' a r =>
  subst e'
  apply g9 e a
  exact λ s t _ e => (Option.map_eq_some_iff.mp e).elim λ ls q => q.2 ▸ .cons _ _ (ih r q.1)
theorem yw (x : List Nat) (ls : List (List Nat)) : (ls.map λ x => Str.mk x.toArray).any (· == Str.mk x.toArray) = ls.contains x := by
 induction ls with
 | nil => rfl
 | cons y ls ih =>
  rw [List.map_cons, List.any_cons, ih, List.contains_cons, rE]
  exact congrArg (· || ls.contains x) (Bool.eq_iff_iff.mpr ⟨λ q => beq_iff_eq.mpr (of_decide_eq_true q).symm, λ q => decide_eq_true (eq_of_beq q).symm⟩)
theorem sF {c : Nat} {s : List Nat} {r : Bool} (e : some (s.contains c) = some r) : decide (c ∈ s) = r := (List.contains_eq_mem c s).symm.trans (Option.some.inj e)
theorem sIn {va vb : AV} {a b : Value} {r : Bool} {Q' : Value -> Shared -> Prop} (e : FH va vb = some r) (st : St K g F φ σ s.heap) (ra : aM K s.heap F φ va a) (rb : aM K s.heap F φ vb b)
  (o : Ok K g F φ s (.bool r, σ) Q') : wpAny (model K.prog K.w) A (compareOp .In a b) Q' E s := by
 have hr := o.val rfl st (.bool r)
 apply g9 e ra
 intro x t hx e
 apply fZ e rb (λ _ _ => ak) ?_ ?_ (λ _ e _ => ak e) ?_ λ _ _ _ e _ _ _ => ak e
 ·intro y u hy e
  refine oN (P := λ x => wpAny (model K.prog K.w) A (compareOp .In (.str ⟨List.toArray x⟩ t) (.str ⟨y.toArray⟩ u)) Q' E s) e λ c e => PySem.P.in_str ?_
  rw [StrLaws.found_one, sF e]
  exact hr _
 ·intro l vs y e _ ht _ rl
  refine (Option.map_eq_some_iff.mp e).elim λ ls q => in_tuple_strs ht (vd l rl q.1) ?_
  rw [yw, q.2]
  exact hr _
 ·intro d ob kvs e _ hs ho hd hf
  refine in_strTab (TabAt.ofObj hs ho hd hf) ?_
  match x, e with
  | [], e => unfold li; rw [nw]; show Q' (.bool false) _; exact (Option.some.inj e).symm ▸ hr _
  | [c], e => unfold li; rw [nv, Option.isSome_map]; exact (Option.some.inj e).symm ▸ hr _
theorem Bp {va vb : AV} {a b : Value} {h : Heap} {r : Bool} {Q : Bool -> Prop} (e : (bif isNone vb then some (isNone va) else none) = some r) (ra : aM K h F φ va a) (rb : aM K h F φ vb b) (k1 : a = .none -> b = .none -> Q true) (k2 : a ≠ .none -> b = .none -> Q false) : Q r := by
 cases vb with
 | none =>
  have e := Option.some.inj e
  rw [← e]
  cases va with
  | none => exact k1 ra rb
  | bool _ => exact k2 (λ q => nomatch q ▸ (show a = _ from ra)) rb
  | int _ => exact k2 (λ q => ra.elim λ _ z => nomatch q ▸ z) rb
  | str _ => exact k2 (λ q => ra.elim λ _ z => nomatch q ▸ z.1) rb
  | tup _ => exact k2 (λ q => by cases ra with | mk _ _ z => exact nomatch q ▸ z) rb
  | loc _ => exact k2 (λ q => ra.elim λ _ z => z.elim λ _ z => nomatch q ▸ z.1) rb
  | inst _ _ => exact k2 (λ q => by cases ra with | mk _ _ _ _ _ z => exact nomatch q ▸ z) rb
  | esc => exact k2 (λ q => by cases ra with | mk _ _ _ z => exact nomatch q ▸ z) rb
  | script _ => exact k2 (λ q => by cases ra with | mk _ _ z => exact nomatch q ▸ z) rb
 | _ => exact ak e
theorem tD {op : vq} {va vb : AV} {a b : Value} {r : Bool} {Q' : Value -> Shared -> Prop} (hu : A.units + 100 < cLine) (e : dl op σ va vb = some r) (st : St K g F φ σ s.heap) (ra : aM K s.heap F φ va a)
  (rb : aM K s.heap F φ vb b) (o : Ok K g F φ s (.bool r, σ) Q') : wpAny (model K.prog K.w) A (compareOp (EG op) a b) Q' E s := by
 cases op with
 | eq => exact sEq hu e st ra rb o
 | ne => exact (Option.map_eq_some_iff.mp e).elim λ r' q => sNe hu q.1 st ra rb (q.2 ▸ o)
 | lt => apply dx e ra; intro x t e; apply dx e rb; exact λ y u e => PySem.P.lt_int (o.val (congrArg (Option.map AV.bool) e) st (.bool _) _)
 | le => apply dx e ra; intro x t e; apply dx e rb; exact λ y u e => PySem.P.le_int (o.val (congrArg (Option.map AV.bool) e) st (.bool _) _)
 | gt => apply dx e ra; intro x t e; apply dx e rb; exact λ y u e => PySem.P.gt_int (o.val (congrArg (Option.map AV.bool) e) st (.bool _) _)
 | ge => apply dx e ra; intro x t e; apply dx e rb; exact λ y u e => PySem.P.ge_int (o.val (congrArg (Option.map AV.bool) e) st (.bool _) _)
 | is_ =>
  refine Bp (Q := λ r => Ok K g F φ s (.bool r, σ) Q' -> _) e ra rb (λ h1 h2 o => ?_) (λ h1 h2 o => ?_) o
  ·rw [h1, h2]; exact is_none_none (o.val rfl st (.bool _) s.toks)
  ·rw [h2]; exact is_none_ne h1 (o.val rfl st (.bool _) s.toks)
 | in_ => exact sIn e st ra rb o
 | notIn =>
  apply g9 e ra; intro x t hx e
  refine oN (P := λ x => wpAny (model K.prog K.w) A (compareOp .NotIn (.str ⟨List.toArray x⟩ t) b) Q' E s) e λ c e => ?_
  apply g9 e rb; intro y u hy e
  refine PySem.P.notIn_str ?_
  rw [StrLaws.found_one, sF rfl, Option.some.inj e]
  exact o.val rfl st (.bool r) s.toks
end
theorem ue {α : Type} (l : List α) (lo hi : Option Int) : iq l lo hi = (l.drop (lo.elim 0 (eL l.length))).take (hi.elim l.length (eL l.length) - lo.elim 0 (eL l.length)) := List.drop_take
theorem vH {α : Type} (l : List α) (lo hi : Option Int) : (iq l lo hi).length ≤ l.length := by
 rw [iq, List.length_drop, List.length_take]; exact Nat.le_trans (Nat.sub_le _ _) (Nat.min_le_right _ _)
theorem BS (x : List Nat) : (Builtin.Str.strSliceIndices none none (-1) x.length).filterMap (x.toArray[·]?) = x.reverse := by rw [picked_rev, krv_range, List.filterMap_reverse]; exact congrArg List.reverse (krv_all x.toArray)
theorem wZ (n : Nat) (lo hi : Option Int) : Builtin.Str.strSliceIndices lo hi 1 n = (List.range (hi.elim n (eL n) - lo.elim 0 (eL n))).map (lo.elim 0 (eL n) + ·) := by
 have e : Builtin.Str.strSliceIndices lo hi 1 n = sliceRange ((lo.elim 0 (eL n) : Nat) : Int) ((hi.elim n (eL n) : Nat) : Int) 1 := by
  unfold Builtin.Str.strSliceIndices eL
  cases lo <;> cases hi <;> simp <;> omega
 rw [e, sliceRange_one]
theorem tM (x : List Nat) (lo hi : Option Int) : (Builtin.Str.strSliceIndices lo hi 1 x.length).filterMap (x.toArray[·]?) = iq x lo hi := by
 rw [wZ, ue]
 exact pick_run x.toArray _ _
theorem yb (x : List Nat) (lo hi : Option Int) (h : (Builtin.Str.strSliceIndices lo hi 1 x.length).length = x.length) : iq x lo hi = x := by
 rw [wZ, List.length_map, List.length_range] at h
 rw [ue, h]
 have hb : hi.elim x.length (eL x.length) ≤ x.length := by
  cases hi with
  | none => exact Nat.le_refl _
  | some i => simp only [Option.elim, eL]; exact (lnr [_] [_] 0x00B0D06EB01)
 by_cases h0 : x.length = 0
 ·rw [List.length_eq_zero_iff.mp h0]; simp
 ·have : lo.elim 0 (eL x.length) = 0 := by exact (lnr [_,_,_] [] 0x06020612691209102A293) h hb h0
  rw [this]; simp
section
variable {K : Kx} {g : Heap} {F : List Addr} {φ : aO} {σ : aa} {A : Around} {E : Value -> Shared -> Prop} {s : Shared}
theorem rn {v : Value} {o : Option Int} (p : IsPart v o) : ∃ q : Option (Int × Tok), q.map (·.1) = o ∧ partValue q = v := by
 cases p
 ·exact ⟨none, rfl, rfl⟩
 ·exact ⟨some (_, _), rfl, rfl⟩
theorem zb {x : List Nat} {t : Tok} {a : Addr} {vl vu vs : Value} {lo hi st : Option Int} {Q : Value -> Shared -> Prop} (pl : IsPart vl lo) (pu : IsPart vu hi) (ps : IsPart vs st) (h0 : st ≠ some 0)
  (hs : s.heap.IsSliceOf a vl vu vs) (y : List Nat) (hy : (Builtin.Str.strSliceIndices lo hi (st.getD 1) x.length).filterMap (x.toArray[·]?) = y) (hz : y.length ≤ sizeLine)
  (h : ∀ t', Q (.str ⟨y.toArray⟩ t') { s with toks := s.toks + 1 }) (h' : ∀ t', Q (.str ⟨y.toArray⟩ t') s) : wpAny (model K.prog K.w) A (getItem (.str ⟨x.toArray⟩ t) (.ref a)) Q E s := by
 obtain ⟨l, rfl, rfl⟩ := rn pl
 obtain ⟨u, rfl, rfl⟩ := rn pu
 obtain ⟨q, rfl, rfl⟩ := rn ps
 refine wpAny_getItem_str_slice (l := l) (u := u) (st := q) hs ?_ ?_
 ·cases q with
  | none => rfl
  | some q => exact beq_eq_false_iff_ne.mpr λ e => h0 (congrArg some e)
 ·unfold sliceMade
  by_cases hc : ((q.map (·.1)).getD 1 == 1 && (slicePicked ⟨x.toArray⟩ l u q).length == (Str.mk x.toArray).length) = true
  ·rw [if_pos hc]
   have hc := Bool.and_eq_true_iff.mp hc
   have h1 : ((q.map (·.1)).getD 1) = 1 := eq_of_beq hc.1
   have h2 : (Builtin.Str.strSliceIndices (l.map (·.1)) (u.map (·.1)) ((q.map (·.1)).getD 1) x.length).length = x.length := eq_of_beq hc.2
   rw [h1] at hy h2
   rw [tM, yb _ _ _ h2] at hy
   exact hy ▸ h' t
  ·rw [if_neg hc]
   exact ⟨Nat.le_trans (Nat.le_of_eq (congrArg List.length hy)) hz, (congrArg (λ l => Str.mk (List.toArray l)) hy).symm ▸ h _⟩
theorem ur {t sl : Addr} {items : Array Value} {b : Nat} {u : Tok} {Q : Value -> Shared -> Prop} (ht : IsTup s.heap t items) (hs : s.heap.IsSliceOf sl .none (.int b u) .none) (hb : b < items.size)
  (h : Q (.ref s.heap.objs.size) { s with heap := s.heap.push { cls := .type "tuple", data := .seq (items.toList.take b).toArray } })
  (hsz : items.size ≤ sizeLine) : wpAny (model K.prog K.w) A (getItem (.ref t) (.ref sl)) Q E s := by
 have hcut : sizeOk (.seq (items.toList.take b).toArray) := by
  show (items.toList.take b).toArray.size ≤ sizeLine
  rw [List.size_toArray, List.length_take, Array.length_toList]
  exact (lnr [_,_,_] [] 0x210D021093) hsz
 obtain ⟨os, hos, hcs, hds⟩ := id hs
 have hTs : s.TypeIs (.ref sl) "slice" := ⟨os, hos, hcs⟩
 unfold getItem
 refine wpAny_holding ?_
 refine wpAny_bind (wpAny_sequenceKey ht.typeIs (by decide) ?_)
 refine wpAny_bind (wpAny_callSpecial?_slot (name := Str.ofString "__getitem__") ht.typeIs slot_tuple_getitem
  (wpAny_call_entry slot_tuple_getitem ht.typeIs entry_tuple_getitem ?_ (args_tuple_getitem _ _)))
 show wpAny _ _ (Builtin.Tuple.tupleItemsOf (.ref t) >>= _) _ _ s
 refine wpAny_bind (tupleItemsOf_ ht ?_)
 refine wpAny_bind (wpAny_typeOf hTs ?_)
 rw [if_pos (by decide)]
 refine wpAny_bind ?_
 unfold Builtin.Slice.sliceApplied Builtin.Slice.sliceFields
 refine wpAny_bind (wpAny_bind (wpAny_field hos hds (x := .none) rfl (wpAny_bind (wpAny_field hos hds (x := .int b u) rfl (wpAny_bind (wpAny_field hos hds (x := .none) rfl (wpAny_pure ?_)))))))
 refine wpAny_bind (slicePart_none ?_)
 show wpAny _ _ (if ((1 : Int) == 0) = true then _ else _) _ _ s
 rw [if_neg (by decide)]
 refine wpAny_bind (slicePart_none (wpAny_bind (slicePart_int (wpAny_bind (wpAny_pure ?_)))))
 show wpAny _ _ (match Builtin.Slice.sliceAdjust none (some (b : Int)) 1 (items.size : Int) with | (lo, hi) => pure (lo, (1 : Int), Builtin.Slice.slicePlaces lo hi 1)) _ _ s
 have e1 : Builtin.Slice.sliceAdjust none (some (b : Int)) 1 (items.size : Int) = (0, (b : Int)) := by
  unfold Builtin.Slice.sliceAdjust
  have h1 : ¬ ((1 : Int) < 0) := by exact (lnr [] [] 0x0616460)
  have h2 : ¬ ((b : Int) < 0) := by exact (lnr [_] [] 0x060B461)
  simp only [h1, h2, if_false]
  congr 1
  exact (lnr [_,_] [] 0x0B1B0BD510192) hb
 have e2 : Builtin.Slice.slicePlaces 0 (b : Int) 1 = b := by
  unfold Builtin.Slice.slicePlaces
  have h1 : (1 : Int) > 0 := by exact (lnr [] [] 0x160640)
  simp only [h1, if_true, Int.ediv_one]
  split <;> (first | exact (lnr [_] [] 0x01616060BAA9B21) | exact (lnr [_] [] 0x006B20B064691) ‹_›)
 rw [e1]
 show wpAny _ _ (pure ((0 : Int), (1 : Int), Builtin.Slice.slicePlaces 0 (b : Int) 1)) _ _ s
 rw [e2]
 refine wpAny_pure ?_
 have hno : ¬ (((0 : Int) == 0 && (1 : Int) == 1 && b == items.size) = true) := by
  have : (b == items.size) = false := by rw [beq_eq_false_iff_ne]; exact (lnr [_,_] [] 0x102610192) hb
  rw [this]; simp
 show wpAny _ _ (if ((0 : Int) == 0 && (1 : Int) == 1 && b == items.size) = true then _ else _) _ _ s
 have e3 : ((List.range b).filterMap λ (k : Nat) => items[((0 : Int) + (k : Int) * 1).toNat]?).toArray = (items.toList.take b).toArray := by
  rw [← List.drop_zero (l := items.toList), ← pick_run items 0 b, List.filterMap_map]
  exact congrArg (λ f => (List.filterMap f (List.range b)).toArray) (funext λ k => congrArg (items[·]?) (by rw [Int.mul_one, Int.zero_add]; exact (Nat.zero_add k).symm))
 rw [if_neg hno, e3]
 first
  | exact wpAny_bind (m := Builtin.Tuple.tupleExact _) (wpAny_newObj_type (wpAny_pure ⟨_, rfl, wpAny_pure h⟩) hcut)
  | exact wpAny_bind (m := Builtin.Tuple.tupleExact _) (wpAny_newObj_type (wpAny_bind (wpAny_pure (wpAny_pure ⟨_, rfl, wpAny_pure h⟩))) hcut)
  | exact wpAny_bind (wpAny_bind (m := Builtin.Tuple.tupleExact _) (wpAny_newObj_type (wpAny_pure (wpAny_pure ⟨_, rfl, wpAny_pure h⟩)) hcut))
  | exact wpAny_bind (wpAny_bind (m := Builtin.Tuple.tupleExact _) (wpAny_newObj_type (wpAny_pure ⟨_, rfl, wpAny_pure h⟩) hcut))
theorem nZ {α : Type} {l : List α} {i : Int} {c : α} (e : fu l i = some c) : ∃ j, seqIndex? i l.length = some j ∧ l[j]? = some c ∧ -(l.length : Int) ≤ i ∧ i < l.length := by
 unfold fu at e
 unfold seqIndex?
 split at e
 ·have := (List.getElem?_eq_some_iff.mp e).1
  refine ⟨i.toNat, ?_, e, by exact (lnr [_] [_] 0x00BC3006391) ‹_›, by exact (lnr [_] [_] 0x0B0400B191) this⟩
  dsimp only
  rw [if_neg (show ¬ i < 0 by exact (lnr [] [_] 0x06046006391) ‹_›), if_pos]
  simp only [Bool.and_eq_true, decide_eq_true_eq]; exact (lnr [_] [_] 0x0B040063700B19006391) ‹_› this
 ·split at e
  ·have := (List.getElem?_eq_some_iff.mp e).1
   refine ⟨(i + l.length).toNat, ?_, e, by exact (lnr [_] [_] 0x00BC30B0906391) ‹_›, by exact (lnr [_] [_] 0x0B0400B09B191) this⟩
   dsimp only
   rw [if_pos (show i < 0 by exact (lnr [_] [_] 0x060400B09B191) this), if_pos]
   simp only [Bool.and_eq_true, decide_eq_true_eq]; exact (lnr [_] [_] 0x0B0B0940B09063700B09B190B0906391) ‹_› this
  ·cases e
theorem iO : (sizeLine : Int) < 2 ^ 63 := by decide
theorem D6 {k : Int} {n j : Nat} {G : Prop} (h : seqIndex? k n = some j) (h1 : k < 0 -> (k + n).toNat = j -> G) (h2 : ¬ k < 0 -> k.toNat = j -> G) : G := by
 unfold seqIndex? at h
 by_cases hk : k < 0
 ·rw [if_pos hk] at h; exact bG h λ _ e => h1 hk (Option.some.inj e)
 ·rw [if_neg hk] at h; exact bG h λ _ e => h2 hk (Option.some.inj e)
theorem GG {n : Nat} {k : Int} (z : n ≤ sizeLine) (h : k < n) : k < 2 ^ 63 := Int.lt_trans (Int.lt_of_lt_of_le h (Int.ofNat_le.mpr z)) iO
theorem CX {n : Nat} {k : Int} (z : n ≤ sizeLine) (h : -(n : Int) ≤ k) : -2 ^ 63 ≤ k := Int.le_trans (Int.neg_le_neg (Int.le_of_lt (Int.lt_of_le_of_lt (Int.ofNat_le.mpr z) iO))) h
theorem G8 {vo vi : AV} {o i : Value} {r : AV} {Q' : Value -> Shared -> Prop} {value slice : Expr} (e : jn σ vo vi = some r) (st : St K g F φ σ s.heap) (ro : aM K s.heap F φ vo o) (ri : aM K s.heap F φ vi i)
  (hs : subscripted slice false o i = operate [o, i] (getItem o i)) (ok : Ok K g F φ s (r, σ) Q') : wpAny (model K.prog K.w) A (subscriptTail value slice o i) Q' E s := by
 revert hs
 apply fZ e ro (λ _ _ => ak) ?_ ?_ ?_ ?_ λ _ _ _ e _ _ _ => ak e
 ·intro x t hz e
  apply dx e ri
  exact λ k u e hs => (Option.map_eq_some_iff.mp e).elim λ c q => (nZ q.1).elim λ j h =>
   tail_any (typeIs_str s _ _) PySem.F.slot_str_getitem.lookup (PySem.P.getItem_str (c := c) (Bool.or_eq_false_iff.mpr ⟨decide_eq_false (Int.not_lt.mpr (CX hz h.2.2.1)), decide_eq_false (Int.not_le.mpr (GG hz h.2.2.2))⟩)
    ((congrArg (Option.bind · _) h.1).trans (List.getElem?_toArray.trans h.2.1)) (ok.val (congrArg some q.2) st (.str [c] _ (show 1 ≤ sizeLine by decide)) _)) hs
 ·intro l vs a e hz ht hn rl
  apply dx e ri
  exact λ k u e hs => (nZ e).elim λ j h => (rl.get h.2.1).elim λ v hv =>
   tail_any (IsTup.typeIs ht) slot_tuple_getitem.lookup (PyProof.Rows.getItem_tuple ht (CX hz h.2.2.1) (GG hz h.2.2.2) (j := j) (rl.size.symm ▸ h.1) (Array.getElem?_toList ▸ hv.1) (ok.val rfl st hv.2 s.toks)) hs
 ·intro n e ro
  refine dk e λ l hn e => ?_
  apply st.list hn ro
  intro x vs _ lx rl hz
  apply dx e ri
  exact λ k u e hs => (nZ e).elim λ j h => (rl.get h.2.1).elim λ v hv => tail_any lx.typeIs slot_list_getitem.lookup (D6 h.1
   (λ hk q => wpAny_getItem_list_neg lx hk (rl.size.symm ▸ h.2.2.1) (CX hz h.2.2.1) (rl.size.symm ▸ q.symm ▸ Array.getElem?_toList ▸ hv.1) (ok.val rfl st hv.2 s.toks))
   λ hk q => wpAny_getItem_list lx (Int.not_lt.mp hk) (GG hz h.2.2.2) (q.symm ▸ Array.getElem?_toList ▸ hv.1) (ok.val rfl st hv.2 s.toks)) hs
 ·intro d ob kvs e hn hsy ho hd hf
  apply g9 e ri
  intro x t hx e
  refine oN (P := λ x => subscripted slice false (.ref d) (.str ⟨List.toArray x⟩ t) = operate [.ref d, .str ⟨List.toArray x⟩ t] (getItem (.ref d) (.str ⟨List.toArray x⟩ t)) -> wpAny (model K.prog K.w) A (subscriptTail value slice (.ref d) (.str ⟨List.toArray x⟩ t)) Q' E s) e λ c e hs => ?_
  refine (Option.map_eq_some_iff.mp e).elim λ n q => ?_
  have hl : Spec.lookup (PyData.str ⟨#[c]⟩) li = some (.int n) := (nv c bR).trans (congrArg (Option.map PyData.int) q.1)
  refine (hf.of_lookup PyProof.V.same_str hl).elim λ v hv => ?_
  obtain ⟨lo, kvs', hd', _⟩ := TabAt.ofObj hsy ho hd hf
  have hdo : s.heap.DictOf (strKind K.prog K.w) _ _ := Heap.dictOf_iff.mpr ⟨_, ho, hd⟩
  refine tail_any hdo.typeIs slot_dict_getitem.lookup (wpAny_getItem_of (strKind_is K.prog K.w _ _) hdo.mapOf hv.1 ?_) hs
  exact (PyProof.V.Flat.int_inv hv.2).elim λ t z => z ▸ ok.val (congrArg some q.2) st (.int _ _) _
theorem xW {h : Heap} {vs : List Value} {l : List Int} (x : IntsAre vs l) : ao K h F φ (l.map .int) vs := by
 induction x with
 | nil => exact .nil
 | cons n t _ ih => exact .cons (.int n t) ih
theorem Ok.pushed {r : AV × aa} {Q' : Value -> Shared -> Prop} (ok : Ok K g F φ s r Q') (o : Obj) : Ok K g F φ { s with heap := s.heap.push o } r Q' := λ φ' h' t' v a b c => ok φ' h' t' v a ((an.pushed φ s.heap o).trans b) c
theorem qf {l : List AV} {x y : Addr} {vs : Array Value} {vl vu : Value} {lo hi : Option Int} {r : AV × aa} {Q' : Value -> Shared -> Prop} {value : Expr} {lower upper : Option Expr} {p : Pos} (e : some (AV.loc σ.length, σ ++ [.list (iq l lo hi)]) = some r)
  (st : St K g F φ σ s.heap) (lx : s.heap.IsList x vs) (rl : ao K s.heap F φ l vs.toList) (hz : l.length ≤ sizeLine) (hs : s.heap.IsSliceOf y vl vu .none) (pl : IsPart vl lo) (pu : IsPart vu hi) (ok : Ok K g F φ s r Q') :
  wpAny (model K.prog K.w) A (subscriptTail value (.Slice lower upper none p) (.ref x) (.ref y)) Q' E s :=
 tail_any (ops := [.ref y, .ref x]) lx.typeIs slot_list_getitem.lookup (wpAny_getItem_list_slice lx hs pl pu .none (λ q => nomatch q)
  (by rw [slicePick_plain, rl.size]; exact ok.list e st (Nat.le_trans (vH l lo hi) hz) (ue l lo hi ▸ (rl.drop _).take _) s.toks) (rl.size.symm ▸ hz)) rfl
theorem xO {v : Value} (p : IsPart v none) : v = .none := by cases p; rfl
theorem xP {v : Value} {k : Int} (p : IsPart v (some k)) : ∃ u, v = .int k u := by cases p; exact ⟨_, rfl⟩
theorem B9 {lo hi : Option Int} {β : Type} {f : Int -> Option β} {r : β} {P : Option Int -> Option Int -> Prop} (e : lo.elim (hi.elim none f) dp = some r) (k : ∀ k, f k = some r -> P none (some k)) : P lo hi := by
 cases lo with
 | some _ => exact ak e
 | none => cases hi with
  | none => exact ak e
  | some n => exact k n e
theorem z8 {l : List AV} {a y : Addr} {vs : Array Value} {vl vu : Value} {lo hi : Option Int} {r : AV × aa} {Q' : Value -> Shared -> Prop} {value : Expr} {lower upper : Option Expr} {p : Pos}
  (e : (lo.elim (hi.elim none λ k => if 0 ≤ k ∧ k < l.length then some (.tup (l.take k.toNat), σ) else none) dp) = some r)
  (st : St K g F φ σ s.heap) (ht : s.heap.IsTuple a vs) (rl : ao K s.heap F φ l vs.toList) (hz : l.length ≤ sizeLine) (hs : s.heap.IsSliceOf y vl vu .none) (pl : IsPart vl lo) (pu : IsPart vu hi) (ok : Ok K g F φ s r Q') :
  wpAny (model K.prog K.w) A (subscriptTail value (.Slice lower upper none p) (.ref a) (.ref y)) Q' E s := by
 refine B9 (P := λ lo hi => IsPart vl lo -> IsPart vu hi -> _) e (λ k e pl pu => bG e λ hk e => ?_) pl pu
 refine (xP pu).elim λ u q => ?_
 rw [xO pl, q, (Int.toNat_of_nonneg hk.1).symm] at hs
 have ok : Ok K g F φ s (.tup (l.take k.toNat), σ) Q' := (Option.some.inj e) ▸ ok
 exact tail_any (ops := [.ref y, .ref a]) (IsTup.typeIs ht) slot_tuple_getitem.lookup (ur ht hs (rl.size.symm ▸ Int.ofNat_lt.mp ((Int.toNat_of_nonneg hk.1).symm ▸ hk.2))
  (ok φ _ s.toks _ (st.pushed _) (an.pushed φ _ _) (St.newTup st (List.length_take (i := k.toNat) (l := l) ▸ Nat.le_trans (Nat.min_le_right _ _) hz) (rl.take _))) (rl.size.symm ▸ hz)) rfl
theorem Ej {vo : AV} {o vl vu : Value} {lo hi : Option Int} {r : AV × aa} {Q' : Value -> Shared -> Prop} {value : Expr} {lower upper : Option Expr} {p : Pos} (hscr : ∀ a vs, K.scr = some (a, vs) -> g.IsList a vs.toArray) (e : mN σ vo lo hi = some r) (st : St K g F φ σ s.heap)
  (ro : aM K s.heap F φ vo o) (pl : IsPart vl lo) (pu : IsPart vu hi) (ok : Ok K g F φ s r Q') :
  wpAny (model K.prog K.w) A (subscriptTail value (.Slice lower upper none p) o (.ref s.heap.objs.size)) Q' E { s with heap := s.heap.push { cls := .type "slice", data := .fields #[vl, vu, .none] } } := by
 have hs := Heap.IsSliceOf.new s.heap vl vu .none
 have st' := st.pushed { cls := .type "slice", data := .fields #[vl, vu, .none] }
 have ro' := o0 ro { cls := .type "slice", data := .fields #[vl, vu, .none] }
 have ok' := ok.pushed { cls := .type "slice", data := .fields #[vl, vu, .none] }
 generalize hy : s.heap.push { cls := .type "slice", data := .fields #[vl, vu, .none] } = h at hs st' ro' ok' ⊢
 generalize s.heap.objs.size = y at hs ⊢
 apply fZ e ro' (λ _ _ => ak) ?_ ?_ ?_ (λ _ _ _ e _ _ _ _ _ => ak e) ?_
 ·intro x t hz e
  have z := Nat.le_trans (vH x lo hi) hz
  exact tail_any (ops := [.ref y, .str ⟨x.toArray⟩ t]) (typeIs_str _ _ _) PySem.F.slot_str_getitem.lookup (zb pl pu .none (λ q => nomatch q) hs (iq x lo hi) (tM x lo hi) z (λ t' => ok'.pure e st' (.str _ _ z) _) λ t' => ok'.pure e st' (.str _ _ z) s.toks) rfl
 ·exact λ l vs a e hz ht hn rl => z8 (s := { s with heap := h }) e st' ht rl hz hs pl pu ok'
 ·intro n e ro
  refine dk e λ l hn e => ?_
  apply st'.list hn ro
  exact λ x vs _ lx rl hz => qf (s := { s with heap := h }) e st' lx rl hz hs pl pu ok'
 ·exact λ l a vs e hs0 hints hz => (hscr a vs hs0).elim λ ob q => qf (s := { s with heap := h }) (vs := vs.toArray) e st' ⟨ob, st'.keep _ _ q.1, q.2⟩ (xW hints) (Nat.le_trans (Nat.le_of_eq (List.length_map _)) hz) hs pl pu ok'
theorem Ha {vo : AV} {o vs : Value} {r : AV × aa} {Q' : Value -> Shared -> Prop} {value step : Expr} {p : Pos} (e : wU σ vo = some r) (st : St K g F φ σ s.heap)
  (ro : aM K s.heap F φ vo o) (ps : IsPart vs (some (-1))) (ok : Ok K g F φ s r Q') :
  wpAny (model K.prog K.w) A (subscriptTail value (.Slice none none (some step) p) o (.ref s.heap.objs.size)) Q' E { s with heap := s.heap.push { cls := .type "slice", data := .fields #[.none, .none, vs] } } := by
 have hs := Heap.IsSliceOf.new s.heap .none .none vs
 have st' := st.pushed { cls := .type "slice", data := .fields #[.none, .none, vs] }
 have ro' := o0 ro { cls := .type "slice", data := .fields #[.none, .none, vs] }
 have ok' := ok.pushed { cls := .type "slice", data := .fields #[.none, .none, vs] }
 generalize s.heap.push { cls := .type "slice", data := .fields #[.none, .none, vs] } = h at hs st' ro' ok' ⊢
 generalize s.heap.objs.size = y at hs ⊢
 apply fZ e ro' (λ _ _ => ak) ?_ (λ _ _ _ e _ _ _ _ => ak e) ?_ (λ _ _ _ e _ _ _ _ _ => ak e) λ _ _ _ e _ _ _ => ak e
 ·intro x t hz e
  have hz : x.reverse.length ≤ sizeLine := List.length_reverse.symm ▸ hz
  exact tail_any (ops := [.str ⟨x.toArray⟩ t, .ref y]) (typeIs_str _ _ _) PySem.F.slot_str_getitem.lookup (zb .none .none ps (λ q => nomatch q) hs x.reverse (BS x) hz (λ t' => ok'.pure e st' (.str _ _ hz) _)
   λ t' => ok'.pure e st' (.str _ _ hz) s.toks) rfl
 ·intro n e ro
  refine dk e λ l hn e => ?_
  apply st'.list hn ro
  intro x ws _ lx rl hz
  refine tail_any (ops := [.ref x, .ref y]) lx.typeIs slot_list_getitem.lookup (wpAny_getItem_list_slice lx hs .none .none ps (λ q => nomatch q) ?_ (rl.size.symm ▸ hz)) rfl
  rw [krv_pick]
  exact ok'.list e st' (List.length_reverse.symm ▸ hz) rl.reverse s.toks
end
section
variable {K : Kx} {g : Heap} {F : List Addr} {φ : aO} {σ : aa} {A : Around} {E : Value -> Shared -> Prop} {s : Shared}
noncomputable def vy : Bi -> Value
 | .ord => .builtin "ord" | .len => .builtin "len" | .chr => .builtin "chr" | .sum => .builtin "sum" | .str => .type "str" | .int => .type "int"
theorem sN {h : Heap} (l : List AV) : ∀ {vs : List Value} {is : List Int}, ao K h F φ l vs -> iz l = some is -> ∃ xs : List (Int × Tok), vs = xs.map (λ p => Value.int p.1 p.2) ∧ xs.map (·.1) = is := by
 induction l with
 | nil => exact λ r e => ⟨[], r, Option.some.inj e⟩
 | cons v l ih =>
  intro vs is r e
  cases r with | mk w ws e' a r =>
  rw [e']
  apply dx e a
  exact λ i t e => (Option.map_eq_some_iff.mp e).elim λ is q => (ih r q.1).elim λ xs x => ⟨(i, t) :: xs, congrArg (Value.int i t :: ·) x.1, (congrArg (i :: ·) x.2).trans q.2⟩
theorem uf : ∀ n : Nat, n ≤ 9 -> (n : Int).natAbs.log2 < 1920 := by decide +kernel
theorem ug : ∀ n : Nat, n ≤ 9 -> Str.ofString (toString (n : Int)) = ⟨#[48 + n]⟩ := by decide +kernel
theorem uD {n : Nat} (z : n ≤ sizeLine) : ¬ (n : Int) ≥ 2 ^ 63 := Int.not_le.mpr (Int.lt_of_le_of_lt (Int.ofNat_le.mpr z) iO)
theorem sBi {b : Bi} {va : AV} {a : Value} {r : AV} {Q' : Value -> Shared -> Prop} (hA : A.handled = none) (e : l9 b σ va = some r) (st : St K g F φ σ s.heap) (ra : aM K s.heap F φ va a) (o : Ok K g F φ s (r, σ) Q') :
  wpAny (model K.prog K.w) A (call (vy b) [a]) Q' E s := by
 cases b with
 | ord =>
  apply g9 e ra; intro x t hx e
  exact oN (P := λ x => wpAny (model K.prog K.w) A (call (vy .ord) [.str ⟨List.toArray x⟩ t]) Q' E s) e λ c e => PySem.P.ord_of_char (o.val e st (.int _ _) _)
 | len =>
  apply fZ e ra (λ _ _ => ak) ?_ ?_ ?_ (λ _ _ _ e _ _ _ _ _ => ak e) λ _ _ _ e _ _ _ => ak e
  ·exact λ x t hz e => PySem.P.len_str (uD hz) (o.val e st (.int _ _) _)
  ·exact λ l vs y e hz ht hn rl => PyProof.Rows.len_tuple ht (Int.not_le.mp (uD (rl.size.symm ▸ hz))) (rl.size.symm ▸ o.val e st (.int _ _) _)
  ·intro n e ra
   refine dk e λ l hn e => ?_
   apply st.list hn ra
   exact λ x vs _ lx rl hz => Calls.call_len_list lx (Int.not_le.mp (uD (rl.size.symm ▸ hz))) (rl.size.symm ▸ o.val e st (.int _ _) _)
 | str =>
  apply dx e ra; intro i t e
  refine bG e λ hi e => ?_
  have h9 : i.toNat ≤ 9 := Int.toNat_le.mpr hi.2
  refine PySem.P.str_of_int ((Int.toNat_of_nonneg hi.1) ▸ uf _ h9) ?_
  rw [show Str.ofString (toString i) = ⟨#[48 + i.toNat]⟩ from (congrArg (λ i : Int => Str.ofString (toString i)) (Int.toNat_of_nonneg hi.1).symm).trans (ug _ h9)]
  exact o.val e st (.str [48 + i.toNat] _ (show 1 ≤ sizeLine by decide)) _
 | chr => apply dx e ra; exact λ i t e => bG e λ hi e => chr_of_range hi.1 (Int.le_of_lt_add_one hi.2) (o.val e st (.str [_] _ (show 1 ≤ sizeLine by decide)) _)
 | sum =>
  apply repL st e ra
  intro n l x vs hn ex lx rl hz e
  refine (Option.map_eq_some_iff.mp e).elim λ is q => (sN l rl q.1).elim λ xs h => ?_
  have hl : s.heap.IsList x (intItems xs.toArray) := (show vs = intItems xs.toArray from Array.ext' (h.1.trans (Array.toList_map (xs := xs.toArray)).symm)) ▸ lx
  refine sum_intListG hA hl λ h' tk t' hk => ?_
  have o : Ok K g F φ s (.int is.sum, σ) Q' := q.2 ▸ o
  have e3 : preSum (numAt xs.toArray) xs.toArray.size = is.sum := by
   rw [preSum_eq, List.take_of_length_le (by simp)]
   rw [← h.2]
  rw [e3]
  exact o φ h' tk _ (St.keeps K g st hk) (an.kept φ hk) (.int _ _)
 | int => apply dx e ra; exact λ i t e => call_int_int (o.val e st (.int _ _) s.toks)
noncomputable def BZ : SM -> String
 | .find => "str.find" | .join => "str.join" | .lower => "str.lower" | .isalpha => "str.isalpha" | .isdigit => "str.isdigit"
theorem w8 : ∀ c, c < 128 -> Unicode.isAlpha c = isAl c := by decide +kernel
theorem xn : ∀ c, c < 128 -> Unicode.isDigit c = isDi c := by decide +kernel
theorem By : ∀ c, c < 128 -> lo1 c = oh c := by decide +kernel
theorem vv {l : List Nat} {p q : Nat -> Bool} (h : l.all (· < 128) = true) (e : ∀ c, c < 128 -> p c = q c) : l.all p = l.all q := by
 induction l with
 | nil => rfl
 | cons c l ih =>
  have h := Bool.and_eq_true_iff.mp h
  rw [List.all_cons, List.all_cons, ih h.2, e c (of_decide_eq_true h.1)]
theorem CF {l : List Nat} (h : l.all (· < 128) = true) (c : Nat) (hc : c ∈ l) : c < 128 := of_decide_eq_true (List.all_eq_true.mp h c hc)
theorem sL (x : List Nat) : decide ((Str.mk x.toArray).length > 0) = !x.isEmpty := by cases x <;> rfl
theorem vt (x : List Nat) (p : Nat -> Bool) : (Str.mk x.toArray).cps.all p = x.all p := by rw [← Array.all_toList]
theorem Hb {m : SM} {va : AV} {a : Value} {r : AV} {Q' : Value -> Shared -> Prop} (e : jo m va = some r) (st : St K g F φ σ s.heap) (ra : aM K s.heap F φ va a) (o : Ok K g F φ s (r, σ) Q') :
  wpAny (model K.prog K.w) A (call (.builtin (BZ m)) [a]) Q' E s := by
 cases m with
 | find => exact ak e
 | join => exact ak e
 | lower =>
  apply g9 e ra; intro x t hz e
  refine bG e λ hx e => ?_
  have el : Txt.lower ⟨x.toArray⟩ = ⟨(x.map oh).toArray⟩ := by
   rw [lower_ascii (CF hx), List.map_toArray]
   exact congrArg (λ l => Str.mk (List.toArray l)) (List.map_congr_left λ c hc => By c (CF hx c hc))
  have z : (x.map oh).length ≤ sizeLine := Nat.le_trans (Nat.le_of_eq (List.length_map _)) hz
  refine PySem.SC.lower (el ▸ decide_eq_false (Nat.not_lt.mpr (Nat.le_trans z (by decide)))) ?_
  rw [el]
  exact o.val e st (.str _ _ z) _
 | isalpha =>
  apply g9 e ra; intro x t hz e
  refine bG e λ hx e => PySem.SC.isalpha ?_
  rw [Txt.isalpha, sL, vt, vv hx w8]
  exact o.val e st (.bool _) s.toks
 | isdigit =>
  apply g9 e ra; intro x t hz e
  refine bG e λ hx e => PySem.SC.isdigit ?_
  rw [Txt.isdigit, sL, vt, vv hx xn]
  exact o.val e st (.bool _) s.toks
theorem Be (x : List Nat) (c : Nat) : Txt.find ⟨x.toArray⟩ ⟨#[c]⟩ = nB x c := by
 unfold Txt.find nB
 rcases StrLaws.occ_head ⟨x.toArray⟩ ⟨#[c]⟩ 1 (Nat.le_refl _) with ⟨h0, hn⟩ | ⟨i, r, h0, ha, hk⟩
 ·have e : x.findIdx? (· == c) = none := List.findIdx?_eq_none_iff.mpr λ d hd => beq_eq_false_iff_ne.mpr λ q => (List.mem_iff_getElem?.mp hd).elim λ i hi => hn i ((StrLaws.subAt_one _ _ _).mpr (hi.trans (congrArg some q)))
  rw [h0, e]; rfl
 ·have hl := List.getElem?_eq_some_iff.mp ((StrLaws.subAt_one _ _ _).mp ha)
  have e : x.findIdx? (· == c) = some i := List.findIdx?_eq_some_iff_getElem.mpr ⟨hl.1, beq_iff_eq.mpr hl.2, λ j hj q => hk j hj ((StrLaws.subAt_one _ _ _).mpr (List.getElem?_eq_some_iff.mpr ⟨Nat.lt_trans hj hl.1, eq_of_beq q⟩))⟩
  rw [h0, e]; rfl
theorem uB (sep x : List Nat) (ls : List (List Nat)) (h : ls ≠ []) : bV sep (x :: ls) = x ++ sep ++ bV sep ls := by
 cases ls with
 | nil => exact absurd rfl h
 | cons y ls => rfl
theorem zj (sep : List Nat) (ls : List (List Nat)) : Str.join ⟨sep.toArray⟩ (ls.map λ x => ⟨x.toArray⟩) = ⟨(bV sep ls).toArray⟩ := by
 induction ls with
 | nil => rfl
 | cons x ls ih =>
  cases ls with
  | nil => rfl
  | cons y ls =>
   show Str.mk x.toArray ++ Str.mk sep.toArray ++ Str.join ⟨sep.toArray⟩ ((y :: ls).map λ x => ⟨x.toArray⟩) = _
   rw [ih, rD, rD]; rfl
theorem xB (sep : List Nat) (ls : List (List Nat)) : (bV sep ls).length ≤ (ls.map List.length).sum + ls.length * sep.length := by
 induction ls with
 | nil => exact Nat.zero_le _
 | cons x ls ih =>
  cases ls with
  | nil => exact Nat.le_trans (Nat.le_add_right _ 0) (Nat.le_add_right _ _)
  | cons y ls =>
   rw [uB _ _ _ (List.cons_ne_nil _ _), List.length_append, List.length_append, List.map_cons, List.sum_cons, List.length_cons, Nat.succ_mul]
   generalize (bV sep (y :: ls)).length = a at ih
   generalize (List.map List.length (y :: ls)).sum = b at ih
   generalize (y :: ls).length * sep.length = c at ih
   exact (lnr [_,_,_,_,_] [] 0x14930992109904392095) ih
theorem zk (sep : List Nat) (ls : List (List Nat)) : ∀ a : Nat, (ls.map λ x => Str.mk x.toArray).foldl (λ n x => n + x.length + (Str.mk sep.toArray).length) a = a + (ls.map List.length).sum + ls.length * sep.length := by
 induction ls with
 | nil => exact λ a => by rw [List.length_nil, Nat.zero_mul]; rfl
 | cons x ls ih =>
  intro a
  rw [List.map_cons, List.foldl_cons, ih, List.map_cons, List.sum_cons, List.length_cons, Nat.succ_mul]
  show a + x.length + sep.length + _ + _ = _
  generalize (List.map List.length ls).sum = b
  generalize ls.length * sep.length = c
  exact (lnr [_,_,_,_,_] [] 0x24931909943210999925)
theorem u9 {h : Heap} (l : List AV) : ∀ {vs : List Value} {ls : List (List Nat)}, ao K h F φ l vs -> o7 l = some ls -> ∃ xs : List (Str × Tok), vs = strValues xs ∧ xs.map (·.1) = ls.map λ x => ⟨x.toArray⟩ := by
 induction l with
 | nil => exact λ r e => ⟨[], r, congrArg (List.map λ x => Str.mk (List.toArray x)) (Option.some.inj e)⟩
 | cons v l ih =>
  intro vs ls r e
  cases r with | mk w ws e' a r =>
  rw [e']
  apply g9 e a
  exact λ x t _ e => (Option.map_eq_some_iff.mp e).elim λ is q => (ih r q.1).elim λ xs h => ⟨(⟨x.toArray⟩, t) :: xs, congrArg (Value.str ⟨x.toArray⟩ t :: ·) h.1, q.2 ▸ congrArg (Str.mk x.toArray :: ·) h.2⟩
theorem Hc {m : SM} {vo va : AV} {b a : Value} {r : AV} {Q' : Value -> Shared -> Prop} (e : qg m σ vo va = some r) (st : St K g F φ σ s.heap) (rb : aM K s.heap F φ vo b) (ra : aM K s.heap F φ va a)
  (o : Ok K g F φ s (r, σ) Q') : wpAny (model K.prog K.w) A (call (.builtin (BZ m)) [b, a]) Q' E s := by
 cases m with
 | find =>
  apply g9 e rb; intro x t hx e
  apply g9 e ra; intro y u hy e
  refine oN (P := λ y => wpAny (model K.prog K.w) A (call (.builtin (BZ .find)) [.str ⟨x.toArray⟩ t, .str ⟨List.toArray y⟩ u]) Q' E s) e λ c e => PySem.SC.find ?_
  rw [Be]
  exact o.val e st (.int _ _) _
 | join =>
  apply g9 e rb; intro sep t hx e
  apply repL st e ra; intro n l x vs hn ex lx rl hz' e
  refine (Option.bind_eq_some_iff.mp e).elim λ ls q => bG q.2 λ hz e => (u9 l rl q.1).elim λ xs h => ?_
  refine PySem.SC.join (l := xs) (texts := ls.map λ x => ⟨x.toArray⟩) (h.1 ▸ lx) h.2 ?_ λ t' k => ?_
  ·unfold JoinOk
   rw [List.foldl_toArray, zk, Nat.zero_add]
   exact (Bool.not_eq_true' _).mpr (decide_eq_false (Nat.not_lt.mpr (Nat.le_trans hz ej)))
  ·rw [show Txt.join ⟨sep.toArray⟩ (ls.map λ x => ⟨x.toArray⟩) = ⟨(bV sep ls).toArray⟩ from (StrLaws.glued_eq_join _ _).trans (zj sep ls)]
   exact o.val e st (.str _ _ (Nat.le_trans (xB sep ls) (Nat.le_trans hz ej))) _
 | lower => exact ak e
 | isalpha => exact ak e
 | isdigit => exact ak e
end
noncomputable def gJ : yh -> Str
 | .told => Str.ofString "told" | .is_backward => Str.ofString "is_backward" | .place => Str.ofString "place" | .is_done => Str.ofString "is_done" | .passed => Str.ofString "passed"
 | .name_end => Str.ofString "name_end" | .number => Str.ofString "number" | .constant => Str.ofString "constant" | .quote => Str.ofString "quote" | .register => Str.ofString "register"
 | .mark => Str.ofString "mark" | .token => Str.ofString "token" | .peek => Str.ofString "peek" | .take => Str.ofString "take" | .is_end => Str.ofString "is_end" | .skip_name => Str.ofString "skip_name"
noncomputable def j5 : Fn -> Sum Str (dL × Str)
 | .digit_of => .inl (Str.ofString "digit_of") | .is_letter => .inl (Str.ofString "is_letter") | .begins_name => .inl (Str.ofString "begins_name") | .is_name_sign => .inl (Str.ofString "is_name_sign")
 | .read_escape => .inl (Str.ofString "read_escape") | .read_char => .inl (Str.ofString "read_char") | .text_end => .inl (Str.ofString "text_end") | .quoted => .inl (Str.ofString "quoted")
 | .line_end => .inl (Str.ofString "line_end") | .piece_end => .inl (Str.ofString "piece_end") | .split_lines => .inl (Str.ofString "split_lines") | .number_worth => .inl (Str.ofString "number_worth")
 | .local_worth => .inl (Str.ofString "local_worth") | .line_tokens => .inl (Str.ofString "line_tokens") | .show_tokens => .inl (Str.ofString "show_tokens")
 | .l_ESCAPES => .inl (Str.ofString "_law_ESCAPES") | .l_figure => .inl (Str.ofString "_law_figure") | .l_escape => .inl (Str.ofString "_law_escape") | .l_constant => .inl (Str.ofString "_law_constant")
 | .l_pieces => .inl (Str.ofString "_law_pieces") | .l_number => .inl (Str.ofString "_law_number") | .l_quote => .inl (Str.ofString "_law_quote") | .l_token => .inl (Str.ofString "_law_token")
 | .l_tokens => .inl (Str.ofString "_law_tokens") | .l_heard => .inl (Str.ofString "_law_heard") | .l_walked => .inl (Str.ofString "_law_walked")
 | .place_init => .inr (.place, Str.ofString "__init__") | .place_told => .inr (.place, Str.ofString "told") | .token_init => .inr (.token, Str.ofString "__init__")
 | .token_back => .inr (.token, Str.ofString "is_backward") | .token_told => .inr (.token, Str.ofString "told") | .reader_init => .inr (.reader, Str.ofString "__init__")
 | .r_place => .inr (.reader, Str.ofString "place") | .r_is_done => .inr (.reader, Str.ofString "is_done") | .r_passed => .inr (.reader, Str.ofString "passed") | .r_name_end => .inr (.reader, Str.ofString "name_end")
 | .r_number => .inr (.reader, Str.ofString "number") | .r_constant => .inr (.reader, Str.ofString "constant") | .r_quote => .inr (.reader, Str.ofString "quote") | .r_register => .inr (.reader, Str.ofString "register")
 | .r_mark => .inr (.reader, Str.ofString "mark") | .r_token => .inr (.reader, Str.ofString "token") | .cursor_init => .inr (.cursor, Str.ofString "__init__") | .c_peek => .inr (.cursor, Str.ofString "peek")
 | .c_take => .inr (.cursor, Str.ofString "take") | .c_is_end => .inr (.cursor, Str.ofString "is_end") | .c_skip_name => .inr (.cursor, Str.ofString "skip_name")
section
variable (K : Kx)
noncomputable def bg (f : Fn) : Option Addr := Sum.casesOn (motive := λ _ => Option Addr) (j5 f) (λ x => oY (nsIn K.frag mainGlobals x)) λ p => (bS K p.1).bind λ C => oY (findIn K.frag (.ref C) p.2)
noncomputable def Ck (c : dL) (f : hJ) : Bool := match bS K c with
 | none => false
 | some C => plainGet K.frag C (aC f) && hasDictIn K.frag C && (match findIn K.frag (.ref C) (aC f) with | some a => noGet K.frag a | none => false) &&
   (findIn K.frag (.ref C) "__setattr__" == some (some (.builtin "object.__setattr__"))) && plainOver K.frag C && (takerIn K.frag C (aC f) == some none)
noncomputable def Cw (c : dL) (m : yh) (f : Fn) : Bool := match bS K c with
 | none => false
 | some C => plainGet K.frag C (gJ m) && match bg K f with
  | some a => (findIn K.frag (.ref C) (gJ m) == some (some (.ref a))) && isFn K.frag (.ref a) && keepIn K.frag (.ref a)
  | none => false
noncomputable def qq : List (dL × hJ) := [(.place, .line), (.place, .column), (.token, .kind), (.token, .text), (.token, .worth), (.token, .pat), (.reader, .text), (.reader, .line), (.reader, .pat), (.cursor, .tokens), (.cursor, .pat)]
noncomputable def mq : List (dL × yh) := [(.place, .told), (.token, .told), (.token, .is_backward), (.reader, .place), (.reader, .is_done), (.reader, .passed), (.reader, .name_end), (.reader, .number), (.reader, .constant),
 (.reader, .quote), (.reader, .register), (.reader, .mark), (.reader, .token), (.cursor, .peek), (.cursor, .take), (.cursor, .is_end), (.cursor, .skip_name)]
noncomputable def gE : Bool := (qq.all λ p => Ck K p.1 p.2) && mq.all λ p => match zB p.1 p.2 with | some f => Cw K p.1 p.2 f | none => false
end
theorem Bg (c : dL) (f : hJ) : (j4 c f).isSome = true -> (c, f) ∈ qq := by cases c <;> cases f <;> decide +kernel
theorem BD (c : dL) (m : yh) : (zB c m).isSome = true -> (c, m) ∈ mq := by cases c <;> cases m <;> decide +kernel
theorem Bh {c : dL} {f : hJ} {i : Nat} (h : j4 c f = some i) : (c, f) ∈ qq := Bg c f (by rw [h]; rfl)
theorem wF {c : dL} {m : yh} {f : Fn} (h : zB c m = some f) : (c, m) ∈ mq := BD c m (by rw [h]; rfl)
theorem nE : ∀ f g : hJ, aC f = aC g -> f = g := by
 intro f g
 cases f <;> cases g <;> first | (intro _; rfl) | (intro h; exact absurd h (by decide +kernel))
theorem sD : ∀ (f : hJ) (m : yh), aC f ≠ gJ m := by
 intro f m
 cases f <;> cases m <;> decide +kernel
theorem xz (x : Str) (t : Tok) (y : Str) : (Value.str x t).isStr y = (x == y) := rfl
theorem jE {f₀ f : hJ} {fs : List hJ} {i : Nat} (h : (f₀ :: fs).findIdx? (· == f) = some i) : (f₀ = f ∧ i = 0) ∨ f₀ ≠ f ∧ ∃ j, fs.findIdx? (· == f) = some j ∧ i = j + 1 := by
 rw [List.findIdx?_cons] at h
 by_cases q : f₀ = f
 ·rw [if_pos (beq_iff_eq.mpr q)] at h; exact .inl ⟨q, (Option.some.inj h).symm⟩
 ·rw [if_neg λ z => q (eq_of_beq z)] at h
  exact .inr ⟨q, (Option.map_eq_some_iff.mp h).imp λ j z => ⟨z.1, z.2.symm⟩⟩
theorem xt {p : DictEntry -> Bool} {e₀ : DictEntry} {es : List DictEntry} (h : p e₀ = false) : (e₀ :: es).find? p = es.find? p := by rw [List.find?_cons, h]
theorem pT {name : Str} {e₀ : DictEntry} {es : List DictEntry} (h : e₀.key.isStr name = false) (r : e₀.refKey = false) : getL name (e₀ :: es) = getL name es := by
 unfold getL
 rw [xt (p := λ e => e.key.isStr name) h, List.any_cons, r, Bool.false_or]
theorem mz {f : hJ} {name : Str} {e : DictEntry} {t : Tok} (hk : e.key = .str (aC f) t) (n : aC f ≠ name) : e.key.isStr name = false ∧ e.refKey = false :=
 ⟨hk ▸ beq_eq_false_iff_ne.mpr n, by unfold DictEntry.refKey; rw [hk]⟩
theorem Bk (fs : List hJ) : ∀ {es : List DictEntry} {f : hJ} {i : Nat} {e : DictEntry}, cG fs es -> fs.findIdx? (· == f) = some i -> es[i]? = some e -> getL (aC f) es = some (some e.val) := by
 induction fs with
 | nil => exact λ _ h _ => nomatch h
 | cons f₀ fs ih =>
  intro es f i e k h he
  cases es with
  | nil => exact nomatch List.getElem?_nil.symm.trans he
  | cons e₀ es =>
   refine k.1.elim λ t hk => (jE h).elim (λ q => ?_) λ q => q.2.elim λ j z => ?_
   ·rw [q.2] at he
    unfold getL
    rw [List.find?_cons, hk, xz, q.1, beq_self_eq_true, Option.some.inj he]
   ·have n := mz hk λ y => q.1 (nE _ _ y)
    rw [z.2] at he
    exact (pT n.1 n.2).trans (ih k.2 z.1 he)
theorem za (fs : List hJ) : ∀ {es : List DictEntry} {name : Str}, cG fs es -> (∀ f, aC f ≠ name) -> getL name es = some none := by
 induction fs with
 | nil =>
  intro es name k _
  cases es with
  | nil => rfl
  | cons e es => exact k.elim
 | cons f₀ fs ih =>
  intro es name k hn
  cases es with
  | nil => rfl
  | cons e₀ es => exact k.1.elim λ t hk => (pT (mz hk (hn f₀)).1 (mz hk (hn f₀)).2).trans (ih k.2 hn)
section
variable {K : Kx} {g : Heap} {mg mb : Str -> Option Value} {F : List Addr} {φ : aO} {σ : aa} {A : Around} {E : Value -> Shared -> Prop} {s : Shared}
theorem dw.kept {h : Heap} (G : dw K g mg mb) (st : St K g F φ σ h) : K.frag.In h := λ a o e => st.keep _ _ (G.kin a o e)
theorem zc {h : Heap} {a : AV} {v : Value} (r : aM K h F φ a v) : handedIn v = true := by
 cases a with
 | none => exact (show v = _ from r) ▸ rfl
 | bool b => exact (show v = _ from r) ▸ rfl
 | int i => exact r.elim λ t q => q ▸ rfl
 | str l => exact r.elim λ t q => q.1 ▸ rfl
 | tup l => cases r with | mk vs a e => exact e ▸ rfl
 | loc n => exact r.elim λ x q => q.elim λ d q => q.1 ▸ rfl
 | inst c vs => cases r with | mk C x d es n e => exact e ▸ rfl
 | esc => cases r with | mk d o kvs e => exact e ▸ rfl
 | script l => cases r with | mk a vs e => exact e ▸ rfl
inductive EV (K : Kx) (h : Heap) (F : List Addr) (φ : aO) (c : dL) (vs : List AV) (x : Addr) : Prop
 | mk (C d : Addr) (es : List DictEntry) (n : Nat) (hC : bS K c = some C) (hx : h.get? x = some (instObj C d)) (hd : h.get? d = some (dictOf es n)) (ks : cG (sE c) es) (r : ao K h F φ vs (es.map (·.val)))
theorem St.obj {h : Heap} (st : St K g F φ σ h) {β : Type} {f : dL -> List AV -> Option β} {r : β} {vo : AV} {o : Value} {P : Value -> Prop} (e : GF σ vo f = some r) (ro : aM K h F φ vo o) (k : ∀ c vs x, f c vs = some r -> EV K h F φ c vs x -> P (.ref x)) : P o := by
 cases vo with
 | inst c vs => cases ro with | mk C x d es n e' hC hx hd nx nd ks rl => exact e' ▸ k c vs x e (.mk C d es n hC hx hd ks rl)
 | loc n =>
  refine ro.elim λ x q => q.elim λ d q => ?_
  exact qw (show cF σ n dp f = some r from e) (λ _ _ => ak) λ c vs z e => by
   cases st.cell n _ _ z q.2 with | mk ne C es m hC hx hd ks rl => exact q.1 ▸ k c vs x e (.mk C d es m hC hx hd ks rl)
 | _ => exact ak e
noncomputable def yq (K : Kx) (C : Addr) (f : hJ) : Prop := plainGet K.frag C (aC f) = true ∧ hasDictIn K.frag C = true ∧
  (∃ a, findIn K.frag (.ref C) (aC f) = some a ∧ noGet K.frag a = true) ∧ findIn K.frag (.ref C) "__setattr__" = some (some (.builtin "object.__setattr__")) ∧ plainOver K.frag C = true ∧ takerIn K.frag C (aC f) = some none
theorem sC {c : dL} {f : hJ} {C : Addr} {i : Nat} (ck : gE K = true) (hi : j4 c f = some i) (hC : bS K c = some C) : yq K C f := by
 have ck1 := List.all_eq_true.mp (Bool.and_eq_true_iff.mp ck).1 _ (Bh hi)
 unfold Ck at ck1
 rw [hC] at ck1
 have a := Bool.and_eq_true_iff.mp ck1
 have b := Bool.and_eq_true_iff.mp a.1
 have c' := Bool.and_eq_true_iff.mp b.1
 have d := Bool.and_eq_true_iff.mp c'.1
 have e := Bool.and_eq_true_iff.mp d.1
 refine ⟨e.1, e.2, ?_, eq_of_beq c'.2, b.2, eq_of_beq a.2⟩
 cases q : findIn K.frag (.ref C) (aC f) with
 | none => rw [q] at d; exact nomatch d.2
 | some x => rw [q] at d; exact ⟨x, rfl, d.2⟩
theorem zC {c : dL} {m : yh} {f : Fn} {C : Addr} (ck : gE K = true) (hm : zB c m = some f) (hC : bS K c = some C) : plainGet K.frag C (gJ m) = true ∧
  ∃ a, bg K f = some a ∧ findIn K.frag (.ref C) (gJ m) = some (some (.ref a)) ∧ typeIn K.frag (.ref a) = some (Value.type "function") ∧ keepIn K.frag (.ref a) = true := by
 have ck1 := List.all_eq_true.mp (Bool.and_eq_true_iff.mp ck).2 _ (wF hm)
 rw [show zB (c, m).1 (c, m).2 = some f from hm] at ck1
 unfold Cw at ck1
 rw [show bS K (c, m).1 = some C from hC] at ck1
 have a := Bool.and_eq_true_iff.mp ck1
 refine ⟨a.1, ?_⟩
 cases q : bg K f with
 | none => rw [q] at a; exact nomatch a.2
 | some x =>
  rw [q] at a
  have b := Bool.and_eq_true_iff.mp a.2
  have c := Bool.and_eq_true_iff.mp b.1
  exact ⟨x, rfl, eq_of_beq c.1, eq_of_beq c.2, b.2⟩
theorem u5 {vo : AV} {o : Value} {f : hJ} {r : AV} {Q' : Value -> Shared -> Prop} (G : dw K g mg mb) (ck : gE K = true) (e : cI σ vo f = some r) (st : St K g F φ σ s.heap) (ro : aM K s.heap F φ vo o)
  (ok : Ok K g F φ s (r, σ) Q') : wpAny (model K.prog K.w) A (getAttr o (aC f) true) Q' E s := by
 apply st.obj e ro
 intro c vs x e ob
 cases ob with | mk C d es n hC hx hd ks rl =>
 refine (Option.bind_eq_some_iff.mp e).elim λ i q => (rl.get q.2).elim λ v h => ?_
 have k := sC ck q.1 hC
 rw [List.getElem?_map] at h
 refine k.2.2.1.elim λ attr ha => (Option.map_eq_some_iff.mp h.1).elim λ en hen => get_value (G.kept st) ⟨hx, rfl, rfl, hd⟩ (plainGet_of k.1).1 (findObj_own k.2.1 ha.1 ha.2 ?_) (zc h.2) (ok.val rfl st h.2 _)
 rw [lookIn_dict, Bk _ ks q.1 hen.1, hen.2]
theorem CC {vo : AV} {o : Value} {c : dL} {m : yh} {f : Fn} {pl : Sem Bool} {Q' : Value × List Value -> Shared -> Prop} (G : dw K g mg mb) (ck : gE K = true) (hc : sf σ vo = some c) (hm : zB c m = some f)
  (st : St K g F φ σ s.heap) (ro : aM K s.heap F φ vo o) (ok : ∀ a, bg K f = some a -> keepIn K.frag (.ref a) = true -> Q' (.ref a, [o]) s) : wpAny (model K.prog K.w) A (getMethod o (gJ m) pl) Q' E s := by
 refine St.obj (P := λ o => (∀ a, bg K f = some a -> keepIn K.frag (.ref a) = true -> Q' (.ref a, [o]) s) -> wpAny (model K.prog K.w) A (getMethod o (gJ m) pl) Q' E s) st hc ro (λ c' vs x e ob ok => ?_) ok
 cases ob with | mk C d es n hC hx hd ks rl =>
 have k := zC ck hm (Option.some.inj e ▸ hC)
 refine k.2.elim λ a ha => method_fn (od := some (dictOf es n)) (G.kept st) ⟨hx, rfl, rfl, hd⟩ (plainGet_of k.1).1 (plainGet_of k.1).2 ha.2.1 ha.2.2.1 ?_ (ok a ha.1 ha.2.2.2)
 show (lookIn (gJ m) (dictOf es n)).map _ = _
 rw [lookIn_dict, za _ ks λ f => sD f m]
 rfl
end
section
variable {K : Kx} {g : Heap} {mg mb : Str -> Option Value} {F : List Addr} {φ : aO} {σ : aa} {A : Around} {E : Value -> Shared -> Prop} {s : Shared}
theorem zO {name : Str} {hsh : Int} {k v : Value} {e : DictEntry} {es : List DictEntry} (h : e.key.isStr name = true) : putL name hsh k v (e :: es) = ⟨e.hash, e.key, v⟩ :: es := if_pos h
theorem xS {name : Str} {hsh : Int} {k v : Value} {e : DictEntry} {es : List DictEntry} (h : e.key.isStr name = false) : putL name hsh k v (e :: es) = e :: putL name hsh k v es := if_neg (h ▸ Bool.false_ne_true)
theorem sR (fs : List hJ) : cG fs [] := by cases fs <;> trivial
theorem wS {f : hJ} {hsh : Int} {t : Tok} {v : Value} (fs : List hJ) : ∀ {es : List DictEntry} {i : Nat}, cG fs es -> fs.findIdx? (· == f) = some i -> i ≤ es.length ->
  cG fs (putL (aC f) hsh (.str (aC f) t) v es) ∧ (putL (aC f) hsh (.str (aC f) t) v es).map (·.val) = setL (es.map (·.val)) i v := by
 induction fs with
 | nil => exact λ _ h _ => nomatch h
 | cons f₀ fs ih =>
  intro es i k h hi
  cases es with
  | nil => exact (jE h).elim (λ q => ⟨⟨⟨t, q.1 ▸ rfl⟩, sR fs⟩, rfl⟩) λ q => q.2.elim λ j z => nomatch z.2 ▸ hi
  | cons e₀ es =>
   refine k.1.elim λ u hk => (jE h).elim (λ q => ?_) λ q => q.2.elim λ j z => ?_
   ·rw [zO (hk ▸ q.1 ▸ beq_self_eq_true _), q.2]; exact ⟨k, rfl⟩
   ·rw [z.2] at hi
    have y := ih k.2 z.1 (Nat.le_of_succ_le_succ hi)
    rw [xS (mz hk λ y => q.1 (nE _ _ y)).1, z.2]; exact ⟨⟨k.1, y.1⟩, congrArg (e₀.val :: ·) y.2⟩
theorem zl (fs : List hJ) : ∀ {es : List DictEntry}, cG fs es -> es.length ≤ fs.length := by
 induction fs with
 | nil =>
  intro es k
  cases es with
  | nil => exact Nat.zero_le _
  | cons e es => exact k.elim
 | cons f fs ih =>
  intro es k
  cases es with
  | nil => exact Nat.zero_le _
  | cons e es => exact Nat.succ_le_succ (ih k.2)
theorem zm (fs : List hJ) : ∀ {es : List DictEntry}, cG fs es -> es.any (·.refKey) = false := by
 induction fs with
 | nil =>
  intro es k
  cases es with
  | nil => rfl
  | cons e es => exact k.elim
 | cons f fs ih =>
  intro es k
  cases es with
  | nil => rfl
  | cons e es => exact k.1.elim λ t hk => by rw [List.any_cons, ih k.2, Bool.or_false]; unfold DictEntry.refKey; rw [hk]
theorem ao.setL {h : Heap} {a : AV} {v : Value} (ra : aM K h F φ a v) (l : List AV) : ∀ {vs : List Value} (i : Nat), ao K h F φ l vs -> ao K h F φ (Mine.setL l i a) (Mine.setL vs i v) := by
 induction l with
 | nil => exact λ i r => (show _ = [] from r) ▸ .cons ra .nil
 | cons b l ih =>
  intro vs i r
  cases r with | mk w ws e x r => exact e ▸ Nat.casesOn (motive := λ i => ao K h F φ (Mine.setL (b :: l) i a) (Mine.setL (w :: ws) i v)) i (.cons ra r) λ i => .cons x (ih i r)
theorem yY (c : dL) : (sE c).length ≤ 10 := by cases c <;> decide
theorem zP {h : Heap} {d : Addr} {es : List DictEntry} {n : Nat} {f : hJ} {hsh : Int} {t : Tok} {v : Value} (hd : h.get? d = some (dictOf es n)) :
  (h.update d (Obj.putName (aC f) hsh (.str (aC f) t) v)).get? d = some (dictOf (putL (aC f) hsh (.str (aC f) t) v es) (putN (aC f) es n)) :=
 (Heap.get?_update_self _ hd (by rw [putName_dict]; rfl)).trans (congrArg some (putName_dict ..))
theorem G3 {x C d tk : Nat} {es : List DictEntry} {n : Nat} {f : hJ} {c : dL} {v : Value} {R : Result -> Shared -> Prop} (X : K.frag.In s.heap) (hC : bS K c = some C) (ck : yq K C f) (hx : s.heap.get? x = some (instObj C d))
  (hd : s.heap.get? d = some (dictOf es n)) (ks : cG (sE c) es) {i : Nat} (hi : j4 c f = some i) (hil : i ≤ es.length)
  (h : R (.ok (.ret .none)) { s with heap := s.heap.update d (Obj.putName (aC f) (PyData.keyHash K.w.params (aC f)) (.str (aC f) s.toks) v), toks := s.toks + 1 }) :
  codeAny (model K.prog K.w) A (.call (.builtin "object.__setattr__") ⟨[.ref x, .str (aC f) tk, v], []⟩) R s := by
 obtain ⟨cd, hc, hd'⟩ := any_some ck.2.1
 have I : InstAt s.heap x (instObj C d) C (some (dictOf es n)) := ⟨hx, rfl, rfl, hd⟩
 refine osa_open X I ck.2.2.2.2.1 ck.2.2.2.2.2 λ _ => ?_
 refine wpAny_bind (wpAny_pure (wpAny_bind (wpAny_bind (wpAny_loadPart hx (wpAny_bind ((looks_clsIn X hc).here ?_))))))
 rw [hd']
 refine wpAny_pure (a := some d) (wpAny_bind (wpAny_pure (wpAny_bind ?_)))
 unfold nsSet
 refine wpAny_bind (wpAny_bind (wpAny_askSetting (wpAny_pure (wpAny_bind (wpAny_mkText (wpAny_bind (wpAny_loadPart hd ?_)))))))
 dsimp only
 have c0 : (!es.toArray.any (·.key.isStr (aC f)) && es.toArray.any (·.refKey)) = false := by
  rw [← Array.any_toList, ← Array.any_toList, show es.toArray.toList.any (·.refKey) = false from zm _ ks, Bool.and_false]
 rw [aRefKeyMayBeTheName_at, c0]
 have hp := zP (f := f) (hsh := PyData.keyHash K.w.params (aC f)) (t := s.toks) (v := v) hd
 have hlen := Nat.le_trans (zl _ (wS (hsh := PyData.keyHash K.w.params (aC f)) (t := s.toks) (v := v) _ ks hi hil).1) (yY c)
 refine wpAny_updatePart hd ?_
 refine wpAny_bind (wpAny_lookBehind hp (pastItsLine_dict (by rw [List.size_toArray, sizeLine_eq]; exact Nat.le_trans hlen (by decide))) ?_)
 exact wpAny_pure h
theorem G4 {x C d : Addr} {es : List DictEntry} {n : Nat} {f : hJ} {c : dL} {v : Value} {Q' : Unit -> Shared -> Prop} (X : K.frag.In s.heap) (hC : bS K c = some C) (ck : yq K C f) (hx : s.heap.get? x = some (instObj C d))
  (hd : s.heap.get? d = some (dictOf es n)) (ks : cG (sE c) es) {i : Nat} (hi : j4 c f = some i) (hil : i ≤ es.length)
  (h : Q' () { s with heap := s.heap.update d (Obj.putName (aC f) (PyData.keyHash K.w.params (aC f)) (.str (aC f) (s.toks + 1)) v), toks := s.toks + 2 }) :
  wpAny (model K.prog K.w) A (setAttr (.ref x) (aC f) v) Q' E s := by
 have I : InstAt s.heap x (instObj C d) C (some (dictOf es n)) := ⟨hx, rfl, rfl, hd⟩
 exact set_plain X I ck.2.2.2.1 (G3 (s := { s with toks := s.toks + 1 }) X hC ck hx hd ks hi hil h)
theorem xX {k : Nat} {vo va : AV} {o a : Value} {f : hJ} {σ' : aa} {Q' : Unit -> Shared -> Prop} (G : dw K g mg mb) (ck : gE K = true) (e : setField σ k f va = some σ') (st : St K g F φ σ s.heap)
  (ro : aM K s.heap F φ (.loc k) o) (ra : aM K s.heap F φ va a)
  (ok : ∀ h' t', St K g F φ σ' h' -> an [] φ φ s.heap h' -> Q' () { s with heap := h', toks := t' }) : wpAny (model K.prog K.w) A (setAttr o (aC f) a) Q' E s := by
 refine qw e (λ _ _ => ak) λ c vs e1 e => (Option.bind_eq_some_iff.mp e).elim λ i q => bG q.2 λ hle e => ro.elim λ x y => y.elim λ d y => ?_
 have hp := y.2
 rw [y.1]
 cases st.cell _ _ _ e1 hp with | mk q0 C es n hC hx hd ks rl =>
 have hil : i ≤ es.length := List.length_map (f := λ e : DictEntry => e.val) ▸ rl.len.symm ▸ hle
 have pk := wS (hsh := PyData.keyHash K.w.params (aC f)) (t := s.toks + 1) (v := a) _ ks q.1 hil
 have hp' := zP (f := f) (hsh := PyData.keyHash K.w.params (aC f)) (t := s.toks + 1) (v := a) hd
 have hne : ∀ b, b ≠ d -> (s.heap.update d (Obj.putName (aC f) (PyData.keyHash K.w.params (aC f)) (.str (aC f) (s.toks + 1)) a)).get? b = s.heap.get? b := λ b hb => Heap.get?_update_ne _ _ _ _ hb
 refine G4 (G.kept st) hC (sC ck q.1 hC) hx hd ks q.1 hil ?_
 generalize s.heap.update d (Obj.putName (aC f) (PyData.keyHash K.w.params (aC f)) (.str (aC f) (s.toks + 1)) a) = h₁ at hp' hne ⊢
 generalize putL (aC f) (PyData.keyHash K.w.params (aC f)) (.str (aC f) (s.toks + 1)) a es = es' at hp' pk
 have hx' := (hne x q0).trans hx
 have sp : an [] φ φ s.heap h₁ := ⟨.refl φ _, λ b o e no => (hne b λ q => no (.inr ⟨_, List.mem_of_getElem? hp, .inr q⟩)).trans e, λ b e => if q : b = d then absurd (q ▸ e) (av hp') else (hne b q).symm.trans e⟩
 have z := St.change (F₀ := []) st hp (c := .inst c (setL vs i va)) (λ b o h1 h2 e => (hne b h2).trans e) ⟨av hx', av hp'⟩ (.mk q0 C _ _ hC hx' hp' pk.1 (pk.2 ▸ ao.setL (an.rep K sp cf ra) _ i (an.repL K sp cf rl)))
 have e := Option.some.inj e
 exact ok _ _ (e ▸ z.1) z.2
end
section
variable {K : Kx} {g : Heap} {mg mb : Str -> Option Value} {F : List Addr} {φ : aO} {σ : aa} {A : Around} {E : Value -> Shared -> Prop} {s : Shared} {outer : List Env}
theorem s8 (C : Addr) (vs : List Value) : (Code.builtin "type.__call__" ⟨.ref C :: vs, []⟩).weight = 1 ∧ (Code.builtin "type.__call__" ⟨.ref C :: vs, []⟩).cUnits = 1 ∧ (Code.builtin "type.__call__" ⟨.ref C :: vs, []⟩).envs = [] := by
 refine ⟨?_, ?_, ?_⟩ <;> rfl
theorem i7.make (h : i7 A outer F) (C : Addr) (vs : List Value) : i7 (A.under (.builtin "type.__call__" ⟨.ref C :: vs, []⟩)) outer F where
 hand := h.hand
 frames := h.frames
 outs := h.outs
 nil := h.nil
theorem cR.make {k : Nat} (h : cR (k + 1) A) (C : Addr) (vs : List Value) : cR k (A.under (.builtin "type.__call__" ⟨.ref C :: vs, []⟩)) := by
 have w := s8 C vs
 refine ⟨?_, ?_⟩
 ·show A.depth + _ + k < _
  rw [w.1]; have := h.1; exact (lnr [_,_,_] [] 0x211609912161909193) this
 ·show A.units + _ + 4 * k + 100 < _
  rw [w.2.1]; have := h.2; exact (lnr [_,_,_] [] 0x21CC6147160999121CC6161947099193) this
noncomputable def ol (K : Kx) (c : dL) : Bool := match bS K c with
 | some C => makesIn K.frag C && keepIn K.frag (.ref C) && match bg K (jG c) with
  | some a => (findIn K.frag (.ref C) "__init__" == some (some (.ref a))) && isFn K.frag (.ref a)
  | none => false
 | none => false
theorem yf (h : Heap) (F : List Addr) (φ : aO) (c : dL) : ∃ us, ao K h F φ (CJ c) us := by
 cases c with
 | place => exact ⟨[], .nil⟩
 | token => exact ⟨[], .nil⟩
 | reader => exact ⟨[_], .cons (.int 0 0) .nil⟩
 | cursor => exact ⟨[_], .cons (.int 0 0) .nil⟩
theorem qG {h : Heap} {c : dL} {args vs : List AV} {ws : List Value} (e : nV c args = some vs) (r : ao K h F φ args ws) : ∃ us, ao K h F φ vs us :=
 bG e λ _ e => (yf h F φ c).elim λ _ z => ⟨_, Option.some.inj e ▸ r.append z⟩
theorem qQ {φ ψ : aO} (n : Nat) (p : Addr × Addr) (h : jR φ n) (e : (φ ++ ψ)[n]? = some p) : φ[n]? = some p := (List.getElem?_append_left h).symm.trans e
theorem oQ {ψ : aO} {a : Addr} (q : bZ F φ a) : bZ F (φ ++ ψ) a := iM q (λ _ h => h) λ _ h => List.mem_append_left _ h
theorem n8 {h : Heap} {ψ : aO} : mP h F (φ ++ ψ) h F φ := λ _ _ e _ _ n => ⟨e, λ q => n (oQ q)⟩
theorem i3 {α : Type} {l r : List α} {n : Nat} {a : α} (e : l[n]? = some a) : (l ++ r)[n]? = some a := (List.getElem?_append_left (List.getElem?_eq_some_iff.mp e).1).trans e
theorem St.drop {h : Heap} {ψ : aO} {τ : aa} (st : St K g F (φ ++ ψ) (σ ++ τ) h) (hl : φ.length = σ.length) (hlow : ∀ c ∈ σ, AF (jR φ) c) : St K g F φ σ h where
 keep := st.keep
 off := λ a q => st.off a (oQ q)
 dis := λ i j p q e1 e2 => st.dis i j p q (i3 e1) (i3 e2)
 offF := λ p hp => st.offF p (List.mem_append_left _ hp)
 len := hl
 cell := λ n c p e1 e2 => b0.map K n8 qQ (λ _ _ _ e _ => e) (hlow c (List.mem_of_getElem? e1)) (st.cell n c p (i3 e1) (i3 e2))
 bound := λ a q => st.bound a (oQ q)
 fr := st.fr
theorem St.lowCells {h : Heap} (st : St K g F φ σ h) (c : aG) (hc : c ∈ σ) : AF (jR φ) c :=
 (List.mem_iff_getElem?.mp hc).elim λ n hn => b0.low K (st.cell n c _ hn (List.getElem?_eq_getElem (st.len.symm ▸ (List.getElem?_eq_some_iff.mp hn).1)))
theorem BC {c : dL} {C a : Addr} (mk : ol K c = true) (hC : bS K c = some C) (ha : bg K (jG c) = some a) :
  makesIn K.frag C = true ∧ findIn K.frag (.ref C) "__init__" = some (some (.ref a)) ∧ typeIn K.frag (.ref a) = some (.type "function") := by
 unfold ol at mk
 rw [hC, ha] at mk
 have p := Bool.and_eq_true_iff.mp mk
 exact ⟨(Bool.and_eq_true_iff.mp p.1).1, eq_of_beq (Bool.and_eq_true_iff.mp p.2).1, eq_of_beq (Bool.and_eq_true_iff.mp p.2).2⟩
theorem wI {h : Heap} : h.get? (h.objs.size + 1) = none := by
 cases q : h.get? (h.objs.size + 1) with
 | none => rfl
 | some o => exact absurd (Heap.lt_size q) (Nat.not_lt.mpr (Nat.le_succ _))
theorem eG.nil {φ ψ : aO} {h : Heap} (x : eG φ ψ h) (hl : ψ.length = φ.length) : ψ = φ := by
 cases x with | mk χ e _ =>
 have z : χ = [] := List.length_eq_zero_iff.mp (Nat.add_left_cancel ((List.length_append (as := φ) (bs := χ)).symm.trans (e ▸ hl)))
 rw [e, z, List.append_nil]
theorem G9 {k : Nat} {c : dL} {args : List AV} {vs : List Value} {r : AV × aa} {C a : Addr} {Q' : Value -> Shared -> Prop} (G : dw K g mg mb) (mk : ol K c = true) (hC : bS K c = some C) (ha : bg K (jG c) = some a)
  (S : ja K g k a (iy c)) (hR : cR (k + 1) A) (hA : i7 A outer F) (e : om c args σ = some r) (st : St K g F φ σ s.heap) (ra : ao K s.heap F φ args vs) (ok : Ok K g F φ s r Q') :
  wpAny (model K.prog K.w) A (call (.ref C) vs) Q' E s := by
 refine (Option.map_eq_some_iff.mp e).elim λ us hi => ?_
 have m := BC mk hC ha
 have X := G.kept st
 refine wpAny_call (make_core (makes_of X m.1) (looks_findIn X m.2.1) (λ self => bind_fn X self m.2.2) (.inl rfl) ?_)
 have hk : ∀ b o, s.heap.get? b = some o -> ((s.heap.push emptyDict).push (instObj C s.heap.objs.size)).get? b = some o := λ b o e => Heap.get?_push_of_some _ (Heap.get?_push_of_some _ e)
 have hd : ((s.heap.push emptyDict).push (instObj C s.heap.objs.size)).get? s.heap.objs.size = some emptyDict := Heap.get?_push_of_some _ (Heap.get?_push_size _ rfl)
 have hx : ((s.heap.push emptyDict).push (instObj C s.heap.objs.size)).get? (s.heap.objs.size + 1) = some (instObj C s.heap.objs.size) := (congrArg _ (Heap.size_push s.heap emptyDict).symm).trans (Heap.get?_push_size (s.heap.push emptyDict) rfl)
 have nx := wI (h := s.heap)
 have nd := bp s.heap
 generalize (s.heap.push emptyDict).push (instObj C s.heap.objs.size) = h₁ at hk hd hx ⊢
 have ne : s.heap.objs.size + 1 ≠ s.heap.objs.size := Nat.succ_ne_self _
 generalize s.heap.objs.size + 1 = x at hx nx ne ⊢
 generalize s.heap.objs.size = d at hd hx nd ne ⊢
 have st1 : St K g F (φ ++ [(x, d)]) (σ ++ [.inst c []]) h₁ := St.add st hk nx nd (av hx) (av hd) (.mk ne C [] 0 hC hx hd (sR _) .nil)
 have sp1 : an [] φ (φ ++ [(x, d)]) s.heap h₁ := ⟨.one nx nd, λ a o e _ => hk a o e, cJ hk⟩
 have rx : aM K h₁ F (φ ++ [(x, d)]) (.loc σ.length) (.ref x) := .loc (d := d) (i4 st)
 have hn : (σ ++ [aG.inst c []])[σ.length]? = some (.inst c []) := List.getElem?_concat_length
 refine codeAny_mono (S (A.under _) outer F _ (σ ++ [.inst c []]) _ (.loc σ.length :: args) _
  (λ V σ' => V = .none ∧ σ' = σ ++ [.inst c us]) (λ _ _ => False) (λ v s' => v = .none ∧ Q' (.ref x) s') E (hR.make C vs) (hA.make C vs) st1 (.cons rx (an.repL K sp1 cf ra))
  ⟨_, _, us, rfl, hn, hi.1, rfl, List.set_append_right _ _ (Nat.le_refl _) |>.trans (by rw [Nat.sub_self]; rfl)⟩ (λ V σ' φ' h' t' v hq st2 sp2 rv => ?_) (PX.none K g)) λ r s' h => ?_
 ·rw [hq.1] at rv
  refine ⟨rv, ?_⟩
  rw [hq.2] at st2
  have hr := hi.2
  by_cases hf : y8 c = true
  ·rw [if_pos hf] at hr
   have hφ := sp2.grow.nil (by rw [st2.len, List.length_append, List.length_append, st.len]; rfl)
   rw [hφ] at st2
   cases st2.cell σ.length (.inst c us) (x, d) List.getElem?_concat_length (i4 st) with | mk q0 C' es n q1 q2 q3 q4 r =>
   have hr : Ok K g F φ s (.inst c us, σ) Q' := hr ▸ ok
   refine hr φ h' t' _ (St.drop st2 st.len st.lowCells) ⟨.refl φ _, λ a o e no => (sp1.trans sp2).chg a o e no, (sp1.trans sp2).all⟩ (.inst q1 q2 q3 (λ q => st.fresh nx q) (λ q => st.fresh nd q) q4 ?_)
   exact (qG hi.1 ra).elim λ zs hz => ao.map n8 qQ _ _ (ao.low _ _ hz) r
  ·rw [if_neg hf] at hr
   have hr : Ok K g F φ s (.loc σ.length, σ ++ [.inst c us]) Q' := hr ▸ ok
   exact hr _ h' t' _ st2 (sp1.trans sp2) (an.rep K sp2 cf rx)
 ·cases r with
  | error e => exact h
  | ok f => cases f with
   | ret v => exact h
   | next => exact h
   | brk => exact h
   | cont => exact h
end
structure ql (K : Kx) (g : Heap) (A : Around) (its fp : List Addr) (items : List AV) (same : aa -> Prop) (target : Expr) (it : Value) (P : List Addr -> Nat -> aO -> aa -> Heap -> Prop) : Prop where
 rcd : ∀ F i φ σ h, P F i φ σ h -> ∀ b ∈ its, ∃ o, h.get? b = some o ∧ ¬ NR o
 next : ∀ F i φ σ (s : Shared) V (Q E : Value -> Shared -> Prop), items[i]? = some V -> P F i φ σ s.heap -> St K g F φ σ s.heap ->
  (∀ v h' tk, aM K h' F φ V v -> P F (i + 1) φ σ h' -> (∀ b o, b ∉ its -> s.heap.get? b = some o -> h'.get? b = some o) -> Q v (up s h' tk)) ->
  wpAny (model K.prog K.w) A (pyNext it) (λ r s₁ => match r with | none => False | some v => wpAny (model K.prog K.w) A (letOwnedTupleGo target it v) (λ _ s₂ => Q v s₂) E s₁) E s
 done : ∀ F φ σ (s : Shared) (Q : Option Value -> Shared -> Prop) (E : Value -> Shared -> Prop), P F items.length φ σ s.heap -> St K g F φ σ s.heap ->
  (∀ h' tk, (∀ b o, b ∉ its -> s.heap.get? b = some o -> h'.get? b = some o) -> (∀ a, h'.get? a = none -> s.heap.get? a = none ∨ a ∈ its) -> Q none (up s h' tk)) -> wpAny (model K.prog K.w) A (pyNext it) Q E s
 keep : ∀ F F' i φ σ φ' σ' h h', P F i φ σ h -> (∀ b ∈ its, ∀ o, h.get? b = some o -> h'.get? b = some o) -> (∀ (n : Nat) p, φ[n]? = some p -> φ'[n]? = some p) -> (∀ b o, h.get? b = some o -> (b ∈ fp ∨ o.cls ≠ .type "list") -> ¬ bZ F φ b -> h'.get? b = some o ∧ ¬ bZ F' φ' b) -> same σ' -> P F' i φ' σ' h'
 self : ∀ F i φ σ (s : Shared) (Q E : Value -> Shared -> Prop), P F i φ σ s.heap -> Q it s -> wpAny (model K.prog K.w) A (pyIter it) Q E s
section
variable {K : Kx} {g : Heap} {mg mb : Str -> Option Value} {F : List Addr} {φ : aO} {σ : aa} {A : Around} {E : Value -> Shared -> Prop} {s : Shared}
theorem St.nr {h h' : Heap} (st : St K g F φ σ h) (hk : ∀ b o, h.get? b = some o -> NR o -> h'.get? b = some o) (hg : ∀ b o, g.get? b = some o -> h'.get? b = some o) : St K g F φ σ h' :=
 St.map K g st hg (λ a o e r _ n => ⟨hk a o e r, n⟩) (λ a o _ e r => hk a o e r) (St.frOK K g st λ a _ o e r => hk a o e r)
theorem d2 {h : Heap} {its : List Addr} (hr : ∀ b ∈ its, ∃ o, h.get? b = some o ∧ ¬ NR o) {b : Addr} {o : Obj} (e : h.get? b = some o) (r : NR o) : b ∉ its := λ q => (hr b q).elim λ o' x => x.2 (Option.some.inj (e.symm.trans x.1) ▸ r)
theorem St.its {h h' : Heap} {its : List Addr} (st : St K g F φ σ h) (hr : ∀ b ∈ its, ∃ o, h.get? b = some o ∧ ¬ NR o) (hn : ∀ b ∈ its, g.get? b = none) (hk : ∀ b o, b ∉ its -> h.get? b = some o -> h'.get? b = some o) : St K g F φ σ h' := by
 exact st.nr (λ b o e r => hk b o (d2 hr e r) e) λ b o e => hk b o (λ q => av e (hn b q)) (st.keep b o e)
theorem BQ {h h' : Heap} {its : List Addr} {a : AV} {v : Value} (r : aM K h F φ a v) (hr : ∀ b ∈ its, ∃ o, h.get? b = some o ∧ ¬ NR o) (hk : ∀ b o, b ∉ its -> h.get? b = some o -> h'.get? b = some o) : aM K h' F φ a v :=
 aM.mono K (λ a o e nr no => ⟨hk a o (d2 hr e nr) e, no⟩) (λ _ _ e => e) r
theorem bW {o : Obj} {vs : Array Value} (h : o.data = .fields vs) : ¬ NR o := λ n => n vs h
noncomputable def CO (pos : Pos) (I : Addr) (target : Expr) (v : Value) : Prop := letOwnedTupleGo target (.ref I) v = pure () ∨ ∃ a, letOwnedTupleGo target (.ref I) v = letOwnedTupleGo (.Tuple [] 0 pos) (.ref I) (.ref a)
theorem CO.l {pos : Pos} {I : Addr} {target : Expr} {v : Value} (e : letOwnedTupleGo target (.ref I) v = pure ()) : CO pos I target v := .inl e
theorem zp (pos : Pos) (I : Addr) (target : Expr) (v : Value) : CO pos I target v := by
 cases target <;> first
  | exact .l rfl
  | (cases v <;> first | exact .l rfl | exact .inr ⟨_, rfl⟩)
theorem iA {target : Expr} {I : Addr} {v : Value} {n : String} {Q : Unit -> Shared -> Prop} (ho : ∃ o, s.heap.get? I = some o ∧ o.cls = .type n)
  (hn : (["enumerate", "zip", "dict_itemiterator", "dict_reverseitemiterator", "odict_iterator", "itertools.zip_longest", "itertools.pairwise"] : List String).contains n = false) (h : Q () s) :
  wpAny (model K.prog K.w) A (letOwnedTupleGo target (.ref I) v) Q E s := by
 cases zp ⟨0, 0, 0, 0⟩ I target v with
 | inl e => rw [e]; exact wpAny_pure h
 | inr e =>
  refine e.elim λ a e => ho.elim λ o ho => ?_
  rw [e]
  obtain ⟨cls, dd, d, sl⟩ := o
  obtain ⟨ho, rfl⟩ := ho
  refine wpAny_bind (wpAny_load ho ?_)
  cases d with
  | fields vs => exact (show wpAny _ _ (if (_ && _) = true then _ else _) _ _ s from (congrArg (· && _) hn).symm ▸ wpAny_pure h)
  | _ => exact wpAny_pure h
theorem ql.list {l : List AV} {k x I : Addr} {target : Expr} (hA : A.handled = none) (hne : x ≠ I) :
  ql K g A [I] [] l (λ σ' => σ'[k]? = some (.list l)) target (.ref I) (λ F i φ σ h => h.IsListIter I x i ∧ φ[k]? = some (x, x) ∧ σ[k]? = some (.list l)) where
 rcd := λ F i φ σ h ⟨⟨o, ho, hc, hd⟩, _⟩ b hb => by rw [List.mem_singleton.mp hb]; exact ⟨o, ho, bW hd⟩
 next := λ F i φ σ s V Q E hV ⟨hI, hp, hs⟩ st hQ => by
  obtain ⟨⟨_, hz⟩, vs, lx', rl⟩ := st.cell k _ _ hs hp
  have lx := lx'.isList
  obtain ⟨v, hv, rv⟩ := rl.get hV
  refine wpAny_pyNext_list_item hI lx (x := v) (by rw [← Array.getElem?_toList]; exact hv) λ h' hit' hs' => ?_
  dsimp only
  have hk : ∀ b o, b ∉ [I] -> s.heap.get? b = some o -> h'.get? b = some o := λ b o hb e => hs'.extBut b o (λ q => hb (by simp [q])) e
  obtain ⟨o, ho, hc, hd⟩ := hI
  refine iA (n := "list_iterator") (by obtain ⟨o, ho, hc, _⟩ := hit'; exact ⟨o, ho, hc⟩) (by decide) ?_
  exact (hQ v h' s.toks (BQ rv (λ b hb => by rw [List.mem_singleton.mp hb]; exact ⟨o, ho, bW hd⟩) hk) ⟨hit', hp, hs⟩ hk)
 done := λ F φ σ s Q E ⟨hI, hp, hs⟩ st hQ => by
  obtain ⟨⟨_, hz⟩, vs, lx', rl⟩ := st.cell k _ _ hs hp
  have lx := lx'.isList
  have hl := rl.length
  refine wpAny_pyNext_list_end hA hI lx (by rw [← Array.getElem?_toList, List.getElem?_eq_none_iff, hl]; exact Nat.le_refl _) λ h' he' => ?_
  have hk : ∀ b o, b ∉ [I] -> s.heap.get? b = some o -> h'.get? b = some o := λ b o hb e => he' b o (λ q => hb (by simp [q])) e
  refine hQ h' s.toks hk λ a e => ?_
  by_cases q : a ∈ [I]
  ·exact .inr q
  ·left
   cases z : s.heap.get? a with
   | none => rfl
   | some o => rw [hk a o q z] at e; cases e
 keep := λ F F' i φ σ φ' σ' h h' ⟨⟨o, ho, r⟩, hp, hs⟩ hk hφ _ hsame => ⟨⟨o, hk I (by simp) o ho, r⟩, hφ _ _ hp, hsame⟩
 self := λ F i φ σ s Q E ⟨hI, _⟩ h => wpAny_pyIter_listiter hI h
theorem zy {l : List Nat} {i : Nat} {V : AV} (h : (l.map λ c => AV.str [c])[i]? = some V) : ∃ c, l[i]? = some c ∧ V = .str [c] := by
 rw [List.getElem?_map] at h
 obtain ⟨c, hc, rfl⟩ := Option.map_eq_some_iff.mp h
 exact ⟨c, hc, rfl⟩
theorem ql.str {x : List Nat} {I : Addr} {target : Expr} {St' : Nat -> Heap -> Prop} (W : Walks K.prog K.w A I [I] [I] x.length (SignAt ⟨x.toArray⟩) St') (hrec : ∀ i h, St' i h -> ∃ o n, h.get? I = some o ∧ ¬ NR o ∧ o.cls = .type n ∧ (n = "str_ascii_iterator" ∨ n = "str_iterator")) :
  ql K g A [I] [] (x.map λ c => .str [c]) (λ _ => True) target (.ref I) (λ F i φ σ h => St' i h) where
 rcd := λ F i φ σ h st b hb => by rw [List.mem_singleton.mp hb]; exact let ⟨o, n, h1, h2, _⟩ := hrec i h st; ⟨o, h1, h2⟩
 next := λ F i φ σ s V Q E hV hI st hQ => by
  obtain ⟨c, hc, rfl⟩ := zy hV
  have hi := (List.getElem?_eq_some_iff.mp hc).1
  refine W.item i s _ E hi hI λ v h' tk hv hst hk => ?_
  obtain ⟨c', u, h1, rfl⟩ := hv
  have : c' = c := by
   rw [List.getElem?_toArray] at h1
   rw [hc] at h1; exact (Option.some.inj h1).symm
  subst this
  dsimp only
  obtain ⟨o, n, h1, h2, h3, h4⟩ := hrec _ _ hst
  exact iA (n := n) ⟨o, h1, h3⟩ (by rcases h4 with rfl | rfl <;> decide) (hQ _ h' tk (.str [c'] u (show 1 ≤ sizeLine by decide)) hst hk)
 done := λ F φ σ s Q E hI st hQ => by
  rw [List.length_map] at hI
  refine W.done s Q E hI λ h' tk hk => hQ h' tk hk λ a e => ?_
  by_cases q : a ∈ [I]
  ·exact .inr q
  ·left
   cases z : s.heap.get? a with
   | none => rfl
   | some o => rw [hk a o q z] at e; cases e
 keep := λ F F' i φ σ φ' σ' h h' st hk _ _ _ => W.frame i h h' st hk
 self := λ F i φ σ s Q E hI h => W.self i s Q E hI h
theorem ql.range {I : Addr} {target : Expr} (hA : A.handled = none) :
  ql K g A [I] [] (oX 8) (λ _ => True) target (.ref I) (λ F i φ σ h => IsRangeIter h I ((0 : Int) + (i : Nat) * 1) (((8 : Nat) : Int) - (i : Nat)) 1) where
 rcd := λ F i φ σ h st b hb => by rw [List.mem_singleton.mp hb]; exact ⟨_, st, bW rfl⟩
 next := λ F i φ σ s V Q E hV hI st hQ => by
  have W := Walks.range (prog := K.prog) (w := K.w) hA I 0 1 8
  unfold oX at hV
  rw [List.getElem?_map] at hV
  obtain ⟨c, hc, rfl⟩ := Option.map_eq_some_iff.mp hV
  have hi : i < 8 := by have := (List.getElem?_eq_some_iff.mp hc).1; simpa using this
  have hci : c = i := by
   rw [List.getElem?_range hi] at hc; exact (Option.some.inj hc).symm
  subst hci
  refine W.item c s _ E hi hI λ v h' tk hv hst hk => ?_
  obtain ⟨t, rfl⟩ := hv
  dsimp only
  refine iA (n := "range_iterator") ⟨_, hst, rfl⟩ (by decide) (hQ _ h' tk ?_ hst hk)
  have : (0 : Int) + (c : Int) * 1 = c := by exact (lnr [_] [] 0x0B10B806951)
  rw [this]
  exact .int _ _
 done := λ F φ σ s Q E hI st hQ => by
  have W := Walks.range (prog := K.prog) (w := K.w) hA I 0 1 8
  refine W.done s Q E hI λ h' tk hk => hQ h' tk hk λ a e => ?_
  by_cases q : a ∈ [I]
  ·exact .inr q
  ·left
   cases z : s.heap.get? a with
   | none => rfl
   | some o => rw [hk a o q z] at e; cases e
 keep := λ F F' i φ σ φ' σ' h h' st hk _ _ _ => hk I (by simp) _ st
 self := λ F i φ σ s Q E hI h => (Walks.range (prog := K.prog) (w := K.w) hA I 0 1 8).self i s Q E hI h
theorem sr : ∀ (l : List AV) (k i : Nat) (V : AV), (cz k l)[i]? = some V -> ∃ a, l[i]? = some a ∧ V = .tup [.int ((k + i : Nat) : Int), a]
 | [], _, _, _, h => by simp [cz] at h
 | v :: vs, k, 0, V, h => by simp [cz] at h; subst h; exact ⟨v, rfl, rfl⟩
 | v :: vs, k, i + 1, V, h => by
  rw [cz, List.getElem?_cons_succ] at h
  obtain ⟨a, h1, rfl⟩ := sr vs (k + 1) i V h
  exact ⟨a, by simpa using h1, by congr 4; exact (lnr [_,_] [] 0x16190911609922)⟩
theorem pI : ∀ (l : List AV) (k : Nat), (cz k l).length = l.length
 | [], _ => rfl
 | v :: vs, k => by rw [cz, List.length_cons, List.length_cons, pI vs]
theorem ql.enum {l : List AV} {it e : Addr} {fp : List Addr} {P : Nat -> Value -> Prop} {St' : Nat -> Heap -> Prop} {elts : List Expr} {k : Nat} {pos : Pos}
  (D : Draws K.prog K.w A.in1 it fp l.length P St') (hei : e ≠ it) (hef : e ∉ fp) (hrec : ∀ i h, St' i h -> ∃ o, h.get? it = some o ∧ ¬ NR o)
  (R : List Addr -> aO -> Heap -> Prop) (hrep : ∀ F i φ h V v, R F φ h -> l[i]? = some V -> P i v -> aM K h F φ V v)
  (hR : ∀ F F' φ φ' h h', R F φ h -> (∀ b o, h.get? b = some o -> NR o -> (b ∈ fp ∨ o.cls ≠ .type "list") -> ¬ bZ F φ b -> h'.get? b = some o ∧ ¬ bZ F' φ' b) -> (∀ (n : Nat) p, φ[n]? = some p -> φ'[n]? = some p) -> R F' φ' h')
  (hfp : ∀ F φ h, R F φ h -> ∀ b ∈ fp, b = it ∨ ¬ bZ F φ b) (hfl : ∀ i h, St' i h -> ∀ b ∈ fp, h.get? b ≠ none) :
  ql K g A [e, it] fp (cz 0 l) (λ _ => True) (.Tuple elts k pos) (.ref e) (λ F i φ σ h => (∃ old, IsEnum h e it (i : Int) old) ∧ St' i h ∧ R F φ h) where
 rcd := λ F i φ σ h ⟨⟨old, he⟩, hst, hr⟩ b hb => by
  rcases List.mem_cons.mp hb with rfl | hb
  ·exact ⟨_, he, bW rfl⟩
  ·rw [List.mem_singleton.mp hb]; exact hrec i h hst
 next := λ F i φ σ s V Q E hV ⟨⟨old, he⟩, hst, hr⟩ st hQ => by
  obtain ⟨a, ha, rfl⟩ := sr l 0 i V hV
  have hi := (List.getElem?_eq_some_iff.mp ha).1
  refine wpAny_pyNext_enum_itemD D he hst hi hei hef λ x h' tk hx he' hst' ht hsz hk => ?_
  refine wpAny_letOwnedTupleGo_enum he' λ h'' he'' hs => ?_
  have kept : ∀ b o, b ∉ [e, it] -> s.heap.get? b = some o -> h''.get? b = some o := λ b o hb q => by
   simp only [List.mem_cons, List.not_mem_nil, or_false, not_or] at hb
   exact hs.extBut b o hb.1 (hk b o hb.1 hb.2 q)
  have hrc : ∀ b ∈ [e, it], ∃ o, s.heap.get? b = some o ∧ ¬ NR o := by
   intro b hb
   rcases List.mem_cons.mp hb with rfl | hb
   ·exact ⟨_, he, bW rfl⟩
   ·rw [List.mem_singleton.mp hb]; exact hrec i _ hst
  have nr : ∀ b o, s.heap.get? b = some o -> NR o -> ¬ bZ F φ b -> h''.get? b = some o ∧ ¬ bZ F φ b := λ b o q r n => ⟨kept b o (λ z => by
   obtain ⟨o', e', r'⟩ := hrc b z
   rw [q] at e'; cases e'
   exact r' r) q, n⟩
  have hesz : s.heap.objs.size ≠ e := λ q => by have := Heap.lt_size he; rw [← q] at this; exact Nat.lt_irrefl _ this
  have ht'' := hs.extBut _ _ hesz ht
  have R'' := hR F F φ φ s.heap h'' hr (λ b o q r _ n => nr b o q r n) (λ _ _ e => e)
  have hst'' : St' (i + 1) h'' := D.frame (i + 1) h' h'' hst' λ b hb o q => hs.extBut b o (λ z => hef (z ▸ hb)) q
  refine hQ _ h'' (tk + 1) ?_ ⟨⟨_, by simpa using he''⟩, hst'', R''⟩ kept
  refine .tup (show 2 ≤ sizeLine by decide) (vs := #[.int i tk, x]) ⟨_, ht'', rfl, 0, rfl⟩ (st.fresh (bp _)) ?_
  refine .cons ?_ (.cons (hrep F i φ h'' a x R'' ha hx) .nil)
  rw [Nat.zero_add]
  exact .int _ _
 done := λ F φ σ s Q E ⟨⟨old, he⟩, hst, hr⟩ st hQ => by
  rw [pI] at he hst
  refine wpAny_pyNext_enum_endD D he hst λ h' hk => ?_
  have kept : ∀ b o, b ∉ [e, it] -> s.heap.get? b = some o -> h'.get? b = some o := λ b o hb q => hk b o (λ z => hb (by simp [z])) q
  refine hQ h' s.toks kept λ a z => ?_
  by_cases q : a ∈ [e, it]
  ·exact .inr q
  ·left
   cases y : s.heap.get? a with
   | none => rfl
   | some o => rw [kept a o q y] at z; cases z
 keep := λ F F' i φ σ φ' σ' h h' ⟨⟨old, he⟩, hst, hr⟩ hk hφ hno _ =>
  ⟨⟨old, hk e (by simp) _ he⟩, D.frame i h h' hst (λ b hb o q => by
   rcases hfp F φ h hr b hb with rfl | hn
   ·exact hk _ (by simp) o q
   ·exact (hno b o q (.inl hb) hn).1), hR F F' φ φ' h h' hr (λ b o q _ z n => hno b o q z n) hφ⟩
 self := λ F i φ σ s Q E ⟨⟨old, he⟩, _⟩ h => wpAny_pyIter_enum he h
theorem Ay (hA : A.handled = none) (I : Addr) (x : List Nat) (t : Tok) : Walks K.prog K.w A I [I] [I] x.length (SignAt ⟨x.toArray⟩) (λ i h => h.IsStrIter I (strIterType ⟨x.toArray⟩) ⟨x.toArray⟩ t i) := by
 unfold strIterType
 split
 ·exact Walks.strAscii hA I ⟨x.toArray⟩ t
 ·exact Walks.strWide hA I ⟨x.toArray⟩ t
theorem yI (hA : A.handled = none) (I : Addr) (x : List Nat) (t : Tok) : Draws K.prog K.w A I [I] x.length (λ i v => ∃ c u, x.toArray[i]? = some c ∧ v = .str ⟨#[c]⟩ u) (λ i h => h.IsStrIter I (strIterType ⟨x.toArray⟩) ⟨x.toArray⟩ t i) := by
 unfold strIterType
 split
 ·exact Draws.strAscii hA I ⟨x.toArray⟩ t
 ·exact Draws.strWide hA I ⟨x.toArray⟩ t
theorem u8 (x : Str) : strIterType x = "str_ascii_iterator" ∨ strIterType x = "str_iterator" := by
 unfold strIterType; split <;> simp
noncomputable def rP (K : Kx) (g : Heap) (F : List Addr) (A : Around) (φ : aO) (σ : aa) (s : Shared) (items : List AV) (same : aa -> Prop) (target : Expr) (Q : Value -> Shared -> Prop) : Prop :=
 ∀ its fp it P h' t', ql K g A its fp items same target it P -> P F 0 φ σ h' -> (∀ b ∈ its, s.heap.get? b = none) -> (∀ b ∈ fp, h'.get? b ≠ none) -> (∀ b o, s.heap.get? b = some o -> h'.get? b = some o) -> Q it (up s h' t')
theorem Bq {va : AV} {a : Value} {items : List AV} {target : Expr} {Q : Value -> Shared -> Prop} (hA : A.handled = none) (e : my σ va = some items) (st : St K g F φ σ s.heap) (ra : aM K s.heap F φ va a)
  (h : rP K g F A φ σ s items (λ σ' => ch σ' va = ch σ va) target Q) : wpAny (model K.prog K.w) A (pyIter a) Q E s := by
 cases va with
 | str x =>
  obtain ⟨t, rfl, hz⟩ := ra
  cases Option.some.inj e
  refine wpAny_pyIter_strU ?_
  refine h [s.heap.objs.size] [] _ (λ F i φ σ h => h.IsStrIter s.heap.objs.size (strIterType ⟨x.toArray⟩) ⟨x.toArray⟩ t i) _ s.toks ?_ ⟨_, Heap.get?_push_size _ rfl, rfl, rfl⟩ (λ b hb => by rw [List.mem_singleton.mp hb]; exact bp _) (λ _ hb => nomatch hb) (λ _ _ e => Heap.get?_push_of_some _ e)
  have := ql.str (K := K) (g := g) (target := target) (Ay hA s.heap.objs.size x t) (λ i h ⟨o, ho, hc, hd⟩ => ⟨o, _, ho, bW hd, hc, u8 _⟩)
  exact ⟨this.rcd, this.next, this.done, λ F F' i φ σ φ' σ' h h' a b c d _ => this.keep F F' i φ σ φ' σ' h h' a b c d trivial, this.self⟩
 | loc k =>
  refine dk (f := some) e λ l e1 e => ?_
  cases Option.some.inj e
  apply st.list e1 ra
  intro x vs ex lx rl hz
  have hne : x ≠ s.heap.objs.size := λ q => lx.elim λ o ho => Nat.lt_irrefl _ (q ▸ Heap.lt_size ho.1)
  refine wpAny_pyIter_list lx (h [s.heap.objs.size] [] _ (λ F i φ σ h => h.IsListIter s.heap.objs.size x i ∧ φ[k]? = some (x, x) ∧ σ[k]? = some (.list items)) _ s.toks ?_ ⟨⟨_, Heap.get?_push_size _ rfl, rfl, rfl⟩, ex, e1⟩
   (λ b hb => by rw [List.mem_singleton.mp hb]; exact bp _) (λ _ hb => nomatch hb) (λ _ _ e => Heap.get?_push_of_some _ e))
  have := ql.list (K := K) (g := g) (l := items) (k := k) (target := target) hA hne
  exact ⟨this.rcd, this.next, this.done, λ F F' i φ σ φ' σ' h h' a b c d q => this.keep F F' i φ σ φ' σ' h h' a b c d (Eq.trans q e1), this.self⟩
 | _ => exact ak e
theorem Br {target : Expr} {r : Addr} {t u v : Tok} {Q : Value -> Shared -> Prop} (hA : A.handled = none) (hr : IsRange s.heap r 0 8 1 t u v)
  (h : rP K g F A φ σ s (oX 8) (λ _ => True) target Q) : wpAny (model K.prog K.w) A (pyIter (.ref r)) Q E s := by
 refine wpAny_pyIter_range hr (by decide) ?_
 refine h [s.heap.objs.size] [] _ (λ F i φ σ h => IsRangeIter h s.heap.objs.size ((0 : Int) + (i : Nat) * 1) (((8 : Nat) : Int) - (i : Nat)) 1) _ s.toks (ql.range hA) ?_ (λ b hb => by rw [List.mem_singleton.mp hb]; exact bp _) (λ _ hb => nomatch hb)
  (λ _ _ e => Heap.get?_push_of_some _ e)
 exact Heap.get?_push_size _ rfl
theorem xA {x : List Nat} {t : Tok} {elts : List Expr} {k : Nat} {pos : Pos} {Q : Value -> Shared -> Prop} (hA : A.handled = none)
  (h : rP K g F A φ σ s (cz 0 (x.map λ c => .str [c])) (λ _ => True) (.Tuple elts k pos) Q) :
  wpAny (model K.prog K.w) A (call (.type "enumerate") [.str ⟨x.toArray⟩ t]) Q E s := by
 refine call_enumerate_str λ h' he hi hsz hk => ?_
 have ne : s.heap.objs.size + 1 ≠ s.heap.objs.size := Nat.succ_ne_self _
 have nn : s.heap.get? (s.heap.objs.size + 1) = none := by
  cases q : s.heap.get? (s.heap.objs.size + 1) with
  | none => rfl
  | some o => exact absurd (Heap.lt_size q) (Nat.not_lt.mpr (Nat.le_succ _))
 refine h [s.heap.objs.size + 1, s.heap.objs.size] [s.heap.objs.size] _ (λ F i φ σ h => (∃ old, IsEnum h (s.heap.objs.size + 1) s.heap.objs.size (i : Int) old) ∧ h.IsStrIter s.heap.objs.size (strIterType ⟨x.toArray⟩) ⟨x.toArray⟩ t i ∧ True) h' s.toks
  (ql.enum (fp := [s.heap.objs.size]) (l := x.map λ c => .str [c]) (by rw [List.length_map]; exact yI (A := A.in1) hA _ x t) ne (by simp) (λ i h ⟨o, ho, hc, hd⟩ => ⟨o, ho, bW hd⟩) (λ _ _ _ => True)
   (λ F i φ h V v _ hV hv => ?_) (λ _ _ _ _ _ _ _ _ _ => trivial) (λ _ _ _ _ b hb => .inl (List.mem_singleton.mp hb)) (λ i h ⟨o, ho, _⟩ b hb => by rw [List.mem_singleton.mp hb, ho]; exact λ e => (nomatch e)))
  ⟨⟨_, he⟩, hi, trivial⟩ (λ b hb => ?_) (λ b hb => by obtain ⟨o, ho, _⟩ := hi; rw [List.mem_singleton.mp hb, ho]; exact λ e => (nomatch e)) hk
 ·obtain ⟨c, hc, rfl⟩ := zy hV
  obtain ⟨c', u, h1, rfl⟩ := hv
  rw [List.getElem?_toArray, hc] at h1
  cases h1
  exact .str [c] u (show 1 ≤ sizeLine by decide)
 ·rcases List.mem_cons.mp hb with rfl | hb
  ·exact nn
  ·rw [List.mem_singleton.mp hb]; exact bp _
theorem uz {l : List AV} {ax : Addr} {vs : Array Value} {elts : List Expr} {k : Nat} {pos : Pos} {Q : Value -> Shared -> Prop} (hA : A.handled = none) (lx : s.heap.IsList ax vs) (no : ¬ bZ F φ ax) (rl : ao K s.heap F φ l vs.toList)
  (h : rP K g F A φ σ s (cz 0 l) (λ _ => True) (.Tuple elts k pos) Q) :
  wpAny (model K.prog K.w) A (call (.type "enumerate") [.ref ax]) Q E s := by
 refine call_enumerate_list lx λ h' he hi hsz hk => ?_
 have ne : s.heap.objs.size + 1 ≠ s.heap.objs.size := Nat.succ_ne_self _
 have nn : s.heap.get? (s.heap.objs.size + 1) = none := by
  cases q : s.heap.get? (s.heap.objs.size + 1) with
  | none => rfl
  | some o => exact absurd (Heap.lt_size q) (Nat.not_lt.mpr (Nat.le_succ _))
 have hax : ax < s.heap.objs.size := let ⟨o, ho, _⟩ := lx; Heap.lt_size ho
 have n1 : ax ≠ s.heap.objs.size := Nat.ne_of_lt hax
 have n2 : ax ≠ s.heap.objs.size + 1 := Nat.ne_of_lt (Nat.lt_succ_of_lt hax)
 have hl : l.length = vs.size := by rw [← rl.length, Array.length_toList]
 refine h [s.heap.objs.size + 1, s.heap.objs.size] [s.heap.objs.size, ax] _ (λ F i φ' σ h => (∃ old, IsEnum h (s.heap.objs.size + 1) s.heap.objs.size (i : Int) old) ∧ (h.IsListIter s.heap.objs.size ax i ∧ h.IsList ax vs) ∧ (¬ bZ F φ' ax ∧ (∃ o, h.get? ax = some o ∧ NR o) ∧ ao K h F φ' l vs.toList)) h' s.toks
  (ql.enum (fp := [s.heap.objs.size, ax]) (l := l) (by rw [hl]; exact Draws.list (A := A.in1) hA _ ax n1 vs) ne (by simp only [List.mem_cons, List.not_mem_nil, or_false, not_or]; exact ⟨ne, Ne.symm n2⟩)
   (λ i h ⟨⟨o, ho, hc, hd⟩, _⟩ => ⟨o, ho, bW hd⟩) (λ F φ' h => ¬ bZ F φ' ax ∧ (∃ o, h.get? ax = some o ∧ NR o) ∧ ao K h F φ' l vs.toList)
   (λ F i φ h V v hr hV hv => ?_) (λ F F' φ φ' h h' hr hk hφ => ?_) (λ F φ h hr b hb => ?_) (λ i h ⟨⟨o, ho, _⟩, ⟨o', ho', _⟩⟩ b hb => ?_))
  ⟨⟨_, he⟩, ⟨hi, let ⟨o, ho, r⟩ := lx; ⟨o, hk _ _ ho, r⟩⟩, no, ?_, ?_⟩ (λ b hb => ?_) (λ b hb => by
   rcases List.mem_cons.mp hb with rfl | hb
   ·obtain ⟨o, ho, _⟩ := hi; rw [ho]; exact λ e => (nomatch e)
   ·obtain ⟨o, ho, _⟩ := lx; rw [List.mem_singleton.mp hb, hk _ _ ho]; exact λ e => (nomatch e)) hk
 ·obtain ⟨v', h1, h2⟩ := hr.2.2.get hV
  rw [← Array.getElem?_toList] at hv
  rw [hv] at h1; cases h1
  exact h2
 ·obtain ⟨r1, ⟨o, r2, r3⟩, r4⟩ := hr
  exact ⟨(hk _ o r2 r3 (.inl (by simp)) r1).2, ⟨o, (hk _ o r2 r3 (.inl (by simp)) r1).1, r3⟩, ao.monoL (λ a o e n z no => hk a o e n (.inr z) no) hφ r4⟩
 ·rcases List.mem_cons.mp hb with rfl | hb
  ·exact .inl rfl
  ·rw [List.mem_singleton.mp hb]; exact .inr hr.1
 ·rcases List.mem_cons.mp hb with rfl | hb
  ·rw [ho]; exact λ e => (nomatch e)
  ·rw [List.mem_singleton.mp hb, ho']; exact λ e => (nomatch e)
 ·obtain ⟨o, ho, hc, n, hd⟩ := lx
  exact ⟨o, hk _ _ ho, .seq hd⟩
 ·exact ao.mono K (λ a o e _ no => ⟨hk a o e, no⟩) (λ _ _ e => e) rl
 ·rcases List.mem_cons.mp hb with rfl | hb
  ·exact nn
  ·rw [List.mem_singleton.mp hb]; exact bp _
end
noncomputable section
structure Cx where
 K : Kx
 scope : Scope
 Γ : List Str
 D : List Fn
noncomputable def Ci : Bi -> Str
 | .ord => Str.ofString "ord" | .len => Str.ofString "len" | .str => Str.ofString "str" | .chr => Str.ofString "chr" | .sum => Str.ofString "sum" | .int => Str.ofString "int"
noncomputable def z9 : SM -> Str
 | .find => Str.ofString "find" | .join => Str.ofString "join" | .lower => Str.ofString "lower" | .isalpha => Str.ofString "isalpha" | .isdigit => Str.ofString "isdigit"
noncomputable def lr (f : Fn) (x : Str) : Bool := match j5 f with | .inl y => x == y | .inr _ => false
noncomputable def fw (x : Str) : Bool := !(x == ("__debug__" : Str))
noncomputable def Cx.kind (cx : Cx) (x : Str) : Option NameKind := cx.scope.names.lookup x
noncomputable def Cx.isGlob (cx : Cx) (x : Str) : Bool := (cx.kind x == some .globalImplicit) && fw x
noncomputable def Cx.isVar (cx : Cx) (i : Nat) (x : Str) : Bool := (cx.Γ[i]? == some x) && (cx.kind x == some .local || cx.kind x == some .cell || cx.kind x == some .free) && fw x && !(x == ("__classdict__" : Str))
noncomputable def Cx.isBlt (cx : Cx) (x : Str) : Bool := cx.isGlob x && (nsIn cx.K.frag mainGlobals x == some none)
theorem bY {P : Prop} (h : false = true) : P := Bool.noConfusion h
noncomputable def cc (x : PySem.Expr) (k : Str -> Pos -> Bool) : Bool := if h : x.ctorIdx = 23 then @PySem.Expr.Name.elim (λ _ => Bool) x h k else false
theorem aP {x : PySem.Expr} {k : Str -> Pos -> Bool} {P : PySem.Expr -> Prop} (h : cc x k = true) (f : ∀ y p, k y p = true -> P (.Name y p)) : P x :=
 if c : x.ctorIdx = 23 then @PySem.Expr.Name.elim (λ x => cc x k = true -> (∀ y p, k y p = true -> P (.Name y p)) -> P x) x c (λ y p h f => f y p h) h f else bY ((dif_neg c).symm.trans h)
theorem oI {x : PySem.Expr} {k : Str -> Pos -> Bool} (h : cc x k = true) : x.ctorIdx = 23 := if c : x.ctorIdx = 23 then c else bY ((dif_neg c).symm.trans h)
noncomputable def cv (x : PySem.Expr) (k : Const -> Nat -> Pos -> Bool) : Bool := if h : x.ctorIdx = 19 then @PySem.Expr.Constant.elim (λ _ => Bool) x h k else false
theorem cm {x : PySem.Expr} {k : Const -> Nat -> Pos -> Bool} {P : PySem.Expr -> Prop} (h : cv x k = true) (f : ∀ c n p, k c n p = true -> P (.Constant c n p)) : P x :=
 if c : x.ctorIdx = 19 then @PySem.Expr.Constant.elim (λ x => cv x k = true -> (∀ c n p, k c n p = true -> P (.Constant c n p)) -> P x) x c (λ c n p h f => f c n p h) h f else bY ((dif_neg c).symm.trans h)
theorem iH {x : PySem.Expr} {k : Const -> Nat -> Pos -> Bool} (h : cv x k = true) : x.ctorIdx = 19 := if c : x.ctorIdx = 19 then c else bY ((dif_neg c).symm.trans h)
noncomputable def eW (x : PySem.Expr) (k : UnaryOp -> PySem.Expr -> Pos -> Bool) : Bool := if h : x.ctorIdx = 3 then @PySem.Expr.UnaryOp.elim (λ _ => Bool) x h k else false
theorem cW {x : PySem.Expr} {k : UnaryOp -> PySem.Expr -> Pos -> Bool} {P : PySem.Expr -> Prop} (h : eW x k = true) (f : ∀ o v p, k o v p = true -> P (.UnaryOp o v p)) : P x :=
 if c : x.ctorIdx = 3 then @PySem.Expr.UnaryOp.elim (λ x => eW x k = true -> (∀ o v p, k o v p = true -> P (.UnaryOp o v p)) -> P x) x c (λ o v p h f => f o v p h) h f else bY ((dif_neg c).symm.trans h)
theorem pv {x : PySem.Expr} {k : UnaryOp -> PySem.Expr -> Pos -> Bool} (h : eW x k = true) : x.ctorIdx = 3 := if c : x.ctorIdx = 3 then c else bY ((dif_neg c).symm.trans h)
noncomputable def mD (x : PySem.Expr) (k : PySem.Expr -> Operator -> PySem.Expr -> Pos -> Bool) : Bool := if h : x.ctorIdx = 2 then @PySem.Expr.BinOp.elim (λ _ => Bool) x h k else false
theorem th {x : PySem.Expr} {k : PySem.Expr -> Operator -> PySem.Expr -> Pos -> Bool} {P : PySem.Expr -> Prop} (h : mD x k = true) (f : ∀ l o r p, k l o r p = true -> P (.BinOp l o r p)) : P x :=
 if c : x.ctorIdx = 2 then @PySem.Expr.BinOp.elim (λ x => mD x k = true -> (∀ l o r p, k l o r p = true -> P (.BinOp l o r p)) -> P x) x c (λ l o r p h f => f l o r p h) h f else bY ((dif_neg c).symm.trans h)
theorem ti {x : PySem.Expr} {k : PySem.Expr -> Operator -> PySem.Expr -> Pos -> Bool} (h : mD x k = true) : x.ctorIdx = 2 := if c : x.ctorIdx = 2 then c else bY ((dif_neg c).symm.trans h)
noncomputable def dR (x : PySem.Expr) (k : PySem.Expr -> (List CmpOp) -> (List PySem.Expr) -> Pos -> Bool) : Bool := if h : x.ctorIdx = 15 then @PySem.Expr.Compare.elim (λ _ => Bool) x h k else false
theorem cC {x : PySem.Expr} {k : PySem.Expr -> (List CmpOp) -> (List PySem.Expr) -> Pos -> Bool} {P : PySem.Expr -> Prop} (h : dR x k = true) (f : ∀ l os rs p, k l os rs p = true -> P (.Compare l os rs p)) : P x :=
 if c : x.ctorIdx = 15 then @PySem.Expr.Compare.elim (λ x => dR x k = true -> (∀ l os rs p, k l os rs p = true -> P (.Compare l os rs p)) -> P x) x c (λ l os rs p h f => f l os rs p h) h f else bY ((dif_neg c).symm.trans h)
theorem pt {x : PySem.Expr} {k : PySem.Expr -> (List CmpOp) -> (List PySem.Expr) -> Pos -> Bool} (h : dR x k = true) : x.ctorIdx = 15 := if c : x.ctorIdx = 15 then c else bY ((dif_neg c).symm.trans h)
noncomputable def iG (x : PySem.Expr) (k : BoolOp -> (List PySem.Expr) -> Pos -> Bool) : Bool := if h : x.ctorIdx = 0 then @PySem.Expr.BoolOp.elim (λ _ => Bool) x h k else false
theorem eN {x : PySem.Expr} {k : BoolOp -> (List PySem.Expr) -> Pos -> Bool} {P : PySem.Expr -> Prop} (h : iG x k = true) (f : ∀ o vs p, k o vs p = true -> P (.BoolOp o vs p)) : P x :=
 if c : x.ctorIdx = 0 then @PySem.Expr.BoolOp.elim (λ x => iG x k = true -> (∀ o vs p, k o vs p = true -> P (.BoolOp o vs p)) -> P x) x c (λ o vs p h f => f o vs p h) h f else bY ((dif_neg c).symm.trans h)
theorem qU {x : PySem.Expr} {k : BoolOp -> (List PySem.Expr) -> Pos -> Bool} (h : iG x k = true) : x.ctorIdx = 0 := if c : x.ctorIdx = 0 then c else bY ((dif_neg c).symm.trans h)
noncomputable def mH (x : PySem.Expr) (k : PySem.Expr -> PySem.Expr -> PySem.Expr -> Pos -> Bool) : Bool := if h : x.ctorIdx = 5 then @PySem.Expr.IfExp.elim (λ _ => Bool) x h k else false
theorem l0 {x : PySem.Expr} {k : PySem.Expr -> PySem.Expr -> PySem.Expr -> Pos -> Bool} {P : PySem.Expr -> Prop} (h : mH x k = true) (f : ∀ t a b p, k t a b p = true -> P (.IfExp t a b p)) : P x :=
 if c : x.ctorIdx = 5 then @PySem.Expr.IfExp.elim (λ x => mH x k = true -> (∀ t a b p, k t a b p = true -> P (.IfExp t a b p)) -> P x) x c (λ t a b p h f => f t a b p h) h f else bY ((dif_neg c).symm.trans h)
theorem tl {x : PySem.Expr} {k : PySem.Expr -> PySem.Expr -> PySem.Expr -> Pos -> Bool} (h : mH x k = true) : x.ctorIdx = 5 := if c : x.ctorIdx = 5 then c else bY ((dif_neg c).symm.trans h)
noncomputable def lB (x : PySem.Expr) (k : PySem.Expr -> (List PySem.Expr) -> (List Keyword) -> Pos -> Bool) : Bool := if h : x.ctorIdx = 16 then @PySem.Expr.Call.elim (λ _ => Bool) x h k else false
theorem oB {x : PySem.Expr} {k : PySem.Expr -> (List PySem.Expr) -> (List Keyword) -> Pos -> Bool} {P : PySem.Expr -> Prop} (h : lB x k = true) (f : ∀ f as ks p, k f as ks p = true -> P (.Call f as ks p)) : P x :=
 if c : x.ctorIdx = 16 then @PySem.Expr.Call.elim (λ x => lB x k = true -> (∀ f as ks p, k f as ks p = true -> P (.Call f as ks p)) -> P x) x c (λ g as ks p h f => f g as ks p h) h f else bY ((dif_neg c).symm.trans h)
theorem oD {x : PySem.Expr} {k : PySem.Expr -> (List PySem.Expr) -> (List Keyword) -> Pos -> Bool} (h : lB x k = true) : x.ctorIdx = 16 := if c : x.ctorIdx = 16 then c else bY ((dif_neg c).symm.trans h)
noncomputable def cr (x : PySem.Expr) (k : PySem.Expr -> Str -> Pos -> Bool) : Bool := if h : x.ctorIdx = 20 then @PySem.Expr.Attribute.elim (λ _ => Bool) x h k else false
theorem cB {x : PySem.Expr} {k : PySem.Expr -> Str -> Pos -> Bool} {P : PySem.Expr -> Prop} (h : cr x k = true) (f : ∀ v n p, k v n p = true -> P (.Attribute v n p)) : P x :=
 if c : x.ctorIdx = 20 then @PySem.Expr.Attribute.elim (λ x => cr x k = true -> (∀ v n p, k v n p = true -> P (.Attribute v n p)) -> P x) x c (λ v n p h f => f v n p h) h f else bY ((dif_neg c).symm.trans h)
theorem mf {x : PySem.Expr} {k : PySem.Expr -> Str -> Pos -> Bool} (h : cr x k = true) : x.ctorIdx = 20 := if c : x.ctorIdx = 20 then c else bY ((dif_neg c).symm.trans h)
noncomputable def du (x : PySem.Expr) (k : PySem.Expr -> PySem.Expr -> Pos -> Bool) : Bool := if h : x.ctorIdx = 21 then @PySem.Expr.Subscript.elim (λ _ => Bool) x h k else false
theorem ez {x : PySem.Expr} {k : PySem.Expr -> PySem.Expr -> Pos -> Bool} {P : PySem.Expr -> Prop} (h : du x k = true) (f : ∀ v i p, k v i p = true -> P (.Subscript v i p)) : P x :=
 if c : x.ctorIdx = 21 then @PySem.Expr.Subscript.elim (λ x => du x k = true -> (∀ v i p, k v i p = true -> P (.Subscript v i p)) -> P x) x c (λ v i p h f => f v i p h) h f else bY ((dif_neg c).symm.trans h)
theorem mh {x : PySem.Expr} {k : PySem.Expr -> PySem.Expr -> Pos -> Bool} (h : du x k = true) : x.ctorIdx = 21 := if c : x.ctorIdx = 21 then c else bY ((dif_neg c).symm.trans h)
noncomputable def mI (x : PySem.Expr) (k : (Option PySem.Expr) -> (Option PySem.Expr) -> (Option PySem.Expr) -> Pos -> Bool) : Bool := if h : x.ctorIdx = 26 then @PySem.Expr.Slice.elim (λ _ => Bool) x h k else false
theorem l3 {x : PySem.Expr} {k : (Option PySem.Expr) -> (Option PySem.Expr) -> (Option PySem.Expr) -> Pos -> Bool} {P : PySem.Expr -> Prop} (h : mI x k = true) (f : ∀ l u t p, k l u t p = true -> P (.Slice l u t p)) : P x :=
 if c : x.ctorIdx = 26 then @PySem.Expr.Slice.elim (λ x => mI x k = true -> (∀ l u t p, k l u t p = true -> P (.Slice l u t p)) -> P x) x c (λ l u t p h f => f l u t p h) h f else bY ((dif_neg c).symm.trans h)
noncomputable def fH (x : PySem.Expr) (k : (List PySem.Expr) -> Nat -> Pos -> Bool) : Bool := if h : x.ctorIdx = 25 then @PySem.Expr.Tuple.elim (λ _ => Bool) x h k else false
theorem eh {x : PySem.Expr} {k : (List PySem.Expr) -> Nat -> Pos -> Bool} {P : PySem.Expr -> Prop} (h : fH x k = true) (f : ∀ es n p, k es n p = true -> P (.Tuple es n p)) : P x :=
 if c : x.ctorIdx = 25 then @PySem.Expr.Tuple.elim (λ x => fH x k = true -> (∀ es n p, k es n p = true -> P (.Tuple es n p)) -> P x) x c (λ es n p h f => f es n p h) h f else bY ((dif_neg c).symm.trans h)
theorem tr {x : PySem.Expr} {k : (List PySem.Expr) -> Nat -> Pos -> Bool} (h : fH x k = true) : x.ctorIdx = 25 := if c : x.ctorIdx = 25 then c else bY ((dif_neg c).symm.trans h)
noncomputable def rc (x : PySem.Expr) (k : (List PySem.Expr) -> Pos -> Bool) : Bool := if h : x.ctorIdx = 24 then @PySem.Expr.List.elim (λ _ => Bool) x h k else false
theorem uS {x : PySem.Expr} {k : (List PySem.Expr) -> Pos -> Bool} {P : PySem.Expr -> Prop} (h : rc x k = true) (f : ∀ es p, k es p = true -> P (.List es p)) : P x :=
 if c : x.ctorIdx = 24 then @PySem.Expr.List.elim (λ x => rc x k = true -> (∀ es p, k es p = true -> P (.List es p)) -> P x) x c (λ es p h f => f es p h) h f else bY ((dif_neg c).symm.trans h)
theorem uT {x : PySem.Expr} {k : (List PySem.Expr) -> Pos -> Bool} (h : rc x k = true) : x.ctorIdx = 24 := if c : x.ctorIdx = 24 then c else bY ((dif_neg c).symm.trans h)
noncomputable def qW (x : PySem.Expr) (k : (List (Option PySem.Expr)) -> (List PySem.Expr) -> Pos -> Bool) : Bool := if h : x.ctorIdx = 6 then @PySem.Expr.Dict.elim (λ _ => Bool) x h k else false
theorem uL {x : PySem.Expr} {k : (List (Option PySem.Expr)) -> (List PySem.Expr) -> Pos -> Bool} {P : PySem.Expr -> Prop} (h : qW x k = true) (f : ∀ ks vs p, k ks vs p = true -> P (.Dict ks vs p)) : P x :=
 if c : x.ctorIdx = 6 then @PySem.Expr.Dict.elim (λ x => qW x k = true -> (∀ ks vs p, k ks vs p = true -> P (.Dict ks vs p)) -> P x) x c (λ ks vs p h f => f ks vs p h) h f else bY ((dif_neg c).symm.trans h)
theorem uM {x : PySem.Expr} {k : (List (Option PySem.Expr)) -> (List PySem.Expr) -> Pos -> Bool} (h : qW x k = true) : x.ctorIdx = 6 := if c : x.ctorIdx = 6 then c else bY ((dif_neg c).symm.trans h)
noncomputable def fz (x : PySem.Expr) (k : PySem.Expr -> (List Comprehension) -> Scope -> Pos -> Bool) : Bool := if h : x.ctorIdx = 8 then @PySem.Expr.ListComp.elim (λ _ => Bool) x h k else false
theorem oH {x : PySem.Expr} {k : PySem.Expr -> (List Comprehension) -> Scope -> Pos -> Bool} {P : PySem.Expr -> Prop} (h : fz x k = true) (f : ∀ e gs sc p, k e gs sc p = true -> P (.ListComp e gs sc p)) : P x :=
 if c : x.ctorIdx = 8 then @PySem.Expr.ListComp.elim (λ x => fz x k = true -> (∀ e gs sc p, k e gs sc p = true -> P (.ListComp e gs sc p)) -> P x) x c (λ e gs sc p h f => f e gs sc p h) h f else bY ((dif_neg c).symm.trans h)
theorem iI {x : PySem.Expr} {k : PySem.Expr -> (List Comprehension) -> Scope -> Pos -> Bool} (h : fz x k = true) : x.ctorIdx = 8 := if c : x.ctorIdx = 8 then c else bY ((dif_neg c).symm.trans h)
noncomputable def dq (x : PySem.Stmt) (k : (Option PySem.Expr) -> Pos -> Bool) : Bool := if h : x.ctorIdx = 3 then @PySem.Stmt.Return.elim (λ _ => Bool) x h k else false
theorem cD {x : PySem.Stmt} {k : (Option PySem.Expr) -> Pos -> Bool} {P : PySem.Stmt -> Prop} (h : dq x k = true) (f : ∀ e p, k e p = true -> P (.Return e p)) : P x :=
 if c : x.ctorIdx = 3 then @PySem.Stmt.Return.elim (λ x => dq x k = true -> (∀ e p, k e p = true -> P (.Return e p)) -> P x) x c (λ e p h f => f e p h) h f else bY ((dif_neg c).symm.trans h)
noncomputable def eV (x : PySem.Stmt) (k : (List PySem.Expr) -> PySem.Expr -> Pos -> Bool) : Bool := if h : x.ctorIdx = 5 then @PySem.Stmt.Assign.elim (λ _ => Bool) x h k else false
theorem d3 {x : PySem.Stmt} {k : (List PySem.Expr) -> PySem.Expr -> Pos -> Bool} {P : PySem.Stmt -> Prop} (h : eV x k = true) (f : ∀ ts v p, k ts v p = true -> P (.Assign ts v p)) : P x :=
 if c : x.ctorIdx = 5 then @PySem.Stmt.Assign.elim (λ x => eV x k = true -> (∀ ts v p, k ts v p = true -> P (.Assign ts v p)) -> P x) x c (λ ts v p h f => f ts v p h) h f else bY ((dif_neg c).symm.trans h)
noncomputable def uN (x : PySem.Stmt) (k : PySem.Expr -> PySem.Expr -> (List Stmt) -> (List Stmt) -> Pos -> Bool) : Bool := if h : x.ctorIdx = 9 then @PySem.Stmt.For.elim (λ _ => Bool) x h k else false
theorem uO {x : PySem.Stmt} {k : PySem.Expr -> PySem.Expr -> (List Stmt) -> (List Stmt) -> Pos -> Bool} {P : PySem.Stmt -> Prop} (h : uN x k = true) (f : ∀ t i b e p, k t i b e p = true -> P (.For t i b e p)) : P x :=
 if c : x.ctorIdx = 9 then @PySem.Stmt.For.elim (λ x => uN x k = true -> (∀ t i b e p, k t i b e p = true -> P (.For t i b e p)) -> P x) x c (λ t i b e p h f => f t i b e p h) h f else bY ((dif_neg c).symm.trans h)
noncomputable def oM (x : PySem.Stmt) (k : PySem.Expr -> (List Stmt) -> (List Stmt) -> Pos -> Bool) : Bool := if h : x.ctorIdx = 11 then @PySem.Stmt.While.elim (λ _ => Bool) x h k else false
theorem rh {x : PySem.Stmt} {k : PySem.Expr -> (List Stmt) -> (List Stmt) -> Pos -> Bool} {P : PySem.Stmt -> Prop} (h : oM x k = true) (f : ∀ t b e p, k t b e p = true -> P (.While t b e p)) : P x :=
 if c : x.ctorIdx = 11 then @PySem.Stmt.While.elim (λ x => oM x k = true -> (∀ t b e p, k t b e p = true -> P (.While t b e p)) -> P x) x c (λ t b e p h f => f t b e p h) h f else bY ((dif_neg c).symm.trans h)
noncomputable def tm (x : PySem.Stmt) (k : PySem.Expr -> (List Stmt) -> (List Stmt) -> Pos -> Bool) : Bool := if h : x.ctorIdx = 12 then @PySem.Stmt.If.elim (λ _ => Bool) x h k else false
theorem lC {x : PySem.Stmt} {k : PySem.Expr -> (List Stmt) -> (List Stmt) -> Pos -> Bool} {P : PySem.Stmt -> Prop} (h : tm x k = true) (f : ∀ t a b p, k t a b p = true -> P (.If t a b p)) : P x :=
 if c : x.ctorIdx = 12 then @PySem.Stmt.If.elim (λ x => tm x k = true -> (∀ t a b p, k t a b p = true -> P (.If t a b p)) -> P x) x c (λ t a b p h f => f t a b p h) h f else bY ((dif_neg c).symm.trans h)
noncomputable def oJ (x : PySem.Stmt) (k : (Option PySem.Expr) -> (Option PySem.Expr) -> Pos -> Bool) : Bool := if h : x.ctorIdx = 16 then @PySem.Stmt.Raise.elim (λ _ => Bool) x h k else false
theorem rd {x : PySem.Stmt} {k : (Option PySem.Expr) -> (Option PySem.Expr) -> Pos -> Bool} {P : PySem.Stmt -> Prop} (h : oJ x k = true) (f : ∀ a b p, k a b p = true -> P (.Raise a b p)) : P x :=
 if c : x.ctorIdx = 16 then @PySem.Stmt.Raise.elim (λ x => oJ x k = true -> (∀ a b p, k a b p = true -> P (.Raise a b p)) -> P x) x c (λ a b p h f => f a b p h) h f else bY ((dif_neg c).symm.trans h)
noncomputable def uU (x : PySem.Stmt) (k : (List Stmt) -> (List ExceptHandler) -> (List Stmt) -> (List Stmt) -> Pos -> Bool) : Bool := if h : x.ctorIdx = 17 then @PySem.Stmt.Try.elim (λ _ => Bool) x h k else false
theorem uV {x : PySem.Stmt} {k : (List Stmt) -> (List ExceptHandler) -> (List Stmt) -> (List Stmt) -> Pos -> Bool} {P : PySem.Stmt -> Prop} (h : uU x k = true) (f : ∀ b hs e f p, k b hs e f p = true -> P (.Try b hs e f p)) : P x :=
 if c : x.ctorIdx = 17 then @PySem.Stmt.Try.elim (λ x => uU x k = true -> (∀ b hs e f p, k b hs e f p = true -> P (.Try b hs e f p)) -> P x) x c (λ b hs e g p h f => f b hs e g p h) h f else bY ((dif_neg c).symm.trans h)
noncomputable def mG (x : PySem.Stmt) (k : PySem.Expr -> Pos -> Bool) : Bool := if h : x.ctorIdx = 24 then @PySem.Stmt.Expr.elim (λ _ => Bool) x h k else false
theorem lY {x : PySem.Stmt} {k : PySem.Expr -> Pos -> Bool} {P : PySem.Stmt -> Prop} (h : mG x k = true) (f : ∀ v p, k v p = true -> P (.Expr v p)) : P x :=
 if c : x.ctorIdx = 24 then @PySem.Stmt.Expr.elim (λ x => mG x k = true -> (∀ v p, k v p = true -> P (.Expr v p)) -> P x) x c (λ v p h f => f v p h) h f else bY ((dif_neg c).symm.trans h)
noncomputable def oA (x : PySem.Stmt) (k : Pos -> Bool) : Bool := if h : x.ctorIdx = 26 then @PySem.Stmt.Break.elim (λ _ => Bool) x h k else false
theorem qV {x : PySem.Stmt} {k : Pos -> Bool} {P : PySem.Stmt -> Prop} (h : oA x k = true) (f : ∀ p, k p = true -> P (.Break p)) : P x :=
 if c : x.ctorIdx = 26 then @PySem.Stmt.Break.elim (λ x => oA x k = true -> (∀ p, k p = true -> P (.Break p)) -> P x) x c (λ p h f => f p h) h f else bY ((dif_neg c).symm.trans h)
noncomputable def rj (x : PySem.Const) (k : Bool -> Bool) : Bool := if h : x.ctorIdx = 1 then @PySem.Const.bool.elim (λ _ => Bool) x h k else false
theorem tu {x : PySem.Const} {k : Bool -> Bool} {P : PySem.Const -> Prop} (h : rj x k = true) (f : ∀ b, k b = true -> P (.bool b)) : P x :=
 if c : x.ctorIdx = 1 then @PySem.Const.bool.elim (λ x => rj x k = true -> (∀ b, k b = true -> P (.bool b)) -> P x) x c (λ b h f => f b h) h f else bY ((dif_neg c).symm.trans h)
noncomputable def uW (x : PySem.Const) (k : Int -> Bool) : Bool := if h : x.ctorIdx = 2 then @PySem.Const.int.elim (λ _ => Bool) x h k else false
theorem uX {x : PySem.Const} {k : Int -> Bool} {P : PySem.Const -> Prop} (h : uW x k = true) (f : ∀ i, k i = true -> P (.int i)) : P x :=
 if c : x.ctorIdx = 2 then @PySem.Const.int.elim (λ x => uW x k = true -> (∀ i, k i = true -> P (.int i)) -> P x) x c (λ i h f => f i h) h f else bY ((dif_neg c).symm.trans h)
noncomputable def rk (x : PySem.Const) (k : Str -> Bool) : Bool := if h : x.ctorIdx = 5 then @PySem.Const.str.elim (λ _ => Bool) x h k else false
theorem oO {x : PySem.Const} {k : Str -> Bool} {P : PySem.Const -> Prop} (h : rk x k = true) (f : ∀ s, k s = true -> P (.str s)) : P x :=
 if c : x.ctorIdx = 5 then @PySem.Const.str.elim (λ x => rk x k = true -> (∀ s, k s = true -> P (.str s)) -> P x) x c (λ s h f => f s h) h f else bY ((dif_neg c).symm.trans h)
noncomputable def fy {α : Type} (l : List α) (k : α -> List α -> Bool) : Bool := match l with | a :: r => k a r | [] => false
theorem bu {α : Type} {l : List α} {k : α -> List α -> Bool} {P : List α -> Prop} (h : fy l k = true) (f : ∀ a r, k a r = true -> P (a :: r)) : P l := by
 cases l with
 | nil => exact bY h
 | cons a r => exact f a r h
noncomputable def bJ {α : Type} (l : Option α) (k : α -> Bool) : Bool := match l with | some a => k a | none => false
theorem aH {α : Type} {l : Option α} {k : α -> Bool} {P : Option α -> Prop} (h : bJ l k = true) (f : ∀ a, k a = true -> P (some a)) : P l := by
 cases l with
 | none => exact bY h
 | some a => exact f a h
theorem ab {a b : Bool} (h : (a && b) = true) : a = true ∧ b = true := Bool.and_eq_true_iff.mp h
theorem aS {a b : Bool} {P : Prop} (h : (a && b) = true) (f : a = true -> b = true -> P) : P := f (ab h).1 (ab h).2
theorem bI {α : Type} [BEq α] [LawfulBEq α] {o v : α} {P : α -> Prop} (h : (o == v) = true) (f : P v) : P o := (eq_of_beq h).symm ▸ f
theorem bz {α : Type} {l : List α} {P : List α -> Prop} (h : l.isEmpty = true) (f : P []) : P l := List.isEmpty_iff.mp h ▸ f
theorem iD {α : Type} {l : Option α} {P : Option α -> Prop} (h : l.isNone = true) (f : P none) : P l := Option.isNone_iff_eq_none.mp h ▸ f
noncomputable def oz {α : Type} (l : List α) (k : α -> Bool) : Bool := fy l λ a r => r.isEmpty && k a
theorem bk {α : Type} {l : List α} {k : α -> Bool} {P : List α -> Prop} (h : oz l k = true) (f : ∀ a, k a = true -> P [a]) : P l :=
 bu h λ a r h => bz (P := λ r => P (a :: r)) (ab h).1 (f a (ab h).2)
noncomputable def AC {α : Type} (l : List α) (k : α -> α -> Bool) : Bool := fy l λ a r => oz r λ b => k a b
theorem dD {α : Type} {l : List α} {k : α -> α -> Bool} {P : List α -> Prop} (h : AC l k = true) (f : ∀ a b, k a b = true -> P [a, b]) : P l :=
 bu h λ a r h => bk (P := λ r => P (a :: r)) h (f a)
noncomputable def uy : UnaryOp -> Bool | .USub => true | _ => false
theorem jH {o : UnaryOp} {P : UnaryOp -> Prop} (h : uy o = true) (f : P .USub) : P o := by cases o <;> first | exact f | exact bY h
noncomputable def Cn : UnaryOp -> Bool | .Not => true | _ => false
theorem pW {o : UnaryOp} {P : UnaryOp -> Prop} (h : Cn o = true) (f : P .Not) : P o := by cases o <;> first | exact f | exact bY h
noncomputable def wC : BoolOp -> Bool | .And => true | _ => false
theorem pV {o : BoolOp} {P : BoolOp -> Prop} (h : wC o = true) (f : P .And) : P o := by cases o <;> first | exact f | exact bY h
theorem sP {o : BoolOp} {P : BoolOp -> Prop} (h : (!wC o) = true) (f : P .Or) : P o := by cases o <;> first | exact f | exact bY h
theorem pC {c : Const} {P : Const -> Prop} (h : (c.ctorIdx == 0) = true) (f : P .none) : P c := by cases c <;> first | exact f | exact bY h
noncomputable def rf (v : Value) (k : Str -> Bool) : Bool := if h : v.ctorIdx = 6 then @PySem.Value.str.elim (λ _ => Bool) v h λ s _ => k s else false
theorem oL {v : Value} {k : Str -> Bool} {P : Value -> Prop} (h : rf v k = true) (f : ∀ s t, k s = true -> P (.str s t)) : P v :=
 if c : v.ctorIdx = 6 then @PySem.Value.str.elim (λ v => rf v k = true -> (∀ s t, k s = true -> P (.str s t)) -> P v) v c (λ s t h f => f s t h) h f else bY ((dif_neg c).symm.trans h)
noncomputable def uQ (v : Value) (k : Int -> Bool) : Bool := if h : v.ctorIdx = 4 then @PySem.Value.int.elim (λ _ => Bool) v h λ i _ => k i else false
theorem uR {v : Value} {k : Int -> Bool} {P : Value -> Prop} (h : uQ v k = true) (f : ∀ i t, k i = true -> P (.int i t)) : P v :=
 if c : v.ctorIdx = 4 then @PySem.Value.int.elim (λ v => uQ v k = true -> (∀ i t, k i = true -> P (.int i t)) -> P v) v c (λ i t h f => f i t h) h f else bY ((dif_neg c).symm.trans h)
noncomputable def wN (v : Value) (k : Addr -> Bool) : Bool := if h : v.ctorIdx = 10 then @PySem.Value.ref.elim (λ _ => Bool) v h k else false
theorem p8 {v : Value} {k : Addr -> Bool} {P : Value -> Prop} (h : wN v k = true) (f : ∀ a, k a = true -> P (.ref a)) : P v :=
 if c : v.ctorIdx = 10 then @PySem.Value.ref.elim (λ v => wN v k = true -> (∀ a, k a = true -> P (.ref a)) -> P v) v c (λ a h f => f a h) h f else bY ((dif_neg c).symm.trans h)
noncomputable def qX (x : Data) (k : FuncData -> Bool) : Bool := if h : x.ctorIdx = 7 then @PySem.Data.func.elim (λ _ => Bool) x h k else false
theorem tj {x : Data} {k : FuncData -> Bool} {P : Data -> Prop} (h : qX x k = true) (f : ∀ a, k a = true -> P (.func a)) : P x :=
 if c : x.ctorIdx = 7 then @PySem.Data.func.elim (λ x => qX x k = true -> (∀ a, k a = true -> P (.func a)) -> P x) x c (λ a h f => f a h) h f else bY ((dif_neg c).symm.trans h)
noncomputable def re (x : Data) (k : Array Value -> Nat -> Bool) : Bool := if h : x.ctorIdx = 2 then @PySem.Data.seq.elim (λ _ => Bool) x h k else false
theorem oK {x : Data} {k : Array Value -> Nat -> Bool} {P : Data -> Prop} (h : re x k = true) (f : ∀ a n, k a n = true -> P (.seq a n)) : P x :=
 if c : x.ctorIdx = 2 then @PySem.Data.seq.elim (λ x => re x k = true -> (∀ a n, k a n = true -> P (.seq a n)) -> P x) x c (λ a n h f => f a n h) h f else bY ((dif_neg c).symm.trans h)
noncomputable def oE (o : Option Obj) (k : FuncData -> Bool) : Bool := bJ o λ o => qX o.data k
theorem oF {o : Option Obj} {k : FuncData -> Bool} {P : Option Obj -> Prop} (h : oE o k = true) (f : ∀ c d fd s, k fd = true -> P (some ⟨c, d, .func fd, s⟩)) : P o := by
 apply aH h; intro o h
 exact tj (P := λ x => P (some ⟨o.cls, o.dict, x, o.slots⟩)) h λ fd h => f _ _ fd _ h
noncomputable def Cz (o : Option Obj) (k : Array Value -> Bool) : Bool := bJ o λ o => re o.data λ a _ => k a
theorem xJ {o : Option Obj} {k : Array Value -> Bool} {P : Option Obj -> Prop} (h : Cz o k = true) (f : ∀ c d a n s, k a = true -> P (some ⟨c, d, .seq a n, s⟩)) : P o := by
 apply aH h; intro o h
 exact oK (P := λ x => P (some ⟨o.cls, o.dict, x, o.slots⟩)) h λ a n h => f _ _ a n _ h
noncomputable def mJ (b : FuncBody) (k : List Stmt -> Bool) : Bool := match b with | .stmts l => k l | .expr _ => false
theorem iK {b : FuncBody} {k : List Stmt -> Bool} {P : FuncBody -> Prop} (h : mJ b k = true) (f : ∀ l, k l = true -> P (.stmts l)) : P b := by cases b <;> first | exact bY h | exact f _ h
noncomputable def p7 (x : Expr) (k : Int -> Bool) : Bool := cv x λ c _ _ => uW c k
theorem i5 {x : Expr} {k : Int -> Bool} {P : Expr -> Prop} (h : p7 x k = true) (f : ∀ i n p, k i = true -> P (.Constant (.int i) n p)) : P x :=
 cm h λ c n p h => uX (P := λ c => P (.Constant c n p)) h λ i => f i n p
theorem xI {x : Expr} {k : Int -> Bool} (h : p7 x k = true) : x.ctorIdx = 19 := iH h
noncomputable def d4 (x : Expr) (k : Str -> List Expr -> Bool) : Bool := lB x λ f as ks _ => ks.isEmpty && cc f λ y _ => k y as
theorem ct {x : Expr} {k : Str -> List Expr -> Bool} {P : Expr -> Prop} (h : d4 x k = true) (f : ∀ y q as p, k y as = true -> P (.Call (.Name y q) as [] p)) : P x :=
 oB h λ g as ks p h => bz (P := λ ks => P (.Call g as ks p)) (ab h).1 (aP (P := λ g => P (.Call g as [] p)) (ab h).2 λ y q => f y q as p)
theorem iJ {x : Expr} {k : Str -> List Expr -> Bool} (h : d4 x k = true) : x.ctorIdx = 16 := oD h
noncomputable def eO (x : Expr) (k : Expr -> Str -> Pos -> List Expr -> Pos -> Bool) : Bool := lB x λ f as ks p => ks.isEmpty && cr f λ v n q => k v n q as p
theorem cN {x : Expr} {k : Expr -> Str -> Pos -> List Expr -> Pos -> Bool} {P : Expr -> Prop} (h : eO x k = true) (f : ∀ v n q as p, k v n q as p = true -> P (.Call (.Attribute v n q) as [] p)) : P x :=
 oB h λ g as ks p h => bz (P := λ ks => P (.Call g as ks p)) (ab h).1 (cB (P := λ g => P (.Call g as [] p)) (ab h).2 λ v n q => f v n q as p)
theorem to {x : Expr} {k : Expr -> Str -> Pos -> List Expr -> Pos -> Bool} (h : eO x k = true) : x.ctorIdx = 16 := oD h
noncomputable def dv (x : Expr) : Bool := !(lB x λ f as ks _ => as.isEmpty && ks.isEmpty && cc f λ _ _ => true)
noncomputable def ot (x : Expr) : Bool := !(x.ctorIdx == 7)
noncomputable def rJ (vs : List Value) : List (List Nat) -> Bool := List.rec (λ l => l.isEmpty) (λ v _ r l => fy l λ x xs => (rf v λ s => (s == ⟨x.toArray⟩) && decide (x.length ≤ 1000)) && r xs) vs
noncomputable def yP (l : List (Nat × Int)) : List (Option Expr) -> List Expr -> Bool := List.rec (λ ks vs => ks.isEmpty && vs.isEmpty)
 (λ p _ r ks vs => fy ks λ k ks => fy vs λ v vs => (bJ k λ k => cv k λ q _ _ => rk q λ s => s == ⟨#[p.1]⟩) && (p7 v λ i => i == p.2) && r ks vs) l
noncomputable def kK (cx : Cx) (is : List Nat) (x : Expr) : Bool := fy is λ i is => match is with
 | [] => cc x λ x _ => (cx.Γ[i]? == some x) && (cx.kind x == some .local)
 | j :: is => is.isEmpty && fH x λ ts _ _ => AC ts λ a b => cc a λ x _ => cc b λ y _ => (cx.Γ[i]? == some x) && (cx.kind x == some .local) && (cx.Γ[j]? == some y) && (cx.kind y == some .local) && !(x == y)
noncomputable def ed (outer sc : Scope) (Γ : List Str) (tg : List Nat) : Bool := (sc.kind == .function) && (sc.names.all λ y => y.2 != .cell) && (sc.names.all λ y => y.2 != .local || (sc.names.lookup y.1 == some .local)) &&
 (sc.names.all λ y => y.2 != .free || (outer.names.lookup y.1 == some .cell && sc.names.lookup y.1 == some .free)) && (Γ.zipIdx.all λ p => (sc.names.lookup p.1 != some .local) || tg.contains p.2)
noncomputable def oG (cx : Cx) (y : String) (x : Expr) (k : Value -> Bool) : Bool := cc x λ x _ => (x == Str.ofString y) && cx.isGlob x && (bJ (nsIn cx.K.frag mainGlobals x) λ o => bJ o k)
theorem jN {cx : Cx} {y : String} {x : Expr} {k : Value -> Bool} {P : Expr -> Prop} (h : oG cx y x k = true) (f : ∀ x' p v, cx.isGlob x' = true -> nsIn cx.K.frag mainGlobals x' = some (some v) -> k v = true -> P (.Name x' p)) : P x :=
 aP h λ x' p h1 => aH (P := λ o => nsIn cx.K.frag mainGlobals x' = o -> P (.Name x' p)) (ab h1).2 (λ o h => aH (P := λ o => nsIn cx.K.frag mainGlobals x' = some o -> P (.Name x' p)) h λ v h e => f x' p v (ab (ab h1).1).2 e h) rfl
theorem uP {cx : Cx} {y : String} {x : Expr} {k : Value -> Bool} (h : oG cx y x k = true) : x.ctorIdx = 23 := oI h
noncomputable def rg (v : Value) (k : String -> Bool) : Bool := if h : v.ctorIdx = 8 then @PySem.Value.type.elim (λ _ => Bool) v h k else false
theorem tt {v : Value} {k : String -> Bool} {P : Value -> Prop} (h : rg v k = true) (f : ∀ t, k t = true -> P (.type t)) : P v :=
 if c : v.ctorIdx = 8 then @PySem.Value.type.elim (λ v => rg v k = true -> (∀ t, k t = true -> P (.type t)) -> P v) v c (λ t h f => f t h) h f else bY ((dif_neg c).symm.trans h)
noncomputable def wz (K : Kx) (l : List (List Nat)) (v : Value) : Bool := wN v λ a => bJ (K.frag.lookup a) λ o => rg o.cls λ t => re o.data λ vs _ => (t == "tuple") && rJ vs.toList l && decide (l.length ≤ 1000)
theorem sM {K : Kx} {l : List (List Nat)} {v : Value} {P : Value -> Prop} (h : wz K l v = true) (f : ∀ a vs n d sl, K.frag.lookup a = some ⟨.type "tuple", d, .seq vs n, sl⟩ -> rJ vs.toList l = true -> l.length ≤ 1000 -> P (.ref a)) : P v := by
 apply p8 h; intro a h
 refine aH (P := λ o => K.frag.lookup a = o -> P (.ref a)) h (λ o h => ?_) rfl
 refine tt (P := λ c => K.frag.lookup a = some ⟨c, o.dict, o.data, o.slots⟩ -> P (.ref a)) h λ t h => ?_
 refine oK (P := λ x => K.frag.lookup a = some ⟨.type t, o.dict, x, o.slots⟩ -> P (.ref a)) h λ vs n h e => ?_
 exact f a vs n _ _ (eq_of_beq (ab (ab h).1).1 ▸ e) (ab (ab h).1).2 (of_decide_eq_true (ab h).2)
noncomputable def yM (it : MI) (tg : List Nat) : Bool := match it with | .enum _ => tg.length == 2 | _ => true
mutual
noncomputable def aR (cx : Cx) : ME -> Expr -> Bool
 | .var i, x => cc x λ y _ => cx.isVar i y
 | .none, x => cv x λ c _ _ => c.ctorIdx == 0
 | .bool b, x => cv x λ c _ _ => rj c λ d => b == d
 | .int i, x => p7 x λ j => i == j
 | .str s, x => cv x λ c _ _ => rk c λ t => (t == ⟨s.toArray⟩) && decide (s.length ≤ 1000)
 | .neg i, x => eW x λ o v _ => uy o && p7 v λ j => i == j
 | .gstr y s, x => oG cx y x λ v => rf v λ t => (t == ⟨s.toArray⟩) && decide (s.length ≤ 1000)
 | .gint y i, x => oG cx y x λ v => uQ v λ j => i == j
 | .gtup y l, x => oG cx y x λ v => wz cx.K l v
 | .bin op a b, x => mD x λ l o r _ => (o == FQ op) && aR cx a l && aR cx b r
 | .cmp op a b, x => dR x λ l os rs _ => oz os λ o => oz rs λ r => (o == EG op) && aR cx a l && aR cx b r
 | .cmp2 o₁ o₂ a b c, x => dR x λ l os rs _ => AC os λ p₁ p₂ => AC rs λ r₁ r₂ => (p₁ == EG o₁) && (p₂ == EG o₂) && aR cx a l && aR cx b r₁ && aR cx c r₂
 | .andE es, x => iG x λ o vs _ => wC o && eK cx es vs
 | .orE es, x => iG x λ o vs _ => !wC o && eK cx es vs
 | .notE a, x => eW x λ o v _ => Cn o && aR cx a v
 | .ite t a b, x => mH x λ x y z _ => aR cx t x && aR cx a y && aR cx b z
 | .call f es, x => d4 x λ x args => cx.isGlob x && lr f x && (cx.D.contains f && f != .l_heard) && eK cx es args
 | .new c es, x => d4 x λ x args => cx.isGlob x && (x == uc c) && cx.D.contains (jG c) && eK cx es args
 | .bi b e, x => d4 x λ x args => oz args λ arg => cx.isBlt x && (x == Ci b) && aR cx e arg
 | .sm0 m o, x => eO x λ v name apos as pos => as.isEmpty && ((name == z9 m) && dv v && (apos.endLine == pos.line) && aR cx o v)
 | .sm1 m o a, x => eO x λ v name apos as pos => oz as λ arg => (name == z9 m) && dv v && (apos.endLine == pos.line) && aR cx o v && aR cx a arg
 | .app o e, x => eO x λ v name apos as pos => oz as λ arg => (name == ("append" : Str)) && dv v && (apos.endLine == pos.line) && aR cx o v && aR cx e arg
 | .meth m o es, x => eO x λ v name apos args pos => (name == gJ m) && dv v && (apos.endLine == pos.line) && aR cx o v && eK cx es args && decide (args.length < 20)
 | .attr f o, x => cr x λ v name _ => (name == aC f) && dv v && aR cx o v
 | .idx o i, x => du x λ v k _ => aR cx o v && aR cx i k
 | .slice o lo hi, x => du x λ v k _ => mI k λ l u t _ => t.isNone && (aR cx o v && sa cx lo l && sa cx hi u)
 | .rev o, x => du x λ v k _ => mI k λ l u t _ => l.isNone && u.isNone && (bJ t λ y => eW y λ o v _ => uy o && p7 v λ j => j == 1) && aR cx o v
 | .tup es, x => fH x λ elts _ _ => eK cx es elts && decide (elts.length ≤ 1000)
 | .lst es, x => rc x λ elts _ => eK cx es elts && decide (elts.length ≤ 1000)
 | .escD, x => qW x λ ks vs _ => yP bR ks vs
 | .comp elt tg it test, x => fz x λ e gs sc _ => oz gs λ g => g.is_async == 0 && (ed cx.scope sc cx.Γ tg && kK { cx with scope := sc } tg g.target && AQ cx it g.iter && aR { cx with scope := sc } elt e &&
   (match g.ifs with | [] => sa { cx with scope := sc } test none | t :: r => r.isEmpty && sa { cx with scope := sc } test (some t)) && yM it tg)
 | .isList o, x => d4 x λ x args => AC args λ arg y => cc y λ y _ => cx.isBlt x && (x == ("isinstance" : Str)) && cx.isBlt y && (y == ("list" : Str)) && aR cx o arg
noncomputable def eK (cx : Cx) : fC -> List Expr -> Bool
 | .nil, l => l.isEmpty
 | .cons e es, l => fy l λ x xs => aR cx e x && eK cx es xs
noncomputable def sa (cx : Cx) : MO -> Option Expr -> Bool
 | .none, o => o.isNone
 | .some e, o => bJ o λ x => aR cx e x
noncomputable def AQ (cx : Cx) : MI -> Expr -> Bool
 | .plain e, x => aR cx e x
 | .range e, x => d4 x λ x args => oz args λ arg => cx.isBlt x && (x == ("range" : Str)) && aR cx e arg
 | .enum e, x => d4 x λ x args => oz args λ arg => cx.isBlt x && (x == ("enumerate" : Str)) && aR cx e arg
end
noncomputable def pb (cx : Cx) : List Nat -> List Expr -> Bool
 | [], l => l.isEmpty
 | i :: is, l => fy l λ t ts => cc t λ x _ => (cx.Γ[i]? == some x) && (cx.kind x == some .local || cx.kind x == some .cell) && !is.contains i && pb cx is ts
noncomputable def zi (x : Expr) : Bool := x.ctorIdx == 22
noncomputable def gf (sc : Scope) (ts vs : List Expr) : Option (Option (List Str)) :=
 if !(ts.length == 2 || ts.length == 3) || vs.length != ts.length then some none
 else if vs.any zi then some none
 else
  let line := (ts.head?.map (·.pos.line)).getD 0
  let names := ts.filterMap λ
   | .Name id pos => if sc.names.lookup id == some .local && pos.line == line then some id else none
   | _ => none
  if names.length != ts.length || names.eraseDups.length != names.length then some none
  else if vs.all (foldedForSure 8) then some none
  else if vs.all (constantsAlone 8) then none
  else some (some names)
noncomputable def ve (cx : Cx) (is : List Nat) (ts vs : List Expr) : Bool := (gf cx.scope ts vs).elim false λ o => o.elim true λ names =>
 (names.length == is.length) && ((names.zip is).all λ p => cx.Γ[p.2]? == some p.1 && cx.kind p.1 == some .local)
noncomputable def tc (x : Expr) : Bool := !(x.ctorIdx == 8)
noncomputable def zF (x : Expr) : Bool := !(x.ctorIdx == 25)
noncomputable def asgLC (cx : Cx) (x : Str) (px : Pos) (v : Expr) : Bool := fz v λ _ _ sc pos => (cx.kind x == some .local) && (px.line == pos.line) && !(sc.names.any λ (n, k) => n == x && (k == .local || k == .cell))
noncomputable def BK (it : MI) : Bool := match it with | .enum _ => false | _ => true
noncomputable def qZ (cx : Cx) (t : Expr) (k : List Expr -> CmpOp -> Expr -> Bool) : Bool := dR t λ l os rs _ => oz os λ o => oz rs λ r => d4 l λ x args => cx.isGlob x && lr .l_heard x && k args o r
mutual
noncomputable def Fk (cx : Cx) : MS -> Stmt -> Bool
 | .asg i e, st => eV st λ ts v _ => oz ts λ t => cc t λ x px => (cx.Γ[i]? == some x) && (cx.kind x == some .local || cx.kind x == some .cell) && aR cx e v && (tc v || asgLC cx x px v)
 | .asgT is e, st => eV st λ ts v _ => oz ts λ t => fH t λ ts _ _ => pb cx is ts && aR cx e v && tc v && (zF v || (fH v λ vs _ _ => (is.length == vs.length) && ve cx is ts vs))
 | .asgA f o e, st => eV st λ ts w _ => oz ts λ t => cr t λ v name _ => (name == aC f) && aR cx o v && aR cx e w && tc w
 | .exprS e, st => mG st λ v _ => aR cx e v && tc v
 | .ifS t a b, st => tm st λ x y z _ => aR cx t x && eD cx a y && eD cx b z
 | .while t b, st => oM st λ x y z _ => z.isEmpty && (aR cx t x && eD cx b y)
 | .forS tg it b, st => uN st λ target iter y z _ => z.isEmpty && (kK cx tg target && AQ cx it iter && eD cx b y && BK it)
 | .ret e, st => dq st λ o _ => bJ o λ x => aR cx e x
 | .raise w a, st => oJ st λ o c _ => c.isNone && bJ o λ r => d4 r λ x as => AC as λ y z => cx.isGlob x && (x == ("ReadError" : Str)) && aR cx w y && aR cx a z
 | .brk, st => oA st λ _ => true
 | .tryTold _, _ => false
 | .ifHeard es op b p q, st => tm st λ t y z _ => qZ cx t λ args o r => eK cx es args && (o == EG op) && aR cx b r && eD cx p y && eD cx q z
 | .retHeard es op b, st => dq st λ o _ => bJ o λ t => qZ cx t λ args o r => eK cx es args && (o == EG op) && aR cx b r
noncomputable def eD (cx : Cx) : bq -> List Stmt -> Bool
 | .nil, l => l.isEmpty
 | .cons s ss, l => fy l λ x xs => Fk cx s x && eD cx ss xs
end
noncomputable def t9 (cx : Cx) (e : ME) (st : Stmt) : Bool := uU st λ b hs el fi _ => el.isEmpty && (fi.isEmpty && (oz b λ r => dq r λ o _ => bJ o λ x => oz hs λ h => match h with
 | .ExceptHandler t n hb _ => bJ t λ t => cc t λ c _ => bJ n λ n => oz hb λ hr => dq hr λ o _ => bJ o λ m => eO m λ v told apos as pos => as.isEmpty && (cc v λ m _ =>
   aR cx e x && cx.isGlob c && (c == ("ReadError" : Str)) && (n == m) && (cx.kind n == some .local) && (told == ("told" : Str)) && (apos.endLine == pos.line) && fw n && !(cx.Γ.contains n))))
theorem ua {cx : Cx} {e : ME} {st : Stmt} {P : Stmt -> Prop} (h : t9 cx e st = true) (f : ∀ x rp0 c cp n m mp told apos pos rp1 hp tp,
  (aR cx e x && cx.isGlob c && (c == ("ReadError" : Str)) && (n == m) && (cx.kind n == some .local) && (told == ("told" : Str)) && (apos.endLine == pos.line) && fw n && !(cx.Γ.contains n)) = true ->
  P (.Try [.Return (some x) rp0] [.ExceptHandler (some (.Name c cp)) (some n) [.Return (some (.Call (.Attribute (.Name m mp) told apos) [] [] pos)) rp1] hp] [] [] tp)) : P st := by
 apply uV h; intro b hs el fi tp h
 apply bz (ab h).1; apply bz (ab (ab h).2).1
 apply bk (ab (ab h).2).2; intro r h
 apply cD h; intro o rp0 h
 apply aH h; intro x h
 apply bk h; intro hd h
 obtain ⟨t, n, hb, hp⟩ := hd
 apply aH h; intro t h
 apply aP h; intro c cp h
 apply aH h; intro n h
 apply bk h; intro hr h
 apply cD h; intro o rp1 h
 apply aH h; intro m h
 apply cN h; intro v told apos as pos h
 apply bz (ab h).1
 apply aP (ab h).2; intro m mp h
 exact f x rp0 c cp n m mp told apos pos rp1 hp tp h
theorem lZ {cx : Cx} {t : Expr} {k : List Expr -> CmpOp -> Expr -> Bool} {P : Expr -> Prop} (h : qZ cx t k = true) (f : ∀ x px args cpos o r p, cx.isGlob x = true -> lr .l_heard x = true -> k args o r = true ->
  P (.Compare (.Call (.Name x px) args [] cpos) [o] [r] p)) : P t := by
 apply cC h; intro l os rs p h
 apply bk h; intro o h
 apply bk h; intro r h
 apply ct h; intro x px args cpos h
 exact f x px args cpos o r p (ab (ab h).1).1 (ab (ab h).1).2 (ab h).2
noncomputable def An : ME -> Nat
 | .var _ | .gstr .. | .gint .. | .gtup .. => 23
 | .none | .bool _ | .int _ | .str _ => 19
 | .neg _ | .notE _ => 3
 | .bin .. => 2
 | .cmp .. | .cmp2 .. => 15
 | .andE _ | .orE _ => 0
 | .ite .. => 5
 | .call .. | .new .. | .bi .. | .sm0 .. | .sm1 .. | .app .. | .meth .. | .isList _ => 16
 | .attr .. => 20
 | .idx .. | .slice .. | .rev _ => 21
 | .tup _ => 25
 | .lst _ => 24
 | .escD => 6
 | .comp .. => 8
theorem iX {cx : Cx} {me : ME} {e : Expr} (h : aR cx me e = true) : e.ctorIdx = An me := by
 cases me <;> first | exact oI h | exact uP h | exact iH h | exact xI h | exact pv h | exact ti h | exact pt h | exact qU h | exact tl h | exact iJ h | exact to h | exact mf h | exact mh h | exact tr h | exact uT h | exact uM h | exact iI h
end
structure aF (T : Fn -> ac) (K : Kx) (g : Heap) (mg mb : Str -> Option Value) (D : List Fn) (k : Nat) : Prop where
 G : dw K g mg mb
 ck : gE K = true
 known : ∀ f ∈ D, ∃ a, bg K f = some a ∧ keepIn K.frag (.ref a) = true
 fns : ∀ f args σ Q X, f ≠ .l_heard -> T f args σ Q X -> ∃ a, bg K f = some a ∧ keepIn K.frag (.ref a) = true ∧ ja K g k a (T f)
 inits : ∀ c, jG c ∈ D -> ol K c = true ∧ ∃ a, bg K (jG c) = some a ∧ ja K g k a (iy c)
noncomputable def Sc (sc : Scope) (env : Env) : Prop := ∀ x k, sc.names.lookup x = some k -> env.scope.names.lookup x = some k ∨ (k = .free ∧ env.scope.names.lookup x = some .cell)
theorem i7.mono {A : Around} {outer : List Env} {F F' : List Addr} (h : i7 A outer F) (hF : ∀ a ∈ F, a ∈ F') {x : Addr} (hx : x ∈ F) : i7 A outer F' :=
 ⟨h.hand, h.frames, λ env he => let ⟨a, L, b, c⟩ := h.outs env he; ⟨a, L, hF _ b, c⟩, λ e => by rw [h.nil e] at hx; cases hx⟩
section
variable (T : Fn -> ac) (K : Kx) (g : Heap) (mg mb : Str -> Option Value) (Γ : List Str) (D : List Fn) (A : Around) (outer : List Env)
noncomputable def PE (me : ME) : Prop := ∀ (sc : Scope) (env : Env) (F : List Addr) (e : Expr) (ρ : aj) (σ : aa) (φ : aO) (s : Shared) (Q X : AV -> aa -> Prop) (Q' E' : Value -> Shared -> Prop),
 aR ⟨K, sc, Γ, D⟩ me e = true -> Sc sc env -> aX env F -> i7 A outer F -> St K g F φ σ s.heap -> dc K env Γ ρ F φ s.heap -> br T me ρ σ Q X -> PQ K g [] F φ s Q Q' -> PX K g [] F φ s X E' ->
 wpAny (model K.prog K.w) A (eval e env) Q' E' s
noncomputable def yj (F : List Addr) (φ : aO) (s : Shared) (Q : AV -> aa -> Prop) (Q' : Bool -> Shared -> Prop) : Prop :=
 ∀ V σ' φ' h' t', Q V σ' -> St K g F φ' σ' h' -> an [] φ φ' s.heap h' -> ∃ b, V = .bool b ∧ Q' b (up s h' t')
noncomputable def PT (me : ME) : Prop := ∀ (sc : Scope) (env : Env) (F : List Addr) (e : Expr) (ρ : aj) (σ : aa) (φ : aO) (s : Shared) (Q X : AV -> aa -> Prop) (Q' : Bool -> Shared -> Prop) (E' : Value -> Shared -> Prop),
 aR ⟨K, sc, Γ, D⟩ me e = true -> Sc sc env -> aX env F -> i7 A outer F -> St K g F φ σ s.heap -> dc K env Γ ρ F φ s.heap -> br T me ρ σ Q X -> yj K g F φ s Q Q' -> PX K g [] F φ s X E' ->
 wpAny (model K.prog K.w) A (isTrue e env (eval e env)) Q' E' s
noncomputable def Gf (n : Nat) (F : List Addr) (φ : aO) (s : Shared) (Q : List AV -> aa -> Prop) (Q' : List Value -> Shared -> Prop) : Prop :=
 ∀ Vs σ' φ' h' t' vs, Q Vs σ' -> St K g F φ' σ' h' -> an [] φ φ' s.heap h' -> ao K h' F φ' Vs vs -> vs.length = n -> Q' vs (up s h' t')
noncomputable def PL (es : fC) : Prop := ∀ (sc : Scope) (env : Env) (F : List Addr) (xs : List Expr) (pos : Pos) (ρ : aj) (σ : aa) (φ : aO) (s : Shared) (Q : List AV -> aa -> Prop) (X : AV -> aa -> Prop) (Q' : List Value -> Shared -> Prop) (E' : Value -> Shared -> Prop),
 eK ⟨K, sc, Γ, D⟩ es xs = true -> Sc sc env -> aX env F -> i7 A outer F -> St K g F φ σ s.heap -> dc K env Γ ρ F φ s.heap -> mQ T es ρ σ Q X -> Gf K g xs.length F φ s Q Q' -> PX K g [] F φ s X E' ->
 wpAny (model K.prog K.w) A (spliced (backTo pos (starEach xs env))) Q' E' s
noncomputable def PA (es : fC) : Prop := ∀ (sc : Scope) (env : Env) (F : List Addr) (xs : List Expr) (pos : Pos) (ρ : aj) (σ : aa) (φ : aO) (s : Shared) (Q X : AV -> aa -> Prop) (Q' E' : Value -> Shared -> Prop),
 eK ⟨K, sc, Γ, D⟩ es xs = true -> Sc sc env -> aX env F -> i7 A outer F -> St K g F φ σ s.heap -> dc K env Γ ρ F φ s.heap -> PX K g [] F φ s X E' -> PQ K g [] F φ s Q Q' ->
 (yx T es ρ σ Q X -> wpAny (model K.prog K.w) A (boolOp pos .And (evalEach xs env)) Q' E' s) ∧ (yz T es ρ σ Q X -> wpAny (model K.prog K.w) A (boolOp pos .Or (evalEach xs env)) Q' E' s)
noncomputable def ED (es : fC) : Prop := ∀ (sc : Scope) (env : Env) (F : List Addr) (xs : List Expr) (ρ : aj) (σ : aa) (φ : aO) (s : Shared) (Q X : AV -> aa -> Prop) (Q' : Bool -> Shared -> Prop) (E' : Value -> Shared -> Prop),
 eK ⟨K, sc, Γ, D⟩ es xs = true -> Sc sc env -> aX env F -> i7 A outer F -> St K g F φ σ s.heap -> dc K env Γ ρ F φ s.heap -> PX K g [] F φ s X E' -> yj K g F φ s Q Q' ->
 (yx T es ρ σ Q X -> wpAny (model K.prog K.w) A (allTrue .And xs env) Q' E' s) ∧ (yz T es ρ σ Q X -> wpAny (model K.prog K.w) A (allTrue .Or xs env) Q' E' s)
noncomputable def qm (K : Kx) (h : Heap) (F : List Addr) (φ : aO) (o : Option AV) (v : Value) : Prop := match o with
 | none => v = .none
 | some V => aM K h F φ V v
noncomputable def PQO (F : List Addr) (φ : aO) (s : Shared) (Q : Option AV -> aa -> Prop) (Q' : Value -> Shared -> Prop) : Prop :=
 ∀ V σ' φ' h' t' v, Q V σ' -> St K g F φ' σ' h' -> an [] φ φ' s.heap h' -> qm K h' F φ' V v -> Q' v (up s h' t')
noncomputable def PO (mo : MO) : Prop := ∀ (sc : Scope) (env : Env) (F : List Addr) (x : Option Expr) (ρ : aj) (σ : aa) (φ : aO) (s : Shared) (Q : Option AV -> aa -> Prop) (X : AV -> aa -> Prop) (Q' E' : Value -> Shared -> Prop),
 sa ⟨K, sc, Γ, D⟩ mo x = true -> Sc sc env -> aX env F -> i7 A outer F -> St K g F φ σ s.heap -> dc K env Γ ρ F φ s.heap -> t3 T mo ρ σ Q X -> PQO K g F φ s Q Q' -> PX K g [] F φ s X E' ->
 wpAny (model K.prog K.w) A (evalPart x env) Q' E' s
noncomputable def AH (mo : MO) : Prop := ∀ (sc : Scope) (env : Env) (F : List Addr) (x : Expr) (ρ : aj) (σ : aa) (φ : aO) (s : Shared) (Q : Option AV -> aa -> Prop) (X : AV -> aa -> Prop) (Q' : Bool -> Shared -> Prop) (E' : Value -> Shared -> Prop),
 sa ⟨K, sc, Γ, D⟩ mo (some x) = true -> Sc sc env -> aX env F -> i7 A outer F -> St K g F φ σ s.heap -> dc K env Γ ρ F φ s.heap -> t3 T mo ρ σ Q X -> yj K g F φ s (λ V σ => Q (some V) σ) Q' -> PX K g [] F φ s X E' ->
 wpAny (model K.prog K.w) A (isTrue x env (eval x env)) Q' E' s
noncomputable def yn (mi : MI) (target : Expr) : Prop := match mi with
 | .enum _ => ∃ elts k pos, target = .Tuple elts k pos
 | _ => True
noncomputable def PI (mi : MI) : Prop := ∀ (sc : Scope) (env : Env) (F : List Addr) (x : Expr) (target : Expr) (ρ : aj) (σ : aa) (φ : aO) (s : Shared) (Q : List AV -> (aa -> Prop) -> aa -> Prop) (X : AV -> aa -> Prop) (Q' E' : Value -> Shared -> Prop),
 AQ ⟨K, sc, Γ, D⟩ mi x = true -> yn mi target -> Sc sc env -> aX env F -> i7 A outer F -> St K g F φ σ s.heap -> dc K env Γ ρ F φ s.heap -> AK T mi ρ σ Q X ->
 (∀ its fp it P items same σ' φ' h' t', Q items same σ' -> ql K g A its fp items same target it P -> P F 0 φ' σ' h' -> (∀ b ∈ its, s.heap.get? b = none ∧ h'.get? b ≠ none ∧ ¬ bZ F φ' b) -> (∀ b ∈ fp, h'.get? b ≠ none) -> St K g F φ' σ' h' -> an [] φ φ' s.heap h' -> Q' it (up s h' t')) ->
 PX K g [] F φ s X E' -> wpAny (model K.prog K.w) A (eval x env) (λ v s₁ => wpAny (model K.prog K.w) A (pyIter v) Q' E' s₁) E' s
end
section
variable {T : Fn -> ac} {K : Kx} {g : Heap} {mg mb : Str -> Option Value} {Γ : List Str} {D : List Fn} {A : Around} {outer : List Env} {k : Nat} {F : List Addr} {φ φ' : aO} {σ : aa} {s : Shared} {h' : Heap} {t' : Nat} {env : Env} {ρ : aj} {sc : Scope}
theorem PQ.step {F₀ : List Addr} {Q : AV -> aa -> Prop} {Q' : Value -> Shared -> Prop} (x : PQ K g F₀ F φ s Q Q') (sp : an F₀ φ φ' s.heap h') : PQ K g F₀ F φ' (up s h' t') Q Q' :=
 λ V σ' φ'' h'' t'' v a b c d => x V σ' φ'' h'' t'' v a b (sp.trans c) d
theorem yj.step {Q : AV -> aa -> Prop} {Q' : Bool -> Shared -> Prop} (x : yj K g F φ s Q Q') (sp : an [] φ φ' s.heap h') : yj K g F φ' (up s h' t') Q Q' :=
 λ V σ' φ'' h'' t'' a b c => x V σ' φ'' h'' t'' a b (sp.trans c)
theorem Gf.step {n : Nat} {Q : List AV -> aa -> Prop} {Q' : List Value -> Shared -> Prop} (x : Gf K g n F φ s Q Q') (sp : an [] φ φ' s.heap h') : Gf K g n F φ' (up s h' t') Q Q' :=
 λ V σ' φ'' h'' t'' v a b c d e => x V σ' φ'' h'' t'' v a b (sp.trans c) d e
theorem PX.go {X : AV -> aa -> Prop} {E' : Value -> Shared -> Prop} (x : PX K g [] F φ s X E') (st : St K g F φ σ s.heap) (sp : an [] φ φ' s.heap h') : PX K g [] F φ' (up s h' t') X E' :=
 PX.step K g x st sp (λ _ h => nomatch h)
theorem cP {h : Heap} {V : AV} {v : Value} (r : aM K h F φ V v) (sp : an [] φ φ' h h') : aM K h' F φ' V v := an.rep K sp (λ _ h => nomatch h) r
theorem zT {h : Heap} {V : List AV} {v : List Value} (r : ao K h F φ V v) (sp : an [] φ φ' h h') : ao K h' F φ' V v := an.repL K sp (λ _ h => nomatch h) r
theorem PQ.val {Q : AV -> aa -> Prop} {Q' : Value -> Shared -> Prop} (x : PQ K g [] F φ s Q Q') (st : St K g F φ σ s.heap) {V : AV} {v : Value} (hv : Q V σ) (r : aM K s.heap F φ V v) (t : Nat) : Q' v { s with toks := t } :=
 x V σ φ s.heap t v hv st (an.refl _ _ _) r
theorem aF.glob (H : aF T K g mg mb D k) (st : St K g F φ σ s.heap) : s.heap.Ns mainGlobals mg ∧ s.heap.Ns builtinsNs mb := ⟨H.G.gns.keeps st.keep, H.G.bns.keeps st.keep⟩
theorem lV {x : Str} {pos : Pos} {v : Value} {Q' E' : Value -> Shared -> Prop} (H : aF T K g mg mb D k) (hs : Sc sc env) (eo : aX env F) (st : St K g F φ σ s.heap) (hg : Cx.isGlob ⟨K, sc, Γ, D⟩ x = true)
  (hn : nsIn K.frag mainGlobals x = some (some v)) (h : Q' v s) : wpAny (model K.prog K.w) A (eval (.Name x pos) env) Q' E' s := by
 simp only [Cx.isGlob, Cx.kind, fw, Bool.and_eq_true, beq_iff_eq, Bool.not_eq_true'] at hg
 have hk : env.kindOf x = some .globalImplicit := by
  rcases hs x _ hg.1 with e | ⟨e, _⟩
  ·exact e
  ·cases e
 refine Calls.Name_function_global eo.kind hk (Calls.loadGlobal_global (by rw [eo.glob]; exact (H.glob st).1) (mg_of H.G.kin H.G.gns hn) h) hg.2
theorem sU {x : Str} {pos : Pos} {v : Value} {Q' E' : Value -> Shared -> Prop} (H : aF T K g mg mb D k) (hs : Sc sc env) (eo : aX env F) (st : St K g F φ σ s.heap) (hg : Cx.isBlt ⟨K, sc, Γ, D⟩ x = true)
  (hn : x ≠ "__name__") (hv : bootBuiltins x = some v) (h : Q' v s) : wpAny (model K.prog K.w) A (eval (.Name x pos) env) Q' E' s := by
 simp only [Cx.isBlt, Bool.and_eq_true, beq_iff_eq] at hg
 have hg1 := hg.1
 simp only [Cx.isGlob, Cx.kind, fw, Bool.and_eq_true, beq_iff_eq, Bool.not_eq_true'] at hg1
 have hk : env.kindOf x = some .globalImplicit := by
  rcases hs x _ hg1.1 with e | ⟨e, _⟩
  ·exact e
  ·cases e
 refine Calls.Name_function_global eo.kind hk (Calls.loadGlobal_builtin (by rw [eo.glob]; exact (H.glob st).1) (mg_none_of H.G.kin H.G.gns hg.2) (by rw [eo.blt]; exact (H.glob st).2) ((H.G.blt x hn).trans hv) h) hg1.2
end
section
variable {T : Fn -> ac} {K : Kx} {g : Heap} {mg mb : Str -> Option Value} {Γ : List Str} {D : List Fn} {A : Around} {outer : List Env} {k : Nat} {F : List Addr} {φ φ' : aO} {σ : aa} {s : Shared} {h' : Heap} {t' : Nat} {env : Env} {ρ : aj} {sc : Scope}
theorem EI {x : Str} {kd : NameKind} (hs : Sc sc env) (hk : sc.names.lookup x = some kd) : env.scope.names.lookup x = some kd ∨ (kd = .free ∧ env.scope.names.lookup x = some .cell) := hs x kd hk
theorem Aw {x : Str} (hs : Sc sc env) (h : (sc.names.lookup x == some .local || sc.names.lookup x == some .cell || sc.names.lookup x == some .free) = true) :
  env.scope.names.lookup x = some .local ∨ env.scope.names.lookup x = some .cell ∨ env.scope.names.lookup x = some .free :=
 (Bool.or_eq_true_iff.mp h).elim (λ h => (Bool.or_eq_true_iff.mp h).elim (λ h => (hs x _ (eq_of_beq h)).imp id λ q => nomatch q.1) λ h => .inr ((hs x _ (eq_of_beq h)).imp id λ q => nomatch q.1))
  λ h => .inr ((hs x _ (eq_of_beq h)).elim .inr λ q => .inl q.2)
theorem Fj {i : Nat} : PE T K g Γ D A outer (.var i) := by
 intro sc env F e ρ σ φ s Q X Q' E' hc hs eo ha st lo hw hq hx; apply aP hc; intro x pos hc
 have a := ab hc
 have b := ab a.1
 have c := ab b.1
 refine hw.elim λ V w => ?_
 have hv := w.1
 have hQ := w.2
 cases lo with | mk m hn hce hl =>
 have hl := hl i x V (eq_of_beq c.1) hv
 refine wpAny_Name ?_ ((Bool.not_eq_true' _).mp b.2)
 have fin : ∀ v, aM K s.heap F φ V v -> Q' v s := λ v r => hq.val st hQ r s.toks
 rcases Aw hs c.2 with hk | hk | hk
 ·rw [hk] at hl
  exact hl.elim λ v y => wpAny_loadName_local eo.kind hk hn y.1 (fin v y.2)
 ·rw [hk] at hl
  exact hl.elim λ v y => y.1.elim λ c z => wpAny_loadName_cell eo.kind hk z.1 z.2 (fin v y.2)
 ·rw [hk] at hl
  exact hl.elim λ v y => y.1.elim λ c z => wpAny_loadName_free eo.kind hk z.1 z.2 (fin v y.2) ((Bool.not_eq_true' _).mp a.2)
theorem C8 : PE T K g Γ D A outer .none := by
 intro sc env F e ρ σ φ s Q X Q' E' hc hs eo ha st lo hw hq hx; apply cm hc; intro c n p hc; apply pC hc
 exact wpAny_Constant_none (hq.val st hw .none s.toks)
theorem CZ {b : Bool} : PE T K g Γ D A outer (.bool b) := by
 intro sc env F e ρ σ φ s Q X Q' E' hc hs eo ha st lo hw hq hx; apply cm hc; intro c n p hc; apply tu hc; intro d hc
 exact eq_of_beq hc ▸ wpAny_Constant_bool (hq.val st hw (.bool b) s.toks)
theorem E8 {i : Int} : PE T K g Γ D A outer (.int i) := by
 intro sc env F e ρ σ φ s Q X Q' E' hc hs eo ha st lo hw hq hx; apply i5 hc; intro d n p hc
 exact eq_of_beq hc ▸ wpAny_Constant_int (hq.val st hw (.int i _) (s.toks + 1))
theorem gc {n : Nat} (h : n ≤ 1000) : n ≤ sizeLine := Nat.le_trans h (by decide)
theorem Fh {x : List Nat} : PE T K g Γ D A outer (.str x) := by
 intro sc env F e ρ σ φ s Q X Q' E' hc hs eo ha st lo hw hq hx; apply cm hc; intro c n p hc; apply oO hc; intro d hc
 exact (eq_of_beq (ab hc).1).symm ▸ wpAny_Constant_str (hq.val st hw (.str x _ (gc (of_decide_eq_true (ab hc).2))) (s.toks + 1))
theorem Fb {i : Int} : PE T K g Γ D A outer (.neg i) := by
 intro sc env F e ρ σ φ s Q X Q' E' hc hs eo ha st lo hw hq hx; apply cW hc; intro o v p hc; apply jH (ab hc).1; apply i5 (ab hc).2; intro d n p hc
 exact eq_of_beq hc ▸ wpAny_UnaryOp (wpAny_Constant_int (neg_int (hq.val st hw (.int _ _) (s.toks + 1 + 1))))
theorem C5 (H : aF T K g mg mb D k) {y : String} {x : List Nat} : PE T K g Γ D A outer (.gstr y x) := by
 intro sc env F e ρ σ φ s Q X Q' E' hc hs eo ha st lo hw hq hx
 apply jN hc; intro x' p v hg hn hc
 refine oL (P := λ v => nsIn K.frag mainGlobals x' = some (some v) -> _) hc (λ t u hc hn => ?_) hn
 exact lV H hs eo st hg hn ((eq_of_beq (ab hc).1).symm ▸ hq.val st hw (.str x _ (gc (of_decide_eq_true (ab hc).2))) s.toks)
theorem C4 (H : aF T K g mg mb D k) {y : String} {i : Int} : PE T K g Γ D A outer (.gint y i) := by
 intro sc env F e ρ σ φ s Q X Q' E' hc hs eo ha st lo hw hq hx
 apply jN hc; intro x' p v hg hn hc
 exact uR (P := λ v => nsIn K.frag mainGlobals x' = some (some v) -> _) hc (λ j u hc hn => lV H hs eo st hg hn (eq_of_beq hc ▸ hq.val st hw (.int i _) s.toks)) hn
theorem tQ {h : Heap} (vs : List Value) : ∀ {l : List (List Nat)}, rJ vs l = true -> ao K h F φ (l.map .str) vs := by
 induction vs with
 | nil => intro l e; apply bz e; exact .nil
 | cons v vs ih =>
  intro l e
  apply bu e; intro x xs e
  apply oL (ab e).1; intro s t e1
  exact .cons ((eq_of_beq (ab e1).1).symm ▸ .str x _ (gc (of_decide_eq_true (ab e1).2))) (ih (ab e).2)
theorem St.notOwn (st : St K g F φ σ s.heap) {a : Addr} {o : Obj} (e : g.get? a = some o) : ¬ bZ F φ a := λ q => av e (st.off a q)
theorem C6 (H : aF T K g mg mb D k) {y : String} {l : List (List Nat)} : PE T K g Γ D A outer (.gtup y l) := by
 intro sc env F e ρ σ φ s Q X Q' E' hc hs eo ha st lo hw hq hx
 apply jN hc; intro x' p v hg hn hc
 refine sM (P := λ v => nsIn K.frag mainGlobals x' = some (some v) -> _) hc (λ a vs n d sl hk ht hl hn => ?_) hn
 have ho := H.G.kin _ _ hk
 exact lV H hs eo st hg hn (hq.val st hw (.tup (Nat.le_trans (Nat.le_of_eq (List.length_map _)) (gc hl)) ⟨_, st.keep _ _ ho, rfl, _, rfl⟩ (st.notOwn ho) (tQ _ ht)) s.toks)
end
section
variable {T : Fn -> ac} {K : Kx} {g : Heap} {mg mb : Str -> Option Value} {Γ : List Str} {D : List Fn} {A : Around} {outer : List Env} {k : Nat} {F : List Addr} {φ φ' : aO} {σ : aa} {s : Shared} {h' : Heap} {t' : Nat} {env : Env} {ρ : aj} {sc : Scope}
theorem PQ.ok {Q : AV -> aa -> Prop} {Q' : Value -> Shared -> Prop} (x : PQ K g [] F φ s Q Q') {r : AV × aa} (h : Q r.1 r.2) : Ok K g F φ s r Q' :=
 λ φ' h' t' v a b c => x r.1 r.2 φ' h' t' v h a b c
theorem E5 {op : EB} {a b : ME} (iha : PE T K g Γ D A outer a) (ihb : PE T K g Γ D A outer b) : PE T K g Γ D A outer (.bin op a b) := by
 intro sc env F e ρ σ φ s Q X Q' E' hc hs eo ha st lo hw hq hx; apply th hc; intro l o r p hc
 have y1 := ab hc
 have y2 := ab y1.1
 apply bI y2.1
 have h1 := y2.2
 have h2 := y1.2
 refine wpAny_BinOp (iha sc env F _ ρ σ φ s _ X _ E' h1 hs eo ha st lo hw ?_ hx)
 intro va σ₁ φ₁ h₁ t₁ v₁ hw st₁ sp₁ r₁
 refine ihb sc env F _ ρ σ₁ φ₁ _ _ X _ E' h2 hs eo ha st₁ (lo.step K g st eo sp₁) hw ?_ (hx.go st sp₁)
 intro vb σ₂ φ₂ h₂ t₂ v₂ w st₂ sp₂ r₂
 exact w.elim λ r w => G7 w.1 st₂ (cP r₁ sp₂) r₂ (((hq.step sp₁).step sp₂).ok w.2)
theorem m7 {cx : Cx} {me : ME} {e : Expr} (h : aR cx me e = true) : ot e = true := by
 unfold ot; rw [iX h]; cases me <;> rfl
theorem i2 {cx : Cx} {me : ME} {e : Expr} {op : CmpOp} (h : aR cx me e = true) : behindInMarks op e = false := by
 have := m7 h
 cases e <;> first | rfl | exact bY this
theorem d8 {h : Heap} {b : Bool} {v : Value} (r : aM K h F φ (.bool b) v) : v = .bool b := r
theorem vC {h : Heap} {b : Bool} {V : AV} {v : Value} (e : V = .bool b) (r : aM K h F φ V v) : v = .bool b := d8 (h := h) (F := F) (φ := φ) (K := K) (e ▸ r)
theorem jV {a b : Bool} (h : AV.bool a = .bool b) : a = b := by cases h; rfl
theorem yj.ok {Q : AV -> aa -> Prop} {Q' : Bool -> Shared -> Prop} {E' : Value -> Shared -> Prop} (x : yj K g F φ s Q Q') {r : Bool} (h : Q (.bool r) σ) : Ok K g F φ s (.bool r, σ) (λ v s' => wpAny (model K.prog K.w) A (truthy v) Q' E' s') :=
 λ φ' h' t' v a b c => by
  rw [d8 c]
  exact (x _ _ φ' h' t' h a b).elim λ b' y => wpAny_truthy_bool (jV y.1 ▸ y.2)
theorem yj.pq {Q : AV -> aa -> Prop} {Q' : Bool -> Shared -> Prop} {E' : Value -> Shared -> Prop} (x : yj K g F φ s Q Q') : PQ K g [] F φ s Q (λ v s' => wpAny (model K.prog K.w) A (truthy v) Q' E' s') :=
 λ V σ' φ' h' t' v hQ a b c => by
  refine (x _ _ φ' h' t' hQ a b).elim λ b' y => ?_
  rw [y.1] at c
  rw [d8 c]
  exact wpAny_truthy_bool y.2
theorem yj.of {Q : AV -> aa -> Prop} {Q₁ : Bool -> aa -> Prop} {Q' : Bool -> Shared -> Prop} (h : ∀ V σ', Q V σ' -> ∃ b, V = .bool b ∧ Q₁ b σ')
  (n : ∀ b σ' φ' h' t', Q₁ b σ' -> St K g F φ' σ' h' -> an [] φ φ' s.heap h' -> Q' b (up s h' t')) : yj K g F φ s Q Q' :=
 λ V σ' φ' h' t' hQ a b => let ⟨x, e, q⟩ := h V σ' hQ; ⟨x, e, n x σ' φ' h' t' q a b⟩
noncomputable def qH : Expr -> Bool
 | .UnaryOp .Not _ _ | .BoolOp .. | .IfExp .. | .Compare .. => true
 | _ => false
noncomputable def vf : ME -> Bool
 | .cmp .. | .cmp2 .. | .andE .. | .orE .. | .notE .. | .ite .. => true
 | _ => false
noncomputable def yt (env : Env) (whole : Sem Value) (e : Expr) : Prop := isTrue e env whole = (do let v ← whole; standAt e.pos; holding [v] (truthy v))
theorem zM (x : Expr) (pos : Pos) (env : Env) (whole : Sem Value) (op : UnaryOp) : qH (.UnaryOp op x pos) = false -> yt env whole (.UnaryOp op x pos) := by
 cases op <;> first | exact λ _ => rfl | exact λ h => bY h.symm
theorem rq (env : Env) (whole : Sem Value) (e : Expr) : qH e = false -> yt env whole e := by
 cases e <;> first | exact λ _ => rfl | exact λ h => bY h.symm | exact zM _ _ env whole _
theorem Ao (n : Nat) (hb : ((n == 0) || (n == 3) || (n == 5) || (n == 15)) = false) (e : Expr) : e.ctorIdx = n -> qH e = false := by
 cases e <;> first | exact λ _ => rfl | exact λ h => bY (h ▸ hb).symm
theorem xj {cx : Cx} {me : ME} {e : Expr} (n : vf me = false) (h : aR cx me e = true) : qH e = false := by
 have z := iX h
 cases me <;> first | exact bY n.symm | exact Ao _ rfl e z | skip
 apply cW h; intro o v p hc
 apply jH (ab hc).1
 rfl
theorem zN {me : ME} (n : vf me = false) (ih : PE T K g Γ D A outer me) : PT T K g Γ D A outer me := by
 intro sc env F e ρ σ φ s Q X Q' E' hc hs eo ha st lo hw hq hx
 exact wpAny_isTrue_value (ih sc env F e ρ σ φ s Q X _ E' hc hs eo ha st lo hw hq.pq hx) (rq env _ e (xj n hc))
theorem E6 (hu : A.units + 100 < cLine) {op : vq} {a b : ME} (iha : PE T K g Γ D A outer a) (ihb : PE T K g Γ D A outer b) : PE T K g Γ D A outer (.cmp op a b) := by
 intro sc env F e ρ σ φ s Q X Q' E' hc hs eo ha st lo hw hq hx; apply cC hc; intro l os rs pos hc; apply bk hc; intro o hc; apply bk hc; intro r hc
 have y1 := ab hc
 have y2 := ab y1.1
 apply bI y2.1
 have h1 := y2.2
 have h2 := y1.2
 refine wpAny_Compare1 (iha sc env F _ ρ σ φ s _ X _ E' h1 hs eo ha st lo hw ?_ hx) ?_
 ·intro va σ₁ φ₁ h₁ t₁ v₁ hw st₁ sp₁ r₁
  refine ihb sc env F _ ρ σ₁ φ₁ _ _ X _ E' h2 hs eo ha st₁ (lo.step K g st eo sp₁) hw ?_ (hx.go st sp₁)
  intro vb σ₂ φ₂ h₂ t₂ v₂ w st₂ sp₂ r₂
  exact w.elim λ r w => tD hu w.1 st₂ (cP r₁ sp₂) r₂ (((hq.step sp₁).step sp₂).ok w.2)
 ·exact i2 h2
theorem F3 (hu : A.units + 100 < cLine) {op : vq} {a b : ME} (iha : PE T K g Γ D A outer a) (ihb : PE T K g Γ D A outer b) : PT T K g Γ D A outer (.cmp op a b) := by
 intro sc env F e ρ σ φ s Q X Q' E' hc hs eo ha st lo hw hq hx; apply cC hc; intro l os rs pos hc; apply bk hc; intro o hc; apply bk hc; intro r hc
 have y1 := ab hc
 have y2 := ab y1.1
 apply bI y2.1
 have h1 := y2.2
 have h2 := y1.2
 refine wpAny_isTrue_Compare1 (iha sc env F _ ρ σ φ s _ X _ E' h1 hs eo ha st lo hw ?_ hx) (i2 h2)
 intro va σ₁ φ₁ h₁ t₁ v₁ hw st₁ sp₁ r₁
 refine ihb sc env F _ ρ σ₁ φ₁ _ _ X _ E' h2 hs eo ha st₁ (lo.step K g st eo sp₁) hw ?_ (hx.go st sp₁)
 intro vb σ₂ φ₂ h₂ t₂ v₂ w st₂ sp₂ r₂
 exact w.elim λ r w => tD hu w.1 st₂ (cP r₁ sp₂) r₂ (((hq.step sp₁).step sp₂).ok w.2)
theorem C1 (hu : A.units + 100 < cLine) {o₁ o₂ : vq} {a b c : ME} (iha : PE T K g Γ D A outer a) (ihb : PE T K g Γ D A outer b) (ihc : PE T K g Γ D A outer c) : PE T K g Γ D A outer (.cmp2 o₁ o₂ a b c) := by
 intro sc env F e ρ σ φ s Q X Q' E' hc hs eo ha st lo hw hq hx; apply cC hc; intro l os rs pos hc; apply dD hc; intro p₁ p₂ hc; apply dD hc; intro r₁ r₂ hc
 have y1 := ab hc
 have y2 := ab y1.1
 have y3 := ab y2.1
 have y4 := ab y3.1
 apply bI y4.1
 apply bI y4.2
 have h1 := y3.2
 have h2 := y2.2
 have h3 := y1.2
 refine Compare_chain (rs := []) (iha sc env F _ ρ σ φ s _ X _ E' h1 hs eo ha st lo hw ?_ hx) (i2 h3)
 intro va σ₁ φ₁ h₁ t₁ v₁ hw st₁ sp₁ r₁
 refine chain_link (ihb sc env F _ ρ σ₁ φ₁ _ _ X _ E' h2 hs eo ha st₁ (lo.step K g st eo sp₁) hw ?_ (hx.go st sp₁))
 intro vb σ₂ φ₂ h₂ t₂ v₂ w st₂ sp₂ r₂
 refine w.elim λ r w => ?_
 have hQ := w.2
 have lo₂ := (lo.step K g st eo sp₁).step K g st₁ eo sp₂
 refine tD hu w.1 st₂ (cP r₁ sp₂) r₂ λ φ₃ h₃ t₃ v₃ st₃ sp₃ r₃ => ?_
 rw [d8 r₃]
 refine wpAny_truthy_bool ?_
 have hx₃ := ((hx.go st sp₁).go st₁ sp₂).go (t' := t₃) st₂ sp₃
 have hq₃ := ((hq.step (t' := t₁) sp₁).step (t' := t₂) sp₂).step (t' := t₃) sp₃
 cases r
 ·exact hq₃.val st₃ hQ (.bool false) t₃
 ·refine chain_last (ihc sc env F _ ρ σ₂ φ₃ _ _ X _ E' h3 hs eo ha st₃ (lo₂.step K g st₂ eo sp₃) hQ ?_ hx₃)
  intro vc σ₄ φ₄ h₄ t₄ v₄ w st₄ sp₄ r₄
  exact w.elim λ r' w => tD hu w.1 st₄ (cP (cP r₂ sp₃) sp₄) r₄ ((hq₃.step sp₄).ok w.2)
theorem Ev (hu : A.units + 100 < cLine) {o₁ o₂ : vq} {a b c : ME} (iha : PE T K g Γ D A outer a) (ihb : PE T K g Γ D A outer b) (ihc : PE T K g Γ D A outer c) : PT T K g Γ D A outer (.cmp2 o₁ o₂ a b c) := by
 intro sc env F e ρ σ φ s Q X Q' E' hc hs eo ha st lo hw hq hx; apply cC hc; intro l os rs pos hc; apply dD hc; intro p₁ p₂ hc; apply dD hc; intro r₁ r₂ hc
 have y1 := ab hc
 have y2 := ab y1.1
 have y3 := ab y2.1
 have y4 := ab y3.1
 apply bI y4.1
 apply bI y4.2
 have h1 := y3.2
 have h2 := y2.2
 have h3 := y1.2
 refine isTrue_chain (rs := []) (iha sc env F _ ρ σ φ s _ X _ E' h1 hs eo ha st lo hw ?_ hx) (i2 h3)
 intro va σ₁ φ₁ h₁ t₁ v₁ hw st₁ sp₁ r₁
 refine test_link (ihb sc env F _ ρ σ₁ φ₁ _ _ X _ E' h2 hs eo ha st₁ (lo.step K g st eo sp₁) hw ?_ (hx.go st sp₁))
 intro vb σ₂ φ₂ h₂ t₂ v₂ w st₂ sp₂ r₂
 refine w.elim λ r w => ?_
 have hQ := w.2
 have lo₂ := (lo.step K g st eo sp₁).step K g st₁ eo sp₂
 refine tD hu w.1 st₂ (cP r₁ sp₂) r₂ λ φ₃ h₃ t₃ v₃ st₃ sp₃ r₃ => ?_
 rw [d8 r₃]
 refine wpAny_truthy_bool ?_
 have hx₃ := ((hx.go st sp₁).go st₁ sp₂).go (t' := t₃) st₂ sp₃
 have hq₃ := ((hq.step (t' := t₁) sp₁).step (t' := t₂) sp₂).step (t' := t₃) sp₃
 cases r
 ·exact (hq₃ _ _ φ₃ h₃ t₃ hQ st₃ (an.refl _ _ _)).elim λ b' y => show Q' false _ from (jV y.1).symm ▸ y.2
 ·refine test_last (ihc sc env F _ ρ σ₂ φ₃ _ _ X _ E' h3 hs eo ha st₃ (lo₂.step K g st₂ eo sp₃) hQ ?_ hx₃)
  intro vc σ₄ φ₄ h₄ t₄ v₄ w st₄ sp₄ r₄
  exact w.elim λ r' w => tD hu w.1 st₄ (cP (cP r₂ sp₃) sp₄) r₄ ((hq₃.step sp₄).ok w.2)
theorem Fd {a : ME} (iha : PE T K g Γ D A outer a) : PE T K g Γ D A outer (.notE a) := by
 intro sc env F e ρ σ φ s Q X Q' E' hc hs eo ha st lo hw hq hx; apply cW hc; intro o v p hc; apply pW (ab hc).1; have hc := (ab hc).2
 refine wpAny_UnaryOp (iha sc env F _ ρ σ φ s _ X _ E' hc hs eo ha st lo hw ?_ hx)
 intro va σ₁ φ₁ h₁ t₁ v₁ w st₁ sp₁ r₁
 refine w.elim λ b w => ?_
 rw [w.1] at r₁
 rw [d8 r₁]
 exact not_value (wpAny_truthy_bool ((hq.step (t' := t₁) sp₁).val st₁ w.2 (.bool _) t₁))
theorem F5 {a : ME} (iha : PT T K g Γ D A outer a) : PT T K g Γ D A outer (.notE a) := by
 intro sc env F e ρ σ φ s Q X Q' E' hc hs eo ha st lo hw hq hx; apply cW hc; intro o v p hc; apply pW (ab hc).1; have hc := (ab hc).2
 refine wpAny_isTrue_Not (iha sc env F _ ρ σ φ s _ X _ E' hc hs eo ha st lo hw ?_ hx)
 intro va σ₁ φ₁ h₁ t₁ w st₁ sp₁
 exact w.elim λ b w => (hq _ _ φ₁ h₁ t₁ w.2 st₁ sp₁).elim λ b' y => ⟨b, w.1, show Q' (!b) _ from (jV y.1).symm ▸ y.2⟩
theorem E9 {t a b : ME} (iht : PT T K g Γ D A outer t) (iha : PE T K g Γ D A outer a) (ihb : PE T K g Γ D A outer b) : PE T K g Γ D A outer (.ite t a b) := by
 intro sc env F e ρ σ φ s Q X Q' E' hc hs eo ha st lo hw hq hx; apply l0 hc; intro x y z p hc
 have y1 := ab hc
 have y2 := ab y1.1
 have h1 := y2.1
 have h2 := y2.2
 have h3 := y1.2
 refine wpAny_IfExp (iht sc env F _ ρ σ φ s _ X _ E' h1 hs eo ha st lo hw ?_ hx)
 intro va σ₁ φ₁ h₁ t₁ w st₁ sp₁
 refine w.elim λ b' w => ⟨b', w.1, ?_⟩
 have hQ := w.2
 have lo₁ := lo.step K g st eo sp₁
 cases b'
 ·exact ihb sc env F _ ρ σ₁ φ₁ _ _ X _ E' h3 hs eo ha st₁ lo₁ hQ (hq.step sp₁) (hx.go st sp₁)
 ·exact iha sc env F _ ρ σ₁ φ₁ _ _ X _ E' h2 hs eo ha st₁ lo₁ hQ (hq.step sp₁) (hx.go st sp₁)
theorem F4 {t a b : ME} (iht : PT T K g Γ D A outer t) (iha : PT T K g Γ D A outer a) (ihb : PT T K g Γ D A outer b) : PT T K g Γ D A outer (.ite t a b) := by
 intro sc env F e ρ σ φ s Q X Q' E' hc hs eo ha st lo hw hq hx; apply l0 hc; intro x y z p hc
 have y1 := ab hc
 have y2 := ab y1.1
 have h1 := y2.1
 have h2 := y2.2
 have h3 := y1.2
 rw [arm_isTrue_IfExp]
 refine wpAny_bind (wpAny_mono (iht sc env F _ ρ σ φ s _ X (λ b' s₁ => wpAny (model K.prog K.w) A (if b' = true then isTrue _ env (eval _ env) else isTrue _ env (eval _ env)) Q' E' s₁) E' h1 hs eo ha st lo hw ?_ hx) (λ _ _ x => x) λ _ _ x => x)
 intro va σ₁ φ₁ h₁ t₁ w st₁ sp₁
 refine w.elim λ b' w => ⟨b', w.1, ?_⟩
 have hQ := w.2
 have lo₁ := lo.step K g st eo sp₁
 cases b'
 ·exact ihb sc env F _ ρ σ₁ φ₁ _ _ X _ E' h3 hs eo ha st₁ lo₁ hQ (hq.step sp₁) (hx.go st sp₁)
 ·exact iha sc env F _ ρ σ₁ φ₁ _ _ X _ E' h2 hs eo ha st₁ lo₁ hQ (hq.step sp₁) (hx.go st sp₁)
end
section
variable {T : Fn -> ac} {K : Kx} {g : Heap} {mg mb : Str -> Option Value} {Γ : List Str} {D : List Fn} {A : Around} {outer : List Env} {k : Nat} {F : List Addr} {φ φ' : aO} {σ : aa} {s : Shared} {h' : Heap} {t' : Nat} {env : Env} {ρ : aj} {sc : Scope}
theorem m1 {pos : Pos} {op : BoolOp} {x : Sem Value} {M : Model} {Q E : Value -> Shared -> Prop} (h : wpAny M A x Q E s) : wpAny M A (boolOp pos op [x]) Q E s := h
theorem m2 {pos : Pos} {op : BoolOp} {x y : Sem Value} {r : List (Sem Value)} {M : Model} {Q E : Value -> Shared -> Prop}
  (h : wpAny M A x (λ v s₁ => wpAny M A (truthy v) (λ t s₂ => match op, t with | .And, false | .Or, true => Q v s₂ | _, _ => wpAny M A (boolOp pos op (y :: r)) Q E s₂) E s₁) E s) : wpAny M A (boolOp pos op (x :: y :: r)) Q E s := by
 show wpAny M A (do
  let v ← x
  standAt pos
  let t ← holding [v] (truthy v)
  match op, t with
  | .And, false | .Or, true => pure v
  | _, _ => boolOp pos op (y :: r)) Q E s
 refine wpAny_bind (wpAny_mono h (λ v s₁ h₁ => wpAny_bind (wpAny_standAt (wpAny_bind (wpAny_holding (wpAny_mono h₁ (λ t s₂ h₂ => ?_) λ _ _ x => x))))) λ _ _ x => x)
 cases op <;> cases t
 ·exact wpAny_pure h₂
 ·exact h₂
 ·exact h₂
 ·exact wpAny_pure h₂
theorem E0 : PA T K g Γ D A outer .nil := by
 intro sc env F xs pos ρ σ φ s Q X Q' E' hc hs eo ha st lo hx hq
 exact ⟨λ hw => hw.elim, λ hw => hw.elim⟩
theorem CV {e : ME} {es : fC} (ih : PE T K g Γ D A outer e) (ihs : PA T K g Γ D A outer es) : PA T K g Γ D A outer (.cons e es) := by
 intro sc env F xs pos ρ σ φ s Q X Q' E' hc hs eo ha st lo hx hq
 apply bu hc; intro x xs hc; replace hc := ab hc
 cases es with
 | nil =>
  apply bz hc.2
  refine ⟨λ hw => ?_, λ hw => ?_⟩
  ·refine m1 (ih sc env F x ρ σ φ s _ X _ E' hc.1 hs eo ha st lo hw ?_ hx)
   exact λ V σ₁ φ₁ h₁ t₁ v₁ w st₁ sp₁ r₁ => w.elim λ b w => hq _ _ _ _ _ _ w.2 st₁ sp₁ (w.1 ▸ r₁)
  ·refine m1 (ih sc env F x ρ σ φ s _ X _ E' hc.1 hs eo ha st lo hw ?_ hx)
   exact λ V σ₁ φ₁ h₁ t₁ v₁ w st₁ sp₁ r₁ => w.elim λ b w => hq _ _ _ _ _ _ w.2 st₁ sp₁ (w.1 ▸ r₁)
 | cons e₂ es₂ =>
  have hc1 := hc.1
  have hc2 := hc.2
  revert hc2
  apply bu hc.2; intro y ys _ hc2
  refine ⟨λ hw => ?_, λ hw => ?_⟩
  ·refine m2 (ih sc env F x ρ σ φ s _ X _ E' hc1 hs eo ha st lo hw ?_ hx)
   intro V σ₁ φ₁ h₁ t₁ v₁ w st₁ sp₁ r₁
   refine w.elim λ b w => ?_
   have hQ := w.2
   rw [vC w.1 r₁]
   refine wpAny_truthy_bool ?_
   cases b
   ·exact (hq.step (t' := t₁) sp₁).val st₁ hQ (.bool _) t₁
   ·exact (ihs sc env F (y :: ys) pos ρ σ₁ φ₁ (up s h₁ t₁) Q X Q' E' hc2 hs eo ha st₁ (lo.step K g st eo sp₁) (hx.go st sp₁) (hq.step sp₁)).1 hQ
  ·refine m2 (ih sc env F x ρ σ φ s _ X _ E' hc1 hs eo ha st lo hw ?_ hx)
   intro V σ₁ φ₁ h₁ t₁ v₁ w st₁ sp₁ r₁
   refine w.elim λ b w => ?_
   have hQ := w.2
   rw [vC w.1 r₁]
   refine wpAny_truthy_bool ?_
   cases b
   ·exact (ihs sc env F (y :: ys) pos ρ σ₁ φ₁ (up s h₁ t₁) Q X Q' E' hc2 hs eo ha st₁ (lo.step K g st eo sp₁) (hx.go st sp₁) (hq.step sp₁)).2 hQ
   ·exact (hq.step (t' := t₁) sp₁).val st₁ hQ (.bool _) t₁
theorem Ew : ED T K g Γ D A outer .nil := by
 intro sc env F xs ρ σ φ s Q X Q' E' hc hs eo ha st lo hx hq
 exact ⟨λ hw => hw.elim, λ hw => hw.elim⟩
theorem B5 {e : ME} {es : fC} (ih : PT T K g Γ D A outer e) (ihs : ED T K g Γ D A outer es) : ED T K g Γ D A outer (.cons e es) := by
 intro sc env F xs ρ σ φ s Q X Q' E' hc hs eo ha st lo hx hq
 apply bu hc; intro x xs hc; replace hc := ab hc
 have fin : ∀ {b : Bool} {σ₁ : aa} {φ₁ : aO} {h₁ : Heap} {t₁ : Nat}, Q (.bool b) σ₁ -> St K g F φ₁ σ₁ h₁ -> an [] φ φ₁ s.heap h₁ -> Q' b (up s h₁ t₁) := λ {b σ₁ φ₁ h₁ t₁} hQ st₁ sp₁ =>
  (hq _ _ φ₁ h₁ t₁ hQ st₁ sp₁).elim λ b' y => (jV y.1).symm ▸ y.2
 cases es with
 | nil =>
  apply bz hc.2
  refine ⟨λ hw => ?_, λ hw => ?_⟩
  ·refine wpAny_allTrue_And_cons (ih sc env F x ρ σ φ s _ X _ E' hc.1 hs eo ha st lo hw ?_ hx)
   intro V σ₁ φ₁ h₁ t₁ w st₁ sp₁
   refine w.elim λ b w => ⟨b, w.1, ?_⟩
   have hQ := w.2
   cases b
   ·exact fin hQ st₁ sp₁
   ·exact wpAny_allTrue_And_nil (fin hQ st₁ sp₁)
  ·refine wpAny_allTrue_Or_cons (ih sc env F x ρ σ φ s _ X _ E' hc.1 hs eo ha st lo hw ?_ hx)
   intro V σ₁ φ₁ h₁ t₁ w st₁ sp₁
   refine w.elim λ b w => ⟨b, w.1, ?_⟩
   have hQ := w.2
   cases b
   ·exact wpAny_allTrue_Or_nil (fin hQ st₁ sp₁)
   ·exact fin hQ st₁ sp₁
 | cons e₂ es₂ =>
  refine ⟨λ hw => ?_, λ hw => ?_⟩
  ·refine wpAny_allTrue_And_cons (ih sc env F x ρ σ φ s _ X _ E' hc.1 hs eo ha st lo hw ?_ hx)
   intro V σ₁ φ₁ h₁ t₁ w st₁ sp₁
   refine w.elim λ b w => ⟨b, w.1, ?_⟩
   have hQ := w.2
   cases b
   ·exact fin hQ st₁ sp₁
   ·exact (ihs sc env F xs ρ σ₁ φ₁ (up s h₁ t₁) Q X Q' E' hc.2 hs eo ha st₁ (lo.step K g st eo sp₁) (hx.go st sp₁) (hq.step sp₁)).1 hQ
  ·refine wpAny_allTrue_Or_cons (ih sc env F x ρ σ φ s _ X _ E' hc.1 hs eo ha st lo hw ?_ hx)
   intro V σ₁ φ₁ h₁ t₁ w st₁ sp₁
   refine w.elim λ b w => ⟨b, w.1, ?_⟩
   have hQ := w.2
   cases b
   ·exact (ihs sc env F xs ρ σ₁ φ₁ (up s h₁ t₁) Q X Q' E' hc.2 hs eo ha st₁ (lo.step K g st eo sp₁) (hx.go st sp₁) (hq.step sp₁)).2 hQ
   ·exact fin hQ st₁ sp₁
theorem E3 {es : fC} (ih : PA T K g Γ D A outer es) : PE T K g Γ D A outer (.andE es) := by
 intro sc env F e ρ σ φ s Q X Q' E' hc hs eo ha st lo hw hq hx; apply eN hc; intro o vs pos hc; refine aS hc λ ho hc => ?_; apply pV ho
 rw [arm_eval_BoolOp]
 exact (ih sc env F _ _ ρ σ φ s Q X Q' E' hc hs eo ha st lo hx hq).1 hw
theorem GI {es : fC} (ih : PA T K g Γ D A outer es) : PE T K g Γ D A outer (.orE es) := by
 intro sc env F e ρ σ φ s Q X Q' E' hc hs eo ha st lo hw hq hx; apply eN hc; intro o vs pos hc; refine aS hc λ ho hc => ?_; apply sP ho
 rw [arm_eval_BoolOp]
 exact (ih sc env F _ _ ρ σ φ s Q X Q' E' hc hs eo ha st lo hx hq).2 hw
theorem F2 {es : fC} (ih : ED T K g Γ D A outer es) : PT T K g Γ D A outer (.andE es) := by
 intro sc env F e ρ σ φ s Q X Q' E' hc hs eo ha st lo hw hq hx; apply eN hc; intro o vs pos hc; refine aS hc λ ho hc => ?_; apply pV ho
 exact wpAny_isTrue_BoolOp ((ih sc env F _ ρ σ φ s Q X Q' E' hc hs eo ha st lo hx hq).1 hw)
theorem He {es : fC} (ih : ED T K g Γ D A outer es) : PT T K g Γ D A outer (.orE es) := by
 intro sc env F e ρ σ φ s Q X Q' E' hc hs eo ha st lo hw hq hx; apply eN hc; intro o vs pos hc; refine aS hc λ ho hc => ?_; apply sP ho
 exact wpAny_isTrue_BoolOp ((ih sc env F _ ρ σ φ s Q X Q' E' hc hs eo ha st lo hx hq).2 hw)
theorem cK {cx : Cx} {me : ME} {e : Expr} (h : aR cx me e = true) (rest : List Expr) (env : Env) : starEach (e :: rest) env = (false, eval e env) :: starEach rest env := by
 have hb : (e.ctorIdx == 22) = false := by rw [iX h]; cases me <;> rfl
 cases e <;> first | rfl | exact bY hb.symm
theorem FJ : PL T K g Γ D A outer .nil := by
 intro sc env F xs pos ρ σ φ s Q X Q' E' hc hs eo ha st lo hw hq hx
 revert hq; apply bz hc; intro hq
 exact wpAny_items_nil (hq _ _ φ _ s.toks _ hw st (an.refl _ _ _) .nil rfl)
theorem DY {e : ME} {es : fC} (ih : PE T K g Γ D A outer e) (ihs : PL T K g Γ D A outer es) : PL T K g Γ D A outer (.cons e es) := by
 intro sc env F xs pos ρ σ φ s Q X Q' E' hc hs eo ha st lo hw hq hx
 revert hq; apply bu hc; intro x xs hc hq; replace hc := ab hc
 refine wpAny_items_cons (ih sc env F x ρ σ φ s _ X _ E' hc.1 hs eo ha st lo hw ?_ hx) (cK hc.1 xs env)
 intro V σ₁ φ₁ h₁ t₁ v₁ hw st₁ sp₁ r₁
 refine ihs sc env F xs pos ρ σ₁ φ₁ _ _ X _ E' hc.2 hs eo ha st₁ (lo.step K g st eo sp₁) hw ?_ (hx.go st sp₁)
 intro Vs σ₂ φ₂ h₂ t₂ vs₂ hQ st₂ sp₂ r₂ hl
 exact hq _ _ _ _ _ _ hQ st₂ (sp₁.trans sp₂) (.cons (cP r₁ sp₂) r₂) (congrArg (· + 1) hl)
theorem Fi {es : fC} (ih : PL T K g Γ D A outer es) : PE T K g Γ D A outer (.tup es) := by
 intro sc env F e ρ σ φ s Q X Q' E' hc hs eo ha st lo hw hq hx; apply eh hc; intro elts k pos hc
 have hc := ab hc
 have zhc := of_decide_eq_true hc.2
 refine wpAny_Tuple (ih sc env F _ _ ρ σ φ s _ X _ E' hc.1 hs eo ha st lo hw ?_ hx)
 intro Vs σ₁ φ₁ h₁ t₁ vs hQ st₁ sp₁ r₁ hl
 have z : vs.length ≤ sizeLine := gc (hl ▸ zhc)
 refine ⟨z, ?_⟩
 have r := St.newTup (K := K) (F := F) st₁ (by rw [← r₁.length]; exact z) r₁
 exact hq _ _ φ₁ _ t₁ _ hQ (st₁.pushed _) (sp₁.trans (an.pushed φ₁ h₁ _)) r
theorem Fa {es : fC} (ih : PL T K g Γ D A outer es) : PE T K g Γ D A outer (.lst es) := by
 intro sc env F e ρ σ φ s Q X Q' E' hc hs eo ha st lo hw hq hx; apply uS hc; intro elts pos hc
 have hc := ab hc
 have zhc := of_decide_eq_true hc.2
 refine wpAny_List (ih sc env F _ _ ρ σ φ s _ X _ E' hc.1 hs eo ha st lo hw ?_ hx)
 intro Vs σ₁ φ₁ h₁ t₁ vs hQ st₁ sp₁ r₁ hl
 have z : vs.length ≤ sizeLine := gc (hl ▸ zhc)
 refine ⟨z, ?_⟩
 obtain ⟨a, b, c⟩ := St.newList (K := K) (F := F) (F₀ := []) st₁ (by rw [← r₁.length]; exact z) r₁
 exact hq _ _ _ _ t₁ _ hQ a (sp₁.trans b) c
theorem yD {cx : Cx} {me : ME} {e : Expr} (h : aR cx me e = true) (o i : Value) : subscripted e false o i = operate [o, i] (getItem o i) := by
 have hb : (e.ctorIdx == 26) = false := by rw [iX h]; cases me <;> rfl
 cases e <;> first | rfl | exact bY hb.symm
theorem E7 {o i : ME} (iho : PE T K g Γ D A outer o) (ihi : PE T K g Γ D A outer i) : PE T K g Γ D A outer (.idx o i) := by
 intro sc env F e ρ σ φ s Q X Q' E' hc hs eo ha st lo hw hq hx; apply ez hc; intro v k pos hc
 have hc := ab hc
 refine Subscript_ (iho sc env F _ ρ σ φ s _ X _ E' hc.1 hs eo ha st lo hw ?_ hx)
 intro va σ₁ φ₁ h₁ t₁ v₁ hw st₁ sp₁ r₁
 refine ihi sc env F _ ρ σ₁ φ₁ _ _ X _ E' hc.2 hs eo ha st₁ (lo.step K g st eo sp₁) hw ?_ (hx.go st sp₁)
 intro vb σ₂ φ₂ h₂ t₂ v₂ w st₂ sp₂ r₂
 refine w.elim λ r w => ?_
 have e := w.1
 have hQ := w.2
 refine G8 e st₂ (cP r₁ sp₂) r₂ ?_ (((hq.step sp₁).step sp₂).ok hQ)
 exact yD hc.2 _ _
end
section
variable {T : Fn -> ac} {K : Kx} {g : Heap} {mg mb : Str -> Option Value} {Γ : List Str} {D : List Fn} {A : Around} {outer : List Env} {k : Nat} {F : List Addr} {φ φ' : aO} {σ : aa} {s : Shared} {h' : Heap} {t' : Nat} {env : Env} {ρ : aj} {sc : Scope}
theorem Ea : PO T K g Γ D A outer .none := by
 intro sc env F x ρ σ φ s Q X Q' E' hc hs eo ha st lo hw hq hx
 apply iD hc
 exact wpAny_evalPart_none (hq none σ φ s.heap s.toks .none hw st (an.refl _ _ _) rfl)
theorem Eb {e : ME} (ih : PE T K g Γ D A outer e) : PO T K g Γ D A outer (.some e) := by
 intro sc env F x ρ σ φ s Q X Q' E' hc hs eo ha st lo hw hq hx
 apply aH hc; intro x hc
 exact wpAny_evalPart_some (ih sc env F x ρ σ φ s _ X _ E' hc hs eo ha st lo hw (λ V σ' φ' h' t' v a b c d => hq (some V) σ' φ' h' t' v a b c d) hx)
theorem BO : AH T K g Γ D A outer .none := by
 intro sc env F x ρ σ φ s Q X Q' E' hc hs eo ha st lo hw hq hx
 exact bY hc
theorem BP {e : ME} (ih : PT T K g Γ D A outer e) : AH T K g Γ D A outer (.some e) := by
 intro sc env F x ρ σ φ s Q X Q' E' hc hs eo ha st lo hw hq hx
 exact ih sc env F x ρ σ φ s _ X _ E' hc hs eo ha st lo hw hq hx
theorem pX {h : Heap} {o : Option AV} {l : Option Int} {v : Value} (e : oP o = some l) (r : qm K h F φ o v) : IsPart v l := by
 cases o with
 | none => exact Option.some.inj e ▸ (show v = .none from r) ▸ .none
 | some V => apply dx (f := λ i => some (some i)) e (show aM K h F φ V v from r); exact λ i t e => Option.some.inj e ▸ .int i t
theorem Ef {h h' : Heap} {o : Option AV} {v : Value} (sp : an [] φ φ' h h') (r : qm K h F φ o v) : qm K h' F φ' o v := by
 cases o with
 | none => exact r
 | some V => exact cP (V := V) r sp
theorem AP (H : aF T K g mg mb D k) {o : ME} {lo hi : MO} (iho : PE T K g Γ D A outer o) (ihl : PO T K g Γ D A outer lo) (ihh : PO T K g Γ D A outer hi) : PE T K g Γ D A outer (.slice o lo hi) := by
 intro sc env F e ρ σ φ s Q X Q' E' hc hs eo ha st lc hw hq hx; apply ez hc; intro v k pos hc; apply l3 hc; intro l u t q hc; apply iD (ab hc).1; have hc := (ab hc).2
 have hc := ab hc
 have hd := ab hc.1
 refine Subscript_ (iho sc env F _ ρ σ φ s _ X _ E' hd.1 hs eo ha st lc hw ?_ hx)
 intro va σ₁ φ₁ h₁ t₁ v₁ hw st₁ sp₁ r₁
 have lc₁ := lc.step K g st eo sp₁
 refine wpAny_Slice (ihl sc env F _ ρ σ₁ φ₁ _ _ X _ E' hd.2 hs eo ha st₁ lc₁ hw ?_ (hx.go st sp₁))
 intro vl σ₂ φ₂ h₂ t₂ v₂ hw st₂ sp₂ r₂
 refine ihh sc env F _ ρ σ₂ φ₂ _ _ X _ E' hc.2 hs eo ha st₂ (lc₁.step K g st₁ eo sp₂) hw ?_ ((hx.go st sp₁).go st₁ sp₂)
 intro vh σ₃ φ₃ h₃ t₃ v₃ w st₃ sp₃ r₃
 exact w.elim λ l' w => w.2.elim λ h' z => z.2.elim λ r y => wpAny_evalPart_none (Ej (s := (up s h₃ t₃)) H.G.scr y.1 st₃ (cP (cP r₁ sp₂) sp₃) (pX w.1 (Ef sp₃ r₂)) (pX z.1 r₃) ((((hq.step sp₁).step sp₂).step sp₃).ok y.2))
theorem Fe {o : ME} (iho : PE T K g Γ D A outer o) : PE T K g Γ D A outer (.rev o) := by
 intro sc env F e ρ σ φ s Q X Q' E' hc hs eo ha st lo hw hq hx; apply ez hc; intro v k pos hc; apply l3 hc; intro l u t q hc
 have y1 := ab hc
 have y2 := ab y1.1
 have y3 := ab y2.1
 apply iD y3.1; apply iD y3.2
 apply aH y2.2; intro y h2
 apply cW h2; intro op w p2 h2
 apply jH (ab h2).1
 apply i5 (ab h2).2; intro j n p3 h2
 apply bI h2
 have hc := y1.2
 refine Subscript_ (iho sc env F _ ρ σ φ s _ X _ E' hc hs eo ha st lo hw ?_ hx)
 intro va σ₁ φ₁ h₁ t₁ v₁ w st₁ sp₁ r₁
 exact w.elim λ r w => wpAny_Slice (wpAny_evalPart_none (wpAny_evalPart_none (wpAny_evalPart_some (wpAny_UnaryOp (wpAny_Constant_int (neg_int (Ha (s := (up s h₁ (t₁ + 1 + 1))) w.1 st₁ r₁ (.int _ _) ((hq.step sp₁).ok w.2))))))))
noncomputable def Cb (name : Str) (env : Env) (w : Sem Value) (v : Expr) : Prop := attributeBase v name env w = w
theorem uY (name : Str) (env : Env) (w : Sem Value) (as : List Expr) (ks : List Keyword) (p : Pos) (f : Expr) : dv (.Call f as ks p) = true -> Cb name env w (.Call f as ks p) := by
 cases f <;> first | exact λ _ => rfl | skip
 cases as <;> first | exact λ _ => rfl | skip
 cases ks <;> first | exact λ _ => rfl | exact λ h => bY h
theorem jO (name : Str) (env : Env) (w : Sem Value) (v : Expr) : dv v = true -> Cb name env w v := by
 cases v <;> first | exact λ _ => rfl | exact uY name env w _ _ _ _
theorem CY (H : aF T K g mg mb D k) {f : hJ} {o : ME} (iho : PE T K g Γ D A outer o) : PE T K g Γ D A outer (.attr f o) := by
 intro sc env F e ρ σ φ s Q X Q' E' hc hs eo ha st lo hw hq hx; apply cB hc; intro v name pos hc
 have y1 := ab hc
 have y2 := ab y1.1
 apply bI y2.1
 have hb := y2.2
 have h1 := y1.2
 rw [arm_eval_Attribute, show attributeBase v _ env _ = _ from jO _ env _ v hb]
 refine wpAny_bind (wpAny_mono (Q := λ v s₁ => wpAny (model K.prog K.w) A (getAttr v (aC f) true) Q' E' s₁) (iho sc env F _ ρ σ φ s _ X _ E' h1 hs eo ha st lo hw ?_ hx) (λ v s₁ h₁ => wpAny_bind (wpAny_standAt (wpAny_bind (wpAny_holding (wpAny_mono h₁ (λ r s₂ h₂ => wpAny_bind (wpAny_letTemporaryGo (wpAny_pure h₂))) λ _ _ x => x))))) λ _ _ x => x)
 exact λ va σ₁ φ₁ h₁ t₁ v₁ w st₁ sp₁ r₁ => w.elim λ r w => u5 H.G H.ck w.1 st₁ r₁ ((hq.step sp₁).ok w.2)
end
section
variable {T : Fn -> ac} {K : Kx} {g : Heap} {mg mb : Str -> Option Value} {Γ : List Str} {D : List Fn} {A : Around} {outer : List Env} {k : Nat} {F : List Addr} {φ φ' : aO} {σ : aa} {s : Shared} {h' : Heap} {t' : Nat} {env : Env} {ρ : aj} {sc : Scope}
theorem eQ {cx : Cx} (pos : Pos) (env : Env) (xs : List Expr) : ∀ {es : fC}, eK cx es xs = true -> ∀ x ∈ backTo pos (starEach xs env), x.1 = false := by
 induction xs with
 | nil => exact λ _ x hx => nomatch hx
 | cons y ys ih =>
  intro es hc x hx
  cases es with
  | nil => exact bY hc
  | cons e es =>
   rw [cK (ab hc).1 ys env] at hx
   exact (List.mem_cons.mp hx).elim (λ q => q ▸ rfl) (ih (ab hc).2 x)
theorem qD {M : Model} {cx : Cx} {f : Value} {pos : Pos} {es : fC} {xs : List Expr} {Q : Args -> Shared -> Prop} {E : Value -> Shared -> Prop} (hc : eK cx es xs = true) (h : wpAny M A (spliced (backTo pos (starEach xs env))) (λ vs s' => Q ⟨vs, []⟩ s') E s) :
  wpAny M A (evalArgs f true (backTo pos (starEach xs env)) []) Q E s := by
 cases xs with
 | nil =>
  unfold evalArgs
  show wpAny M A (spliced [] >>= _) Q E s
  refine wpAny_bind (wpAny_mono h (λ vs s' h' => ?_) λ _ _ x => x)
  refine wpAny_holding ?_
  exact wpAny_bind (wpAny_pure (wpAny_bind (wpAny_pure (wpAny_pure h'))))
 | cons y ys =>
  cases es with
  | nil => exact bY hc
  | cons e es =>
   have := cK (ab hc).1 ys env
   rw [this] at h ⊢
   exact Calls.evalArgs_plain h
theorem kS {l : List (Bool × Sem Value)} (h : ∀ x ∈ l, x.1 = false) : l.any (·.1) = false := by
 rw [List.any_eq_false]; intro x hx; rw [h x hx]; exact Bool.false_ne_true
theorem m3 {M : Model} {cx : Cx} {f : Value} {first : List Value} {pos : Pos} {es : fC} {xs : List Expr} {Q E : Value -> Shared -> Prop} {KK : Frag} (hc : eK cx es xs = true) (hk : keepIn KK f = true)
  (h : wpAny M A (spliced (backTo pos (starEach xs env))) (λ vs s₁ => KK.In s₁.heap ∧ wpAny M A (call f (first ++ vs)) Q E s₁) E s) : wpAny M A (callWith pos f first (backTo pos (starEach xs env)) []) Q E s :=
 callWith_of (by rw [kS (eQ pos env _ hc)]; rfl) (keeps_K hk) (qD hc h)
theorem lK {M : Model} {cx : Cx} {id : String} {first : List Value} {pos : Pos} {es : fC} {xs : List Expr} {Q E : Value -> Shared -> Prop} (hc : eK cx es xs = true)
  (h : wpAny M A (spliced (backTo pos (starEach xs env))) (λ vs s₁ => wpAny M A (call (.builtin id) (first ++ vs)) Q E s₁) E s) : wpAny M A (callWith pos (.builtin id) first (backTo pos (starEach xs env)) []) Q E s :=
 Calls.callWith_builtin (kS (eQ pos env _ hc)) (qD hc h)
theorem vD {M : Model} {cx : Cx} {id : String} {first : List Value} {pos : Pos} {es : fC} {xs : List Expr} {Q E : Value -> Shared -> Prop} (hc : eK cx es xs = true)
  (h : wpAny M A (spliced (backTo pos (starEach xs env))) (λ vs s₁ => wpAny M A (call (.type id) (first ++ vs)) Q E s₁) E s) : wpAny M A (callWith pos (.type id) first (backTo pos (starEach xs env)) []) Q E s :=
 PyProof.Rows.callWith_type (kS (eQ pos env _ hc)) (qD hc h)
theorem oj {M : Model} {cx : Cx} {v : Expr} {name : Str} {apos pos : Pos} {es : fC} {xs : List Expr} {Q E : Value -> Shared -> Prop} (hb : dv v = true) (hline : (apos.endLine == pos.line) = true) (hc : eK cx es xs = true) (hl : xs.length < 20)
  (h : wpAny M A (eval v env) (λ ov s₁ => ∀ pl, wpAny M A (getMethod ov name pl) (λ fp s₂ => wpAny M A (callWith pos fp.1 fp.2 (backTo pos (starEach xs env)) []) Q E s₂) E s₁) E s) :
  wpAny M A (eval (.Call (.Attribute v name apos) xs [] pos) env) Q E s := by
 rw [arm_eval_Call, show attributeBase v name env _ = _ from jO name env _ v hb]
 refine wpAny_bind (wpAny_mono h (λ ov s₁ h₁ => wpAny_bind (wpAny_standAt ?_)) λ _ _ e => e)
 have hform : methodCallForm (xs.length + ([] : List Keyword).length) (backTo pos (starEach xs env)) (backToKw pos (keywordEach [] env)) = true := by
  unfold methodCallForm
  rw [List.all_eq_true.mpr λ x hx => by rw [eQ pos env _ hc x hx]; rfl]
  exact decide_eq_true (Nat.lt_trans hl (by decide))
 have hpos : methodCallPos true v env apos pos = pure pos := by unfold methodCallPos; rw [hline]; rfl
 unfold methodCall
 rw [hform]
 unfold calleeOf
 refine wpAny_bind (wpAny_holding (wpAny_mono (h₁ _) (λ fp s₂ h₂ => ?_) λ _ _ x => x))
 exact wpAny_bind (wpAny_of_eq hpos h₂)
theorem qv {f : Value} {vs : List Value} {Q' E' : Value -> Shared -> Prop} (h : codeAny (model K.prog K.w) A (.call f ⟨vs, []⟩) (Gg Q' E') s) : wpAny (model K.prog K.w) A (call f vs) Q' E' s :=
 wpAny_call (codeAny_mono h λ r s' h => by
  cases r with
  | error e => exact h
  | ok f => cases f <;> exact h)
theorem ww {f : Fn} {x : Str} {P : Prop} (h : lr f x = true) (k : j5 f = .inl x -> P) : P := by
 unfold lr at h
 cases e : j5 f with
 | inl y => rw [e] at h; exact k (e.trans (congrArg Sum.inl (eq_of_beq h).symm))
 | inr y => rw [e] at h; exact bY h
theorem Cl {f : Fn} {x : Str} {a : Addr} (hf : j5 f = .inl x) (ha : bg K f = some a) : nsIn K.frag mainGlobals x = some (some (.ref a)) := by
 unfold bg at ha; rw [hf] at ha; exact eY ha
theorem C0 (H : aF T K g mg mb D k) (hR : cR (k + 1) A) {f : Fn} {es : fC} (ih : PL T K g Γ D A outer es) : PE T K g Γ D A outer (.call f es) := by
 intro sc env F e ρ σ φ s Q X Q' E' hc hs eo ha' st lo hw hq hx; apply ct hc; intro x px xs pos hc
 have hc := ab hc
 have y1 := ab hc.1
 have y2 := ab y1.1
 have y3 := ab y1.2
 have h1 := hc.2
 refine ww y2.2 λ hfp => (H.known f (List.contains_iff_mem.mp y3.1)).elim λ a hk => ?_
 refine wpAny_Call_NameR (lV H hs eo st y2.1 (Cl hfp hk.1) ?_)
 refine m3 h1 hk.2 (ih sc env F xs pos ρ σ φ s _ X _ E' h1 hs eo ha' st lo hw ?_ hx)
 exact λ Vs σ₁ φ₁ h₁ t₁ vs hT st₁ sp₁ r₁ hl => ⟨H.G.kept st₁, (H.fns f _ _ _ _ (bne_iff_ne.mp y3.2) hT).elim λ a' w =>
  qv ((Option.some.inj (hk.1.symm.trans w.1) ▸ w.2.2) A outer F φ₁ σ₁ (up s h₁ t₁) Vs vs Q X Q' E' (hR.mono (Nat.le_succ k)) ha' st₁ r₁ hT (hq.step sp₁) (hx.go st sp₁))⟩
theorem D3 {c : dL} {P : Prop} (mk : ol K c = true) (k : ∀ C, bS K c = some C -> keepIn K.frag (.ref C) = true -> P) : P := by
 unfold ol at mk
 cases e : bS K c with
 | none => rw [e] at mk; exact bY mk
 | some C => rw [e] at mk; exact k C e (ab (ab mk).1).2
theorem Fc (H : aF T K g mg mb D k) (hR : cR (k + 1) A) {c : dL} {es : fC} (ih : PL T K g Γ D A outer es) : PE T K g Γ D A outer (.new c es) := by
 intro sc env F e ρ σ φ s Q X Q' E' hc hs eo ha st lo hw hq hx; apply ct hc; intro x px xs pos hc
 have y1 := ab hc
 have y2 := ab y1.1
 have y3 := ab y2.1
 have hg := y3.1
 have h1 := y1.2
 refine (H.inits c (List.contains_iff_mem.mp y2.2)).elim λ mk q => q.elim λ a q => D3 mk λ C hC hk => ?_
 refine wpAny_Call_NameR (lV H hs eo st hg ((eq_of_beq y3.2).symm ▸ C9 hC) ?_)
 refine m3 h1 hk (ih sc env F xs pos ρ σ φ s _ X _ E' h1 hs eo ha st lo hw ?_ hx)
 exact λ Vs σ₁ φ₁ h₁ t₁ vs w st₁ sp₁ r₁ hl => w.elim λ r w => ⟨H.G.kept st₁, G9 H.G mk hC q.1 q.2 hR ha w.1 st₁ r₁ ((hq.step sp₁).ok w.2)⟩
theorem kz {M : Model} {cx : Cx} {me : ME} {x : Expr} {pos : Pos} {Q : List Value -> Shared -> Prop} {E : Value -> Shared -> Prop} (hc : aR cx me x = true) (h : wpAny M A (eval x env) (λ v s₁ => Q [v] s₁) E s) :
  wpAny M A (spliced (backTo pos (starEach [x] env))) Q E s :=
 wpAny_items_cons (wpAny_mono h (λ _ _ h => wpAny_items_nil h) λ _ _ h => h) (cK hc [] env)
theorem gA {cx : Cx} {me : ME} {x : Expr} (hc : aR cx me x = true) : eK cx (.cons me .nil) [x] = true := by show (aR cx me x && true) = true; rw [hc]; rfl
theorem Gi {cx : Cx} : eK cx .nil [] = true := rfl
theorem GH (H : aF T K g mg mb D k) {b : Bi} {e : ME} (ih : PE T K g Γ D A outer e) : PE T K g Γ D A outer (.bi b e) := by
 intro sc env F e ρ σ φ s Q X Q' E' hc hs eo ha st lo hw hq hx; apply ct hc; intro x px args pos hc; apply bk hc; intro arg hc
 have y1 := ab hc
 have y2 := ab y1.1
 have hg := y2.1
 have h1 := y1.2
 revert hg; apply bI y2.2; intro hg
 have hc1 := gA h1
 have hv : bootBuiltins (Ci b) = some (vy b) := by cases b <;> rfl
 refine wpAny_Call_NameR (sU H hs eo st hg (by cases b <;> decide) hv ?_)
 have main : wpAny (model K.prog K.w) A (spliced (backTo pos (starEach [arg] env))) (λ vs s₁ => wpAny (model K.prog K.w) A (call (vy b) ([] ++ vs)) Q' E' s₁) E' s := by
  refine kz h1 (ih sc env F arg ρ σ φ s _ X _ E' h1 hs eo ha st lo hw ?_ hx)
  exact λ V σ₁ φ₁ h₁ t₁ v w st₁ sp₁ r₁ => w.elim λ r w => sBi ha.hand w.1 st₁ r₁ ((hq.step sp₁).ok w.2)
 cases b
 ·exact lK hc1 main
 ·exact lK hc1 main
 ·exact vD hc1 main
 ·exact lK hc1 main
 ·exact lK hc1 main
 ·exact vD hc1 main
end
section
variable {T : Fn -> ac} {K : Kx} {g : Heap} {mg mb : Str -> Option Value} {Γ : List Str} {D : List Fn} {A : Around} {outer : List Env} {k : Nat} {F : List Addr} {φ φ' : aO} {σ : aa} {s : Shared} {h' : Heap} {t' : Nat} {env : Env} {ρ : aj} {sc : Scope}
theorem tE {M : Model} {m : SM} {x : Str} {t : Tok} {pl : Sem Bool} {Q : Value × List Value -> Shared -> Prop} {E : Value -> Shared -> Prop} (h : Q (.builtin (BZ m), [.str x t]) s) : wpAny M A (getMethod (.str x t) (z9 m) pl) Q E s := by
 cases m
 ·exact GM.find h
 ·exact GM.join h
 ·exact GM.lower h
 ·exact GM.isalpha h
 ·exact GM.isdigit h
theorem Eo {h : Heap} {m : SM} {va r : AV} {v : Value} {P : Value -> Prop} (e : jo m va = some r) (ra : aM K h F φ va v) (k : ∀ x t, P (.str x t)) : P v := by
 cases m with
 | find => exact ak e
 | join => exact ak e
 | lower => apply g9 e ra; exact λ l t _ _ => k _ t
 | isalpha => apply g9 e ra; exact λ l t _ _ => k _ t
 | isdigit => apply g9 e ra; exact λ l t _ _ => k _ t
theorem Ff {m : SM} {o : ME} (iho : PE T K g Γ D A outer o) : PE T K g Γ D A outer (.sm0 m o) := by
 intro sc env F e ρ σ φ s Q X Q' E' hc hs eo ha st lo hw hq hx; apply cN hc; intro v name apos as pos hc; apply bz (ab hc).1; have hc := (ab hc).2
 have y1 := ab hc
 have y2 := ab y1.1
 have y3 := ab y2.1
 apply bI y3.1
 have hb := y3.2
 have hl := y2.2
 have h1 := y1.2
 refine oj (es := .nil) (cx := ⟨K, sc, Γ, D⟩) hb hl rfl (by decide) (iho sc env F _ ρ σ φ s _ X _ E' h1 hs eo ha st lo hw ?_ hx)
 intro V σ₁ φ₁ h₁ t₁ v w st₁ sp₁ r₁
 refine w.elim λ r w pl => ?_
 have z := Hb (s := (up s h₁ t₁)) (A := A) (E := E') w.1 st₁ r₁ ((hq.step sp₁).ok w.2)
 revert z; apply Eo w.1 r₁
 exact λ x t z => tE (lK (es := .nil) (cx := ⟨K, sc, Γ, D⟩) rfl (wpAny_items_nil z))
theorem Fg {m : SM} {o a : ME} (iho : PE T K g Γ D A outer o) (iha : PE T K g Γ D A outer a) : PE T K g Γ D A outer (.sm1 m o a) := by
 intro sc env F e ρ σ φ s Q X Q' E' hc hs eo ha st lo hw hq hx; apply cN hc; intro v name apos as pos hc; apply bk hc; intro arg hc
 have y1 := ab hc
 have y2 := ab y1.1
 have y3 := ab y2.1
 have y4 := ab y3.1
 apply bI y4.1
 have hb := y4.2
 have hl := y3.2
 have h1 := y2.2
 have h2 := y1.2
 refine oj (cx := ⟨K, sc, Γ, D⟩) hb hl (gA h2) (show 1 < 20 by decide) (iho sc env F _ ρ σ φ s _ X _ E' h1 hs eo ha st lo hw ?_ hx)
 intro V σ₁ φ₁ h₁ t₁ v w st₁ sp₁ r₁ pl
 refine w.1.elim λ x e => ?_
 have hw := w.2
 rw [e] at r₁ hw
 refine r₁.elim λ t z => ?_
 rw [z.1]
 refine tE (lK (cx := ⟨K, sc, Γ, D⟩) (gA h2) (kz h2 ?_))
 refine iha sc env F _ ρ σ₁ φ₁ (up s h₁ t₁) _ X _ E' h2 hs eo ha st₁ (lo.step K g st eo sp₁) hw ?_ (hx.go st sp₁)
 exact λ Va σ₂ φ₂ h₂ t₂ va w st₂ sp₂ r₂ => w.elim λ r w => Hc (s := (up s h₂ t₂)) w.1 st₂ (.str x t z.2) r₂ (((hq.step sp₁).step sp₂).ok w.2)
theorem BU {n : Nat} {l : List AV} {V : AV} {o v : Value} {Q' E' : Value -> Shared -> Prop} (hn : σ[n]? = some (.list l)) (hl : l.length < fD) (st : St K g F φ σ s.heap) (ro : aM K s.heap F φ (.loc n) o) (rv : aM K s.heap F φ V v)
  (ok : Ok K g F φ s (.none, σ.set n (.list (l ++ [V]))) Q') : wpAny (model K.prog K.w) A (call (.builtin "list.append") [o, v]) Q' E' s := by
 refine ro.elim λ x y => y.elim λ d y => ?_
 have ep := y.2
 rw [y.1]
 cases st.cell n _ _ hn ep with | mk q vs hl' hr =>
 have q1 : d = x := q.1
 rw [q1] at ep
 refine wpAny_list_append_plain hl' (λ h' hp hs => ?_) (hr.size.symm ▸ Nat.le_trans (Nat.le_of_lt hl) ej)
 have hk : ∀ b o, b ≠ x -> s.heap.get? b = some o -> h'.get? b = some o := λ b o hb e => (hs.2 b hb).trans e
 have ex : h'.get? x ≠ none := hp.elim λ m e => av e
 have m : rQ s.heap F φ h' F φ := λ a o e _ no => ⟨hk a o (λ q => no (q ▸ .inr ⟨_, List.mem_of_getElem? ep, .inl rfl⟩)) e, no⟩
 have c := St.change (F₀ := []) (h' := h') (c := .list (l ++ [V])) st ep (λ b o h1 h2 e => hk b o h1 e) ⟨ex, ex⟩
  (.mk ⟨rfl, by rw [List.length_append]; exact Nat.le_trans hl ej⟩ _ hp (Array.toList_push.symm ▸ (ao.mono K m (λ _ _ e => e) hr).append (.cons (aM.mono K m (λ _ _ e => e) rv) .nil)))
 exact ok φ h' s.toks .none c.1 c.2 .none
theorem E4 {o e : ME} (iho : PE T K g Γ D A outer o) (ihe : PE T K g Γ D A outer e) : PE T K g Γ D A outer (.app o e) := by
 intro sc env F ex ρ σ φ s Q X Q' E' hc hs eo ha st lo hw hq hx; apply cN hc; intro v name apos as pos hc; apply bk hc; intro arg hc
 have y1 := ab hc
 have y2 := ab y1.1
 have y3 := ab y2.1
 have y4 := ab y3.1
 apply bI y4.1
 have hb := y4.2
 have hl := y3.2
 have h1 := y2.2
 have h2 := y1.2
 refine oj (cx := ⟨K, sc, Γ, D⟩) hb hl (gA h2) (show 1 < 20 by decide) (iho sc env F _ ρ σ φ s _ X _ E' h1 hs eo ha st lo hw ?_ hx)
 intro V σ₁ φ₁ h₁ t₁ v w st₁ sp₁ r₁ pl
 refine w.1.elim λ n y => y.elim λ l y => ?_
 have hw := w.2
 have r₁' : aM K h₁ F φ₁ (.loc n) v := y.1 ▸ r₁
 refine r₁'.elim λ x z => z.elim λ d z => ?_
 cases st₁.cell n _ _ y.2 z.2 with | mk q vs hx' hr =>
 refine hx'.elim λ m hx' => ?_
 rw [z.1]
 refine Calls.getMethod_list_append hx' rfl rfl ?_
 rw [← z.1]
 refine lK (cx := ⟨K, sc, Γ, D⟩) (gA h2) (kz h2 ?_)
 refine ihe sc env F _ ρ σ₁ φ₁ (up s h₁ t₁) _ X _ E' h2 hs eo ha st₁ (lo.step K g st eo sp₁) hw ?_ (hx.go st sp₁)
 exact λ Va σ₂ φ₂ h₂ t₂ va w st₂ sp₂ r₂ => w.elim λ n' w => w.elim λ l' w => BU (s := (up s h₂ t₂)) w.2.1 w.2.2.1 st₂ (w.1 ▸ cP r₁ sp₂) r₂ (((hq.step sp₁).step sp₂).ok w.2.2.2)
theorem D5 {c : dL} {m : yh} {f : Fn} (h : zB c m = some f) : f ≠ .l_heard := λ e => absurd (List.all_eq_true.mp (show (mq.all λ p => zB p.1 p.2 != some .l_heard) = true by decide) _ (wF h)) (by rw [show zB (c, m).1 (c, m).2 = some f from h, e]; decide)
theorem C7 (H : aF T K g mg mb D k) (hR : cR (k + 1) A) {m : yh} {o : ME} {es : fC} (iho : PE T K g Γ D A outer o) (ih : PL T K g Γ D A outer es) : PE T K g Γ D A outer (.meth m o es) := by
 intro sc env F ex ρ σ φ s Q X Q' E' hc hs eo ha st lo hw hq hx; apply cN hc; intro v name apos args pos hc
 have y1 := ab hc
 have y2 := ab y1.1
 have y3 := ab y2.1
 have y4 := ab y3.1
 have y5 := ab y4.1
 apply bI y5.1
 have h2 := y2.2
 refine oj y5.2 y4.2 h2 (of_decide_eq_true y1.2) (iho sc env F _ ρ σ φ s _ X _ E' y3.2 hs eo ha st lo hw ?_ hx)
 intro V σ₁ φ₁ h₁ t₁ v w st₁ sp₁ r₁ pl
 refine w.elim λ c w => w.2.elim λ f y => ?_
 have hw := y.2
 refine CC H.G H.ck w.1 y.1 st₁ r₁ λ a haddr hk => ?_
 refine m3 h2 hk (ih sc env F _ _ ρ σ₁ φ₁ (up s h₁ t₁) _ X _ E' h2 hs eo ha st₁ (lo.step K g st eo sp₁) hw ?_ (hx.go st sp₁))
 exact λ Vs σ₂ φ₂ h₂ t₂ vs hT st₂ sp₂ r₂ hl => ⟨H.G.kept st₂, (H.fns f _ _ _ _ (D5 y.1) hT).elim λ a' z =>
  qv ((Option.some.inj (haddr.symm.trans z.1) ▸ z.2.2) A outer F φ₂ σ₂ (up s h₂ t₂) (V :: Vs) (v :: vs) Q X Q' E' (hR.mono (Nat.le_succ k)) ha st₂ (.cons (cP r₁ sp₂) r₂) hT ((hq.step sp₁).step sp₂) ((hx.go st sp₁).go st₁ sp₂))⟩
end
section
variable {T : Fn -> ac} {K : Kx} {g : Heap} {mg mb : Str -> Option Value} {Γ : List Str} {D : List Fn} {A : Around} {outer : List Env} {k : Nat} {F : List Addr} {φ φ' : aO} {σ : aa} {s : Shared} {h' : Heap} {t' : Nat} {env : Env} {ρ : aj} {sc : Scope}
theorem zq {ks : List (Option Expr)} {vs : List Expr} {l : List (PyData × PyData)} {s : Str} {i : Int} {n n' : Nat} {p p' : Pos} (h : litPairs ks vs = some l) : litPairs (some (.Constant (.str s) n p) :: ks) (.Constant (.int i) n' p' :: vs) = some ((.str s, .int i) :: l) := by unfold litPairs; rw [h]; rfl
theorem su (l : List (Nat × Int)) : ∀ {ks : List (Option Expr)} {vs : List Expr}, yP l ks vs = true ->
  litPairs ks vs = some (l.map λ p => (.str ⟨#[p.1]⟩, .int p.2)) ∧ ks.all (·.isSome) = true ∧ ks.length = vs.length ∧ ks.length = l.length := by
 induction l with
 | nil =>
  intro ks vs h
  apply bz (ab h).1
  apply bz (ab h).2
  exact ⟨rfl, rfl, rfl, rfl⟩
 | cons p l ih =>
  intro ks vs h
  apply bu h; intro k ks h
  apply bu h; intro v vs h
  have y1 := ab h
  have y2 := ab y1.1
  apply aH y2.1; intro k h1
  apply cm h1; intro q n r h1
  apply oO h1; intro s h1
  apply i5 y2.2; intro i n' r' h2
  apply bI h1; apply bI h2
  have z := ih y1.2
  exact ⟨zq z.1, z.2.1, congrArg (· + 1) z.2.2.1, congrArg (· + 1) z.2.2.2⟩
theorem St.low (H : aF T K g mg mb D k) (st : St K g F φ σ s.heap) : sysModules < s.heap.objs.size := by
 obtain ⟨_, hn, _⟩ := H.G.lim
 exact Nat.lt_trans (by decide) (hn.keeps st.keep).lt
theorem BJ {h : Heap} {x : Addr} (hle : h.objs.size ≤ x) : h.get? x = none := by
 cases q : h.get? x with
 | none => rfl
 | some o => exact absurd (Heap.lt_size q) (Nat.not_lt.mpr hle)
theorem C3 (H : aF T K g mg mb D k) : PE T K g Γ D A outer .escD := by
 intro sc env F e ρ σ φ s Q X Q' E' hc hs eo ha st lo hw hq hx; apply uL hc; intro ks vs pos hc
 obtain ⟨a, b, c, d⟩ := su _ hc
 refine Dict_lits_str a (by decide) (by decide) b c (λ q => by rw [q] at d; cases d) (by rw [d]; decide) λ x o h₁ tk hle ho ⟨kvs, hd, hf⟩ hk => ?_
 have hx : s.heap.get? x = none := BJ hle
 exact hq .esc σ φ h₁ tk _ hw (St.keeps K g st hk) (an.kept φ hk) (.esc (st.fresh hx) (beq_eq_false_iff_ne.mpr (Nat.ne_of_gt (Nat.lt_of_lt_of_le (St.low H st) hle))) ho hd hf)
theorem yC (H : aF T K g mg mb D k) {o : ME} (iho : PE T K g Γ D A outer o) : PE T K g Γ D A outer (.isList o) := by
 intro sc env F e ρ σ φ s Q X Q' E' hc hs eo ha st lo hw hq hx; apply ct hc; intro x xp args pos hc; apply dD hc; intro arg y hc; apply aP hc; intro y yp hc
 have y1 := ab hc
 have y2 := ab y1.1
 have y3 := ab y2.1
 have y4 := ab y3.1
 have hx1 := y4.1
 have hy1 := y3.2
 have h1 := y1.2
 revert hx1; apply bI y4.2; intro hx1
 revert hy1; apply bI y2.2; intro hy1
 refine wpAny_Call_NameR (sU H hs eo st hx1 (by decide) (v := .builtin "isinstance") (by decide +kernel) ?_)
 refine Calls.callWith_builtin (by rw [backTo, cK h1]; rfl) ?_
 have he := cK h1 [.Name "list" yp] env
 have key : wpAny (model K.prog K.w) A (spliced (backTo pos (starEach [arg, .Name "list" yp] env))) (λ vs s' => wpAny (model K.prog K.w) A (call (.builtin "isinstance") ([] ++ vs) []) Q' E' s') E' s := by
  refine wpAny_items_cons (iho sc env F _ ρ σ φ s _ X _ E' h1 hs eo ha st lo hw ?_ hx) he
  intro V σ₁ φ₁ h₁ t₁ v hV st₁ sp₁ r₁
  refine wpAny_items_cons (sU (s := (up s h₁ t₁)) H hs eo st₁ hy1 (by decide) (v := .type "list") (by decide +kernel) (wpAny_items_nil ?_))
  refine hV.elim (λ y => y.elim λ n y => y.elim λ l y => ?_) λ y => y.elim λ l y => ?_
  ·rw [y.1] at r₁
   apply st₁.list y.2.1 r₁
   exact λ x vs ep hl hr hz => call_isinstance (isinstance_true (Tx := "list") rfl rfl) ⟨hl.typeIs, (hq.step (t' := t₁) sp₁).val st₁ y.2.2 (.bool true) t₁⟩
  ·rw [y.1] at r₁
   cases r₁ with | mk vs a e z ht no rl =>
   rw [e]
   exact call_isinstance (isinstance_false_tuple rfl rfl rfl) ⟨IsTup.typeIs ht, (hq.step (t' := t₁) sp₁).val st₁ y.2 (.bool false) (t₁ + 1)⟩
 rw [he] at key ⊢
 exact Calls.evalArgs_plain key
end
section
variable {T : Fn -> ac} {K : Kx} {g : Heap} {mg mb : Str -> Option Value} {Γ : List Str} {D : List Fn} {A : Around} {outer : List Env} {k : Nat} {F : List Addr} {φ φ' : aO} {σ : aa} {s : Shared} {h' : Heap} {t' : Nat} {env : Env} {ρ : aj} {sc : Scope}
theorem zr {P : Nat -> Prop} (l : List AV) : ∀ {is : List Int}, iz l = some is -> tU P l := by
 induction l with
 | nil => exact λ _ => trivial
 | cons x l ih =>
  intro is e
  cases x with
  | int i => exact ⟨trivial, (Option.map_eq_some_iff.mp e).elim λ js q => ih q.1⟩
  | _ => exact ak e
theorem gy {s₀ : Shared} {items : List AV} {same : aa -> Prop} {target : Expr} {Q' : Value -> Shared -> Prop} (st : St K g F φ' σ h') (sp : an [] φ φ' s₀.heap h')
  (h : ∀ its fp it P σ₁ φ₁ h₁ t₁, σ₁ = σ -> ql K g A its fp items same target it P -> P F 0 φ₁ σ₁ h₁ -> (∀ b ∈ its, s₀.heap.get? b = none ∧ h₁.get? b ≠ none ∧ ¬ bZ F φ₁ b) -> (∀ b ∈ fp, h₁.get? b ≠ none) -> St K g F φ₁ σ₁ h₁ -> an [] φ φ₁ s₀.heap h₁ -> Q' it (up s₀ h₁ t₁)) :
  rP K g F A φ' σ (up s₀ h' t') items same target Q' :=
 λ its fp it P h₂ t₂ hI hP hn hfp hk => by
  refine h its fp it P σ φ' h₂ t₂ rfl hI hP (λ b hb => ⟨sp.all b (hn b hb), ?_, st.fresh (hn b hb)⟩) hfp (St.keeps K g st hk) (sp.trans (an.kept φ' hk))
  exact (hI.rcd F 0 φ' σ h₂ hP b hb).elim λ o e => av e.1
theorem Bl {e : ME} (ih : PE T K g Γ D A outer e) : PI T K g Γ D A outer (.plain e) := by
 intro sc env F x target ρ σ φ s Q X Q' E' hc _ hs eo ha st lo hw hq hx
 refine ih sc env F x ρ σ φ s _ X _ E' hc hs eo ha st lo hw ?_ hx
 exact λ V σ₁ φ₁ h₁ t₁ v w st₁ sp₁ r₁ => w.elim λ l w => Bq (target := target) (s := (up s h₁ t₁)) ha.hand w.1 st₁ r₁ (gy st₁ sp₁ λ its fp it P σ₂ φ₂ h₂ t₂ e hI hP hn hfp st₂ sp₂ =>
  hq its fp it P l _ σ₂ φ₂ h₂ t₂ (e.symm ▸ w.2) hI hP hn hfp st₂ sp₂)
theorem Bm (H : aF T K g mg mb D k) {e : ME} (ih : PE T K g Γ D A outer e) : PI T K g Γ D A outer (.range e) := by
 intro sc env F x target ρ σ φ s Q X Q' E' hc _ hs eo ha st lo hw hq hx
 apply ct hc; intro x xp args pos hc
 apply bk hc; intro arg hc
 ·have y1 := ab hc
  have y2 := ab y1.1
  have h1 := y1.2
  have hg := y2.1
  revert hg; apply bI y2.2; intro hg
  refine wpAny_Call_NameR (sU H hs eo st hg (by decide) (v := .type "range") (by decide +kernel) (vD (gA h1) (kz h1 ?_)))
  refine ih sc env F _ ρ σ φ s _ X _ E' h1 hs eo ha st lo hw ?_ hx
  intro V σ₁ φ₁ h₁ t₁ v w st₁ sp₁ r₁
  rw [w.1] at r₁
  refine r₁.elim λ u e => ?_
  rw [e]
  exact call_range_1 (Br (g := g) (F := F) (φ := φ₁) (σ := σ₁) (target := target) ha.hand (t := t₁) (u := _) (v := t₁ + 1) (Heap.get?_push_size _ rfl) (gy (s₀ := s) (st₁.pushed _) (sp₁.trans (an.pushed _ _ _))
   λ its fp it P σ₂ φ₂ h₂ t₂ e hI hP hn hfp st₂ sp₂ => hq its fp it P _ _ σ₂ φ₂ h₂ t₂ (e.symm ▸ w.2) hI hP hn hfp st₂ sp₂))
theorem eG.last {φ ψ : aO} {h : Heap} (x : eG φ ψ h) (hl : ψ.length = φ.length + 1) : ∃ p, ψ = φ ++ [p] := by
 cases x with | mk χ e _ =>
 have z : χ.length = 1 := Nat.add_left_cancel ((List.length_append (as := φ) (bs := χ)).symm.trans (e ▸ hl))
 exact (List.length_eq_one_iff.mp z).imp λ p (q : χ = [p]) => q ▸ e
theorem St.noLast {h : Heap} {p : Addr × Addr} (st : St K g F (φ ++ [p]) σ h) : ¬ bZ F φ p.1 := λ q => q.elim (st.offF p (List.mem_append_right _ (List.mem_singleton.mpr rfl))).1 λ q => q.elim λ r q => (List.mem_iff_getElem?.mp q.1).elim λ i hi =>
 have d := st.dis i φ.length r p (i3 hi) List.getElem?_concat_length (Nat.ne_of_lt (List.getElem?_eq_some_iff.mp hi).1)
 q.2.elim (λ z => d.1 z.symm) λ z => d.2.2.1 z.symm
theorem DR (H : aF T K g mg mb D k) {e : ME} (ih : PE T K g Γ D A outer e) : PI T K g Γ D A outer (.enum e) := by
 intro sc env F x target ρ σ φ s Q X Q' E' hc ht hs eo ha st lo hw hq hx
 refine ht.elim λ elts ht => ht.elim λ kk ht => ht.elim λ tpos ht => ?_
 rw [ht] at hq
 apply ct hc; intro x xp args pos hc
 apply bk hc; intro arg hc
 ·have y1 := ab hc
  have y2 := ab y1.1
  have h1 := y1.2
  have hg := y2.1
  revert hg; apply bI y2.2; intro hg
  refine wpAny_Call_NameR (sU H hs eo st hg (by decide) (v := .type "enumerate") (by decide +kernel) (vD (gA h1) (kz h1 ?_)))
  refine ih sc env F _ ρ σ φ s _ X _ E' h1 hs eo ha st lo hw ?_ hx
  intro V σ₁ φ₁ h₁ t₁ v hV st₁ sp₁ r₁
  refine hV.elim (λ y => y.elim λ x y => ?_) λ y => y.elim λ l y => y.elim λ is y => ?_
  ·rw [y.1] at r₁
   refine r₁.elim λ t z => ?_
   rw [z.1]
   exact xA (K := K) (g := g) (F := F) (φ := φ₁) (σ := σ₁) (s := (up s h₁ t₁)) (k := kk) (elts := elts) (pos := tpos) ha.hand (gy st₁ sp₁ λ its fp it P σ₂ φ₂ h₂ t₂ e hI hP hn hfp st₂ sp₂ =>
    hI.self F 0 φ₂ σ₂ _ _ _ hP (hq its fp it P _ _ σ₂ φ₂ h₂ t₂ (e.symm ▸ y.2) hI hP hn hfp st₂ sp₂))
  ·rw [y.1] at r₁
   rw [y.2.1] at st₁
   refine (sp₁.grow.last (by rw [st₁.len, st.len, List.length_append]; rfl)).elim λ p hp => ?_
   rw [hp] at st₁ r₁
   apply st₁.list List.getElem?_concat_length r₁
   intro ax vs ep lx rl z
   have ep := Option.some.inj ((i4 st).symm.trans ep)
   have no := st₁.noLast
   rw [ep] at no
   refine uz (K := K) (g := g) (F := F) (φ := φ) (σ := σ) (s := (up s h₁ t₁)) (k := kk) (elts := elts) (pos := tpos) ha.hand lx no (ao.map n8 qQ _ _ (zr _ y.2.2.1) rl) (gy (St.drop st₁ st.len st.lowCells) ⟨.refl φ _, sp₁.chg, sp₁.all⟩ ?_)
   exact λ its fp it P σ₂ φ₂ h₂ t₂ e hI hP hn hfp st₂ sp₂ => hI.self F 0 φ₂ σ₂ _ _ _ hP (hq its fp it P _ _ σ₂ φ₂ h₂ t₂ (e.symm ▸ y.2.2.2) hI hP hn hfp st₂ sp₂)
end
section
variable {T : Fn -> ac} {K : Kx} {g : Heap} {mg mb : Str -> Option Value} {Γ : List Str} {D : List Fn} {A : Around} {outer : List Env} {k : Nat} {F : List Addr} {φ φ' : aO} {σ : aa} {s : Shared} {h h' : Heap} {t' : Nat} {env : Env} {ρ : aj} {sc : Scope} {E : Value -> Shared -> Prop}
theorem dc.sub {ρ₁ ρ₂ : aj} (x : dc K env Γ ρ₂ F φ h) (hs : ∀ (i : Nat) V, ρ₁[i]? = some (some V) -> ρ₂[i]? = some (some V)) : dc K env Γ ρ₁ F φ h :=
 let ⟨m, hn, hc, hl⟩ := x; ⟨m, hn, hc, λ i y V e1 e2 => hl i y V e1 (hs i V e2)⟩
theorem St.frame {L : Addr} (st : St K g F φ σ h) (hL : L ∈ F) (hk : ∀ b o, b ≠ L -> h.get? b = some o -> h'.get? b = some o) (ho : ∃ o, h'.get? L = some o ∧ NR o) : St K g F φ σ h' ∧ an [L] φ φ h h' := by
 have no : ∀ {a}, ¬ bZ [L] φ a -> a ≠ L := λ n q => n (.inl (q ▸ List.mem_cons_self))
 have nc : ∀ {a}, bZ [] φ a -> a ≠ L := λ n q => St.notCell K g st hL (q ▸ n)
 refine ⟨St.map K g st (λ b o e => hk b o (λ q => av e (q ▸ st.off L (.inl hL))) (st.keep b o e)) (λ a o e _ _ n => ⟨hk a o (λ q => n (.inl (q ▸ hL))) e, n⟩) (λ a o q e _ => hk a o (nc q) e)
  λ a ha => ⟨st.off a (.inl ha), if q : a = L then q ▸ ho else (st.fr a ha).imp λ o e => ⟨hk a o q e.1, e.2⟩, St.notCell K g st ha⟩, .refl φ h, λ a o e n => hk a o (no n) e, λ a e => ?_⟩
 cases z : h.get? a with
 | none => rfl
 | some o => exact if q : a = L then ho.elim λ o x => absurd (q ▸ e) (av x.1) else absurd e (av (hk a o q z))
theorem ou {m : Str -> Option Value} {a : Addr} (hn : h.Ns a m) : ∃ o, h.get? a = some o ∧ NR o := let ⟨o, es, ep, e, d, _⟩ := hn; ⟨o, e, NR.dict d⟩
theorem vE {v : Option Value} {a : Addr} (hn : h.IsCell a v) : ∃ o, h.get? a = some o ∧ NR o := let ⟨o, e, d⟩ := hn; ⟨o, e, λ vs q => by rw [d] at q; cases q⟩
theorem wW {ρ : aj} {i j : Nat} {V W : AV} (e : (ρ.set i (some V))[j]? = some (some W)) : (j = i ∧ W = V) ∨ (j ≠ i ∧ ρ[j]? = some (some W)) := by
 by_cases q : j = i
 ·rw [q] at e
  have hl := (List.getElem?_eq_some_iff.mp e).1
  rw [List.getElem?_set_self (List.length_set ▸ hl)] at e
  exact .inl ⟨q, (Option.some.inj (Option.some.inj e)).symm⟩
 ·rw [List.getElem?_set_ne (Ne.symm q)] at e; exact .inr ⟨q, e⟩
theorem wG (hΓ : Γ.Nodup) {i j : Nat} {x y : Str} (hi : Γ[i]? = some x) (e1 : Γ[j]? = some y) (hj : j ≠ i) : y ≠ x := λ q => hj ((List.getElem?_inj (List.getElem?_eq_some_iff.mp e1).1 hΓ).mp (e1.trans (q ▸ hi.symm)))
theorem mA (eo : aX env F) : ∀ a ∈ [env.locals], a ∈ F := λ a ha => List.mem_singleton.mp ha ▸ eo.loc
theorem iN {i : Nat} {x : Str} {V : AV} {v : Value} {Q : Unit -> Shared -> Prop} (hΓ : Γ.Nodup) (eo : aX env F) (hi : Γ[i]? = some x) (hx : env.scope.names.lookup x = some .local) (st : St K g F φ σ s.heap)
  (lo : dc K env Γ ρ F φ s.heap) (r : aM K s.heap F φ V v)
  (hq : ∀ h' t', St K g F φ σ h' -> an [env.locals] φ φ s.heap h' -> dc K env Γ (ρ.set i (some V)) F φ h' -> Q () (up s h' t')) : wpAny (model K.prog K.w) A (storeName env x v) Q E s := by
 cases lo with | mk m hn hce hl =>
 refine wpAny_storeName_local hx hn (λ h' hn' hs => ?_) (by rw [eo.kind]; rfl)
 have z := St.frame st eo.loc (λ b o hb e => hs.extBut b o hb e) (ou hn')
 refine hq h' _ z.1 z.2 (.mk _ hn' (λ y c q => (hce y c q).imp λ w ic => ic.sameBut hs (eo.ne _ _ q)) λ j y W e1 e2 => (wW e2).elim (λ q => ?_) λ q => ?_)
 ·rw [q.1, hi] at e1
  rw [← Option.some.inj e1, hx, q.2]
  exact ⟨v, if_pos rfl, an.rep K z.2 (mA eo) r⟩
 ·exact (hl j y W e1 q.2).map (λ w a => ⟨(if_neg (wG hΓ hi e1 q.1)).trans a.1, an.rep K z.2 (mA eo) a.2⟩) λ w a => ⟨a.1.imp λ c b => ⟨b.1, b.2.sameBut hs (eo.ne _ _ b.1)⟩, an.rep K z.2 (mA eo) a.2⟩
theorem BY {L₀ : List Addr} {i : Nat} {x : Str} {V : AV} {v : Value} {Q : Unit -> Shared -> Prop} (hΓ : Γ.Nodup) (eo : aX env F) (hi : Γ[i]? = some x) (hx : env.scope.names.lookup x = some .cell) (st : St K g F φ σ s.heap)
  (lo : dc K env Γ ρ F φ s.heap) (r : aM K s.heap F φ V v) (hL : ∀ c, env.cells.lookup x = some c -> c ∈ L₀)
  (hq : ∀ h' t', St K g F φ σ h' -> an L₀ φ φ s.heap h' -> dc K env Γ (ρ.set i (some V)) F φ h' -> Q () (up s h' t')) : wpAny (model K.prog K.w) A (storeName env x v) Q E s := by
 cases lo with | mk m hn hce hl =>
 refine (eo.has x hx).elim λ c ec => (hce x c ec).elim λ v₀ ic₀ => wpAny_storeName_cell eo.kind hx ec ic₀ λ h' ic' hs => ?_
 have z := St.frame st (eo.cells _ _ ec) (λ b o hb e => hs.extBut b o hb e) (vE ic')
 have sub : ∀ a ∈ [c], a ∈ F := λ a ha => List.mem_singleton.mp ha ▸ eo.cells _ _ ec
 refine hq h' _ z.1 (z.2.mono λ a ha => List.mem_singleton.mp ha ▸ hL c ec) (.mk m (hn.sameBut hs (Ne.symm (eo.ne _ _ ec))) (λ y c' q => if z : c' = c then z ▸ ⟨_, ic'⟩ else (hce y c' q).imp λ w ic => ic.sameBut hs z) λ j y W e1 e2 => (wW e2).elim (λ q => ?_) λ q => ?_)
 ·rw [q.1, hi] at e1
  rw [← Option.some.inj e1, hx, q.2]
  exact ⟨v, ⟨c, ec, ic'⟩, an.rep K z.2 sub r⟩
 ·exact (hl j y W e1 q.2).map (λ w a => ⟨a.1, an.rep K z.2 sub a.2⟩) λ w a => ⟨a.1.imp λ c' b => ⟨b.1, b.2.sameBut hs λ z => wG hΓ hi e1 q.1 (eo.inj _ _ _ b.1 (z ▸ ec))⟩, an.rep K z.2 sub a.2⟩
end
section
variable {T : Fn -> ac} {K : Kx} {g : Heap} {mg mb : Str -> Option Value} {Γ : List Str} {D : List Fn} {A : Around} {outer : List Env} {k : Nat} {F : List Addr} {φ φ' : aO} {σ : aa} {s : Shared} {h h' : Heap} {t' : Nat} {env : Env} {ρ ρ' : aj} {sc : Scope} {E : Value -> Shared -> Prop}
theorem uF (hs : Sc sc env) {x : Str} (h : sc.names.lookup x = some .local) : env.scope.names.lookup x = some .local := (hs x _ h).elim id λ q => by cases q.1
theorem vF (hs : Sc sc env) {x : Str} (h : sc.names.lookup x = some .cell) : env.scope.names.lookup x = some .cell := (hs x _ h).elim id λ q => by cases q.1
theorem gI (hs : Heap.ExtBut h.objs.size h h') : ∀ b o, h.get? b = some o -> h'.get? b = some o := λ b o e => hs b o (λ q => by have := Heap.lt_size e; rw [q] at this; exact Nat.lt_irrefl _ this) e
theorem dc.kept (lo : dc K env Γ ρ F φ h) (st : St K g F φ σ h) (eo : aX env F) (hk : ∀ b o, h.get? b = some o -> h'.get? b = some o) : dc K env Γ ρ F φ h' := lo.step K g st eo (an.kept φ hk)
theorem Ap {cx : Cx} {is : List Nat} {x : Expr} {P : List Nat -> Expr -> Prop} (h : kK cx is x = true) (f1 : ∀ i y p, cx.Γ[i]? = some y -> cx.kind y = some .local -> P [i] (.Name y p))
  (f2 : ∀ i j y p z q n r, cx.Γ[i]? = some y -> cx.kind y = some .local -> cx.Γ[j]? = some z -> cx.kind z = some .local -> (y == z) = false -> P [i, j] (.Tuple [.Name y p, .Name z q] n r)) : P is x := by
 apply bu h; intro i is h
 cases is with
 | nil =>
  apply aP h; intro y p h
  exact f1 i y p (eq_of_beq (ab h).1) (eq_of_beq (ab h).2)
 | cons j is =>
  apply bz (ab h).1
  apply eh (ab h).2; intro ts n r h
  apply dD h; intro a b h
  apply aP h; intro y p h
  apply aP h; intro z q h
  have y1 := ab h
  have y2 := ab y1.1
  have y3 := ab y2.1
  have y4 := ab y3.1
  exact f2 i j y p z q n r (eq_of_beq y4.1) (eq_of_beq y4.2) (eq_of_beq y3.2) (eq_of_beq y2.2) ((Bool.not_eq_true' _).mp y1.2)
theorem mZ {i j : Nat} {V : AV} {P : AV -> Prop} (hb : f6 [i, j] V ρ = some ρ') (k : ∀ a b, (ρ.set i (some a)).set j (some b) = ρ' -> P (.tup [a, b])) : P V := by
 cases V with
 | tup l => match l, hb with | [a, b], hb => exact k a b (Option.some.inj hb)
 | _ => exact ak hb
theorem zU {a b : AV} {v : Value} {P : Value -> Prop} (r : aM K h F φ (.tup [a, b]) v) (k : ∀ x (vs : Array Value) v₁ v₂, h.IsTuple x vs -> vs.toList = [v₁, v₂] -> aM K h F φ a v₁ -> aM K h F φ b v₂ -> P (.ref x)) : P v := by
 cases r with | mk vs x e z ht n r =>
 cases r with | mk v₁ ws e1 r1 r =>
 cases r with | mk v₂ ws' e2 r2 r =>
 exact e ▸ k x vs v₁ v₂ ht (e1.trans (congrArg (v₁ :: ·) (e2.trans (congrArg (v₂ :: ·) r)))) r1 r2
theorem rV {tg : List Nat} {target : Expr} {V : AV} {v : Value} {Q : Unit -> Shared -> Prop} (hΓ : Γ.Nodup) (hA : A.handled = none) (hc : kK ⟨K, sc, Γ, D⟩ tg target = true) (hs : Sc sc env) (eo : aX env F) (st : St K g F φ σ s.heap)
  (lo : dc K env Γ ρ F φ s.heap) (r : aM K s.heap F φ V v) (hb : f6 tg V ρ = some ρ')
  (hq : ∀ h' t', St K g F φ σ h' -> an [env.locals] φ φ s.heap h' -> dc K env Γ ρ' F φ h' -> Q () (up s h' t')) : wpAny (model K.prog K.w) A (assign target env v) Q E s := by
 refine Ap (P := λ tg target => f6 tg V ρ = some ρ' -> wpAny (model K.prog K.w) A (assign target env v) Q E s) hc (λ i y p h1 h2 hb => ?_) (λ i j y p z q n q2 h1 h2 h3 h4 _ hb => ?_) hb
 ·have hb := Option.some.inj hb
  rw [← hb] at hq
  exact wpAny_assign_Name (iN hΓ eo h1 (uF hs h2) st lo r hq)
 ·revert r; apply mZ hb; intro a b hρ r
  rw [← hρ] at hq
  apply zU r
  intro ta w v₁ v₂ ht hw r0 r1
  refine assign_Tuple_tuple hA ht (by rw [show w.size = 2 from congrArg List.length hw]; rfl) rfl λ h₁ hs₁ => ?_
  rw [hw]
  have hk := gI hs₁
  have st₁ := St.keeps K g st hk
  have sp₁ := an.kept (F₀ := []) φ hk
  refine assignInOrder_cons (wpAny_assign_Name (iN hΓ eo h1 (uF hs h2) (s := { s with heap := h₁ }) st₁ (lo.kept st eo hk) (cP r0 sp₁) λ h₂ t₂ st₂ sp₂ lo₂ => ?_))
  exact assignInOrder_cons (wpAny_assign_Name (iN hΓ eo h3 (uF hs h4) (s := (up s h₂ t₂)) st₂ lo₂ (an.rep K sp₂ (mA eo) (cP r1 sp₁)) λ h₃ t₃ st₃ sp₃ lo₃ =>
   assignInOrder_nil (hq h₃ t₃ st₃ (((sp₁.mono cf).trans sp₂).trans sp₃) lo₃)))
end
noncomputable def gB (env : Env) : List (Str × NameKind) -> List (Str × Addr) -> List (Str × Addr)
 | [], cs => cs
 | (n, kd) :: r, cs => gB env r (if kd == .free then (n, (env.cells.lookup n).getD 0) :: cs else cs)
theorem sd (env : Env) : ∀ (names : List (Str × NameKind)) (cs : List (Str × Addr)), (∀ y ∈ names, y.2 = .free -> ∃ c, env.cells.lookup y.1 = some c) ->
  (forIn names cs λ y cs => (if (y.2 == NameKind.free) = true then do let a ← cellOf env y.1; pure (ForInStep.yield ((y.1, a) :: cs)) else pure (ForInStep.yield cs) : Sem _)) = pure (gB env names cs)
 | [], cs, _ => rfl
 | (n, kd) :: r, cs, h => by
  have ih := sd env r
  rw [List.forIn_cons, gB]
  by_cases hk : (kd == NameKind.free) = true
  ·obtain ⟨c, hc⟩ := h (n, kd) List.mem_cons_self (beq_iff_eq.mp hk)
   have hc' : env.cells.lookup n = some c := hc
   simp only [hk, if_true, cellOf, hc', Option.getD_some]
   exact ih _ λ y hy => h y (List.mem_cons_of_mem _ hy)
  ·simp only [hk, if_false]
   exact ih _ λ y hy => h y (List.mem_cons_of_mem _ hy)
theorem ub {env : Env} {sc : Scope} (h : ∀ y ∈ sc.names, y.2 = .free -> ∃ c, env.cells.lookup y.1 = some c) : closureFor sc env = pure (gB env sc.names []) := by
 simp only [closureFor]
 rw [sd env sc.names [] h]
 rfl
theorem lO {env : Env} : ∀ {names : List (Str × NameKind)} {cs : List (Str × Addr)} {x : Str} {c : Addr}, (∀ y ∈ names, y.2 = .free -> ∃ c, env.cells.lookup y.1 = some c) ->
  (∀ x c, cs.lookup x = some c -> env.cells.lookup x = some c) -> (gB env names cs).lookup x = some c -> env.cells.lookup x = some c
 | [], _, _, _, _, hcs, e => hcs _ _ e
 | (n, kd) :: r, cs, x, c, h, hcs, e => by
  rw [gB] at e
  refine lO (names := r) (λ y hy => h y (List.mem_cons_of_mem _ hy)) ?_ e
  by_cases hk : (kd == NameKind.free) = true
  ·obtain ⟨c', hc⟩ := h (n, kd) List.mem_cons_self (beq_iff_eq.mp hk)
   have hc' : env.cells.lookup n = some c' := hc
   intro y d hd
   simp only [hk, if_true, hc', Option.getD_some, List.lookup_cons] at hd
   split at hd
   ·rename_i q; cases hd; rw [beq_iff_eq.mp q]; exact hc'
   ·exact hcs y d hd
  ·simp only [hk]
   exact hcs
theorem m8 {env : Env} : ∀ {names : List (Str × NameKind)} {cs : List (Str × Addr)} {x : Str}, ((x, NameKind.free) ∈ names ∨ (cs.lookup x).isSome = true) -> ((gB env names cs).lookup x).isSome = true
 | [], _, _, h => h.elim (λ q => nomatch q) id
 | (n, kd) :: r, cs, x, h => by
  rw [gB]
  refine m8 (names := r) ?_
  rcases h with h | h
  ·rcases List.mem_cons.mp h with h | h
   ·cases h
    right
    simp [List.lookup_cons]
   ·exact .inl h
  ·right
   by_cases hk : (kd == NameKind.free) = true
   ·simp only [hk, if_true, List.lookup_cons]
    split
    ·rfl
    ·exact h
   ·simp only [hk]; exact h
theorem ku {p : Str -> Bool} : ∀ {names : List (Str × NameKind)} {x : Str},
  (names.map λ (n, kd) => if (kd == NameKind.free && p n) then (n, NameKind.cell) else (n, kd)).lookup x = (names.lookup x).map λ kd => if (kd == NameKind.free && p x) = true then NameKind.cell else kd
 | [], _ => rfl
 | (n, kd) :: r, x => by
  have ih := ku (p := p) (names := r) (x := x)
  rw [List.map_cons]
  dsimp only
  by_cases hx : (x == n) = true
  ·have : x = n := beq_iff_eq.mp hx
   subst this
   by_cases hc : (kd == NameKind.free && p x) = true
   ·rw [if_pos hc]; simp only [List.lookup_cons, hx, Option.map_some, if_pos hc]
   ·rw [if_neg hc]; simp only [List.lookup_cons, hx, Option.map_some, if_neg hc]
  ·have hx' : (x == n) = false := by simpa using hx
   by_cases hc : (kd == NameKind.free && p n) = true
   ·rw [if_pos hc]; simp only [List.lookup_cons, hx']; exact ih
   ·rw [if_neg hc]; simp only [List.lookup_cons, hx']; exact ih
theorem fA {env : Env} (hk : env.scope.kind = .function) (sc : Scope) (x : Str) :
  (relabel sc env).names.lookup x = (sc.names.lookup x).map λ kd => if (kd == NameKind.free && (env.kindOf x == some .cell)) = true then NameKind.cell else kd := by
 have := ku (p := λ n => env.scope.kind == .function && env.kindOf n == some .cell) (names := sc.names) (x := x)
 unfold relabel
 simp only [Bool.and_assoc]
 rw [this]
 simp [hk]
theorem u3 {env : Env} (hk : env.scope.kind = .function) (sc : Scope) : ∀ x kd, sc.names.lookup x = some kd -> (relabel sc env).names.lookup x = some kd ∨ (kd = .free ∧ (relabel sc env).names.lookup x = some .cell) := by
 intro x kd h
 rw [fA hk, h]
 by_cases hc : (kd == NameKind.free && (env.kindOf x == some .cell)) = true
 ·right
  rw [Option.map_some, if_pos hc]
  exact ⟨beq_iff_eq.mp (Bool.and_eq_true_iff.mp hc).1, rfl⟩
 ·left
  simp only [Option.map_some, if_neg hc]
theorem FM {α : Type} {M : Model} {A : Around} {env : Env} {m : Sem α} {Q : α -> Shared -> Prop} {E : Value -> Shared -> Prop} {s : Shared} (h : wpAny M A m Q (notedBy M A env E) s) :
  wpAny M A (m.onRaise λ x => do noteFrame x env; theTreesLotGoes x) Q E s := wpAny_noted h
noncomputable def Cc (prog : Program) (w : World) (A : Around) (elt target : Expr) (ifs : List Expr) (acc : Value) (env : Env) (R : Shared -> Prop) (E : Value -> Shared -> Prop) (v : Value) (s : Shared) : Prop :=
 wpAny (model prog w) A (assign target env v) (λ _ s₂ => wpAny (model prog w) A (forIn ifs true λ c r => if r = true then do let ok ← isTrue c env (eval c env); pure (ForInStep.yield ok) else pure (ForInStep.yield r)) (λ ok s₃ =>
  if ok = true then wpAny (model prog w) A (eval elt env) (λ x s₄ => wpAny (model prog w) A (call (.builtin "list.append") [acc, x]) (λ _ s₅ => R s₅) E s₄) E s₃ else R s₃) E s₂) E s
noncomputable def EP (prog : Program) (w : World) (A : Around) (elt target : Expr) (ifs : List Expr) (it acc : Value) (env : Env) (R : Shared -> Prop) (B : Shared -> Prop) (E : Value -> Shared -> Prop) (s : Shared) : Prop :=
 wpAny (model prog w) A (pyNext it) (λ r s₁ => match r with
  | none => B s₁
  | some v => wpAny (model prog w) A (letOwnedTupleGo target it v) (λ _ s₂ => Cc prog w A elt target ifs acc env R E v s₂) E s₁) E s
noncomputable def yr (I : Nat -> Shared -> Prop) (n : Nat) (s : Shared) : Prop := ∃ m, m < n ∧ I m s
theorem compLoop {prog : Program} {w : World} {A : Around} {R : Result -> Shared -> Prop} {s : Shared} {elt target iter : Expr} {ifs : List Expr} {scope : Scope} {pos : Pos} {it acc : Value} {env : Env} (I : Nat -> Shared -> Prop)
  (turn : ∀ n s, I n s -> EP prog w A elt target ifs it acc env (yr I n) (R (.ok .next)) (notedBy (model prog w) A env λ e s' => R (.error e) s') s)
  (n : Nat) (h : I n s) :
  codeAny (model prog w) A (.compLoop (.ListComp elt [⟨target, iter, ifs, 0⟩] scope pos) 0 it acc env) R s := by
 refine codeAny_loop rfl I (λ n s hI => ?_) n h
 show wpAny _ A ((compTurn (.ListComp elt [⟨target, iter, ifs, 0⟩] scope pos) 0 it acc env).onRaise (λ x => do noteFrame x env; theTreesLotGoes x)) _ _ s
 refine wpAny_noted ?_
 rw [compTurn_list]
 refine wpAny_bind (wpAny_standAt (wpAny_bind (wpAny_mono (turn n s hI) (λ r s₁ h₁ => ?_) λ _ _ h' => h')))
 cases r with
 | none => exact wpAny_pure h₁
 | some v =>
  refine wpAny_bind (wpAny_mono h₁ (λ _ s₁' h₁' => ?_) λ _ _ h' => h')
  refine wpAny_bind (wpAny_mono h₁' (λ _ s₂ h₂ => wpAny_bind (wpAny_mono h₂ (λ ok s₃ h₃ => ?_) λ _ _ h' => h')) λ _ _ h' => h')
  cases ok with
  | false => exact wpAny_pure ⟨rfl, h₃⟩
  | true =>
   exact wpAny_bind (wpAny_bind (wpAny_mono h₃ (λ x s₄ h₄ => wpAny_bind (wpAny_mono h₄ (λ _ s₅ h₅ => wpAny_pure (wpAny_pure ⟨rfl, h₅⟩)) λ _ _ h' => h')) λ _ _ h' => h'))
section
variable {K : Kx} {g : Heap} {F : List Addr} {φ φ' : aO} {σ : aa} {h h' : Heap}
theorem St.leave1 {C : Addr} (st : St K g (C :: F) φ σ h) (hCF : C ∉ F) (hk : ∀ b o, b ≠ C -> h.get? b = some o -> h'.get? b = some o) (gC : g.get? C = none) : St K g F φ σ h' :=
 St.map K g st (λ b o e => hk b o (λ q => av e (q ▸ gC)) (st.keep b o e)) (λ a o e _ _ no => ⟨hk a o (λ q => no (q ▸ .inl List.mem_cons_self)) e, λ q => no (dF (λ _ => List.mem_cons_of_mem _) q)⟩)
  (λ a o q e _ => hk a o (λ z => St.notCell K g st List.mem_cons_self (z ▸ q)) e) λ a ha => ⟨st.off a (.inl (List.mem_cons_of_mem _ ha)), (st.fr a (List.mem_cons_of_mem _ ha)).imp λ o e => ⟨hk a o (λ z => hCF (z ▸ ha)) e.1, e.2⟩, St.notCell K g st (List.mem_cons_of_mem _ ha)⟩
theorem St.adopt {C D : Addr} {l : List AV} {vs : Array Value} (st : St K g (C :: F) φ σ h) (hCF : C ∉ F) (hs : Heap.SameBut C h h') (hC : ∃ o, h.get? C = some o) (gC : g.get? C = none) (hD : h.PlainList D vs) (nD : ¬ bZ (C :: F) φ D) (gD : g.get? D = none) (z : l.length ≤ sizeLine)
  (r : ao K h (C :: F) φ l vs.toList) : St K g F (φ ++ [(D, D)]) (σ ++ [.list l]) h' := by
 have mC : C ∈ C :: F := List.mem_cons_self
 have oC : bZ (C :: F) φ C := .inl mC
 have up : ∀ {a}, bZ F φ a -> bZ (C :: F) φ a := dF λ _ => List.mem_cons_of_mem _
 have hk : ∀ b o, b ≠ C -> h.get? b = some o -> h'.get? b = some o := λ b o hb e => hs.extBut b o hb e
 have hD' : h'.PlainList D vs := hD.imp λ nn e => hk _ _ (λ q => nD (q ▸ oC)) e
 have isL : ∀ {h : Heap} {o : Obj}, h.PlainList D vs -> h.get? D = some o -> o.cls = .type "list" := λ a e => a.elim λ nn y => Option.some.inj (e.symm.trans y) ▸ rfl
 have st1 : St K g F φ σ h' := st.leave1 hCF hk gC
 have nd : ¬ bZ F φ D := λ q => nD (up q)
 have ex : h'.get? D ≠ none := hD'.elim λ _ e => av e
 refine st1.addG (λ _ _ e => e) nd nd gD gD ex ex (λ a o e cl => have n : a ≠ D := λ q => cl (isL hD' (q ▸ e)); ⟨n, n⟩) (.mk ⟨rfl, z⟩ vs hD' (ao.monoL (λ a o e _ cl no => ⟨hk a o (λ q => no (q ▸ oC)) e, λ q => (i6 q).elim (λ q => no (up q)) λ q => have q : a = D := q.elim id id; cl (isL hD (q ▸ e))⟩)
  (λ n p e => (List.getElem?_append_left (List.getElem?_eq_some_iff.mp e).1).trans e) r))
end
section
variable {T : Fn -> ac} {K : Kx} {g : Heap} {mg mb : Str -> Option Value} {Γ : List Str} {D : List Fn} {A : Around} {outer : List Env} {k : Nat} {F : List Addr} {φ φ' : aO} {σ : aa} {s : Shared} {h h' : Heap} {t' : Nat} {env : Env} {ρ ρ' : aj} {sc : Scope} {E : Value -> Shared -> Prop}
theorem lX (st : St K g F φ σ h) {b : Addr} (hb : ∃ o, h.get? b = some o ∧ ¬ NR o) : ¬ bZ F φ b := λ q => (tv K g st q).elim λ o x => hb.elim λ o' y => y.2 (Option.some.inj (x.1.symm.trans y.1) ▸ x.2)
theorem an.same {F₀ : List Addr} (sp : an F₀ φ φ' h h') (hl : φ'.length = φ.length) : φ' = φ := sp.grow.nil hl
theorem dc.via (lo : dc K env Γ ρ F φ h) (eo : aX env F) (hF : ∀ a ∈ F, ∀ o, h.get? a = some o -> h'.get? a = some o)
  (hk : ∀ a o, h.get? a = some o -> NR o -> o.cls ≠ .type "list" -> ¬ bZ F φ a -> h'.get? a = some o) : dc K env Γ ρ F φ h' :=
 lo.at K eo hF λ _ _ r => aM.monoL (λ a o e n z no => ⟨hk a o e n z no, no⟩) (λ _ _ e => e) r
theorem gb {C : Addr} {a : Addr} (q : bZ (C :: F) φ a) : a = C ∨ bZ F φ a := q.elim (λ q => (List.mem_cons.mp q).imp id .inl) λ q => .inr (.inr q)
theorem oa {C : Addr} (hk : ∀ b o, h.get? b = some o -> h'.get? b = some o) (nC : h.get? C = none) : rQ h F φ h' (C :: F) φ := λ a o e _ no => ⟨hk a o e, λ q => (gb q).elim (λ z => av e (z ▸ nC)) no⟩
theorem St.enter {C : Addr} (st : St K g F φ σ h) (hk : ∀ b o, h.get? b = some o -> h'.get? b = some o) (nC : h.get? C = none) (hC : ∃ o, h'.get? C = some o ∧ NR o) : St K g (C :: F) φ σ h' :=
 St.map K g st (λ b o e => hk b o (st.keep b o e)) (λ a o e n _ => oa hk nC a o e n) (λ a o _ e _ => hk a o e) λ a ha => (List.mem_cons.mp ha).elim
  (λ z => z ▸ ⟨st.baseFresh nC, hC, λ q => st.fresh nC (dF cf q)⟩) λ ha => ⟨st.off a (.inl ha), (st.fr a ha).imp λ o e => ⟨hk _ _ e.1, e.2⟩, St.notCell K g st ha⟩
theorem yK {C : Addr} (hk : ∀ b o, h.get? b = some o -> h'.get? b = some o) (nC : h.get? C = none) {V : AV} {v : Value} (r : aM K h F φ V v) : aM K h' (C :: F) φ V v := aM.mono K (oa hk nC) (λ _ _ e => e) r
theorem St.touch {X : Addr} {vs : Array Value} (st : St K g F φ σ h) (nX : ¬ bZ F φ X) (hX : h.PlainList X vs) (gX : g.get? X = none) (hk : ∀ b o, b ≠ X -> h.get? b = some o -> h'.get? b = some o) (ex : h'.get? X ≠ none) : St K g F φ σ h' :=
 St.map K g st (λ b o e => hk b o (λ q => av e (q ▸ gX)) (st.keep b o e)) (λ a o e _ cl no => ⟨hk a o (λ q => hX.elim λ m y => cl (Option.some.inj (e.symm.trans (q ▸ y)) ▸ rfl)) e, no⟩)
  (λ a o q e _ => hk a o (λ z => nX (z ▸ dF cf q)) e) λ a ha => ⟨st.off a (.inl ha), (st.fr a ha).imp λ o e => ⟨hk a o (λ z => nX (z ▸ .inl ha)) e.1, e.2⟩, St.notCell K g st ha⟩
structure jT (outer sc : Scope) (Γ : List Str) (tg : List Nat) : Prop where
 kind : sc.kind = .function
 noCell : ∀ y ∈ sc.names, y.2 ≠ .cell
 loc : ∀ y ∈ sc.names, y.2 ≠ .local ∨ sc.names.lookup y.1 = some .local
 free : ∀ y ∈ sc.names, y.2 = .free -> outer.names.lookup y.1 = some .cell
 off : ∀ p ∈ Γ.zipIdx, sc.names.lookup p.1 = some .local -> p.2 ∈ tg
theorem zK {a b : Bool} (h : (!a || b) = true) (e : a = true) : b = true := by rw [e] at h; exact h
theorem kD {sc' : Scope} {tg : List Nat} (hc : ed sc sc' Γ tg = true) : jT sc sc' Γ tg := by
 have y1 := ab hc
 have y2 := ab y1.1
 have y3 := ab y2.1
 have y4 := ab y3.1
 exact ⟨eq_of_beq y4.1, λ y hy => bne_iff_ne.mp (List.all_eq_true.mp y4.2 y hy), λ y hy => (Bool.or_eq_true_iff.mp (List.all_eq_true.mp y3.2 y hy)).imp bne_iff_ne.mp eq_of_beq,
  λ y hy e => eq_of_beq (ab (zK (List.all_eq_true.mp y2.2 y hy) (beq_iff_eq.mpr e))).1, λ p hp e => List.contains_iff_mem.mp (zK (List.all_eq_true.mp y1.2 p hp) (beq_iff_eq.mpr e))⟩
theorem jT.cell {sc' : Scope} {tg : List Nat} (o : jT sc sc' Γ tg) (hs : Sc sc env) (eo : aX env F) : ∀ y ∈ sc'.names, y.2 = .free -> ∃ c, env.cells.lookup y.1 = some c := λ y hy e => eo.has _ (vF hs (o.free y hy e))
theorem jT.look {sc' : Scope} {tg : List Nat} (o : jT sc sc' Γ tg) (hs : Sc sc env) (eo : aX env F) {x : Str} {c : Addr} (e : (gB env sc'.names []).lookup x = some c) : env.cells.lookup x = some c := lO (o.cell hs eo) (λ _ _ q => nomatch List.lookup_nil.symm.trans q) e
theorem pD {sc' : Scope} {tg : List Nat} (hs : Sc sc env) (eo : aX env F) (hc : ed sc sc' Γ tg = true) : closureFor sc' env = pure (gB env sc'.names []) := ub ((kD hc).cell hs eo)
theorem yE {sc' : Scope} {C : Addr} {tg : List Nat} (hs : Sc sc env) (eo : aX env F) (hc : ed sc sc' Γ tg = true) (hC : C ∉ F) :
  closureFor sc' env = pure (gB env sc'.names []) ∧ Sc sc' (compEnvC sc' (gB env sc'.names []) C env) ∧ aX (compEnvC sc' (gB env sc'.names []) C env) (C :: F) := by
 have o := kD hc
 refine ⟨pD hs eo hc, u3 eo.kind sc', o.kind, eo.glob, eo.blt, List.mem_cons_self, λ x c q => List.mem_cons_of_mem _ (eo.cells x c (o.look hs eo q)), λ x q => ?_, λ x y c q r => eo.inj x y c (o.look hs eo q) (o.look hs eo r),
  λ x c q z => hC (show C ∈ F from (show c = C from z) ▸ eo.cells x c (o.look hs eo q))⟩
 rw [show (compEnvC sc' (gB env sc'.names []) C env).scope.names.lookup x = _ from fA eo.kind sc' x] at q
 refine (Option.map_eq_some_iff.mp q).elim λ kd y => ?_
 have hm : (x, kd) ∈ sc'.names := mem_of_lookup y.1
 have hfree : kd = .free := by
  by_cases hc : (kd == NameKind.free && (env.kindOf x == some .cell)) = true
  ·exact eq_of_beq (ab hc).1
  ·exact absurd ((if_neg hc).symm.trans y.2) (o.noCell (x, kd) hm)
 exact Option.isSome_iff_exists.mp (m8 (.inl (hfree ▸ hm)))
end
section
variable {T : Fn -> ac} {K : Kx} {g : Heap} {mg mb : Str -> Option Value} {Γ : List Str} {D : List Fn} {A : Around} {outer : List Env} {k : Nat} {F : List Addr} {φ φ' : aO} {σ : aa} {s : Shared} {h h' : Heap} {t' : Nat} {env : Env} {ρ ρ' : aj} {sc : Scope} {E : Value -> Shared -> Prop}
noncomputable def AR : List Nat -> aj -> aj
 | [], ρ => ρ
 | i :: is, ρ => (AR is ρ).set i none
theorem qx {tg : List Nat} : ∀ {ρ : aj} {i : Nat} {V : AV}, (AR tg ρ)[i]? = some (some V) -> i ∉ tg ∧ ρ[i]? = some (some V) := by
 induction tg with
 | nil => exact λ h => ⟨(λ q => nomatch q), h⟩
 | cons j is ih =>
  intro ρ i V h
  rw [AR] at h
  by_cases q : i = j
  ·rw [q] at h
   rw [List.getElem?_set_self (List.length_set ▸ (List.getElem?_eq_some_iff.mp h).1)] at h
   exact nomatch Option.some.inj h
  ·rw [List.getElem?_set_ne (Ne.symm q)] at h
   exact ⟨λ z => (List.mem_cons.mp z).elim q (ih h).1, (ih h).2⟩
theorem tO {cx : Cx} {tg : List Nat} {target : Expr} {P : List Nat -> Expr -> Prop} (hc : kK cx tg target = true) (k1 : ∀ i y p, P [i] (.Name y p)) (k2 : ∀ i j e1 e2 n p, i ≠ j -> P [i, j] (.Tuple [e1, e2] n p)) : P tg target :=
 Ap hc (λ i y p _ _ => k1 i y p) λ i j y p z q n r h1 _ h3 _ h5 => k2 i j _ _ n r λ e => by
  rw [e] at h1
  rw [Option.some.inj (h1.symm.trans h3), beq_self_eq_true] at h5
  exact bY h5.symm
theorem xh {cx : Cx} {tg : List Nat} {target : Expr} {V : AV} (hc : kK cx tg target = true) (hb : f6 tg V ρ = some ρ') : f6 tg V (AR tg ρ) = some ρ' ∧ ∀ (i : Nat) W, (AR tg ρ)[i]? = some (some W) -> ρ'[i]? = some (some W) := by
 refine tO (P := λ tg _ => f6 tg V ρ = some ρ' -> f6 tg V (AR tg ρ) = some ρ' ∧ ∀ (i : Nat) W, (AR tg ρ)[i]? = some (some W) -> ρ'[i]? = some (some W)) hc (λ i _ _ hb => ?_) (λ i j _ _ _ _ hij hb => ?_) hb
 ·rw [← Option.some.inj hb]
  refine ⟨congrArg some (List.set_set ..), λ a W h => ?_⟩
  have n := qx h
  exact (List.getElem?_set_ne λ q : i = a => n.1 (List.mem_singleton.mpr q.symm)).trans n.2
 ·apply mZ hb
  intro a b e
  rw [← e]
  refine ⟨?_, λ c W h => ?_⟩
  ·show some ((((ρ.set j none).set i none).set i (some a)).set j (some b)) = _
   rw [List.set_set, List.set_comm _ _ (Ne.symm hij), List.set_set]
  ·have n := qx h
   rw [List.getElem?_set_ne (λ q : j = c => n.1 (q ▸ List.mem_cons_of_mem _ List.mem_cons_self)), List.getElem?_set_ne (λ q : i = c => n.1 (q ▸ List.mem_cons_self))]; exact n.2
theorem lN {cx : Cx} {mi : MI} {x : Expr} (h : AQ cx mi x = true) (env : Env) (v : Value) : foldedSetIterable x env v = pure v := by
 have : ot x = true := by
  cases mi with
  | plain e => exact m7 h
  | range e => unfold ot; rw [iJ h]; rfl
  | enum e => unfold ot; rw [iJ h]; rfl
 cases x <;> first | rfl | exact bY this
theorem yF {sc' : Scope} {C : Addr} {tg : List Nat} {m : Str -> Option Value} (hs : Sc sc env) (eo : aX env F) (hc : ed sc sc' Γ tg = true) (lo : dc K env Γ ρ F φ h) (hk : ∀ b o, h.get? b = some o -> h'.get? b = some o) (nC : h.get? C = none) (hn : h'.Ns C m) :
  dc K (compEnvC sc' (gB env sc'.names []) C env) Γ (AR tg ρ) (C :: F) φ h' := by
 have o := kD hc
 cases lo with | mk mo hno hce hl =>
 refine .mk m hn (λ x c q => (hce x c (o.look hs eo q)).imp λ w ic => ic.keeps hk) λ i x V e1 e2 => ?_
 have e2 := qx e2
 have hl := hl i x V e1 e2.2
 have fin : (x, NameKind.free) ∈ sc'.names -> ∃ v, ym (compEnvC sc' (gB env sc'.names []) C env) h' x v ∧ aM K h' (C :: F) φ V v := λ hm => by
  rw [vF hs (o.free _ hm rfl)] at hl
  exact hl.imp λ v y => ⟨y.1.elim λ c z => (Option.isSome_iff_exists.mp (m8 (env := env) (cs := []) (.inl hm))).elim λ c' q => ⟨c', q, Option.some.inj (z.1.symm.trans (o.look hs eo q)) ▸ z.2.keeps hk⟩, yK hk nC y.2⟩
 rw [show (compEnvC sc' (gB env sc'.names []) C env).scope.names.lookup x = _ from fA eo.kind sc' x]
 cases e : sc'.names.lookup x with
 | none => trivial
 | some kd =>
  have hm := mem_of_lookup e
  rw [Option.map_some]
  by_cases hb : (kd == NameKind.free && (env.kindOf x == some .cell)) = true
  ·rw [if_pos hb]
   exact fin (eq_of_beq (ab hb).1 ▸ hm)
  ·rw [if_neg hb]
   cases kd with
   | «local» => exact (e2.1 (o.off (x, i) (List.mem_zipIdx_iff_getElem?.mpr e1) e)).elim
   | cell => exact absurd rfl (o.noCell _ hm)
   | free => exact fin hm
   | _ => trivial
end
section
variable {T : Fn -> ac} {K : Kx} {g : Heap} {mg mb : Str -> Option Value} {Γ : List Str} {D : List Fn} {A : Around} {outer : List Env} {k : Nat} {F : List Addr} {φ φ' : aO} {σ : aa} {s : Shared} {h h' : Heap} {t' : Nat} {env : Env} {ρ ρ' : aj} {sc : Scope} {E : Value -> Shared -> Prop}
structure hG (K : Kx) (g : Heap) (F : List Addr) (C X : Addr) (its : List Addr) (φ : aO) (σ : aa) (h₁ : Heap) (acc : List AV) (vs : Array Value) (h : Heap) : Prop where
 st : St K g (C :: F) φ σ h
 hD : h.PlainList X vs
 ra : ao K h (C :: F) φ acc vs.toList
 old : ∀ a o, h₁.get? a = some o -> ¬ bZ [] φ a -> a ∉ its -> h.get? a = some o
 all : ∀ a, h.get? a = none -> h₁.get? a = none
structure tT (K : Kx) (g : Heap) (A : Around) (F : List Addr) (C X : Addr) (its fp : List Addr) (items : List AV) (same : aa -> Prop) (target : Expr) (itv : Value) (P : List Addr -> Nat -> aO -> aa -> Heap -> Prop) (h₁ : Heap) (φ : aO) (σ : aa) : Prop where
 hI : ql K g A its fp items same target itv P
 nXo : ¬ bZ (C :: F) φ X
 nC : h₁.get? C = none
 nX : h₁.get? X = none
 gX : g.get? X = none
 gits : ∀ b ∈ its, g.get? b = none
 Xits : X ∉ its
 Xfp : X ∉ fp
 hs : same σ
section
variable {C X : Addr} {ix fp : List Addr} {items : List AV} {same : aa -> Prop} {target : Expr} {itv : Value} {P : List Addr -> Nat -> aO -> aa -> Heap -> Prop} {h₁ : Heap} {i : Nat} {acc : List AV} {vs : Array Value}
theorem rm {C : Addr} {a : Addr} (q : bZ [C] φ a) : bZ (C :: F) φ a := dF (λ _ h => List.mem_singleton.mp h ▸ List.mem_cons_self) q
theorem hG.its4 (M : hG K g F C X ix φ σ h₁ acc vs h) (hr : ∀ b ∈ ix, ∃ o, h.get? b = some o ∧ ¬ NR o) (gits : ∀ b ∈ ix, g.get? b = none) (hk : ∀ b o, b ∉ ix -> h.get? b = some o -> h'.get? b = some o) :
  St K g (C :: F) φ σ h' ∧ h'.PlainList X vs ∧ ao K h' (C :: F) φ acc vs.toList ∧ ∀ a o, h₁.get? a = some o -> ¬ bZ [] φ a -> a ∉ ix -> h'.get? a = some o :=
 ⟨M.st.its hr gits hk, M.hD.imp λ m e => hk _ _ (d2 hr e (.seq rfl)) e, ao.mono K (λ a o e n no => ⟨hk a o (d2 hr e n) e, no⟩) (λ _ _ e => e) M.ra, λ a o e n ni => hk a o ni (M.old a o e n ni)⟩
theorem hG.its (M : hG K g F C X ix φ σ h₁ acc vs h) (hr : ∀ b ∈ ix, ∃ o, h.get? b = some o ∧ ¬ NR o) (gits : ∀ b ∈ ix, g.get? b = none) (hk : ∀ b o, b ∉ ix -> h.get? b = some o -> h'.get? b = some o) (all : ∀ a, h'.get? a = none -> h₁.get? a = none) : hG K g F C X ix φ σ h₁ acc vs h' :=
 have z := M.its4 hr gits hk
 ⟨z.1, z.2.1, z.2.2.1, z.2.2.2, all⟩
theorem hG.step (M : hG K g F C X ix φ σ h₁ acc vs h) (nX : ¬ bZ (C :: F) φ X) (nC : h₁.get? C = none) (sp : an [C] φ φ h h') (st' : St K g (C :: F) φ σ h') : hG K g F C X ix φ σ h₁ acc vs h' :=
 ⟨st', M.hD.imp λ n e => sp.chg _ _ e λ q => nX (rm q), an.repL K sp (λ _ h => List.mem_singleton.mp h ▸ List.mem_cons_self) M.ra,
  λ a o e n ni => sp.chg a o (M.old a o e n ni) λ q => q.elim (λ q => av e (List.mem_singleton.mp q ▸ nC)) λ q => n (.inr q), λ a e => M.all a (sp.all a e)⟩
theorem f8 (hD : h.PlainList X vs) {a : Addr} {o : Obj} (e : h.get? a = some o) (z : o.cls ≠ .type "list") : a ≠ X := λ q => hD.elim λ m y => z (Option.some.inj (e.symm.trans (q ▸ y)) ▸ rfl)
theorem hG.push {W : AV} {w : Value} (M : hG K g F C X ix φ σ h₁ acc vs h) (nXo : ¬ bZ (C :: F) φ X) (gX : g.get? X = none) (nX : h₁.get? X = none) (hk : ∀ b o, b ≠ X -> h.get? b = some o -> h'.get? b = some o) (hD : h'.PlainList X (vs.push w)) (r : aM K h (C :: F) φ W w) :
  hG K g F C X ix φ σ h₁ (acc ++ [W]) (vs.push w) h' :=
 have up : mP h (C :: F) φ h' (C :: F) φ := λ a o e _ z no => ⟨hk a o (f8 M.hD e z) e, no⟩
 ⟨M.st.touch nXo M.hD gX hk (hD.elim λ _ e => av e), hD, Array.toList_push.symm ▸ (ao.monoL up (λ _ _ e => e) M.ra).append (.cons (aM.monoL up (λ _ _ e => e) r) .nil), λ a o e no ni => hk a o (λ q => av e (q ▸ nX)) (M.old a o e no ni),
  λ a e => if q : a = X then q ▸ nX else M.all a (by
   cases y : h.get? a with
   | none => rfl
   | some o => exact absurd e (av (hk a o q y)))⟩
theorem tT.stepP (fx : tT K g A F C X ix fp items same target itv P h₁ φ σ) (hP : P (C :: F) i φ σ h) (st : St K g (C :: F) φ σ h) (sp : an [C] φ φ h h') : P (C :: F) i φ σ h' :=
 fx.hI.keep (C :: F) (C :: F) i φ σ φ σ h h' hP (λ b hb o e => sp.chg b o e λ q => lX st (fx.hI.rcd _ _ _ _ _ hP b hb) (rm q)) (λ _ _ e => e) (λ b o e _ n => ⟨sp.chg b o e λ q => n (rm q), n⟩) fx.hs
theorem tT.pushP (fx : tT K g A F C X ix fp items same target itv P h₁ φ σ) (hP : P (C :: F) i φ σ h) (hD : h.PlainList X vs) (hk : ∀ b o, b ≠ X -> h.get? b = some o -> h'.get? b = some o) : P (C :: F) i φ σ h' :=
 fx.hI.keep (C :: F) (C :: F) i φ σ φ σ h h' hP (λ b hb o e => hk b o (λ q => fx.Xits (q ▸ hb)) e) (λ _ _ e => e) (λ b o e z no => ⟨hk b o (z.elim (λ z q => fx.Xfp (q ▸ z)) (f8 hD e)) e, no⟩) fx.hs
theorem si {elt : ME} {e : Expr} {sc' : Scope} {cenv : Env} {Qc : AV -> Prop} {R : Shared -> Prop} {E₁ : Value -> Shared -> Prop} (fx : tT K g A F C X ix fp items same target itv P h₁ φ σ) (ihe : PE T K g Γ D A outer elt) (hce : aR ⟨K, sc', Γ, D⟩ elt e = true) (sc1 : Sc sc' cenv) (eo1 : aX cenv (C :: F))
  (ha : i7 A outer (C :: F)) (hP : P (C :: F) i φ σ s.heap) (M : hG K g F C X ix φ σ h₁ acc vs s.heap) (lo : dc K cenv Γ ρ' (C :: F) φ s.heap) (hz : acc.length + 1 ≤ sizeLine) (hw : br T elt ρ' σ (λ r σ₂ => σ₂ = σ ∧ Qc r) (λ _ _ => False))
  (k : ∀ W w h' t', Qc W -> P (C :: F) i φ σ h' -> hG K g F C X ix φ σ h₁ (acc ++ [W]) (vs.push w) h' -> dc K cenv Γ ρ' (C :: F) φ h' -> R (up s h' t')) :
  wpAny (model K.prog K.w) A (eval e cenv) (λ x s₄ => wpAny (model K.prog K.w) A (call (.builtin "list.append") [.ref X, x]) (λ _ s₅ => R s₅) E₁ s₄) E₁ s := by
 refine ihe sc' cenv (C :: F) e ρ' σ φ s _ (λ _ _ => False) _ _ hce sc1 eo1 ha M.st lo hw ?_ (PX.none K g)
 intro W σ₇ φ₇ h₇ t₇ w y st₇ sp₇ r₇
 rw [y.1] at st₇
 have hφ : φ₇ = φ := sp₇.same (by rw [st₇.len, M.st.len])
 rw [hφ] at st₇ sp₇ r₇
 have sp := sp₇.mono (cf (F := [C]))
 have M₇ := M.step fx.nXo fx.nC sp st₇
 have lo₇ := lo.step K g M.st eo1 sp₇
 refine wpAny_list_append_plain M₇.hD (λ h₈ hp₈ hs₈ => ?_) (M₇.ra.size.symm ▸ Nat.le_of_succ_le hz)
 have hk : ∀ b o, b ≠ X -> h₇.get? b = some o -> h₈.get? b = some o := λ b o hb e => hs₈.extBut b o hb e
 exact k W w h₈ t₇ y.2 (fx.pushP (fx.stepP hP M.st sp) M₇.hD hk) (M₇.push fx.nXo fx.gX fx.nX hk hp₈ r₇) (lo₇.via eo1 (λ a ha o e => hk a o (λ q => fx.nXo (.inl (q ▸ ha))) e) λ a o e _ z _ => hk a o (f8 M₇.hD e z) e)
noncomputable abbrev CQ (T : Fn -> ac) (elt : ME) (test : MO) (ρ' : aj) (σ : aa) (Qc : Option AV -> Prop) : Prop :=
 t3 T test ρ' σ (λ b σ₂ => σ₂ = σ ∧ ((b = none ∨ b = some (.bool true)) ∧ br T elt ρ' σ (λ r σ₂ => σ₂ = σ ∧ Qc (some r)) (λ _ _ => False) ∨ b = some (.bool false) ∧ Qc none)) (λ _ _ => False)
theorem xl (hΓ : Γ.Nodup) {elt : ME} {test : MO} {tg : List Nat} {e : Expr} {ifs : List Expr} {sc' : Scope} {cenv : Env} {V : AV} {v : Value} {Qc : Option AV -> Prop} {R : Shared -> Prop} {E₁ : Value -> Shared -> Prop} (fx : tT K g A F C X ix fp items same target itv P h₁ φ σ)
  (ihe : PE T K g Γ D A outer elt) (iht : AH T K g Γ D A outer test) (htg : kK ⟨K, sc', Γ, D⟩ tg target = true) (hce : aR ⟨K, sc', Γ, D⟩ elt e = true)
  (hct : (match ifs with | [] => sa ⟨K, sc', Γ, D⟩ test none | t :: r => r.isEmpty && sa ⟨K, sc', Γ, D⟩ test (some t)) = true) (sc1 : Sc sc' cenv) (eo1 : aX cenv (C :: F)) (hcl : cenv.locals = C)
  (ha : i7 A outer (C :: F)) (hP : P (C :: F) i φ σ s.heap) (M : hG K g F C X ix φ σ h₁ acc vs s.heap) (lo : dc K cenv Γ ρ (C :: F) φ s.heap) (rv : aM K s.heap (C :: F) φ V v) (hb : f6 tg V ρ = some ρ') (hz : acc.length + 1 ≤ sizeLine) (hw : CQ T elt test ρ' σ Qc)
  (k1 : ∀ W w h' t', Qc (some W) -> P (C :: F) i φ σ h' -> hG K g F C X ix φ σ h₁ (acc ++ [W]) (vs.push w) h' -> dc K cenv Γ ρ' (C :: F) φ h' -> R (up s h' t'))
  (k0 : ∀ h' t', Qc none -> P (C :: F) i φ σ h' -> hG K g F C X ix φ σ h₁ acc vs h' -> dc K cenv Γ ρ' (C :: F) φ h' -> R (up s h' t')) :
  Cc K.prog K.w A e target ifs (.ref X) cenv R E₁ v s := by
 refine rV hΓ ha.hand htg sc1 eo1 M.st lo rv hb λ h₅ t₅ st₅ sp₅ lo₅ => ?_
 rw [hcl] at sp₅
 have M₅ := M.step fx.nXo fx.nC sp₅ st₅
 have hP₅ := fx.stepP hP M.st sp₅
 cases ifs with
 | nil =>
  refine wpAny_tests_nil ?_
  cases test with
  | some e => exact bY hct
  | none => exact hw.2.elim (λ y => si (s := up s h₅ t₅) fx ihe hce sc1 eo1 ha hP₅ M₅ lo₅ hz y.2 k1) λ y => nomatch y.1
 | cons t r =>
  apply bz (ab hct).1
  refine wpAny_tests_one (iht sc' cenv (C :: F) t ρ' σ φ (up s h₅ t₅) _ (λ _ _ => False) _ _ (ab hct).2 sc1 eo1 ha st₅ lo₅ hw ?_ (PX.none K g))
  intro W σ₆ φ₆ h₆ t₆ y st₆ sp₆
  rw [y.1] at st₆
  have hφ : φ₆ = φ := sp₆.same (by rw [st₆.len, st₅.len])
  rw [hφ] at st₆ sp₆
  have sp := sp₆.mono (cf (F := [C]))
  have M₆ := M₅.step fx.nXo fx.nC sp st₆
  have lo₆ := lo₅.step K g st₅ eo1 sp₆
  have hP₆ := fx.stepP hP₅ st₅ sp
  exact y.2.elim (λ z => ⟨true, z.1.elim (λ q => nomatch q) Option.some.inj, si (s := up s h₆ t₆) fx ihe hce sc1 eo1 ha hP₆ M₆ lo₆ hz z.2 k1⟩) λ z => ⟨false, Option.some.inj z.1, k0 h₆ t₆ z.2 hP₆ M₆ lo₆⟩
inductive GE (K : Kx) (g : Heap) (Γ : List Str) (cenv : Env) (F : List Addr) (C X : Addr) (its : List Addr) (items : List AV) (P : List Addr -> Nat -> aO -> aa -> Heap -> Prop) (ρ₀ : aj) (φ : aO) (σ : aa) (h₁ : Heap)
  (ev : AV -> (Option AV -> Prop) -> Prop) (Qf : List AV -> Prop) (s : Shared) (n : Nat) (s' : Shared) : Prop
 | mk (h : Heap) (tk i : Nat) (acc : List AV) (vs : Array Value) (e : s' = up s h tk) (en : n = items.length - i) (le : i ≤ items.length) (al : acc.length ≤ i) (hP : P (C :: F) i φ σ h) (mid : hG K g F C X its φ σ h₁ acc vs h) (lo : dc K cenv Γ ρ₀ (C :: F) φ h) (co : m9 ev (items.drop i) acc Qf)
end
theorem ud {ev : AV -> (Option AV -> Prop) -> Prop} {V : AV} {items : List AV} {i : Nat} {acc : List AV} {Q : List AV -> Prop} (hV : items[i]? = some V) (h : m9 ev (items.drop i) acc Q) :
  ev V λ r => m9 ev (items.drop (i + 1)) (match r with | some x => acc ++ [x] | none => acc) Q := by
 have hl := (List.getElem?_eq_some_iff.mp hV).1
 rw [List.drop_eq_getElem_cons hl, (List.getElem?_eq_some_iff.mp hV).2] at h
 exact h
theorem xm {ev : AV -> (Option AV -> Prop) -> Prop} {items : List AV} {acc : List AV} {Q : List AV -> Prop} (h : m9 ev (items.drop items.length) acc Q) : Q acc := by
 rw [List.drop_length] at h; exact h
theorem yN {cx : Cx} {it : MI} {tg : List Nat} {target : Expr} (h : yM it tg = true) (htg : kK cx tg target = true) : yn it target := by
 cases it with
 | enum _ => exact tO (P := λ tg target => (tg.length == 2) = true -> ∃ elts k pos, target = .Tuple elts k pos) htg (λ _ _ _ q => bY q) (λ _ _ _ _ _ _ _ _ => ⟨_, _, _, rfl⟩) h
 | _ => trivial
theorem sj {cx : Cx} {elt : ME} {tg : List Nat} {it : MI} {test : MO} {x : Expr} {P : Expr -> Prop} (h : aR cx (.comp elt tg it test) x = true) (k : ∀ e target iter ifs sc' pos, aR cx (.comp elt tg it test) (.ListComp e [⟨target, iter, ifs, 0⟩] sc' pos) = true -> P (.ListComp e [⟨target, iter, ifs, 0⟩] sc' pos)) : P x := by
 have h0 := h
 revert h0
 apply oH h; intro e gs sc pos h
 apply bk h; intro gg h
 obtain ⟨target, iter, ifs, n⟩ := gg
 have e0 := eq_of_beq (ab h).1
 rw [show n = 0 from e0]
 exact k e target iter ifs sc pos
theorem pG (hΓ : Γ.Nodup) {elt : ME} {tg : List Nat} {it : MI} {test : MO} (ihe : PE T K g Γ D A outer elt) (ihi : PI T K g Γ D A outer it) (iht : AH T K g Γ D A outer test) {sc sc' : Scope} {env : Env} {F : List Addr} {e target iter : Expr} {ifs : List Expr} {pos : Pos} {ρ : aj} {σ : aa} {φ : aO} {s : Shared}
  {Q : AV -> aa -> Prop} {X : AV -> aa -> Prop} {Q' : Value -> Shared -> Prop} {E' : Value -> Shared -> Prop} {use : Option (Value -> Sem Unit)}
  (hc : aR ⟨K, sc, Γ, D⟩ (.comp elt tg it test) (.ListComp e [⟨target, iter, ifs, 0⟩] sc' pos) = true) (hs : Sc sc env) (eo : aX env F) (ha : i7 A outer F) (st : St K g F φ σ s.heap) (lo : dc K env Γ ρ F φ s.heap) (hw : br T (.comp elt tg it test) ρ σ Q X) (hx : PX K g [] F φ s X E')
  (hq : ∀ (acc : List AV) (vs : Array Value) σ₁ φ₁ h₁ h₄ t₄ C X m f, Q (.loc σ₁.length) (σ₁ ++ [.list acc]) -> an [] φ φ₁ s.heap h₁ -> St K g F φ₁ σ₁ h₁ -> h₁.get? C = none -> h₁.get? X = none -> X ≠ C -> St K g (C :: F) φ₁ σ₁ h₄ -> h₄.Ns C m -> h₄.PlainList X vs -> ao K h₄ (C :: F) φ₁ acc vs.toList -> acc.length ≤ sizeLine ->
   (∀ a o, h₁.get? a = some o -> NR o -> ¬ bZ [] φ₁ a -> h₄.get? a = some o) -> (∀ a o, s.heap.get? a = some o -> ¬ bZ [] φ a -> h₄.get? a = some o) -> (∀ a, h₄.get? a = none -> s.heap.get? a = none) -> compPost (model K.prog K.w) A E' use Q' (.ref X) C (.ok f) (up s h₄ t₄)) :
  wpAny (model K.prog K.w) A (comprehension (.ListComp e [⟨target, iter, ifs, 0⟩] sc' pos) sc' env (firstIterPos [⟨target, iter, ifs, 0⟩] pos) (newList []) false (eval iter env) use) Q' E' s := by
 have z1 := ab (show (_ && yM it tg) = true from hc)
 have z2 := ab z1.1
 have z3 := ab z2.1
 have z4 := ab z3.1
 have z5 := ab z4.1
 have hsc := z5.1
 have htg := z5.2
 have hci := z4.2
 have so := kD hsc
 refine wpAny_comprehension_free rfl (lN hci env) (pD hs eo hsc) so.kind (λ y hy e => (so.loc y hy).elim (λ q => absurd e q) id) ?_
 refine ihi sc env F iter target ρ σ φ s _ X _ E' hci (yN z1.2 htg) hs eo ha st lo hw ?_ hx
 intro its fp itv P items same σ₁ φ₁ h₁ t₁ hQ hI hP hn hfp st₁ sp₁
 have lo₁ := lo.step K g st eo sp₁
 refine wpAny_newObj_type (wpAny_newFunctionEnv so.noCell (λ y hy => nomatch hy) (λ h₂ hns hsb => ?_) so.kind)
 have hC := Heap.size_push h₁ { cls := .type "list", dict := none, data := .seq ([] : List Value).toArray }
 have hX0 : (h₁.push { cls := .type "list", dict := none, data := .seq ([] : List Value).toArray }).get? h₁.objs.size = some { cls := .type "list", dict := none, data := .seq ([] : List Value).toArray } := Heap.get?_push_size _ rfl
 have hk0 : ∀ b o, h₁.get? b = some o -> (h₁.push { cls := .type "list", dict := none, data := .seq ([] : List Value).toArray }).get? b = some o := λ _ _ e => Heap.get?_push_of_some _ e
 have nX := bp h₁
 have nC := wI (h := h₁)
 have hXC : h₁.objs.size ≠ h₁.objs.size + 1 := Nat.ne_of_lt (Nat.lt_succ_self _)
 replace hns : h₂.Ns (h₁.objs.size + 1) _ := hC ▸ hns
 replace hsb : ∀ b o, b ≠ h₁.objs.size + 1 -> (h₁.push { cls := .type "list", dict := none, data := .seq ([] : List Value).toArray }).get? b = some o -> h₂.get? b = some o := hC ▸ λ b o hb e => hsb.extBut b o hb (Heap.get?_push_of_some _ e)
 show codeAny _ _ _ _ _
 rw [hC]
 generalize h₁.push { cls := .type "list", dict := none, data := .seq ([] : List Value).toArray } = H2 at hns hsb hX0 hk0
 generalize h₁.objs.size + 1 = C at hns hsb nC hXC ⊢
 generalize h₁.objs.size = X at hX0 nX hXC ⊢
 have ne : ∀ {b : Addr} {o}, h₁.get? b = some o -> b ≠ C := λ e q => av e (q ▸ nC)
 have hk : ∀ b o, h₁.get? b = some o -> h₂.get? b = some o := λ b o e => hsb b o (ne e) (hk0 b o e)
 have hX : h₂.PlainList X #[] := ⟨_, hsb _ _ hXC hX0⟩
 have hCF : C ∉ F := λ q => (st₁.fr C q).elim λ o e => av e.1 nC
 have ce := yE (C := C) hs eo hsc hCF
 have st₂ : St K g (C :: F) φ₁ σ₁ h₂ := St.enter st₁ hk nC (ou hns)
 have lo₂ := yF (tg := tg) hs eo hsc lo₁ hk nC hns
 have ha₂ : i7 A outer (C :: F) := ha.mono (λ a q => List.mem_cons_of_mem _ q) eo.loc
 have hP₂ : P (C :: F) 0 φ₁ σ₁ h₂ := hI.keep F (C :: F) 0 φ₁ σ₁ φ₁ σ₁ h₁ h₂ hP (λ b hb o e => hk b o e) (λ _ _ e => e) (λ b o e _ no => ⟨hk b o e, λ q => (gb q).elim (ne e) no⟩) hQ.1
 have fx : tT K g A F C X its fp items same target itv P h₁ φ₁ σ₁ := ⟨hI, λ q => (gb q).elim hXC (st₁.fresh nX), nC, nX, st₁.baseFresh nX, λ b hb => st.baseFresh (hn b hb).1, λ q => (hn X q).2.1 nX, λ q => hfp X q nX, hQ.1⟩
 have loop : ∀ tk, codeAny (model K.prog K.w) A (.compLoop (.ListComp e [⟨target, iter, ifs, 0⟩] sc' pos) 0 itv (.ref X) (compEnvC sc' (gB env sc'.names []) C env)) (compPost (model K.prog K.w) A E' use Q' (.ref X) C) (up s h₂ tk) := by
  intro tk
  refine compLoop (GE K g Γ (compEnvC sc' (gB env sc'.names []) C env) F C X its items P (AR tg ρ) φ₁ σ₁ h₁ (λ V Qc => ∃ ρ', f6 tg V ρ = some ρ' ∧ CQ T elt test ρ' σ₁ Qc) (λ acc => Q (.loc σ₁.length) (σ₁ ++ [aG.list acc])) s) (λ n s' I => ?_) items.length
   (.mk h₂ tk 0 [] #[] rfl rfl (Nat.zero_le _) (Nat.zero_le _) hP₂ ⟨st₂, hX, .nil, λ a o e _ _ => hk a o e, cJ hk⟩ lo₂ hQ.2.2)
  cases I with | mk h₃ t₃ i acc vs e en le al hP₃ M lo₃ co =>
  rw [e]
  have hr := hI.rcd _ _ _ _ _ hP₃
  cases hV : items[i]? with
  | none =>
   have hi : i = items.length := Nat.le_antisymm le (List.getElem?_eq_none_iff.mp hV)
   rw [hi] at hP₃ co
   refine hI.done (C :: F) φ₁ σ₁ _ _ _ hP₃ M.st λ h₄ t₄ hk₄ hall₄ => ?_
   have M₄ := M.its4 hr fx.gits hk₄
   cases lo₃ with | mk m hm _ _ =>
   refine hq acc vs σ₁ φ₁ h₁ h₄ t₄ C X m _ (xm co) sp₁ st₁ nC nX hXC M₄.1 (hm.at λ o e => hk₄ _ o (d2 hr e ((ou hm).elim λ o' y => Option.some.inj (e.symm.trans y.1) ▸ y.2)) e) M₄.2.1 M₄.2.2.1 (Nat.le_trans al (Nat.le_trans le (Nat.le_trans hQ.2.1 ej)))
    (λ a o e n no => M₄.2.2.2 a o e no (d2 (hI.rcd _ _ _ _ _ hP) e n)) (λ a o e no => M₄.2.2.2 a o (sp₁.chg a o e no) (sp₁.not_own e no) λ q => av e (hn a q).1) λ a e => (hall₄ a e).elim (λ e => sp₁.all a (M.all a e)) λ q => (hn a q).1
  | some V =>
   have hi := (List.getElem?_eq_some_iff.mp hV).1
   refine (ud hV co).elim λ ρ' y => ?_
   have hb := xh htg y.1
   refine wpAny_mono (hI.next (C :: F) i φ₁ σ₁ _ V _ _ hV hP₃ M.st (λ v h₄ t₄ rv hP₄ hk₄ => ?_)) (λ r s₁ h => by
    cases r with
    | none => exact h.elim
    | some v => exact h) (λ _ _ x => x)
   have all₄ : ∀ a, h₄.get? a = none -> h₁.get? a = none := λ a e => M.all a (by
    cases z : h₃.get? a with
    | none => rfl
    | some o => exact if q : a ∈ its then (hI.rcd _ _ _ _ _ hP₄ a q).elim λ o' y => absurd e (av y.1) else absurd e (av (hk₄ a o q z)))
   have lo₄ := lo₃.via ce.2.2 (λ a ha o e => hk₄ a o (d2 hr e ((M.st.fr a ha).elim λ o' y => Option.some.inj (e.symm.trans y.1) ▸ y.2)) e) λ a o e n _ _ => hk₄ a o (d2 hr e n) e
   have hz : acc.length + 1 ≤ sizeLine := Nat.le_trans (Nat.succ_le_of_lt (Nat.lt_of_le_of_lt al hi)) (Nat.le_trans hQ.2.1 ej)
   have lt : items.length - (i + 1) < n := by rw [en]; exact Nat.sub_lt_sub_left hi (Nat.lt_succ_self i)
   exact xl (s := up s h₄ t₄) hΓ fx ihe iht htg z3.2 z2.2 ce.2.1 ce.2.2 rfl ha₂ hP₄ (M.its hr fx.gits hk₄ all₄) lo₄ rv hb.1 hz y.2
    (λ W w h t c hP M lo => ⟨_, lt, .mk h t (i + 1) (acc ++ [W]) (vs.push w) rfl rfl hi (by rw [List.length_append]; exact Nat.succ_le_succ al) hP M (lo.sub hb.2) c⟩)
    λ h t c hP M lo => ⟨_, lt, .mk h t (i + 1) acc vs rfl rfl hi (Nat.le_succ_of_le al) hP M (lo.sub hb.2) c⟩
 exact codeAny_compStart_list (loop _) (hI.self (C :: F) 0 φ₁ σ₁ _ _ _ hP₂ (loop _))
theorem C2 (hΓ : Γ.Nodup) {elt : ME} {tg : List Nat} {it : MI} {test : MO} (ihe : PE T K g Γ D A outer elt) (ihi : PI T K g Γ D A outer it) (iht : AH T K g Γ D A outer test) : PE T K g Γ D A outer (.comp elt tg it test) := by
 intro sc env F ex ρ σ φ s Q X Q' E' hc hs eo ha st lo hw hq hx
 apply sj hc; intro e target iter ifs sc' pos hc
 rw [eval_ListComp]
 refine pG (use := none) hΓ ihe ihi iht hc hs eo ha st lo hw hx λ acc vs σ₁ φ₁ h₁ h₄ t₄ C X m f hQ sp₁ st₁ nC nX hXC st₄ hn₄ hX₄ ra₄ z old new all => ?_
 refine ⟨m, hn₄, λ h₅ hs₅ => ?_⟩
 have hCF : C ∉ F := λ q => (st₁.fr C q).elim λ o e => av e.1 nC
 have nXo : ¬ bZ (C :: F) φ₁ X := λ q => (gb q).elim hXC (st₁.fresh nX)
 have st₅ := St.adopt st₄ hCF hs₅ ((ou hn₄).imp λ o e => e.1) (st₁.baseFresh nC) hX₄ nXo (st₁.baseFresh nX) z ra₄
 refine hq (.loc σ₁.length) _ (φ₁ ++ [(X, X)]) h₅ t₄ (.ref X) hQ st₅ ⟨sp₁.grow.trans sp₁.all (.one nX nX), λ a o e no => hs₅.extBut a o (λ q => av (sp₁.chg a o e no) (q ▸ nC)) (new a o e no), λ a e => ?_⟩ (.loc (d := X) (i4 st₁))
 exact if hac : a = C then hac ▸ sp₁.all C nC else all a ((hs₅.2 a hac).symm.trans e)
end
section
variable {T : Fn -> ac} {K : Kx} {g : Heap} {mg mb : Str -> Option Value} {Γ : List Str} {D : List Fn} {A : Around} {outer : List Env} {k : Nat}
theorem d9 {me : ME} (n : vf me = false) (h : PE T K g Γ D A outer me) : PE T K g Γ D A outer me ∧ PT T K g Γ D A outer me := ⟨h, zN n h⟩
mutual
theorem aw (H : aF T K g mg mb D k) (hΓ : Γ.Nodup) (hR : cR (k + 1) A) : ∀ me : ME, PE T K g Γ D A outer me ∧ PT T K g Γ D A outer me
 | .var i => d9 rfl Fj
 | .none => d9 rfl C8
 | .bool b => d9 rfl CZ
 | .int i => d9 rfl E8
 | .str x => d9 rfl Fh
 | .neg i => d9 rfl Fb
 | .gstr x y => d9 rfl (C5 H)
 | .gint x y => d9 rfl (C4 H)
 | .gtup x y => d9 rfl (C6 H)
 | .bin op a b => d9 rfl (E5 (aw H hΓ hR a).1 (aw H hΓ hR b).1)
 | .cmp op a b => ⟨E6 (by have := hR.2; exact (lnr [_,_,_] [] 0x11CC609111CC6162947099193) this) (aw H hΓ hR a).1 (aw H hΓ hR b).1, F3 (by have := hR.2; exact (lnr [_,_,_] [] 0x11CC609111CC6162947099193) this) (aw H hΓ hR a).1 (aw H hΓ hR b).1⟩
 | .cmp2 o₁ o₂ a b c => ⟨C1 (by have := hR.2; exact (lnr [_,_,_] [] 0x11CC609111CC6162947099193) this) (aw H hΓ hR a).1 (aw H hΓ hR b).1 (aw H hΓ hR c).1, Ev (by have := hR.2; exact (lnr [_,_,_] [] 0x11CC609111CC6162947099193) this) (aw H hΓ hR a).1 (aw H hΓ hR b).1 (aw H hΓ hR c).1⟩
 | .andE es => ⟨E3 (dG H hΓ hR es).2.1, F2 (dG H hΓ hR es).2.2⟩
 | .orE es => ⟨GI (dG H hΓ hR es).2.1, He (dG H hΓ hR es).2.2⟩
 | .notE a => ⟨Fd (aw H hΓ hR a).1, F5 (aw H hΓ hR a).2⟩
 | .ite t a b => ⟨E9 (aw H hΓ hR t).2 (aw H hΓ hR a).1 (aw H hΓ hR b).1, F4 (aw H hΓ hR t).2 (aw H hΓ hR a).2 (aw H hΓ hR b).2⟩
 | .call f es => d9 rfl (C0 H hR (dG H hΓ hR es).1)
 | .new c es => d9 rfl (Fc H hR (dG H hΓ hR es).1)
 | .bi b e => d9 rfl (GH H (aw H hΓ hR e).1)
 | .sm0 m o => d9 rfl (Ff (aw H hΓ hR o).1)
 | .sm1 m o a => d9 rfl (Fg (aw H hΓ hR o).1 (aw H hΓ hR a).1)
 | .app o e => d9 rfl (E4 (aw H hΓ hR o).1 (aw H hΓ hR e).1)
 | .meth m o es => d9 rfl (C7 H hR (aw H hΓ hR o).1 (dG H hΓ hR es).1)
 | .attr f o => d9 rfl (CY H (aw H hΓ hR o).1)
 | .idx o i => d9 rfl (E7 (aw H hΓ hR o).1 (aw H hΓ hR i).1)
 | .slice o lo hi => d9 rfl (AP H (aw H hΓ hR o).1 (rC H hΓ hR lo).1 (rC H hΓ hR hi).1)
 | .rev o => d9 rfl (Fe (aw H hΓ hR o).1)
 | .tup es => d9 rfl (Fi (dG H hΓ hR es).1)
 | .lst es => d9 rfl (Fa (dG H hΓ hR es).1)
 | .escD => d9 rfl (C3 H)
 | .comp elt tg it test => d9 rfl (C2 hΓ (aw H hΓ hR elt).1 (u7 H hΓ hR it) (rC H hΓ hR test).2)
 | .isList o => d9 rfl (yC H (aw H hΓ hR o).1)
theorem dG (H : aF T K g mg mb D k) (hΓ : Γ.Nodup) (hR : cR (k + 1) A) : ∀ es : fC, PL T K g Γ D A outer es ∧ PA T K g Γ D A outer es ∧ ED T K g Γ D A outer es
 | .nil => ⟨FJ, E0, Ew⟩
 | .cons e es => ⟨DY (aw H hΓ hR e).1 (dG H hΓ hR es).1, CV (aw H hΓ hR e).1 (dG H hΓ hR es).2.1, B5 (aw H hΓ hR e).2 (dG H hΓ hR es).2.2⟩
theorem rC (H : aF T K g mg mb D k) (hΓ : Γ.Nodup) (hR : cR (k + 1) A) : ∀ mo : MO, PO T K g Γ D A outer mo ∧ AH T K g Γ D A outer mo
 | .none => ⟨Ea, BO⟩
 | .some e => ⟨Eb (aw H hΓ hR e).1, BP (aw H hΓ hR e).2⟩
theorem u7 (H : aF T K g mg mb D k) (hΓ : Γ.Nodup) (hR : cR (k + 1) A) : ∀ mi : MI, PI T K g Γ D A outer mi
 | .plain e => Bl (aw H hΓ hR e).1
 | .range e => Bm H (aw H hΓ hR e).1
 | .enum e => DR H (aw H hΓ hR e).1
end
end
noncomputable def CM (K : Kx) (h : Heap) (F : List Addr) (φ : aO) : aA -> Flow -> Prop
 | .next, f => f = .next
 | .brk, f => f = .brk
 | .ret V, f => ∃ v, f = .ret v ∧ aM K h F φ V v
structure yi (outer : List Env) (env : Env) (L₀ F : List Addr) : Prop where
 sub : ∀ a ∈ L₀, a ∈ F
 loc : env.locals ∈ L₀
 cells : ∀ x c, env.cells.lookup x = some c -> c ∈ L₀
 top : ∃ rest, outer = env :: rest
 all : outer.length = 1 -> ∀ a ∈ F, a ∈ L₀
noncomputable def Ce (K : Kx) (g : Heap) (Γ : List Str) (env : Env) (L₀ F : List Addr) (φ : aO) (s : Shared) (Q : aA -> aj -> aa -> Prop) (Q' : Flow -> Shared -> Prop) : Prop :=
 ∀ fl ρ' σ' φ' h' t' f, Q fl ρ' σ' -> St K g F φ' σ' h' -> an L₀ φ φ' s.heap h' -> dc K env Γ ρ' F φ' h' -> CM K h' F φ' fl f -> Q' f (up s h' t')
section
variable (T : Fn -> ac) (K : Kx) (g : Heap) (Γ : List Str) (D : List Fn) (A : Around) (outer : List Env)
noncomputable def PS (ms : MS) : Prop := ∀ (env : Env) (F L₀ : List Addr) (stm : Stmt) (ρ : aj) (σ : aa) (φ : aO) (s : Shared) (Q : aA -> aj -> aa -> Prop) (X : AV -> aa -> Prop) (Q' : Flow -> Shared -> Prop) (E' : Value -> Shared -> Prop),
 Fk ⟨K, env.scope, Γ, D⟩ ms stm = true -> aX env F -> yi outer env L₀ F -> i7 A outer F -> St K g F φ σ s.heap -> dc K env Γ ρ F φ s.heap -> AL T ms ρ σ Q X -> Ce K g Γ env L₀ F φ s Q Q' -> PX K g L₀ F φ s X E' ->
 PassesOwn (model K.prog K.w) A env E' -> wpAny (model K.prog K.w) A (exec stm env) Q' E' s
noncomputable def pz (ms : bq) : Prop := ∀ (env : Env) (F L₀ : List Addr) (stms : List Stmt) (ρ : aj) (σ : aa) (φ : aO) (s : Shared) (Q : aA -> aj -> aa -> Prop) (X : AV -> aa -> Prop) (Q' : Flow -> Shared -> Prop) (E' : Value -> Shared -> Prop),
 eD ⟨K, env.scope, Γ, D⟩ ms stms = true -> aX env F -> yi outer env L₀ F -> i7 A outer F -> St K g F φ σ s.heap -> dc K env Γ ρ F φ s.heap -> fE T ms ρ σ Q X -> Ce K g Γ env L₀ F φ s Q Q' -> PX K g L₀ F φ s X E' ->
 PassesOwn (model K.prog K.w) A env E' -> wpAny (model K.prog K.w) A (execs stms env) Q' E' s
end
section
variable {T : Fn -> ac} {K : Kx} {g : Heap} {mg mb : Str -> Option Value} {Γ : List Str} {D : List Fn} {A : Around} {outer : List Env} {k : Nat} {F L₀ : List Addr} {φ φ' : aO} {σ : aa} {s : Shared} {h h' : Heap} {t' : Nat} {env : Env} {ρ ρ' : aj} {E : Value -> Shared -> Prop}
theorem Ce.step {Q : aA -> aj -> aa -> Prop} {Q' : Flow -> Shared -> Prop} (x : Ce K g Γ env L₀ F φ s Q Q') (sp : an L₀ φ φ' s.heap h') : Ce K g Γ env L₀ F φ' (up s h' t') Q Q' :=
 λ fl ρ' σ' φ'' h'' t'' f a b c d e => x fl ρ' σ' φ'' h'' t'' f a b (sp.trans c) d e
theorem PX.low {X : AV -> aa -> Prop} {E' : Value -> Shared -> Prop} (x : PX K g L₀ F φ s X E') : PX K g [] F φ s X E' :=
 λ V σ' φ' h' t' e hX hS hI hx => x V σ' φ' h' t' e hX hS hI (hx.mono λ _ h => nomatch h)
theorem PX.goL {X : AV -> aa -> Prop} {E' : Value -> Shared -> Prop} (x : PX K g L₀ F φ s X E') (st : St K g F φ σ s.heap) (sp : an L₀ φ φ' s.heap h') (ow : yi outer env L₀ F) : PX K g L₀ F φ' (up s h' t') X E' :=
 PX.step K g x st sp ow.sub
theorem tR {h h' : Heap} (sp : an [] φ φ' h h') : an L₀ φ φ' h h' := sp.mono λ _ h => nomatch h
theorem bA : Sc env.scope env := λ _ _ h => .inl h
theorem z0 {i : Nat} {x : Str} {V : AV} {v : Value} {Q : Unit -> Shared -> Prop} (hΓ : Γ.Nodup) (eo : aX env F) (ow : yi outer env L₀ F) (hi : Γ[i]? = some x) (hx : env.scope.names.lookup x = some .local ∨ env.scope.names.lookup x = some .cell) (st : St K g F φ σ s.heap)
  (lo : dc K env Γ ρ F φ s.heap) (r : aM K s.heap F φ V v)
  (hq : ∀ h' t', St K g F φ σ h' -> an L₀ φ φ s.heap h' -> dc K env Γ (ρ.set i (some V)) F φ h' -> Q () (up s h' t')) : wpAny (model K.prog K.w) A (storeName env x v) Q E s := by
 rcases hx with hx | hx
 ·exact iN hΓ eo hi hx st lo r λ h' t' a b c => hq h' t' a (b.mono λ a ha => by rw [List.mem_singleton.mp ha]; exact ow.loc) c
 ·exact BY hΓ eo hi hx st lo r (λ c hc => ow.cells _ _ hc) hq
noncomputable def CP (o : Option Expr) (l : Nat) (env : Env) (v : Expr) : Prop := swapsWith v o l env = pure false
theorem Am (o : Option Expr) (l : Nat) (env : Env) (v : Expr) : (v.ctorIdx == 11 || v.ctorIdx == 9 || v.ctorIdx == 10 || v.ctorIdx == 8) = false -> CP o l env v := by
 cases v <;> first | exact λ _ => rfl | exact λ h => bY h.symm
theorem qO {cx : Cx} {me : ME} {v : Expr} (hc : aR cx me v = true) (hn : tc v = true) (t : Option Expr) (l : Nat) (env : Env) : swapsWith v t l env = pure false :=
 Am t l env v (Bool.or_eq_false_iff.mpr ⟨by rw [iX hc]; cases me <;> rfl, (Bool.not_eq_true' _).mp hn⟩)
theorem aX.mono (eo : aX env F) {F' : List Addr} (sub : ∀ a ∈ F, a ∈ F') : aX env F' := ⟨eo.kind, eo.glob, eo.blt, sub _ eo.loc, λ x c e => sub _ (eo.cells x c e), eo.has, eo.inj, eo.ne⟩
theorem El (hΓ : Γ.Nodup) {i : Nat} {elt : ME} {tg : List Nat} {it : MI} {test : MO} (ihe : PE T K g Γ D A outer elt) (ihi : PI T K g Γ D A outer it) (iht : AH T K g Γ D A outer test) {x : Str} {px pos spos : Pos} {e target iter : Expr} {ifs : List Expr} {sc' : Scope}
  {Q : aA -> aj -> aa -> Prop} {X : AV -> aa -> Prop} {Q' : Flow -> Shared -> Prop} {E' : Value -> Shared -> Prop} (h1 : Γ[i]? = some x) (h3 : aR ⟨K, env.scope, Γ, D⟩ (.comp elt tg it test) (.ListComp e [⟨target, iter, ifs, 0⟩] sc' pos) = true)
  (h4 : asgLC ⟨K, env.scope, Γ, D⟩ x px (.ListComp e [⟨target, iter, ifs, 0⟩] sc' pos) = true) (eo : aX env F) (ow : yi outer env L₀ F) (ha : i7 A outer F) (st : St K g F φ σ s.heap) (lo : dc K env Γ ρ F φ s.heap)
  (hw : br T (.comp elt tg it test) ρ σ (λ v σ₁ => Q .next (ρ.set i (some v)) σ₁) X) (hq : Ce K g Γ env L₀ F φ s Q Q') (hx : PX K g L₀ F φ s X E') :
  wpAny (model K.prog K.w) A (exec (.Assign [.Name x px] (.ListComp e [⟨target, iter, ifs, 0⟩] sc' pos) spos) env) Q' E' s := by
 have a1 := ab (show (_ && _) = true from h4)
 have a2 := ab a1.1
 have hk := eq_of_beq a2.1
 have hsw : swapsWith (.ListComp e [⟨target, iter, ifs, 0⟩] sc' pos) (some (.Name x px)) spos.line env = pure true := by
  show (pure (env.blockKind == .function && env.kindOf x == some .local && px.line == pos.line && !(sc'.names.any λ (n, k) => n == x && (k == .local || k == .cell))) : Sem Bool) = _
  have e1 : env.blockKind = .function := by unfold Env.blockKind; rw [eo.kind]; rfl
  have e2 : env.kindOf x = some .local := hk
  rw [e1, e2, a2.2, (Bool.not_eq_true' _).mp a1.2]; rfl
 rw [exec_Assign_Name_used _ _ _ _ hsw]
 refine wpAny_bind (wpAny_standAt (wpAny_bind ?_))
 show wpAny _ A (do let _ ← comprehension (.ListComp e [⟨target, iter, ifs, 0⟩] sc' pos) sc' env (firstIterPos [⟨target, iter, ifs, 0⟩] pos) (newList []) false (eval iter env) (some (assign (.Name x px) env))) _ _ s
 refine wpAny_bind (wpAny_mono (pG (use := some (assign (.Name x px) env)) (Q' := λ _ s' => Q' .next s') (E' := E') hΓ ihe ihi iht h3 bA eo ha st lo hw hx.low ?_) (λ _ s' hq => wpAny_pure (wpAny_pure hq)) λ _ _ e => e)
 intro acc vs σ₁ φ₁ h₁ h₄ t₄ C X m f hQ sp₁ st₁ nC nX hXC st₄ hn₄ hX₄ ra₄ z old new all
 show wpAny _ A (assign (.Name x px) env (.ref X)) _ _ _
 have hCF : C ∉ F := λ q => (st₁.fr C q).elim λ o e => av e.1 nC
 have mF : ∀ a ∈ F, a ∈ C :: F := λ _ => List.mem_cons_of_mem C
 have nXo : ¬ bZ (C :: F) φ₁ X := λ q => (gb q).elim hXC (st₁.fresh nX)
 have nth : ∀ (n : Nat) p, φ₁[n]? = some p -> (φ₁ ++ [(X, X)])[n]? = some p := λ n p e => i3 e
 have ex : h₄.get? X ≠ none := hX₄.elim λ _ e => av e
 have gX := st₁.baseFresh nX
 have gw : eG φ (φ₁ ++ [(X, X)]) s.heap := sp₁.grow.trans sp₁.all (.one nX nX)
 have stA : St K g (C :: F) (φ₁ ++ [(X, X)]) (σ₁ ++ [.list acc]) h₄ := st₄.addG (λ _ _ e => e) nXo nXo gX gX ex ex (λ a o e z => ⟨f8 hX₄ e z, f8 hX₄ e z⟩)
  (.mk ⟨rfl, z⟩ vs hX₄ (ao.monoL (λ a o e _ z no => ⟨e, λ q => (i6 q).elim no λ q => f8 hX₄ e z (q.elim id id)⟩) nth ra₄))
 have loA : dc K env Γ ρ (C :: F) (φ₁ ++ [(X, X)]) h₄ := (lo.step K g st eo sp₁).at K eo (λ a ha o e => old a o e ((st₁.fr a ha).elim λ o' y => Option.some.inj (e.symm.trans y.1) ▸ y.2) (St.notCell K g st₁ ha))
  λ V v r => aM.mono K (λ a o e n no => ⟨old a o e n λ q => no (dF cf q), λ q => (i6 q).elim (λ q => (gb q).elim (λ z => av e (z ▸ nC)) no) λ q => av e (show h₁.get? a = none from q.elim (· ▸ nX) (· ▸ nX))⟩) nth r
 have nLC : env.locals ≠ C := λ q => hCF (q ▸ eo.loc)
 refine wpAny_assign_Name (iN (F := C :: F) (s := up s h₄ t₄) hΓ (eo.mono mF) h1 hk stA loA (.loc (d := X) (i4 st₁)) λ h₅ t₅ st₅ sp₅ lo₅ => ?_)
 refine ⟨m, hn₄.at λ o e => sp₅.chg _ o e λ q => q.elim (λ q => nLC (List.mem_singleton.mp q).symm) λ q => St.notCell K g stA List.mem_cons_self (.inr q), λ h₆ hs₆ => ?_⟩
 have hk₆ : ∀ b o, b ≠ C -> h₅.get? b = some o -> h₆.get? b = some o := λ b o hb e => hs₆.extBut b o hb e
 have loB : dc K env Γ _ F _ h₆ := lo₅.map K (λ _ n => n.at λ o e => hk₆ _ o nLC e) (λ x c v q ic => ic.sameBut hs₆ λ e => hCF (e ▸ eo.cells _ _ q))
  λ V v r => aM.mono K (λ a o e _ no => ⟨hk₆ a o (λ q => no (q ▸ .inl List.mem_cons_self)) e, λ q => no (dF mF q)⟩) (λ _ _ e => e) r
 refine hq .next _ _ (φ₁ ++ [(X, X)]) h₆ _ .next hQ (st₅.leave1 hCF hk₆ (st₁.baseFresh nC)) ⟨gw, λ a o e no => ?_, λ a e => if hac : a = C then hac ▸ sp₁.all C nC else all a (sp₅.all a ((hs₆.2 a hac).symm.trans e))⟩ loB rfl
 have no' : ¬ bZ [] φ a := λ q => no (dF cf q)
 exact hk₆ a o (λ q => av (sp₁.chg a o e no') (q ▸ nC)) (sp₅.chg a o (new a o e no') (gw.not_own e λ q => no (dF (λ a ha => List.mem_singleton.mp ha ▸ ow.loc) q)))
theorem yG {e : ME} {P : ME -> Prop} (h : An e = 8) (k : ∀ elt tg it test, P (.comp elt tg it test)) : P e := by
 have h : (An e == 8) = true := beq_iff_eq.mpr h
 cases e <;> first | exact k _ _ _ _ | exact bY h
theorem FU (hΓ : Γ.Nodup) {i : Nat} {e : ME} (ih : PE T K g Γ D A outer e) (hC : ∀ elt tg it test, e = .comp elt tg it test -> PE T K g Γ D A outer elt ∧ PI T K g Γ D A outer it ∧ AH T K g Γ D A outer test) : PS T K g Γ D A outer (.asg i e) := by
 intro env F L₀ stm ρ σ φ s Q X Q' E' hc eo ow ha st lo hw hq hx hp
 apply d3 hc; intro ts v p hc
 apply bk hc; intro t hc
 apply aP hc; intro x px hc
 have a1 := ab hc
 have a2 := ab a1.1
 have a3 := ab a2.1
 have h1 := eq_of_beq a3.1
 have h2 := (Bool.or_eq_true_iff.mp a3.2).imp eq_of_beq eq_of_beq
 have h3 := a2.2
 refine (Bool.or_eq_true_iff.mp a1.2).elim (λ h4 => ?_) λ h4 => ?_
 ·refine wpAny_Assign_Name (ih env.scope env F v ρ σ φ s _ X _ E' h3 bA eo ha st lo hw ?_ hx.low) (qO h3 h4 _ _ _)
  intro V σ₁ φ₁ h₁ t₁ w hQ st₁ sp₁ r₁
  refine z0 (s := (up s h₁ t₁)) hΓ eo ow h1 h2 st₁ (lo.step K g st eo sp₁) r₁ λ h₂ t₂ st₂ sp₂ lo₂ => ?_
  exact hq .next _ σ₁ φ₁ h₂ t₂ .next hQ st₂ ((tR sp₁).trans sp₂) lo₂ rfl
 ·refine yG (P := λ e => (∀ elt tg it test, e = .comp elt tg it test -> PE T K g Γ D A outer elt ∧ PI T K g Γ D A outer it ∧ AH T K g Γ D A outer test) -> aR ⟨K, env.scope, Γ, D⟩ e v = true -> br T e ρ σ (λ v σ₁ => Q .next (ρ.set i (some v)) σ₁) X -> _)
   ((iX h3).symm.trans (iI h4)) (λ elt tg it test hC h3 hw => ?_) hC h3 hw
  revert h4; apply sj h3; intro e target iter ifs sc' pos h3 h4
  have ih := hC _ _ _ _ rfl
  exact El hΓ ih.1 ih.2.1 ih.2.2 h1 h3 h4 eo ow ha st lo hw hq hx
theorem BV {e : ME} (ih : PE T K g Γ D A outer e) : PS T K g Γ D A outer (.exprS e) := by
 intro env F L₀ stm ρ σ φ s Q X Q' E' hc eo ow ha st lo hw hq hx hp
 apply lY hc; intro v p hc
 have hc := ab hc
 refine wpAny_Expr_any (ih env.scope env F _ ρ σ φ s _ X _ E' hc.1 bA eo ha st lo hw ?_ hx.low) (by unfold interactive; rw [eo.kind]; rfl) (qO hc.1 hc.2 _ _ _)
 intro V σ₁ φ₁ h₁ t₁ w hQ st₁ sp₁ r₁
 exact hq .next _ σ₁ φ₁ h₁ t₁ .next hQ st₁ (tR sp₁) (lo.step K g st eo sp₁) rfl
theorem FX {e : ME} (ih : PE T K g Γ D A outer e) : PS T K g Γ D A outer (.ret e) := by
 intro env F L₀ stm ρ σ φ s Q X Q' E' hc eo ow ha st lo hw hq hx hp
 apply cD hc; intro o p hc
 apply aH hc; intro x hc
 refine wpAny_Return_some (ih env.scope env F _ ρ σ φ s _ X _ E' hc bA eo ha st lo hw ?_ hx.low)
 intro V σ₁ φ₁ h₁ t₁ w hQ st₁ sp₁ r₁
 exact hq (.ret V) _ σ₁ φ₁ h₁ t₁ (.ret w) hQ st₁ (tR sp₁) (lo.step K g st eo sp₁) ⟨w, rfl, r₁⟩
theorem FV : PS T K g Γ D A outer .brk := by
 intro env F L₀ stm ρ σ φ s Q X Q' E' hc eo ow ha st lo hw hq hx hp
 apply qV hc; intro p _
 exact wpAny_Break (hq .brk _ σ φ s.heap s.toks .brk hw st (an.refl _ _ _) lo rfl)
theorem Ek (H : aF T K g mg mb D k) {f : hJ} {o e : ME} (iho : PE T K g Γ D A outer o) (ih : PE T K g Γ D A outer e) : PS T K g Γ D A outer (.asgA f o e) := by
 intro env F L₀ stm ρ σ φ s Q X Q' E' hc eo ow ha st lo hw hq hx hp
 apply d3 hc; intro ts w p hc
 apply bk hc; intro t hc
 apply cB hc; intro v name ap hc
 have y1 := ab hc
 have y2 := ab y1.1
 have y3 := ab y2.1
 apply bI y3.1
 have h2 := y3.2
 have h3 := y2.2
 have h4 := y1.2
 refine plainObj_wpAny_Assign_Attribute (ih env.scope env F _ ρ σ φ s _ X _ E' h3 bA eo ha st lo hw ?_ hx.low) (qO h3 h4 _ _ _)
 intro V σ₁ φ₁ h₁ t₁ w hw st₁ sp₁ r₁
 have lo₁ := lo.step K g st eo sp₁
 refine iho env.scope env F _ ρ σ₁ φ₁ (up s h₁ t₁) _ X _ E' h2 bA eo ha st₁ lo₁ hw ?_ (hx.low.go st sp₁)
 intro Vo σ₂ φ₂ h₂ t₂ wo w st₂ sp₂ r₂
 refine w.elim λ n w => w.2.elim λ σ₃ y => ?_
 rw [w.1] at r₂
 refine xX (vo := .none) (s := (up s h₂ t₂)) H.G H.ck y.1 st₂ r₂ (cP r₁ sp₂) λ h₃ t₃ st₃ sp₃ => ?_
 exact hq .next _ σ₃ φ₂ h₃ t₃ .next y.2 st₃ (tR ((sp₁.trans sp₂).trans sp₃)) ((lo₁.step K g st₁ eo sp₂).step K g st₂ eo sp₃) rfl
theorem Hd {t : ME} {a b : bq} (iht : PT T K g Γ D A outer t) (iha : pz T K g Γ D A outer a) (ihb : pz T K g Γ D A outer b) : PS T K g Γ D A outer (.ifS t a b) := by
 intro env F L₀ stm ρ σ φ s Q X Q' E' hc eo ow ha st lo hw hq hx hp
 apply lC hc; intro x y z p hc
 have y1 := ab hc
 have y2 := ab y1.1
 have h1 := y2.1
 have h2 := y2.2
 have h3 := y1.2
 refine wpAny_If (iht env.scope env F _ ρ σ φ s _ X _ E' h1 bA eo ha st lo hw ?_ hx.low)
 intro V σ₁ φ₁ h₁ t₁ w st₁ sp₁
 refine w.elim λ r w => ⟨r, w.1, ?_⟩
 have hw := w.2
 have lo₁ := lo.step K g st eo sp₁
 cases r
 ·exact ihb env F L₀ _ ρ σ₁ φ₁ (up s h₁ t₁) _ X _ E' h3 eo ow ha st₁ lo₁ hw (hq.step (tR sp₁)) (hx.goL st (tR sp₁) ow) hp
 ·exact iha env F L₀ _ ρ σ₁ φ₁ (up s h₁ t₁) _ X _ E' h2 eo ow ha st₁ lo₁ hw (hq.step (tR sp₁)) (hx.goL st (tR sp₁) ow) hp
theorem Es : pz T K g Γ D A outer .nil := by
 intro env F L₀ stms ρ σ φ s Q X Q' E' hc eo ow ha st lo hw hq hx hp
 apply bz hc
 exact wpAny_execs_nil (hq .next _ σ φ s.heap s.toks .next hw st (an.refl _ _ _) lo rfl)
theorem B1 {m : MS} {ms : bq} (ih : PS T K g Γ D A outer m) (ihs : pz T K g Γ D A outer ms) : pz T K g Γ D A outer (.cons m ms) := by
 intro env F L₀ stms ρ σ φ s Q X Q' E' hc eo ow ha st lo hw hq hx hp
 apply bu hc; intro x xs hc
 replace hc := ab hc
 refine wpAny_execs_cons (ih env F L₀ _ ρ σ φ s _ X _ E' hc.1 eo ow ha st lo hw ?_ hx hp)
 intro fl ρ₁ σ₁ φ₁ h₁ t₁ f hQ st₁ sp₁ lo₁ hf
 cases fl with
 | next => exact (show f = _ from hf) ▸ ihs env F L₀ _ ρ₁ σ₁ φ₁ (up s h₁ t₁) _ X _ E' hc.2 eo ow ha st₁ lo₁ hQ (hq.step sp₁) (hx.goL st sp₁ ow) hp
 | brk => exact (show f = _ from hf) ▸ hq .brk _ _ _ _ _ _ hQ st₁ sp₁ lo₁ rfl
 | ret V => exact hf.elim λ v y => y.1 ▸ hq (.ret V) _ _ _ _ _ _ hQ st₁ sp₁ lo₁ ⟨v, rfl, y.2⟩
end
section
variable {T : Fn -> ac} {K : Kx} {g : Heap} {mg mb : Str -> Option Value} {Γ : List Str} {D : List Fn} {A : Around} {outer : List Env} {k : Nat} {F L₀ : List Addr} {φ φ' : aO} {σ : aa} {s : Shared} {h h' : Heap} {t' : Nat} {env : Env} {ρ ρ' : aj} {E : Value -> Shared -> Prop}
noncomputable def Er (K : Kx) (A : Around) (env : Env) (R : Result -> Shared -> Prop) : Value -> Shared -> Prop := notedBy (model K.prog K.w) A env λ e s' => R (.error e) s'
noncomputable def EQ (R : Result -> Shared -> Prop) (N : Shared -> Prop) (f : Flow) (s : Shared) : Prop := match f with
 | .next | .cont => N s
 | .brk => R (.ok .next) s
 | .ret v => R (.ok (.ret v)) s
structure Lp (K : Kx) (A : Around) (env : Env) (Q' : Flow -> Shared -> Prop) (E' : Value -> Shared -> Prop) (R : Result -> Shared -> Prop) : Prop where
 ok : ∀ f s, Q' f s -> R (.ok f) s
 er : ∀ {α : Type} {t : Sem α} {Q : α -> Shared -> Prop} {s : Shared}, wpAny (model K.prog K.w) A t Q E' s -> wpAny (model K.prog K.w) A t Q (Er K A env R) s
noncomputable def Ch (K : Kx) (A : Around) (test : Expr) (body orelse : List Stmt) (env : Env) (R : Result -> Shared -> Prop) (N : Shared -> Prop) (s : Shared) : Prop :=
 wpAny (model K.prog K.w) A (isTrue test env (eval test env)) (λ b s₂ => if b = true then wpAny (model K.prog K.w) A (execs body env) (EQ R N) (Er K A env R) s₂ else wpAny (model K.prog K.w) A (execs orelse env) (λ f s₃ => R (.ok f) s₃) (Er K A env R) s₂) (Er K A env R) s
theorem whileLoop {R : Result -> Shared -> Prop} {test : Expr} {body orelse : List Stmt} (I : Nat -> Shared -> Prop) (turn : ∀ n s, I n s -> Ch K A test body orelse env R (yr I n) s) (n : Nat) (h : I n s) :
  codeAny (model K.prog K.w) A (.whileLoop test body orelse env) R s := codeAny_whileLoop I turn n h
noncomputable def Cd (K : Kx) (A : Around) (target : Expr) (body : List Stmt) (env : Env) (R : Result -> Shared -> Prop) (N : Shared -> Prop) (v : Value) (s : Shared) : Prop :=
 wpAny (model K.prog K.w) A (assign target env v) (λ _ s₂ => wpAny (model K.prog K.w) A (execs body env) (EQ R N) (Er K A env R) s₂) (Er K A env R) s
noncomputable def ET (K : Kx) (A : Around) (target : Expr) (it : Value) (body orelse : List Stmt) (env : Env) (R : Result -> Shared -> Prop) (N : Shared -> Prop) (r : Option Value) (s : Shared) : Prop := match r with
 | none => wpAny (model K.prog K.w) A (execs orelse env) (λ f s₃ => R (.ok f) s₃) (Er K A env R) s
 | some v => wpAny (model K.prog K.w) A (letOwnedTupleGo target it v) (λ _ s₁' => Cd K A target body env R N v s₁') (Er K A env R) s
noncomputable def yo (K : Kx) (A : Around) (target : Expr) (it : Value) (body orelse : List Stmt) (env : Env) (R : Result -> Shared -> Prop) (N : Shared -> Prop) (s : Shared) : Prop :=
 wpAny (model K.prog K.w) A (pyNext it) (ET K A target it body orelse env R N) (Er K A env R) s
theorem forLoop {R : Result -> Shared -> Prop} {target : Expr} {it : Value} {body orelse : List Stmt} (I : Nat -> Shared -> Prop) (turn : ∀ n s, I n s -> yo K A target it body orelse env R (yr I n) s) (n : Nat) (h : I n s) :
  codeAny (model K.prog K.w) A (.forLoop target it body orelse env) R s := codeAny_forLoop_any I turn n h
inductive CT (T : Fn -> ac) (K : Kx) (g : Heap) (Γ : List Str) (env : Env) (F L₀ : List Addr) (φ : aO) (s : Shared) (t : ME) (b : bq) (Q : aA -> aj -> aa -> Prop) (X : AV -> aa -> Prop) (n : Nat) (s' : Shared) : Prop
 | mk (ρ : aj) (σ : aa) (φ' : aO) (h : Heap) (tk : Nat) (e : s' = up s h tk) (st : St K g F φ' σ h) (sp : an L₀ φ φ' s.heap h) (lo : dc K env Γ ρ F φ' h)
  (hw : GD (λ ρ σ K => br T t ρ σ (λ v σ₁ => ∃ r, v = .bool r ∧ K r σ₁) X) (λ ρ σ K => fE T b ρ σ K X) n ρ σ Q)
theorem vn {t : ME} {b : bq} {x : Expr} {y : List Stmt} {Q : aA -> aj -> aa -> Prop} {X : AV -> aa -> Prop} {Q' : Flow -> Shared -> Prop} {E' : Value -> Shared -> Prop} {R : Result -> Shared -> Prop} (iht : PT T K g Γ D A outer t) (ihb : pz T K g Γ D A outer b) (h1 : aR ⟨K, env.scope, Γ, D⟩ t x = true) (h2 : eD ⟨K, env.scope, Γ, D⟩ b y = true)
  (eo : aX env F) (ow : yi outer env L₀ F) (ha : i7 A outer F) (st : St K g F φ σ s.heap) (hq : Ce K g Γ env L₀ F φ s Q Q') (hx : PX K g L₀ F φ s X E') (hp : PassesOwn (model K.prog K.w) A env E') (lp : Lp K A env Q' E' R) {n : Nat} {s' : Shared}
  (I : CT T K g Γ env F L₀ φ s t b Q X n s') : Ch K A x y [] env R (yr (CT T K g Γ env F L₀ φ s t b Q X) n) s' := by
 cases I with | mk ρ₁ σ₁ φ₁ h₁ t₁ e st₁ sp₁ lo₁ hw₁ =>
 rw [e]
 cases n with
 | zero => exact hw₁.elim
 | succ n =>
  refine lp.er (iht env.scope env F _ ρ₁ σ₁ φ₁ (up s h₁ t₁) _ X _ E' h1 bA eo ha st₁ lo₁ hw₁ ?_ (hx.goL st sp₁ ow).low)
  intro V σ₂ φ₂ h₂ t₂ w st₂ sp₂
  refine w.elim λ r w => ⟨r, w.1, ?_⟩
  have hw₂ := w.2
  have lo₂ := lo₁.step K g st₁ eo sp₂
  have sp₂' := sp₁.trans (tR sp₂)
  cases r
  ·exact wpAny_execs_nil (lp.ok _ _ (hq .next _ σ₂ φ₂ h₂ t₂ .next hw₂ st₂ sp₂' lo₂ rfl))
  ·refine lp.er (ihb env F L₀ _ ρ₁ σ₂ φ₂ (up s h₂ t₂) _ X _ E' h2 eo ow ha st₂ lo₂ hw₂ ?_ (hx.goL st sp₂' ow) hp)
   intro fl ρ₃ σ₃ φ₃ h₃ t₃ f hQ st₃ sp₃ lo₃ hf
   have sp₃' := sp₂'.trans sp₃
   cases fl with
   | next => exact hf ▸ ⟨n, Nat.lt_succ_self n, ρ₃, σ₃, φ₃, h₃, t₃, rfl, st₃, sp₃', lo₃, hQ⟩
   | brk => exact hf ▸ lp.ok _ _ (hq .next _ _ _ _ _ _ hQ st₃ sp₃' lo₃ rfl)
   | ret V => exact hf.elim λ v r => r.1 ▸ lp.ok _ _ (hq (.ret V) _ _ _ _ _ _ hQ st₃ sp₃' lo₃ ⟨v, rfl, r.2⟩)
theorem Cu {Q' : Flow -> Shared -> Prop} {E' : Value -> Shared -> Prop} (hp : PassesOwn (model K.prog K.w) A env E') : Lp K A env Q' E' (λ r s' => match r with | .ok f => Q' f s' | .error e => cameBackBy (model K.prog K.w) A env E' e s') := ⟨λ _ _ h => h, λ h => wpAny_passesOwn hp h⟩
theorem BX {t : ME} {b : bq} (iht : PT T K g Γ D A outer t) (ihb : pz T K g Γ D A outer b) : PS T K g Γ D A outer (.while t b) := by
 intro env F L₀ stm ρ σ φ s Q X Q' E' hc eo ow ha st lo hw hq hx hp
 apply rh hc; intro x y z p hc
 refine aS hc λ h0 hc => ?_
 apply bz h0
 have y1 := ab hc
 exact hw.elim λ n hw => wpAny_While (whileLoop (CT T K g Γ env F L₀ φ s t b Q X) (λ n s' I => vn iht ihb y1.1 y1.2 eo ow ha st hq hx hp (Cu hp) I) n ⟨ρ, σ, φ, s.heap, s.toks, rfl, st, an.refl _ _ _, lo, hw⟩)
theorem xv {tg : List Nat} {same : aa -> Prop} {body : aj -> aa -> (aA -> aj -> aa -> Prop) -> Prop} {l : List AV} {ρ : aj} {σ : aa} {Q : aA -> aj -> aa -> Prop} (h : y0 tg same body l ρ σ Q) : same σ := by
 cases l with
 | nil => exact h.1
 | cons v vs => exact h.1
theorem an.its {its : List Addr} {h₀ h h' : Heap} (sp : an L₀ φ φ' h₀ h) (hn : ∀ b ∈ its, h₀.get? b = none) (hk : ∀ b o, b ∉ its -> h.get? b = some o -> h'.get? b = some o) (hall : ∀ a, h'.get? a = none -> h.get? a = none ∨ a ∈ its) : an L₀ φ φ' h₀ h' :=
 ⟨sp.grow, λ a o e no => hk a o (λ q => by rw [hn a q] at e; cases e) (sp.chg a o e no), λ a e => (hall a e).elim (sp.all a) (hn a)⟩
inductive CL (T : Fn -> ac) (K : Kx) (g : Heap) (Γ : List Str) (env : Env) (F L₀ : List Addr) (φ : aO) (s : Shared) (tg : List Nat) (same : aa -> Prop) (items : List AV) (P : List Addr -> Nat -> aO -> aa -> Heap -> Prop) (b : bq) (Q : aA -> aj -> aa -> Prop) (X : AV -> aa -> Prop) (n : Nat) (s' : Shared) : Prop
 | mk (i : Nat) (ρ : aj) (σ : aa) (φ' : aO) (h : Heap) (tk : Nat) (e : s' = up s h tk) (en : n = items.length - i) (le : i ≤ items.length) (p : P F i φ' σ h) (st : St K g F φ' σ h) (sp : an L₀ φ φ' s.heap h) (lo : dc K env Γ ρ F φ' h)
  (hf : y0 tg same (λ ρ σ K => fE T b ρ σ K X) (items.drop i) ρ σ Q)
theorem Af {its : List Addr} {P : List Addr -> Nat -> aO -> aa -> Heap -> Prop} {items : List AV} {fp : List Addr} {same : aa -> Prop} {target : Expr} {itv : Value} {i : Nat} (hI : ql K g A its fp items same target itv P) (p : P F i φ σ h) (eo : aX env F) (gits : ∀ b ∈ its, g.get? b = none)
  (st : St K g F φ σ h) (lo : dc K env Γ ρ F φ h) {h₄ : Heap} (hk : ∀ b o, b ∉ its -> h.get? b = some o -> h₄.get? b = some o) : St K g F φ σ h₄ ∧ dc K env Γ ρ F φ h₄ :=
 have hr := hI.rcd _ _ _ _ _ p
 ⟨st.its hr gits hk, lo.via eo (λ a ha o e => (st.fr a ha).elim λ o' x => hk a o (d2 hr e (Option.some.inj (x.1.symm.trans e) ▸ x.2)) e) λ a o e n _ _ => hk a o (d2 hr e n) e⟩
theorem AJ {its : List Addr} {h h₄ : Heap} (hk : ∀ b o, b ∉ its -> h.get? b = some o -> h₄.get? b = some o) (a : Addr) (e : h₄.get? a = none) : h.get? a = none ∨ a ∈ its := by
 by_cases q : a ∈ its
 ·exact .inr q
 ·cases y : h.get? a with
  | none => exact .inl rfl
  | some o => exact absurd e (av (hk a o q y))
theorem BG {target : Expr} {it : Value} {body orelse : List Stmt} {R : Result -> Shared -> Prop} {N : Shared -> Prop} (h : wpAny (model K.prog K.w) A (pyNext it) (λ r s₁ => match r with | none => False | some v => wpAny (model K.prog K.w) A (letOwnedTupleGo target it v) (λ _ s₂ => Cd K A target body env R N v s₂) (Er K A env R) s₁) (Er K A env R) s) : yo K A target it body orelse env R N s :=
 wpAny_mono h (λ r s₁ h => by cases r with | none => exact h.elim | some v => exact h) (λ _ _ x => x)
theorem yZ (hΓ : Γ.Nodup) {tg : List Nat} {target : Expr} {itv : Value} {its fp : List Addr} {items : List AV} {same : aa -> Prop} {P : List Addr -> Nat -> aO -> aa -> Heap -> Prop} {b : bq} {y : List Stmt} {Q : aA -> aj -> aa -> Prop} {X : AV -> aa -> Prop} {Q' : Flow -> Shared -> Prop} {E' : Value -> Shared -> Prop} {R : Result -> Shared -> Prop}
  (ihb : pz T K g Γ D A outer b) (htg : kK ⟨K, env.scope, Γ, D⟩ tg target = true) (hcb : eD ⟨K, env.scope, Γ, D⟩ b y = true) (eo : aX env F) (ow : yi outer env L₀ F) (ha : i7 A outer F) (st : St K g F φ σ s.heap) (hq : Ce K g Γ env L₀ F φ s Q Q') (hx : PX K g L₀ F φ s X E')
  (hp : PassesOwn (model K.prog K.w) A env E') (lp : Lp K A env Q' E' R) (hI : ql K g A its fp items same target itv P) (hn : ∀ b ∈ its, s.heap.get? b = none) {n : Nat} {s' : Shared} (I : CL T K g Γ env F L₀ φ s tg same items P b Q X n s') :
  yo K A target itv y [] env R (yr (CL T K g Γ env F L₀ φ s tg same items P b Q X) n) s' := by
 have gits : ∀ b ∈ its, g.get? b = none := λ b hb => st.baseFresh (hn b hb)
 cases I with | mk i ρ₂ σ₂ φ₂ h₂ t₂ e en hi hP₂ st₂ sp₂ lo₂ hf₂ =>
 rw [e, en]
 cases hV : items[i]? with
 | none =>
  have hi : i = items.length := Nat.le_antisymm hi (List.getElem?_eq_none_iff.mp hV)
  subst hi
  refine hI.done F φ₂ σ₂ _ _ _ hP₂ st₂ λ h₄ t₄ hk₄ hall₄ => ?_
  have z := Af hI hP₂ eo gits st₂ lo₂ hk₄
  rw [List.drop_length] at hf₂
  exact wpAny_execs_nil (lp.ok _ _ (hq .next _ σ₂ φ₂ h₄ t₄ .next hf₂.2 z.1 (sp₂.its hn hk₄ hall₄) z.2 rfl))
 | some V =>
  have hlt := (List.getElem?_eq_some_iff.mp hV).1
  rw [List.drop_eq_getElem_cons hlt, (List.getElem?_eq_some_iff.mp hV).2] at hf₂
  refine hf₂.2.elim λ ρ' hf₂ => BG (hI.next F i φ₂ σ₂ _ V _ _ hV hP₂ st₂ λ v h₄ t₄ rv hP₄ hk₄ => ?_)
  have z := Af hI hP₂ eo gits st₂ lo₂ hk₄
  have sp₄ := sp₂.its hn hk₄ (AJ hk₄)
  refine rV hΓ ha.hand htg bA eo (s := (up s h₄ t₄)) z.1 z.2 rv hf₂.1 λ h₅ t₅ st₅ sp₅ lo₅ => ?_
  have sp₅' : an L₀ φ₂ φ₂ h₄ h₅ := sp₅.mono λ a ha => List.mem_singleton.mp ha ▸ ow.loc
  refine lp.er (ihb env F L₀ _ ρ' σ₂ φ₂ (up s h₅ t₅) _ X _ E' hcb eo ow ha st₅ lo₅ hf₂.2 ?_ (hx.goL st (sp₄.trans sp₅') ow) hp)
  intro fl ρ₆ σ₆ φ₆ h₆ t₆ f hQ st₆ sp₆ lo₆ hff
  have spx := sp₅'.trans sp₆
  have sp₆' := sp₄.trans spx
  cases fl with
  | next =>
   have noL : ∀ {b}, ¬ bZ F φ₂ b -> ¬ bZ L₀ φ₂ b := λ n q => n (dF ow.sub q)
   exact hff ▸ ⟨items.length - (i + 1), by exact (lnr [_,_] [] 0x10A16190A101192) hlt, i + 1, ρ₆, σ₆, φ₆, h₆, t₆, rfl, rfl, hlt,
    hI.keep F F (i + 1) φ₂ σ₂ φ₆ σ₆ h₄ h₆ hP₄ (λ b hb o e => spx.chg b o e (noL (lX z.1 (hI.rcd _ _ _ _ _ hP₄ b hb)))) (λ n p e => spx.nth n p e) (λ b o e _ no => ⟨spx.chg b o e (noL no), spx.not_own e no⟩) (xv hQ), st₆, sp₆', lo₆, hQ⟩
  | brk => exact hff ▸ lp.ok _ _ (hq .next _ _ _ _ _ _ hQ st₆ sp₆' lo₆ rfl)
  | ret V => exact hff.elim λ v r => r.1 ▸ lp.ok _ _ (hq (.ret V) _ _ _ _ _ _ hQ st₆ sp₆' lo₆ ⟨v, rfl, r.2⟩)
theorem FW (hΓ : Γ.Nodup) {tg : List Nat} {it : MI} {b : bq} (ihi : PI T K g Γ D A outer it) (ihb : pz T K g Γ D A outer b) : PS T K g Γ D A outer (.forS tg it b) := by
 intro env F L₀ stm ρ σ φ s Q X Q' E' hc eo ow ha st lo hw hq hx hp
 apply uO hc; intro target iter y z p hc
 refine aS hc λ h0 hc => ?_
 apply bz h0
 have y1 := ab hc
 have y2 := ab y1.1
 have y3 := ab y2.1
 have ht : yn it target := by
  have hcm := y1.2
  cases it with
  | enum _ => exact bY hcm
  | _ => trivial
 refine wpAny_For (ihi env.scope env F iter target ρ σ φ s _ X _ E' y3.2 ht bA eo ha st lo hw ?_ hx.low) (lN y3.2 env)
 intro its fp itv P items same σ₁ φ₁ h₁ t₁ hQ hI hP hn hfp st₁ sp₁
 exact forLoop (CL T K g Γ env F L₀ φ s tg same items P b Q X) (λ n s' I => yZ hΓ ihb y3.1 y2.2 eo ow ha st hq hx hp (Cu hp) hI (λ b hb => (hn b hb).1) I) items.length ⟨0, ρ, σ₁, φ₁, h₁, t₁, rfl, rfl, Nat.zero_le _, hP, st₁, tR sp₁, lo.step K g st eo sp₁, hQ⟩
end
theorem o3 : ∀ {is : List Nat} {Vs : List AV} {ρ : aj} {i : Nat} {V : AV}, i ∉ is -> cV (ρ.set i (some V)) is Vs = (cV ρ is Vs).set i (some V)
 | [], Vs, ρ, i, V, _ => by cases Vs <;> rfl
 | j :: is, [], ρ, i, V, _ => rfl
 | j :: is, W :: Vs, ρ, i, V, h => by
  have hij : i ≠ j := λ q => h (q ▸ List.mem_cons_self)
  rw [cV, cV, List.set_comm _ _ hij]
  exact o3 λ q => h (List.mem_cons_of_mem _ q)
theorem l5 : ∀ {is : List Nat} {Vs : List AV} {ρ : aj} {i : Nat} {V : AV}, is.length = Vs.length -> cV ρ (is ++ [i]) (Vs ++ [V]) = (cV ρ is Vs).set i (some V)
 | [], [], ρ, i, V, _ => rfl
 | j :: is, W :: Vs, ρ, i, V, h => by
  rw [List.cons_append, List.cons_append, cV, cV]
  exact l5 (by simpa using h)
theorem o2 : ∀ {is : List Nat} {Vs : List AV} {ρ : aj}, is.Nodup -> is.length = Vs.length -> cV ρ is.reverse Vs.reverse = cV ρ is Vs
 | [], [], ρ, _, _ => rfl
 | i :: is, V :: Vs, ρ, hn, hl => by
  obtain ⟨h1, h2⟩ := List.nodup_cons.mp hn
  have hl : is.length = Vs.length := by simpa using hl
  rw [List.reverse_cons, List.reverse_cons, l5 (by simpa using hl), o2 h2 hl, cV, o3 h1]
theorem Ag : (λ | .Starred .. => true | _ => false : Expr -> Bool) = zi := by funext e; cases e <;> rfl
theorem kJ {p : Prop} [Decidable p] {a x : Option (Option (List Str))} {r : Option (List Str)} {c m : Sem (Option (List Str))} (h : (if p then a else x) = some r) (ka : a = some r -> c = pure r) (k : x = some r -> m = pure r) : (if p then c else m) = pure r :=
 if q : p then (if_pos q).trans (ka ((if_pos q).symm.trans h)) else (if_neg q).trans (k ((if_neg q).symm.trans h))
theorem kB {a r : Option (List Str)} (h : some a = some r) : (pure a : Sem (Option (List Str))) = pure r := congrArg pure (Option.some.inj h)
theorem pa {env : Env} {ts vs : List Expr} {k k' : Nat} {p p' : Pos} {r : Option (List Str)} (hk : env.scope.kind = .function) (h : gf env.scope ts vs = some r) :
  swappedStores [.Tuple ts k p] (.Tuple vs k' p') env = pure r := by
 have hn : (env.blockKind != .function) = false := by unfold Env.blockKind; rw [hk]; rfl
 unfold gf at h
 unfold swappedStores
 simp only [hn, Bool.or_false]
 rw [← Ag] at h
 exact kJ h kB λ h => kJ h kB λ h => kJ h kB λ h => kJ h kB λ h => kJ h (λ e => nomatch e) kB
section
variable {T : Fn -> ac} {K : Kx} {g : Heap} {mg mb : Str -> Option Value} {Γ : List Str} {D : List Fn} {A : Around} {outer : List Env} {k : Nat} {F L₀ : List Addr} {φ φ' : aO} {σ : aa} {s : Shared} {h h' : Heap} {t' : Nat} {env : Env} {ρ ρ' : aj} {E : Value -> Shared -> Prop}
noncomputable def CS (env : Env) (f : Value -> Sem Unit) (x : Str) : Prop := ∀ (M : Model) (A : Around) (E : Value -> Shared -> Prop) (v : Value) (s : Shared) (Q : Unit -> Shared -> Prop), wpAny M A (storeName env x v) Q E s -> wpAny M A (f v) Q E s
noncomputable def qp (env : Env) : List (Value -> Sem Unit) -> List (Str × Nat) -> Prop
 | fs, [] => fs = []
 | fs, p :: ps => ∃ f gs, fs = f :: gs ∧ CS env f p.1 ∧ qp env gs ps
structure tV (Γ : List Str) (sc : Scope) (p : Str × Nat) : Prop where
 pos : Γ[p.2]? = some p.1
 kind : sc.names.lookup p.1 = some .local ∨ sc.names.lookup p.1 = some .cell
theorem tI (hΓ : Γ.Nodup) (eo : aX env F) (ow : yi outer env L₀ F) {ps : List (Str × Nat)} : ∀ {fs : List (Value -> Sem Unit)} {Vs : List AV} {vs : List Value} {ρ : aj} {s : Shared} {Q : Unit -> Shared -> Prop}, qp env fs ps -> ps.length = Vs.length ->
  (∀ p ∈ ps, tV Γ env.scope p) -> St K g F φ σ s.heap -> dc K env Γ ρ F φ s.heap -> ao K s.heap F φ Vs vs ->
  (∀ h' t', St K g F φ σ h' -> an L₀ φ φ s.heap h' -> dc K env Γ (cV ρ (ps.map (·.2)) Vs) F φ h' -> Q () (up s h' t')) -> wpAny (model K.prog K.w) A (assignInOrder fs vs) Q E s := by
 induction ps with
 | nil =>
  intro fs Vs vs ρ s Q hs hl hp st lo r hq
  have e : Vs = [] := List.length_eq_zero_iff.mp hl.symm
  exact hs ▸ assignInOrder_nil (hq s.heap s.toks st (an.refl _ _ _) (e ▸ lo))
 | cons p ps ih =>
  intro fs Vs vs ρ s Q hs hl hp st lo r hq
  refine hs.elim λ f x => x.elim λ gs y => ?_
  cases Vs with
  | nil => exact nomatch hl
  | cons V Vs =>
   cases r with | mk v ws e r0 r =>
   have h0 := hp p List.mem_cons_self
   rw [y.1, e]
   exact assignInOrder_cons (y.2.1 _ _ _ _ _ _ (z0 hΓ eo ow h0.pos h0.kind st lo r0 λ h₁ t₁ st₁ sp₁ lo₁ => ih (s := (up s h₁ t₁)) y.2.2 (Nat.succ.inj hl) (λ q hq => hp q (List.mem_cons_of_mem _ hq)) st₁ lo₁ (an.repL K sp₁ ow.sub r) λ h₂ t₂ st₂ sp₂ lo₂ => hq h₂ t₂ st₂ (sp₁.trans sp₂) lo₂))
structure EW (cx : Cx) (env : Env) (is : List Nat) (ts : List Expr) (ps : List (Str × Nat)) : Prop where
 dup : is.Nodup
 idx : ps.map (·.2) = is
 sto : qp env ((assignEach ts env).map (·.2)) ps
 len : (assignEach ts env).length = ps.length
 no : (assignEach ts env).findIdx? (·.1) = none
 ok : ∀ p ∈ ps, tV cx.Γ cx.scope p
theorem BN {a b : Bool} {P Q : Prop} (h : (a || b) = true) (ka : a = true -> P) (kb : b = true -> Q) : P ∨ Q := ((Bool.or_eq_true _ _).mp h).imp ka kb
theorem Bf {α : Type} {p : α -> Bool} {a : α} {l : List α} (h : p a = false) (e : l.findIdx? p = none) : (a :: l).findIdx? p = none := by rw [List.findIdx?_cons, h, e]; rfl
theorem qi {cx : Cx} (env : Env) {is : List Nat} : ∀ {ts : List Expr}, pb cx is ts = true -> ∃ ps : List (Str × Nat), EW cx env is ts ps := by
 induction is with
 | nil =>
  intro ts h
  apply bz h
  exact ⟨[], .nil, rfl, rfl, rfl, rfl, λ p hp => nomatch hp⟩
 | cons i is ih =>
  intro ts h
  apply bu h; intro t ts h
  apply aP h; intro x pos h
  have y1 := ab h
  have y2 := ab y1.1
  have y3 := ab y2.1
  refine (ih y1.2).elim λ ps n => ⟨(x, i) :: ps, List.nodup_cons.mpr ⟨λ q => ?_, n.dup⟩, congrArg (i :: ·) n.idx, ⟨_, _, rfl, λ M A E v s Q h => wpAny_assign_Name h, n.sto⟩, congrArg (· + 1) n.len, Bf rfl n.no, λ p hp => (List.mem_cons.mp hp).elim (λ e => e ▸ ⟨eq_of_beq y3.1, BN y3.2 eq_of_beq eq_of_beq⟩) (n.ok p)⟩
  have z := y2.2
  rw [List.contains_iff_mem.mpr q] at z
  exact nomatch z
theorem yc {cx : Cx} {names : List Str} {is : List Nat} (h : ((names.zip is).all λ p => cx.Γ[p.2]? == some p.1 && cx.kind p.1 == some .local) = true) : ∀ p ∈ names.zip is, tV cx.Γ cx.scope p := λ p hp =>
 have y := ab (List.all_eq_true.mp h p hp)
 ⟨eq_of_beq y.1, .inl (eq_of_beq y.2)⟩
theorem l7 (env : Env) : ∀ ps : List (Str × Nat), qp env (ps.map λ p => bindName env p.1) ps
 | [] => rfl
 | p :: ps => ⟨_, _, rfl, λ M A E v s Q h => wpAny_bindName h, l7 env ps⟩
theorem Al {cx : Cx} {is : List Nat} {ts vs : List Expr} {P : Prop} (h : ve cx is ts vs = true) (k0 : gf cx.scope ts vs = some none -> P)
  (k1 : ∀ names, gf cx.scope ts vs = some (some names) -> names.length = is.length -> ((names.zip is).all λ p => cx.Γ[p.2]? == some p.1 && cx.kind p.1 == some .local) = true -> P) : P := by
 unfold ve at h
 revert h k0 k1
 generalize gf cx.scope ts vs = o
 intro h k0 k1
 cases o with
 | none => exact bY h
 | some o => cases o with
  | none => exact k0 rfl
  | some names => exact k1 names rfl (eq_of_beq (ab h).1) (ab h).2
theorem Em (hΓ : Γ.Nodup) {is : List Nat} {e : ME} (ih : PE T K g Γ D A outer e) : PS T K g Γ D A outer (.asgT is e) := by
 intro env F L₀ stm ρ σ φ s Q X Q' E' hc eo ow ha st lo hw hq hx hp
 have plain : ∀ {ts : List Expr} {n : Nat} {tp pos : Pos} {v : Expr}, aR ⟨K, env.scope, Γ, D⟩ e v = true -> pb ⟨K, env.scope, Γ, D⟩ is ts = true -> swapsWithSole [.Tuple ts n tp] v pos.line env = pure false -> swappedStores [.Tuple ts n tp] v env = pure none ->
   wpAny (model K.prog K.w) A (exec (.Assign [.Tuple ts n tp] v pos) env) Q' E' s := by
  intro ts n tp pos v h1 h2 h3 h4
  refine (qi env h2).elim λ ps nm => ?_
  refine Assign_Tuple (ih env.scope env F _ ρ σ φ s _ X _ E' h1 bA eo ha st lo hw ?_ hx.low) h3 h4
  intro V σ₁ φ₁ h₁ t₁ w hv st₁ sp₁
  refine hv.elim λ l y => y.1 ▸ λ r₁ => ?_
  have hl := y.2.1
  have hQ := y.2.2
  cases r₁ with | mk vs a e z ht no rl =>
   rw [e]
   have hsz : vs.size = l.length := Array.length_toList.symm.trans (ao.len rl)
   have hl' : ps.length = l.length := (List.length_map _).symm.trans ((congrArg List.length nm.idx).trans hl)
   refine assign_Tuple_tuple ha.hand ht (nm.len.trans (hl'.trans hsz.symm)) nm.no λ h₂ hs₂ => ?_
   have hk := gI hs₂
   have st₂ := St.keeps K g st₁ hk
   have sp₂ := an.kept (F₀ := []) φ₁ hk
   refine tI hΓ eo ow (s := (up s h₂ t₁)) nm.sto hl' nm.ok st₂ ((lo.step K g st eo sp₁).kept st₁ eo hk) (zT rl sp₂) λ h₃ t₃ st₃ sp₃ lo₃ => ?_
   exact hq .next _ σ₁ φ₁ h₃ t₃ .next hQ st₃ ((tR (sp₁.trans sp₂)).trans sp₃) (nm.idx ▸ lo₃) rfl
 have swapped : ∀ {ts : List Expr} {n : Nat} {tp pos : Pos} {v : Expr} {names : List Str}, aR ⟨K, env.scope, Γ, D⟩ e v = true -> pb ⟨K, env.scope, Γ, D⟩ is ts = true -> swapsWithSole [.Tuple ts n tp] v pos.line env = pure false -> swappedStores [.Tuple ts n tp] v env = pure (some names) ->
   names.length = is.length -> ((names.zip is).all λ p => Γ[p.2]? == some p.1 && env.scope.names.lookup p.1 == some .local) = true -> wpAny (model K.prog K.w) A (exec (.Assign [.Tuple ts n tp] v pos) env) Q' E' s := by
  intro ts n tp pos v names h1 h2 h3 h4 h5 h6
  have hn : is.Nodup := (qi env h2).elim λ _ n => n.dup
  refine Assign_Tuple_swapped (ih env.scope env F _ ρ σ φ s _ X _ E' h1 bA eo ha st lo hw ?_ hx.low) h3 h4
  intro V σ₁ φ₁ h₁ t₁ w hv st₁ sp₁
  refine hv.elim λ l y => y.1 ▸ λ r₁ => ?_
  have hl := y.2.1
  have hQ := y.2.2
  cases r₁ with | mk vs a e z ht no rl =>
   rw [e]
   have hsz : vs.size = l.length := Array.length_toList.symm.trans (ao.len rl)
   rw [h5, hl, ← hsz]
   refine unpackItems_tuple ha.hand ht λ h₂ hs₂ => ?_
   have hk := gI hs₂
   have st₂ := St.keeps K g st₁ hk
   have sp₂ := an.kept (F₀ := []) φ₁ hk
   have hps := yc (cx := ⟨K, env.scope, Γ, D⟩) h6
   have hz1 : (names.zip is).map (·.1) = names := List.map_fst_zip (Nat.le_of_eq h5)
   have hz2 : (names.zip is).map (·.2) = is := List.map_snd_zip (Nat.le_of_eq h5.symm)
   have hm : names.reverse.map (λ n => bindName env n) = (names.zip is).reverse.map λ p => bindName env p.1 := by
    conv => lhs; rw [← hz1]
    rw [← List.map_reverse, List.map_map]
    rfl
   rw [hm]
   refine tI hΓ eo ow (s := (up s h₂ t₁)) (l7 env _) (Vs := l.reverse) (by rw [List.length_reverse, List.length_reverse, List.length_zip, h5, hl, Nat.min_self]) (λ p hp => hps p (List.mem_reverse.mp hp)) st₂ ((lo.step K g st eo sp₁).kept st₁ eo hk) (ao.reverse (zT rl sp₂)) λ h₃ t₃ st₃ sp₃ lo₃ => ?_
   rw [List.map_reverse, hz2, o2 hn hl] at lo₃
   exact hq .next _ σ₁ φ₁ h₃ t₃ .next hQ st₃ ((tR (sp₁.trans sp₂)).trans sp₃) lo₃ rfl
 apply d3 hc; intro ts v p hc
 apply bk hc; intro t hc
 apply eh hc; intro ts n tp hc
 refine aS hc λ hc h4 => ?_
 refine aS hc λ hc h3 => ?_
 refine aS hc λ h1 h2 => ?_
 cases h5 : zF v with
 | true =>
  refine plain h2 h1 (by unfold swapsWithSole; exact qO h2 h3 _ _ _) ?_
  cases v <;> first | rfl | exact bY h5
 | false =>
  rw [h5, Bool.false_or] at h4
  exact eh (P := λ v => aR ⟨K, env.scope, Γ, D⟩ e v = true -> wpAny (model K.prog K.w) A (exec (.Assign [.Tuple ts n tp] v p) env) Q' E' s) h4 (λ vs k q h4 h2 => Al (ab h4).2 (λ hs => plain h2 h1 rfl (pa eo.kind hs)) λ names hs h6 h7 => swapped h2 h1 rfl (pa eo.kind hs) h6 h7) h2
end
section
variable {T : Fn -> ac} {K : Kx} {g : Heap} {mg mb : Str -> Option Value} {Γ : List Str} {D : List Fn} {A : Around} {outer : List Env} {k : Nat}
mutual
theorem Ep (H : aF T K g mg mb D k) (hΓ : Γ.Nodup) (hR : cR (k + 1) A) (hr : ∀ w a, PS T K g Γ D A outer (.raise w a)) (hh : ∀ es op b x y, pz T K g Γ D A outer x -> pz T K g Γ D A outer y -> PS T K g Γ D A outer (.ifHeard es op b x y)) (hh' : ∀ es op b, PS T K g Γ D A outer (.retHeard es op b)) : ∀ m : MS, PS T K g Γ D A outer m
 | .asg i e => FU hΓ (aw H hΓ hR e).1 λ elt _ it test _ => ⟨(aw H hΓ hR elt).1, u7 H hΓ hR it, (rC H hΓ hR test).2⟩
 | .asgT is e => Em hΓ (aw H hΓ hR e).1
 | .asgA f o e => Ek H (aw H hΓ hR o).1 (aw H hΓ hR e).1
 | .exprS e => BV (aw H hΓ hR e).1
 | .ifS t a b => Hd (aw H hΓ hR t).2 (fJ H hΓ hR hr hh hh' a) (fJ H hΓ hR hr hh hh' b)
 | .while t b => BX (aw H hΓ hR t).2 (fJ H hΓ hR hr hh hh' b)
 | .forS tg it b => FW hΓ (u7 H hΓ hR it) (fJ H hΓ hR hr hh hh' b)
 | .ret e => FX (aw H hΓ hR e).1
 | .raise w a => hr w a
 | .brk => FV
 | .tryTold e => λ env F L₀ stm ρ σ φ s Q X Q' E' hc => bY hc
 | .ifHeard es op b x y => hh es op b x y (fJ H hΓ hR hr hh hh' x) (fJ H hΓ hR hr hh hh' y)
 | .retHeard es op b => hh' es op b
theorem fJ (H : aF T K g mg mb D k) (hΓ : Γ.Nodup) (hR : cR (k + 1) A) (hr : ∀ w a, PS T K g Γ D A outer (.raise w a)) (hh : ∀ es op b x y, pz T K g Γ D A outer x -> pz T K g Γ D A outer y -> PS T K g Γ D A outer (.ifHeard es op b x y)) (hh' : ∀ es op b, PS T K g Γ D A outer (.retHeard es op b)) : ∀ ms : bq, pz T K g Γ D A outer ms
 | .nil => Es
 | .cons m ms => B1 (Ep H hΓ hR hr hh hh' m) (fJ H hΓ hR hr hh hh' ms)
end
end
theorem og {α β : Type} [BEq α] [LawfulBEq α] : ∀ {ns : List α} {vs : List β} {n : α}, ns.length = vs.length -> n ∈ ns -> ((ns.zip vs).lookup n).isSome = true
 | [], _, _, _, h => nomatch h
 | a :: ns, [], _, hl, _ => by cases hl
 | a :: ns, v :: vs, n, hl, h => by
  rw [List.zip_cons_cons, List.lookup_cons]
  split
  ·rfl
  ·rename_i q
   refine og (by simpa using hl) ?_
   rcases List.mem_cons.mp h with rfl | h
   ·simp at q
   ·exact h
theorem jr {α β : Type} [BEq α] [LawfulBEq α] : ∀ {ns : List α} {vs : List β}, ns.Nodup -> ns.length = vs.length -> ns.filterMap (λ n => ((ns.zip vs).lookup n).map λ x => (n, x)) = ns.zip vs
 | [], [], _, _ => rfl
 | a :: ns, v :: vs, hn, hl => by
  obtain ⟨h1, h2⟩ := List.nodup_cons.mp hn
  rw [List.zip_cons_cons, List.filterMap_cons]
  simp only [List.lookup_cons, beq_self_eq_true, Option.map_some]
  congr 1
  have ih := jr h2 (show ns.length = vs.length by simpa using hl)
  refine Eq.trans ?_ ih
  have key : ∀ l : List α, (∀ n ∈ l, n ≠ a) -> l.filterMap (λ n => Option.map (λ x => (n, x)) (match n == a with | true => some v | false => (ns.zip vs).lookup n)) = l.filterMap (λ n => ((ns.zip vs).lookup n).map λ x => (n, x)) := by
   intro l hl
   induction l with
   | nil => rfl
   | cons n l ih =>
    have : (n == a) = false := beq_eq_false_iff_ne.mpr (hl n List.mem_cons_self)
    rw [List.filterMap_cons, List.filterMap_cons, this, ih λ m hm => hl m (List.mem_cons_of_mem _ hm)]
  exact key ns λ n hm q => h1 (q ▸ hm)
theorem BI {o : Option Value} (h : o.isSome = true) (z : o.isNone = true) : False := by cases o; exact bY h; exact bY z
theorem zG {l : List Str} (h : l = []) : ¬ (!l.isEmpty) = true := by rw [h]; exact λ z => bY z
theorem lJ {fd : FuncData} {vals : List Value} (h1 : fd.params.posonlyargs = []) (h2 : fd.params.vararg = none) (h3 : fd.params.kwonlyargs = []) (h4 : fd.params.kwarg = none) (h5 : fd.defaults = .none)
  (hn : (fd.params.args.map (·.arg)).Nodup) (hl : (fd.params.args.map (·.arg)).length = vals.length) : bindArgs fd ⟨vals, []⟩ = pure ((fd.params.args.map (·.arg)).zip vals) := by
 obtain ⟨name, qn, ps, bd, sc, gl, cl, df, kd⟩ := fd
 obtain ⟨po, as, va, ko⟩ := ps
 dsimp only at h1 h2 h3 h4 h5 hn hl ⊢
 subst h1 h2 h3 h4 h5
 have m : ∀ k, ((List.take k (as.map (·.arg))).filter λ n => (((as.map (·.arg)).zip vals).lookup n).isNone) = [] := λ k => List.filter_eq_nil_iff.mpr λ n hm z => BI (og hl (List.mem_of_mem_take hm)) z
 refine Eq.trans (b := if (decide (vals.length > (as.map (·.arg)).length) && true) = true then _ else _) rfl ?_
 refine (if_neg λ z => Nat.lt_irrefl _ (hl ▸ of_decide_eq_true (ab z).1)).trans ?_
 refine (if_neg (zG (m _))).trans ?_
 refine Eq.trans (b := (do let r ← forIn ((List.drop ((as.map (·.arg)).length - (List.drop (0 - (as.map (·.arg)).length) ([] : List Value)).length) (as.map (·.arg))).zip (List.drop (0 - (as.map (·.arg)).length) ([] : List Value))) _ _; _)) rfl ?_
 rw [List.drop_nil, List.zip_nil_right]
 refine Eq.trans (b := pure (((as.map λ x : Arg => x.arg) ++ []).filterMap λ n => (((as.map λ x : Arg => x.arg).zip vals).lookup n).map λ x => (n, x))) rfl ?_
 rw [List.append_nil, jr hn hl]
theorem dZ : ∀ {names : List (Str × NameKind)} {n : Nat} {acc : List (Str × Addr)} {x : Str}, ((x, NameKind.cell) ∈ names ∨ (acc.lookup x).isSome = true) -> ((cellsFrom n names acc).lookup x).isSome = true
 | [], _, _, _, h => h.elim (λ q => nomatch q) id
 | (y, kd) :: r, n, acc, x, h => by
  rw [cellsFrom]
  by_cases hk : (kd == NameKind.cell) = true
  ·rw [if_pos hk]
   refine dZ ?_
   rcases h with h | h
   ·rcases List.mem_cons.mp h with h | h
    ·cases h; right; simp [List.lookup_cons]
    ·exact .inl h
   ·right
    rw [List.lookup_cons]
    split
    ·rfl
    ·exact h
  ·rw [if_neg hk]
   refine dZ ?_
   rcases h with h | h
   ·rcases List.mem_cons.mp h with h | h
    ·cases h; exact absurd rfl hk
    ·exact .inl h
   ·exact .inr h
noncomputable def bo (fd : FuncData) : List Str := fd.params.args.map (·.arg)
noncomputable def DQ (K : Kx) (fd : FuncData) (Γ : List Str) (n : Nat) : Bool :=
 fd.closure.isEmpty && (fd.globals == mainGlobals) && (fd.builtins == builtinsNs) && (fd.scope.kind == .function) && !fd.scope.isCoroutine && !fd.scope.isGenerator && fd.params.posonlyargs.isEmpty && fd.params.vararg.isNone &&
 fd.params.kwonlyargs.isEmpty && fd.params.kwarg.isNone && (fd.defaults == .none) && (bo fd == Γ.take n) && decide (n ≤ Γ.length) && decide Γ.Nodup && codeIn K.frag fd.code fd.qualname &&
 ((bo fd).all λ x => fd.scope.names.lookup x == some .local || fd.scope.names.lookup x == some .cell)
structure EC (fd : FuncData) (Γ : List Str) (n : Nat) : Prop where
 c1 : fd.closure = []
 c2 : fd.globals = mainGlobals
 c3 : fd.builtins = builtinsNs
 c4 : fd.scope.kind = .function
 c5 : fd.scope.isCoroutine = false
 c6 : fd.scope.isGenerator = false
 c7 : fd.params.posonlyargs = []
 c8 : fd.params.vararg = none
 c9 : fd.params.kwonlyargs = []
 c10 : fd.params.kwarg = none
 c11 : fd.defaults = .none
 c12 : bo fd = Γ.take n
 c13 : n ≤ Γ.length
 c14 : Γ.Nodup
 c16 : ∀ x ∈ bo fd, fd.scope.names.lookup x = some .local ∨ fd.scope.names.lookup x = some .cell
theorem qP {b : Bool} (h : (!b) = true) : b = false := (Bool.not_eq_true' _).mp h
theorem GT {K : Kx} {fd : FuncData} {Γ : List Str} {n : Nat} (h : DQ K fd Γ n = true) : EC fd Γ n ∧ codeIn K.frag fd.code fd.qualname = true :=
 have x16 := ab h
 have x15 := ab x16.1
 have x14 := ab x15.1
 have x13 := ab x14.1
 have x12 := ab x13.1
 have x11 := ab x12.1
 have x10 := ab x11.1
 have x9 := ab x10.1
 have x8 := ab x9.1
 have x7 := ab x8.1
 have x6 := ab x7.1
 have x5 := ab x6.1
 have x4 := ab x5.1
 have x3 := ab x4.1
 have x2 := ab x3.1
 ⟨⟨List.isEmpty_iff.mp x2.1, eq_of_beq x2.2, eq_of_beq x3.2, eq_of_beq x4.2, qP x5.2, qP x6.2, List.isEmpty_iff.mp x7.2, Option.isNone_iff_eq_none.mp x8.2, List.isEmpty_iff.mp x9.2, Option.isNone_iff_eq_none.mp x10.2, eq_of_beq x11.2, eq_of_beq x12.2, of_decide_eq_true x13.2, of_decide_eq_true x14.2,
  λ x hx => ((Bool.or_eq_true _ _).mp (List.all_eq_true.mp x16.2 x hx)).imp eq_of_beq eq_of_beq⟩, x15.2⟩
noncomputable def fnB (K : Kx) (Γ : List Str) (n : Nat) (b : Scope -> List Stmt -> Bool) (fd : FuncData) : Bool := DQ K fd Γ n && match fd.body with
 | .stmts body => b fd.scope body
 | _ => false
noncomputable def fnO (k : FuncData -> Bool) : Option Obj -> Bool
 | some ⟨_, _, .func fd, _⟩ => k fd
 | _ => false
noncomputable def FF (K : Kx) (f : Fn) (Γ : List Str) (n : Nat) (b : Scope -> List Stmt -> Bool) : Bool :=
 (bg K f).elim false λ a => keepIn K.frag (.ref a) && fnO (fnB K Γ n b) (K.frag.lookup a)
structure FnP (K : Kx) (Γ : List Str) (n : Nat) (b : Scope -> List Stmt -> Bool) (a : Addr) (oc : Value) (od : Option Addr) (fd : FuncData) (osl : Array (Option Value)) (body : List Stmt) : Prop where
 look : K.frag.lookup a = some ⟨oc, od, .func fd, osl⟩
 hd : EC fd Γ n
 code : codeIn K.frag fd.code fd.qualname = true
 bd : fd.body = .stmts body
 ok : b fd.scope body = true
theorem qE {K : Kx} {f : Fn} {Γ : List Str} {n : Nat} {b : Scope -> List Stmt -> Bool} (hc : FF K f Γ n b = true) : ∃ a, bg K f = some a ∧ keepIn K.frag (.ref a) = true ∧ ∃ oc od fd osl body, FnP K Γ n b a oc od fd osl body := by
 unfold FF at hc
 cases haddr : bg K f with
 | none => rw [haddr] at hc; exact bY hc
 | some a =>
  rw [haddr] at hc
  have y1 := ab hc
  have hc := y1.2
  refine ⟨a, rfl, y1.1, ?_⟩
  cases hl : K.frag.lookup a with
  | none => rw [hl] at hc; exact bY hc
  | some o =>
   rw [hl] at hc
   obtain ⟨oc, od, dt, osl⟩ := o
   cases dt <;> first | exact bY hc | skip
   rename_i fd
   have y2 := ab hc
   have hc := y2.2
   cases hb : fd.body with
   | expr _ => rw [hb] at hc; exact bY hc
   | stmts body => rw [hb] at hc; exact ⟨oc, od, fd, osl, body, hl, (GT y2.1).1, (GT y2.1).2, hb, hc⟩
noncomputable def aN (K : Kx) (f : Fn) (Γ : List Str) (n : Nat) (ms : bq) (D : List Fn) : Bool := FF K f Γ n λ sc b => eD ⟨K, sc, Γ, D⟩ ms b
section
variable {T : Fn -> ac} {K : Kx} {g : Heap} {mg mb : Str -> Option Value} {Γ : List Str} {D : List Fn} {A : Around} {outer : List Env} {k : Nat} {F F' L₀ : List Addr} {φ φ' : aO} {σ : aa} {s s₁ : Shared} {h h' : Heap} {t' : Nat} {env : Env} {ρ ρ' : aj} {E : Value -> Shared -> Prop}
theorem wQ {Cs : List Addr} {a : Addr} (q : bZ (Cs ++ F) φ a) : a ∈ Cs ∨ bZ F φ a := q.elim (λ q => (List.mem_append.mp q).imp id .inl) λ q => .inr (.inr q)
theorem wD {Cs : List Addr} (hk : ∀ b o, h.get? b = some o -> h'.get? b = some o) (hC : ∀ C ∈ Cs, h.get? C = none) : rQ h F φ h' (Cs ++ F) φ := λ a o e _ no => ⟨hk a o e, λ q => (wQ q).elim (λ q => av e (hC a q)) no⟩
theorem St.enterAll {Cs : List Addr} (st : St K g F φ σ h) (hk : ∀ b o, h.get? b = some o -> h'.get? b = some o) (hC : ∀ C ∈ Cs, h.get? C = none ∧ ∃ o, h'.get? C = some o ∧ NR o) : St K g (Cs ++ F) φ σ h' :=
 St.map K g st (λ b o e => hk b o (st.keep b o e)) (λ a o e n _ => wD hk (λ C q => (hC C q).1) a o e n) (λ a o _ e _ => hk a o e) λ a ha => (List.mem_append.mp ha).elim
  (λ q => ⟨st.baseFresh (hC a q).1, (hC a q).2, λ z => st.fresh (hC a q).1 (dF cf z)⟩) (St.frOK K g st (λ a _ o e _ => hk a o e) a)
theorem xo {Cs : List Addr} (hk : ∀ b o, h.get? b = some o -> h'.get? b = some o) (hC : ∀ C ∈ Cs, h.get? C = none) {V : List AV} {v : List Value} (r : ao K h F φ V v) : ao K h' (Cs ++ F) φ V v :=
 ao.mono K (wD hk hC) (λ _ _ e => e) r
theorem wE (sub : ∀ a ∈ F, a ∈ F') : rQ h F' φ h F φ := λ a o e _ no => ⟨e, λ q => no (dF sub q)⟩
theorem sT (sub : ∀ a ∈ F, a ∈ F') {V : AV} {v : Value} (r : aM K h F' φ V v) : aM K h F φ V v := aM.mono K (wE sub) (λ _ _ e => e) r
theorem St.leave (st : St K g F' φ σ h) (sub : ∀ a ∈ F, a ∈ F') : St K g F φ σ h :=
 St.map K g st st.keep (λ a o e n _ => wE sub a o e n) (λ a o _ e _ => e) λ a ha => St.frOK K g st (λ a _ o e _ => e) a (sub a ha)
theorem eG.back {h₀ : Heap} (x : eG φ φ' h) (hk : ∀ b o, h₀.get? b = some o -> h.get? b = some o) : eG φ φ' h₀ :=
 eG.casesOn (motive := λ _ => eG φ φ' h₀) x λ ψ e y => ⟨ψ, e, λ p hp => ⟨cJ hk _ (y p hp).1, cJ hk _ (y p hp).2⟩⟩
theorem an.leave (sp : an L₀ φ φ' h h') {h₀ : Heap} (hk : ∀ b o, h₀.get? b = some o -> h.get? b = some o) (hL : ∀ a ∈ L₀, h₀.get? a = none) : an [] φ φ' h₀ h' :=
 ⟨sp.grow.back hk, λ a o e no => sp.chg a o (hk a o e) λ q => q.elim (λ q => av e (hL a q)) λ q => no (.inr q), λ a e => cJ hk a (sp.all a e)⟩
end
structure rR (g h₀ : Heap) (l : List Env) (e : Addr) (oe : Obj) (h h' : Heap) : Prop where
 exc : ∃ vs', h'.get? e = some { oe with data := .fields vs' } ∧ 1 < vs'.size ∧ rS h₀ h' e vs'
 old : ∀ b o, h₀.get? b ≠ none -> b ∉ l.filterMap (·.frame) -> h.get? b = some o -> h'.get? b = some o
 same : ∀ b o, NR o -> b ∉ l.filterMap (·.frame) -> h.get? b = some o -> h'.get? b = some o
 slots : ∀ b o, NR o -> h.get? b = some o -> ∃ sl, h'.get? b = some { o with slots := sl }
 base : ∀ b o, g.get? b = some o -> h.get? b = some o -> h'.get? b = some o
 all : ∀ a, h'.get? a = none -> h.get? a = none
section
variable {M : Model} {A : Around} {E : Value -> Shared -> Prop} {s : Shared} {g h₀ : Heap}
theorem ei {h : Heap} {a b : Addr} {f : Array Value -> Array Value} {o : Obj} {vs : Array Value} (ho : h.get? a = some o) (hd : o.data = .fields vs) (hb : (h.update a (Obj.mapFields f)).get? b = none) : h.get? b = none := by
 by_cases q : a = b
 ·subst q
  rw [Heap.get?_update_self _ ho (Obj.isFreed_of_fields (Obj.data_mapFields hd _))] at hb; cases hb
 ·rwa [Heap.get?_update_other _ _ q] at hb
theorem yL {env : Env} {outer : List Env} {L e : Addr} {oe : Obj} {vs : Array Value} {head : Value} {hadNext : Bool} {Q : Unit -> Shared -> Prop}
  (hfr : A.frames = some (env :: outer)) (hl : s.heap.FunFrames g (env :: outer)) (hf : env.frame = some L)
  (he : s.heap.get? e = some oe) (hkb : g.StaysIn s.heap) (hall : ∀ a, s.heap.get? a = none -> h₀.get? a = none) (hg0 : ∀ a, h₀.get? a = none -> g.get? a = none) (hen : h₀.get? e = none) (hd : oe.data = .fields vs) (hsz : 1 < vs.size)
  (h : ∀ h', rR g h₀ (env :: outer) e oe s.heap h' -> Q () { s with heap := h' }) :
  wpAny M A (do let a ← frameOf env; let pl ← entryPlaceOf L hadNext; let b ← EntryCells.newEntry head a .none (rawInt L) .none pl; PySem.setField (.ref e) 1 b) (λ _ s' => wpAny M A (setFlight (.ref e) none) Q E s') E s := by
 have hene : e ∉ (env :: outer).filterMap (·.frame) := λ hm => by
  obtain ⟨_, o, ho, hnf⟩ := hl.mem hm
  rw [he] at ho; injection ho with ho; subst ho; exact hnf vs hd
 refine wpAny_bind (wpAny_frameOf_fun hfr hl hf λ h₁ hs₁ => ?_)
 refine wpAny_bind (wpAny_entryPlaceOf λ pl hpl => ?_)
 unfold EntryCells.newEntry newFields
 refine wpAny_bind (wpAny_newObj_type ?_ (hpl.sizeOk5 _ _ _ _ _))
 have he₁ : h₁.get? e = some oe := (hs₁.2.1 e hene).trans he
 have kb₁ : g.StaysIn h₁ := λ b o hbo => (hs₁.2.1 b λ hm => by rw [(hl.mem hm).1] at hbo; cases hbo).trans (hkb b o hbo)
 have hd₁ : ∀ a, h₁.get? a = none -> s.heap.get? a = none := λ a q => by
  cases z : s.heap.get? a with
  | none => rfl
  | some o => obtain ⟨sl, hs⟩ := hs₁.2.2 a o z; rw [hs] at q; cases q
 have he₂ := Heap.get?_push_of_some (h := h₁) { cls := .type "traceback", dict := none, data := .fields ([head, Value.ref L, Value.none, rawInt L, Value.none] ++ (if pl.isEmpty then List.replicate 6 Value.none else pl)).toArray } he₁
 refine wpAny_setField he₂ hd hsz ?_
 have hTe : h₁.objs.size ≠ e := Nat.ne_of_gt (Heap.lt_size he₁)
 have hd₃ := Obj.data_mapFields hd (·.setIfInBounds 1 (Value.ref h₁.objs.size))
 have he₃ := Heap.get?_update_self (Obj.mapFields (·.setIfInBounds 1 (Value.ref h₁.objs.size))) he₂ (Obj.isFreed_of_fields hd₃)
 have hT₃ := (Heap.get?_update_other (h₁.push { cls := .type "traceback", dict := none, data := .fields ([head, Value.ref L, Value.none, rawInt L, Value.none] ++ (if pl.isEmpty then List.replicate 6 Value.none else pl)).toArray })
  (Obj.mapFields (·.setIfInBounds 1 (Value.ref h₁.objs.size))) (Ne.symm hTe)).trans (Heap.get?_push_size h₁ rfl)
 unfold setFlight
 refine wpAny_bind (wpAny_field he₃ hd₃ (x := .ref h₁.objs.size) (by simp [hsz]) ?_)
 rw [if_pos (show (Value.ref h₁.objs.size != Value.none) = true from by simp)]
 refine wpAny_setField hT₃ rfl (by simp only [List.size_toArray, List.length_append, List.length_cons, List.length_nil] <;> exact (lnr [_] [] 0x01616161616069999993611)) (h _ ?_)
 have keep : ∀ b o, b ≠ e -> h₁.get? b = some o ->
   (((h₁.push { cls := .type "traceback", dict := none, data := .fields ([head, Value.ref L, Value.none, rawInt L, Value.none] ++ (if pl.isEmpty then List.replicate 6 Value.none else pl)).toArray }).update e (Obj.mapFields (·.setIfInBounds 1 (Value.ref h₁.objs.size)))).update h₁.objs.size
    (Obj.mapFields (·.setIfInBounds 3 ((none : Option Addr).elim Value.none λ f => rawInt f)))).get? b = some o := λ b o hbe hb => by
  have hbT : h₁.objs.size ≠ b := Nat.ne_of_gt (Heap.lt_size hb)
  rw [Heap.get?_update_other _ _ hbT, Heap.get?_update_other _ _ (Ne.symm hbe)]
  exact Heap.get?_push_of_some _ hb
 have noRecord : ∀ b o, s.heap.get? b = some o -> NR o -> b ≠ e := λ b o hb hnf q => by
  rw [q, he] at hb; injection hb with hb; subst hb; exact hnf vs hd
 refine ⟨?_, λ b o h0 hb hbo => keep b o (λ q => h0 (q ▸ hen)) ((hs₁.2.1 b hb).trans hbo), λ b o hnf hb hbo => ?_, λ b o hnf hb => ?_, λ b o hg hb => ?_, λ a ha => ?_⟩
 ·obtain ⟨cls, dict, data, slots⟩ := oe
  simp only at hd
  subst hd
  refine ⟨vs.setIfInBounds 1 (Value.ref h₁.objs.size), ?_, by simpa using hsz, .inr ⟨h₁.objs.size, _, _, by simp [hsz], hall _ (hd₁ _ (bp h₁)), hTe, Heap.get?_update_self _ hT₃ (Obj.isFreed_of_fields (Obj.data_mapFields rfl _)), Obj.data_mapFields rfl _, by first | (simp; done) | (rcases hpl with rfl | ⟨_, _, _, _, _, _, _, rfl⟩ <;> simp)⟩⟩
  rw [Heap.get?_update_other _ _ hTe]; exact he₃
 ·exact keep b o (noRecord b o hbo hnf) ((hs₁.2.1 b hb).trans hbo)
 ·obtain ⟨sl, hs⟩ := hs₁.2.2 b o hb
  exact ⟨sl, keep b _ (noRecord b o hb hnf) hs⟩
 ·exact keep b o (λ q => by rw [q, hg0 _ hen] at hg; cases hg) (kb₁ b o hg)
 ·have h3 := ei hT₃ rfl ha
  have h2 := ei he₂ hd h3
  have h1 : h₁.get? a = none := cJ (λ _ _ e => Heap.get?_push_of_some _ e) a h2
  cases q : s.heap.get? a with
  | none => rfl
  | some o =>
   obtain ⟨sl, e'⟩ := hs₁.2.2 a o q
   rw [h1] at e'; cases e'
theorem Ct {env : Env} {outer : List Env} {L e : Addr} {oe : Obj} {vs : Array Value} {Q : Unit -> Shared -> Prop}
  (hfr : A.frames = some (env :: outer)) (hl : s.heap.FunFrames g (env :: outer)) (hf : env.frame = some L)
  (he : s.heap.get? e = some oe) (hkb : g.StaysIn s.heap) (hall : ∀ a, s.heap.get? a = none -> h₀.get? a = none) (hg0 : ∀ a, h₀.get? a = none -> g.get? a = none) (hen : h₀.get? e = none) (hd : oe.data = .fields vs) (hsz : 1 < vs.size) (htb : rS h₀ s.heap e vs)
  (h : ∀ h', rR g h₀ (env :: outer) e oe s.heap h' -> Q () { s with heap := h' }) : wpAny M A (noteFrame (.ref e) env) (λ _ s' => wpAny M A (setFlight (.ref e) none) Q E s') E s := by
 rcases htb with h1 | ⟨T, oT, ts, h1, hnT, hTe, hT, hdT, h3⟩
 ·unfold noteFrame
  simp only [hf]
  refine wpAny_bind (wpAny_field he hd h1 ?_)
  rw [if_neg (by decide)]
  exact yL hfr hl hf he hkb hall hg0 hen hd hsz h
 ·unfold noteFrame
  simp only [hf]
  refine wpAny_bind (wpAny_field he hd h1 ?_)
  rw [if_pos (show (Value.ref T != Value.none) = true from by simp)]
  refine wpAny_bind (wpAny_field hT hdT h3 ?_)
  rw [if_neg (show ¬ ((Value.none == rawInt L) = true) from by simp [rawInt])]
  refine wpAny_bind (wpAny_setField hT hdT (Array.getElem?_eq_some_iff.mp h3).1 ?_)
  have other : ∀ b, b ≠ T -> (s.heap.update T (Obj.mapFields (·.setIfInBounds 3 Value.none))).get? b = s.heap.get? b := λ b hb => Heap.get?_update_other _ _ (Ne.symm hb)
  have noRecord : ∀ b o, s.heap.get? b = some o -> NR o -> b ≠ T := λ b o hb hnf q => by
   rw [q, hT] at hb; injection hb with hb; subst hb; exact hnf ts hdT
  refine yL (s := { s with heap := s.heap.update T (Obj.mapFields (·.setIfInBounds 3 Value.none)) }) hfr (hl.of_keeps λ b o hb hnf => ⟨o, (other b (noRecord b o hb hnf)).trans hb, rfl⟩) hf ((other e (Ne.symm hTe)).trans he)
   (λ b o hbo => (other b λ q => by rw [q, hg0 _ hnT] at hbo; cases hbo).trans (hkb b o hbo)) (λ a q => hall a (ei hT hdT q)) hg0 hen hd hsz
   λ h' X => h h' ⟨X.exc, λ b o h0 hb hbo => X.old b o h0 hb ((other b λ q => h0 (q ▸ hnT)).trans hbo), λ b o n hb hbo => X.same b o n hb ((other b (noRecord b o hbo n)).trans hbo), λ b o n hb => X.slots b o n ((other b (noRecord b o hb n)).trans hb), λ b o hg hb => X.base b o hg ((other b λ q => by rw [q, hg0 _ hnT] at hg; cases hg).trans hb), λ a ha => ei hT hdT (X.all a ha)⟩
theorem zo {env : Env} {outer : List Env} {L e : Addr} {oe : Obj} {vs : Array Value} {Q : Unit -> Shared -> Prop}
  (hfr : A.frames = some (env :: outer)) (hl : s.heap.FunFrames g (env :: outer)) (hf : env.frame = some L)
  (he : s.heap.get? e = some oe) (hkb : g.StaysIn s.heap) (hall : ∀ a, s.heap.get? a = none -> h₀.get? a = none) (hg0 : ∀ a, h₀.get? a = none -> g.get? a = none) (hen : h₀.get? e = none) (hd : oe.data = .fields vs) (hsz : 1 < vs.size) (htb : rS h₀ s.heap e vs)
  (h : ∀ h', rR g h₀ (env :: outer) e oe s.heap h' -> Q () { s with heap := h' }) : wpAny M A (leaving env (.ref e)) Q E s := by
 unfold leaving
 exact wpAny_bind (Ct hfr hl hf he hkb hall hg0 hen hd hsz htb h)
end
section
variable {T : Fn -> ac} {K : Kx} {g : Heap} {mg mb : Str -> Option Value} {Γ : List Str} {D : List Fn} {A : Around} {outer : List Env} {k : Nat} {F F' L₀ : List Addr} {φ φ' : aO} {σ : aa} {s s₁ : Shared} {h h' : Heap} {t' : Nat} {env : Env} {ρ ρ' : aj} {E : Value -> Shared -> Prop}
theorem j6 {l : List Env} (st : St K g F φ σ h) (hl : ∀ env ∈ l, env.scope.kind ≠ .module ∧ ∃ L ∈ F, env.frame = some L) : h.FunFrames g l := by
 induction l with
 | nil => trivial
 | cons env l ih =>
  obtain ⟨hk, L, hL, hf⟩ := hl env List.mem_cons_self
  obtain ⟨o, e, n⟩ := st.fr L hL
  exact ⟨hk, ⟨L, o, hf, st.off L (.inl hL), e, n⟩, ih λ env he => hl env (List.mem_cons_of_mem _ he)⟩
theorem pK {l : List Env} (hl : ∀ env ∈ l, env.scope.kind ≠ .module ∧ ∃ L ∈ F, env.frame = some L) : ∀ b ∈ l.filterMap (·.frame), b ∈ F := λ b hb => by
 obtain ⟨env, he, q⟩ := List.mem_filterMap.mp hb
 obtain ⟨_, L, hL, hf⟩ := hl env he
 rw [hf] at q; cases q; exact hL
theorem rR.st {l : List Env} {e : Addr} {oe : Obj} {h₀ : Heap} (X : rR g h₀ l e oe h h') (st : St K g F φ σ h) (hl : ∀ b ∈ l.filterMap (·.frame), b ∈ F) : St K g F φ σ h' := by
 have keep : ∀ b o, NR o -> b ∉ F -> h.get? b = some o -> h'.get? b = some o := λ b o n hb e => X.same b o n (λ q => hb (hl b q)) e
 have up : ∀ a o, h.get? a = some o -> NR o -> ¬ bZ F φ a -> h'.get? a = some o ∧ ¬ bZ F φ a := λ a o e n no => ⟨keep a o n (λ q => no (.inl q)) e, no⟩
 refine ⟨λ b o e => X.base b o e (st.keep b o e), st.off, st.dis, st.offF, st.len, λ n c p e1 e2 => ?_, λ a q z => st.bound a q (X.all a z), λ a ha => ?_⟩
 ·have q := st.cell n c p e1 e2
  have hp := st.offF p (List.mem_of_getElem? e2)
  cases c with
  | list l =>
   obtain ⟨q1, vs, ⟨m, q2⟩, r⟩ := q
   exact ⟨q1, vs, ⟨m, keep _ _ (.seq rfl) hp.1 q2⟩, ao.mono K up (λ _ _ e => e) r⟩
  | inst c vs =>
   obtain ⟨q0, C', es, n, q1, q2, q3, q4, r⟩ := q
   exact ⟨q0, C', es, n, q1, keep _ _ (λ _ z => by cases z) hp.1 q2, keep _ _ (.dict rfl) hp.2 q3, q4, ao.mono K up (λ _ _ e => e) r⟩
 ·obtain ⟨o, e, n⟩ := st.fr a ha
  obtain ⟨sl, e'⟩ := X.slots a o n e
  exact ⟨_, e', n⟩
theorem zQ {L : Addr} {X : AV -> aa -> Prop} {E' : Value -> Shared -> Prop} (act : i7 A outer F) (hf : env.frame = some L) (hk : env.scope.kind = .function) (hL : L ∈ L₀) {h₁ : Heap} {t₁ : Nat} (hk1 : ∀ b o, s.heap.get? b = some o -> h₁.get? b = some o)
  (hnew : ∀ a ∈ L₀, s.heap.get? a = none) (st : St K g F φ σ s.heap) (hx : PX K g [] F φ s X E') :
  PX K g L₀ (L₀ ++ F) φ (up s h₁ t₁) X (λ e s' => wpAny (model K.prog K.w) (A.deeper env) (leaving env e) (λ _ s'' => E' e s'') (λ e' s'' => E' e' s'') s') := by
 intro V σ' φ' h' t' e hX st' xi xs
 obtain ⟨C, d, es, n, v, vs, sl, hC, he, ge, hd, nd, hat, hto, rv, hsz, htb⟩ := EE.mono K (cJ hk1) xi
 have hall : ∀ env' ∈ env :: outer, env'.scope.kind ≠ .module ∧ ∃ L ∈ L₀ ++ F, env'.frame = some L := λ env' he => by
  rcases List.mem_cons.mp he with rfl | he
  ·exact ⟨by rw [hk]; decide, L, List.mem_append_left _ hL, hf⟩
  ·obtain ⟨a, L, b, c⟩ := act.outs env' he
   exact ⟨a, L, List.mem_append_right _ b, c⟩
 have hin := pK hall
 refine zo (s := (up s h' t')) (outer := outer) (by rw [Around.deeper]; simp only [act.frames, Option.map_some]) (j6 st' hall) hf he st'.keep (h₀ := s.heap) (λ a q => cJ hk1 a (xs.all a q)) (λ a q => st.baseFresh q) ge rfl hsz htb λ h'' X' => ?_
 have st'' := X'.st st' hin
 have subF : ∀ a ∈ F, a ∈ L₀ ++ F := λ a ha => List.mem_append_right _ ha
 have keep : ∀ b o, NR o -> b ∉ L₀ ++ F -> h'.get? b = some o -> h''.get? b = some o := λ b o n hb e => X'.same b o n (λ q => hb (hin b q)) e
 obtain ⟨vs', he', hsz', htb'⟩ := X'.exc
 refine hx V σ' φ' h'' t' e hX (st''.leave subF) ⟨C, d, es, n, v, vs', sl, hC, he', ge, keep d _ (.dict rfl) (λ q => nd (.inl q)) hd, λ q => nd (iM q subF λ _ h => h), hat, hto, ?_, hsz', htb'⟩ ⟨?_, λ a o e no => ?_, λ a ha _ o e => ?_, λ a e => cJ hk1 a (xs.all a (X'.all a e))⟩
 ·exact aM.mono K (λ a o e nr no => ⟨keep a o nr (λ q => no (.inl q)) e, λ q => no (iM q subF λ _ h => h)⟩) (λ _ _ e => e) rv
 ·obtain ⟨ψ, eψ, hψ⟩ := xs.grow
  exact ⟨ψ, eψ, λ p hp => ⟨cJ hk1 _ (hψ p hp).1, cJ hk1 _ (hψ p hp).2⟩⟩
 ·have nL : a ∉ L₀ := λ q => by rw [hnew a q] at e; cases e
  have nLF : ¬ bZ (L₀ ++ F) φ a := λ q => q.elim (λ q => (List.mem_append.mp q).elim nL λ q => no (.inl q)) λ q => no (.inr q)
  exact X'.old a o (λ q => by rw [e] at q; cases q) (λ q => nLF (.inl (hin a q))) (xs.nr a o (hk1 a o e) nLF)
 ·have nL : a ∉ L₀ := λ q => by rw [hnew a q] at e; cases e
  obtain ⟨o', e', nr⟩ := st.fr a ha
  rw [e] at e'; cases e'
  obtain ⟨sl1, e1⟩ := xs.frs a (subF a ha) nL o (hk1 a o e)
  obtain ⟨sl2, e2⟩ := X'.slots a _ (show NR { o with slots := sl1 } from nr) e1
  exact ⟨sl2, e2⟩
end
theorem jJ {r : List (Str × Value)} {n : Str} {v : Value} : ((n, v) :: r).lookup n = some v := by rw [List.lookup_cons, beq_self_eq_true]
theorem jK {r : List (Str × Value)} {x n : Str} {v : Value} (q : x ≠ n) : ((n, v) :: r).lookup x = r.lookup x := by rw [List.lookup_cons, beq_eq_false_iff_ne.mpr q]
theorem xg {ko : Str -> Option NameKind} {l : List (Str × Value)} : ∀ {m : Str -> Option Value} {x : Str}, x ∉ l.map (·.1) -> bindL ko l m x = m x := by
 induction l with
 | nil => exact λ _ => rfl
 | cons p r ih =>
  intro m x h
  have q : x ≠ p.1 := λ q => h (q ▸ List.mem_cons_self)
  refine (ih λ z => h (List.mem_cons_of_mem _ z)).trans ?_
  exact iteInduction (motive := λ f : Str -> Option Value => f x = m x) (λ _ => if_neg q) λ _ => rfl
theorem xe {ko : Str -> Option NameKind} {l : List (Str × Value)} : ∀ {m : Str -> Option Value} {x : Str}, x ∉ l.map (·.1) -> bindC ko l m x = m x := by
 induction l with
 | nil => exact λ _ => rfl
 | cons p r ih =>
  intro m x h
  have q : x ≠ p.1 := λ q => h (q ▸ List.mem_cons_self)
  refine (ih λ z => h (List.mem_cons_of_mem _ z)).trans ?_
  exact iteInduction (motive := λ f : Str -> Option Value => f x = m x) (λ _ => rfl) λ _ => if_neg q
theorem xf {ko : Str -> Option NameKind} {l : List (Str × Value)} {v : Value} : ∀ {m : Str -> Option Value} {x : Str}, (l.map (·.1)).Nodup -> ko x = some .local -> l.lookup x = some v -> bindL ko l m x = some v := by
 induction l with
 | nil => exact λ _ _ h => nomatch h
 | cons p r ih =>
  intro m x hn hx h
  by_cases q : x = p.1
  ·subst q
   refine (xg (List.nodup_cons.mp hn).1).trans ?_
   rw [if_pos hx]
   exact (if_pos rfl).trans (jJ.symm.trans h)
  ·exact ih (List.nodup_cons.mp hn).2 hx ((jK q).symm.trans h)
theorem xd {ko : Str -> Option NameKind} {l : List (Str × Value)} {v : Value} : ∀ {m : Str -> Option Value} {x : Str}, (l.map (·.1)).Nodup -> ko x ≠ some .local -> l.lookup x = some v -> bindC ko l m x = some v := by
 induction l with
 | nil => exact λ _ _ h => nomatch h
 | cons p r ih =>
  intro m x hn hx h
  by_cases q : x = p.1
  ·subst q
   refine (xe (List.nodup_cons.mp hn).1).trans ?_
   rw [if_neg hx]
   exact (if_pos rfl).trans (jJ.symm.trans h)
  ·exact ih (List.nodup_cons.mp hn).2 hx ((jK q).symm.trans h)
theorem pd {K : Kx} {h : Heap} {F : List Addr} {φ : aO} {ns : List Str} : ∀ {Vs : List AV} {vs : List Value} {i : Nat} {x : Str} {V : AV}, ns.Nodup -> ns.length = Vs.length -> ao K h F φ Vs vs -> ns[i]? = some x -> Vs[i]? = some V -> ∃ v, (ns.zip vs).lookup x = some v ∧ aM K h F φ V v := by
 induction ns with
 | nil => exact λ _ _ _ e => nomatch e
 | cons n ns ih =>
  intro Vs vs i x V hn hl r e1 e2
  cases Vs with
  | nil => exact nomatch hl
  | cons W Vs =>
   cases r with | mk w ws e r0 r =>
   rw [e]
   cases i with
   | zero => exact ⟨w, Option.some.inj e1 ▸ jJ, Option.some.inj e2 ▸ r0⟩
   | succ i => exact (ih (List.nodup_cons.mp hn).2 (Nat.succ.inj hl) r e1 e2).imp λ v y => ⟨(jK λ q : x = n => (List.nodup_cons.mp hn).1 (q ▸ List.mem_of_getElem? (i := i) e1)).trans y.1, y.2⟩
noncomputable def tW (K : Kx) (g : Heap) (P : List Env -> Prop) (k : Nat) (a : Addr) (C : ac) : Prop :=
 ∀ (A : Around) (outer : List Env) (F : List Addr) (φ : aO) (σ : aa) (s : Shared) (args : List AV) (vs : List Value) (Q X : AV -> aa -> Prop) (Q' E' : Value -> Shared -> Prop),
  P outer -> cR k A -> i7 A outer F -> St K g F φ σ s.heap -> ao K s.heap F φ args vs -> C args σ Q X -> PQ K g [] F φ s Q Q' -> PX K g [] F φ s X E' ->
  codeAny (model K.prog K.w) A (.call (.ref a) ⟨vs, []⟩) (Gg Q' E') s
section
variable {T : Fn -> ac} {K : Kx} {g : Heap} {mg mb : Str -> Option Value} {Γ : List Str} {D : List Fn} {k n : Nat} {ms : bq} {f : Fn}
structure AG (K : Kx) (g : Heap) (Γ : List Str) (k : Nat) (A : Around) (outer : List Env) (F : List Addr) (φ : aO) (σ : aa) (h : Heap) (ρ : aj) (fd : FuncData) (env : Env) (L₀ : List Addr) (h₁ : Heap) : Prop where
 scope : env.scope = fd.scope
 kind : env.scope.kind = .function
 fr : env.frame = some env.locals
 loc : env.locals ∈ L₀
 eo : aX env (L₀ ++ F)
 ow : yi (env :: outer) env L₀ (L₀ ++ F)
 act : i7 (A.deeper env) (env :: outer) (L₀ ++ F)
 room : cR (k + 1) (A.deeper env)
 keep : ∀ b o, h.get? b = some o -> h₁.get? b = some o
 new : ∀ C ∈ L₀, h.get? C = none
 st : St K g (L₀ ++ F) φ σ h₁
 lo : dc K env Γ ρ (L₀ ++ F) φ h₁
noncomputable abbrev retOf (f : Flow) : Value := match f with | .ret v => v | _ => .none
theorem wq (H : aF T K g mg mb D k) {a : Addr} {oc : Value} {od : Option Addr} {fd : FuncData} {osl : Array (Option Value)} {body : List Stmt} (hl : g.get? a = some ⟨oc, od, .func fd, osl⟩) (hcd0 : g.CodeRec fd.code fd.qualname)
  (hb : fd.body = .stmts body) (c : EC fd Γ n) {A : Around} {outer : List Env} {F : List Addr} {φ : aO} {σ : aa} {s : Shared} {args : List AV} {vs : List Value} {R : Result -> Shared -> Prop} (hR : cR (k + 2) A) (hA : i7 A outer F) (st : St K g F φ σ s.heap) (ra : ao K s.heap F φ args vs) (hlen : args.length = n)
  (go : ∀ env L₀ h₁ t₁, AG K g Γ k A outer F φ σ s.heap (args.map some ++ List.replicate (Γ.length - n) none) fd env L₀ h₁ ->
   wpAny (model K.prog K.w) (A.deeper env) (execs body env) (λ f s' => R (.ok (.ret (match f with | .ret v => v | _ => .none))) s') (λ e s' => wpAny (model K.prog K.w) (A.deeper env) (leaving env e) (λ _ s'' => R (.error e) s'') (λ e' s'' => R (.error e') s'') s') (up s h₁ t₁)) :
  codeAny (model K.prog K.w) A (.call (.ref a) ⟨vs, []⟩) R s := by
 obtain ⟨c1, c2, c3, c4, c5, c6, c7, c8, c9, c10, c11, c12, c13, c14, c16⟩ := c
 have kin := H.G.kept st
 have hvl : (bo fd).length = vs.length := by rw [ra.length, hlen, c12, List.length_take, Nat.min_eq_left c13]
 have hnd : (bo fd).Nodup := c12 ▸ c14.sublist (List.take_sublist _ _)
 have hbind : bindArgs fd ⟨vs, []⟩ = pure ((bo fd).zip vs) := lJ c7 c8 c9 c10 c11 hnd hvl
 have hcd : s.heap.CodeRec fd.code fd.qualname := hcd0.keeps st.keep
 have hmap : ((bo fd).zip vs).map (·.1) = bo fd := List.map_fst_zip (Nat.le_of_eq hvl)
 refine codeAny_call_cells (by have := hR.1; exact (lnr [_,_,_] [] 0x1011262909193) this) (st.keep _ _ hl) rfl (H.G.lim.keeps st.keep) hcd hb hbind c1 (λ x hx => ?_) (λ s₁ I => ?_) c5 c6 c4
 ·have hm : x.1 ∈ bo fd := hmap ▸ List.mem_map.mpr ⟨x, hx, rfl⟩
  rcases c16 _ hm with q | q
  ·exact .inl q
  ·exact .inr ⟨q, dZ (.inl (mem_of_lookup q))⟩
 obtain ⟨⟨⟨h₁, t₁, rfl⟩, hns, hkeep₁, hfresh⟩, hcell, hap, hab⟩ := I
 generalize henv : callEnvC fd s.heap.objs.size a = env at hns hcell hap hab hfresh ⊢
 have e1 : env.scope = fd.scope := by rw [← henv]; rfl
 have e2 : env.globals = fd.globals := by rw [← henv]; rfl
 have e3 : env.builtins = fd.builtins := by rw [← henv]; rfl
 have e4 : env.frame = some env.locals := by rw [← henv]; rfl
 have e5 : env.cells = cellsFrom (s.heap.objs.size + 1) fd.scope.names [] := by rw [← henv]; rfl
 have old : ∀ b, s.heap.objs.size ≤ b -> s.heap.get? b = none := λ b hb => by
  cases q : s.heap.get? b with
  | none => rfl
  | some o => exact absurd (Heap.lt_size q) (Nat.not_lt.mpr hb)
 generalize hL0 : env.locals :: env.cells.filterMap (λ p => env.cells.lookup p.1) = L₀
 have hloc0 : env.locals ∈ L₀ := hL0 ▸ List.mem_cons_self
 have hcel0 : ∀ x c, env.cells.lookup x = some c -> c ∈ L₀ := λ x c q => hL0 ▸ List.mem_cons_of_mem _ (List.mem_filterMap.mpr ⟨(x, c), mem_of_lookup q, q⟩)
 have newC : ∀ C ∈ L₀, s.heap.get? C = none ∧ ∃ o, h₁.get? C = some o ∧ NR o := λ C hC => by
  rw [← hL0] at hC
  rcases List.mem_cons.mp hC with rfl | hC
  ·exact ⟨old _ hfresh, ou hns⟩
  ·obtain ⟨⟨x, c⟩, hm, q⟩ := List.mem_filterMap.mp hC
   have q : env.cells.lookup x = some C := q
   exact ⟨old _ (Nat.le_trans hfresh (Nat.le_of_lt (hab x C (mem_of_lookup q)))), vE (hcell x C q)⟩
 have hnew : ∀ C ∈ L₀, s.heap.get? C = none := λ C hC => (newC C hC).1
 have st₁ : St K g (L₀ ++ F) φ σ h₁ := St.enterAll st hkeep₁ newC
 have ra₁ := xo (K := K) (F := F) (φ := φ) hkeep₁ hnew ra
 have ko : ∀ x, env.kindOf x = fd.scope.names.lookup x := λ x => by unfold Env.kindOf; rw [e1]
 have hmem : ∀ C ∈ L₀, C ∈ L₀ ++ F := λ C hC => List.mem_append_left _ hC
 have eo : aX env (L₀ ++ F) := by
  refine ⟨by rw [e1]; exact c4, e2.trans c2, e3.trans c3, hmem _ hloc0, λ x c q => hmem _ (hcel0 x c q), λ x q => ?_, λ x y c q r => name_of_addr hap (mem_of_lookup q) (mem_of_lookup r), λ x c q => Nat.ne_of_gt (hab x c (mem_of_lookup q))⟩
  rw [e1] at q
  rw [e5]
  exact Option.isSome_iff_exists.mp (dZ (.inl (mem_of_lookup q)))
 have ow : yi (env :: outer) env L₀ (L₀ ++ F) := ⟨hmem, hloc0, hcel0, ⟨_, rfl⟩, λ e a ha => by rw [hA.nil (List.eq_nil_of_length_eq_zero (by simpa using e)), List.append_nil] at ha; exact ha⟩
 have lo₁ : dc K env Γ (args.map some ++ List.replicate (Γ.length - n) none) (L₀ ++ F) φ h₁ := by
  refine ⟨_, hns, λ x c q => ⟨_, hcell x c q⟩, λ i x V g1 g2 => ?_⟩
  have hi : i < args.length := by
   refine Nat.lt_of_not_le λ hle => ?_
   rw [List.getElem?_append_right (by rw [List.length_map]; exact hle)] at g2
   rw [List.length_map, List.getElem?_replicate] at g2
   split at g2 <;> cases g2
  rw [List.getElem?_append_left (by rw [List.length_map]; exact hi), List.getElem?_map] at g2
  obtain ⟨V', gV, g2⟩ := Option.map_eq_some_iff.mp g2
  cases g2
  have gx : (bo fd)[i]? = some x := by rw [c12, List.getElem?_take_of_lt (hlen ▸ hi)]; exact g1
  obtain ⟨v, q, r⟩ := pd hnd (by rw [hvl, ra.length]) ra₁ gx gV
  rcases c16 x (List.mem_of_getElem? gx) with hk | hk
  ·rw [e1, hk]
   refine ⟨v, ?_, r⟩
   exact xf (by rw [hmap]; exact hnd) ((ko x).trans hk) q
  ·rw [e1, hk]
   obtain ⟨c, hc'⟩ := eo.has x (by rw [e1]; exact hk)
   exact ⟨v, ⟨c, hc', xd (ko := env.kindOf) (by rw [hmap]; exact hnd) (by rw [ko x, hk]; decide) q ▸ hcell x c hc'⟩, r⟩
 have hA' : i7 (A.deeper env) (env :: outer) (L₀ ++ F) := by
  refine ⟨hA.hand, by rw [Around.deeper]; simp only [hA.frames, Option.map_some], λ env' he => ?_, λ e => nomatch e⟩
  rcases List.mem_cons.mp he with rfl | he
  ·exact ⟨by rw [e1, c4]; decide, env'.locals, hmem _ hloc0, e4⟩
  ·obtain ⟨a, L, b, c⟩ := hA.outs env' he
   exact ⟨a, L, List.mem_append_right _ b, c⟩
 have hR' : cR (k + 1) (A.deeper env) := ⟨by show A.depth + 1 + (k + 1) < _; have := hR.1; exact (lnr [_,_,_] [] 0x216191609912261909193) this, by show A.units + 3 + 4 * (k + 1) + 100 < _; have := hR.2; exact (lnr [_,_,_] [] 0x21CC6161947360999121CC6261947099193) this⟩
 exact go env L₀ h₁ t₁ ⟨e1, (congrArg Scope.kind e1).trans c4, e4, hloc0, eo, ow, hA', hR', hkeep₁, hnew, st₁, lo₁⟩
theorem qh (H : aF T K g mg mb D k) {a : Addr} {oc : Value} {od : Option Addr} {fd : FuncData} {osl : Array (Option Value)} {body : List Stmt} (hl : g.get? a = some ⟨oc, od, .func fd, osl⟩) (hcd0 : g.CodeRec fd.code fd.qualname)
  (hb : fd.body = .stmts body) (c : EC fd Γ n) (hc : eD ⟨K, fd.scope, Γ, D⟩ ms body = true)
  {P : List Env -> Prop} (hS : ∀ A env outer, cR (k + 1) A -> P outer -> pz T K g Γ D A (env :: outer) ms) : tW K g P (k + 2) a (aJ T Γ.length n ms) := by
 intro A outer F φ σ s args vs Q X Q' E' hP hR hA st ra hC hq hx
 refine wq H hl hcd0 hb c hR hA st ra hC.1 λ env L₀ h₁ t₁ N => ?_
 refine hS (A.deeper env) env outer N.room hP env (L₀ ++ F) L₀ body _ σ φ (up s h₁ t₁) _ X _ _ (N.scope ▸ hc) N.eo N.ow N.act N.st N.lo hC.2 ?_
  (zQ hA N.fr N.kind N.loc N.keep N.new st hx) PassesOwn.leaving
 intro fl ρ' σ' φ' h' t' fl' hQ st' sp' lo' hf
 have subF : ∀ a ∈ F, a ∈ L₀ ++ F := λ a ha => List.mem_append_right _ ha
 have sp := sp'.leave N.keep N.new
 cases fl with
 | next => cases hf; exact hq .none σ' φ' h' t' .none hQ (st'.leave subF) sp .none
 | brk => exact hQ.elim
 | ret V => exact hf.elim λ v x => x.1 ▸ hq V σ' φ' h' t' v hQ (st'.leave subF) sp (sT subF x.2)
theorem Ab (H : aF T K g mg mb D k) (hc : aN K f Γ n ms D = true)
  {P : List Env -> Prop} (hS : ∀ A env outer, cR (k + 1) A -> P outer -> pz T K g Γ D A (env :: outer) ms) : ∃ a, bg K f = some a ∧ keepIn K.frag (.ref a) = true ∧ tW K g P (k + 2) a (aJ T Γ.length n ms) := by
 refine (qE hc).imp λ a x => ⟨x.1, x.2.1, ?_⟩
 obtain ⟨oc, od, fd, osl, body, p⟩ := x.2.2
 exact qh H (H.G.kin _ _ p.look) (codeRec_of H.G.kin p.code) p.bd p.hd p.ok hS
theorem B0 (H : aF T K g mg mb D k) (hc : aN K f Γ n ms D = true)
  (hS : ∀ A outer, cR (k + 1) A -> pz T K g Γ D A outer ms) : ∃ a, bg K f = some a ∧ keepIn K.frag (.ref a) = true ∧ ja K g (k + 2) a (aJ T Γ.length n ms) := by
 exact (Ab (P := λ _ => True) H hc λ A env outer hR _ => hS A (env :: outer) hR).imp λ a x => ⟨x.1, x.2.1, λ A outer F φ σ s args vs Q X Q' E' => x.2.2 A outer F φ σ s args vs Q X Q' E' trivial⟩
end
end Mine
end
section
open PySem PySem.W PyProof.Rows PySem.Calls Builtin Builtin.ObjectAttr Builtin.Getset_descriptor
set_option maxHeartbeats 4000000
namespace Mine
noncomputable def nz (K : Frag) (C : Addr) : Bool := match K.lookup C with
 | some ⟨_, _, .cls cd, sl⟩ => !cd.abstract && !cd.hasDel && (sl.toList[4]?).join == some (.builtin "Exception.__new__") && !cd.mro.isEmpty && cd.mro.contains (.ref C) && cd.mro.contains (.type "Exception") && cd.mro.contains (.type "BaseException") &&
   !cd.mro.contains (.type "AttributeError") && !cd.mro.contains (.type "NameError") &&
   specialIn K (.ref C) "__call__" == some (some (.builtin "type.__call__")) && instIn K (.ref C) (.type "type") == some true && (typeIn K (.ref C) == some (.type "type"))
 | _ => false
structure jS (M : Model) (h : Heap) (C : Addr) : Prop where
 obj : ∃ oc od cd sl, h.get? C = some ⟨oc, od, .cls cd, sl⟩ ∧ cd.abstract = false ∧ cd.hasDel = false ∧ cd.mro.isEmpty = false
 made : Looks M h (Bind.madeBy (.ref C)) (some "Exception.__new__")
 base : Looks M h (Bind.staticBase (.ref C)) (.ref C)
 self : Looks M h (isSubtype (.ref C) (.ref C)) true
 exc : Looks M h (isSubtype (.ref C) (.type "Exception")) true
 bexc : Looks M h (isSubtype (.ref C) (.type "BaseException")) true
 nattr : Looks M h (isSubtype (.ref C) (.type "AttributeError")) false
 nname : Looks M h (isSubtype (.ref C) (.type "NameError")) false
 call : Looks M h (specialOf (.ref C) "__call__") (some (.builtin "type.__call__"))
 typ : Looks M h (isInstance (.ref C) (.type "type")) true
 ty : Looks M h (typeOf (.ref C)) (.type "type")
theorem fm {K : Frag} {M : Model} {h : Heap} (X : K.In h) {C : Addr} (e : nz K C = true) : jS M h C := by
 unfold nz at e
 split at e
 ·rename_i oc od cd sl ho
  simp only [Bool.and_eq_true, Bool.not_eq_true', beq_iff_eq] at e
  obtain ⟨⟨⟨⟨⟨⟨⟨⟨⟨⟨⟨e1, e2⟩, e3⟩, e4⟩, e5⟩, e6⟩, e7⟩, e8⟩, e9⟩, e10⟩, e11⟩, e12⟩ := e
  have hc : clsIn K C = some cd := by unfold clsIn; rw [ho]
  have hm : Looks M h (mroOf (.ref C)) cd.mro := (looks_clsIn X hc).andThen .now
  obtain ⟨c, l, hl⟩ : ∃ c l, cd.mro = c :: l := by cases q : cd.mro with | nil => rw [q] at e4; cases e4 | cons c l => exact ⟨c, l, rfl⟩
  have made : Looks M h (Bind.madeBy (.ref C)) (some "Exception.__new__") := by
   intro A Q E s k q
   unfold Bind.madeBy
   refine wpAny_bind (hm A _ E s k ?_)
   rw [hl, List.forIn_cons]
   refine wpAny_bind (wpAny_bind (wpAny_bind (wpAny_bind (wpAny_loadPart (k _ _ (X _ _ ho)) (wpAny_pure ?_)))))
   dsimp only
   rw [← Array.getElem?_toList, e3]
   exact wpAny_pure (wpAny_pure (wpAny_pure q))
  have mro : ∀ t b, cd.mro.contains t = b -> mroIn K C t = some b := λ t b q => by unfold mroIn; rw [hc, Option.bind_some, if_neg (by rw [e4]; decide), q]
  refine ⟨⟨oc, od, cd, sl, X _ _ ho, e1, e2, e4⟩, made, ?_, looks_mroIn X (mro _ _ e5), looks_mroIn X (mro _ _ e6), looks_mroIn X (mro _ _ e7), looks_mroIn X (mro _ _ e8), looks_mroIn X (mro _ _ e9), looks_specialIn X e10, looks_instIn X e11, looks_typeIn X e12⟩
  intro A Q E s k q
  unfold Bind.staticBase
  refine wpAny_bind (hm A _ E s k ?_)
  rw [hl, List.forIn_cons]
  exact wpAny_bind (wpAny_bind (wpAny_bind (made A _ E s k (wpAny_pure (wpAny_pure (wpAny_pure q))))))
 ·cases e
noncomputable abbrev db (rest : List Value) : Obj := { cls := .type "tuple", data := .seq rest.toArray }
noncomputable abbrev fo (C t : Addr) : Obj := { cls := .ref C, data := .fields #[.ref t, .none, .none, .none, .bool false, .none] }
theorem A7 : builtinKind "Exception.__new__" = some .builtinFn := by decide +kernel
theorem yJ : splitId "Exception.__new__" = some ("Exception", "__new__") := by decide +kernel
theorem A6 (a : Value) (rest : List Value) : argsOk "Exception.__new__" ⟨a :: rest, []⟩ := by unfold argsOk; kernel_rfl
section
variable {prog : Program} {w : World} {A : Around} {C : Addr} {R : Result -> Shared -> Prop} {h : Heap} {g : Array GenState} {d : Drawn} {t : Nat} {os : OsState}
theorem Bd {rest : List Value} (Y : jS (model prog w) h C) (hrest : rest.length ≤ sizeLine)
  (hq : R (.ok (.ret (.ref (h.objs.size + 1)))) ⟨(h.push (db rest)).push (fo C h.objs.size), g, d, t, os⟩) :
  codeAny (model prog w) A (.call (.builtin "Exception.__new__") ⟨.ref C :: rest, []⟩) R ⟨h, g, d, t, os⟩ := by
 obtain ⟨⟨oc, od, cd, sl, hC, e1, e2, e4⟩, made, base, self, exc, bexc, nattr, nname, call, typ, ty⟩ := Y
 have F := PySem.F.excCall_Exception
 refine codeAny_call_builtin_code (Code.quiet_builtin _ F.quiet) ?_
 have args := A6 (.ref C) rest
 unfold argsOk at args
 have isT : Looks (model prog w) h (isType (.ref C)) true := by
  intro A Q E s k q
  simp only [isType, loadHead]
  exact wpAny_bind (wpAny_loadPart (k _ _ hC) (wpAny_pure q))
 unfold checkBuiltinCall
 simp only [A7, yJ]
 simp only [beq_self_eq_true, if_true]
 repeat (first | simp only [Bool.not_true, Bool.false_eq_true, if_false, bne_self_eq_false] | lk)
 refine PySem.codeAny_builtinAt F.entry ?_
 unfold Builtin.«BaseException.__new__»
 refine PySem.wpAt_bind ?_
 show PySem.wpAt _ _ _ (stack >>= _) _ _ _
 refine PySem.wpAt_bind (PySem.wpAt_stack λ p below => PySem.wpAt_of_wpAny ?_)
 dsimp only
 rw [if_pos F.ends]
 refine wpAny_pure ?_
 rw [F.owner]
 refine PySem.wpAt_of_wpAny ?_
 have hna : Looks (model prog w) h (Bind.madeHere "BaseException.__new__" (.ref C)) () := base.andThen (made.andThen (Looks.of_pure (by kernel_rfl)))
 repeat (first | simp only [Bool.not_true, Bool.false_eq_true, if_false, bne_self_eq_false] | lk)
 rw [if_neg (by rw [List.size_toArray]; exact (lnr [_,_] [] 0x101601092) hrest)]
 unfold newObjAsIs
 refine wpAny_bind (wpAny_alloc (wpAny_pure ?_))
 have hC2 := Heap.get?_push_of_some (db rest) hC
 refine wpAny_bind ?_
 show wpAny _ _ (newObjAsIs _ _ _) _ _ _
 unfold newObjAsIs classHasDel
 refine wpAny_bind (wpAny_alloc (wpAny_bind (wpAny_bind (wpAny_load (Heap.get?_push_of_some _ hC2) (wpAny_pure ?_)))))
 dsimp only
 rw [e2]
 refine wpAny_pure (wpAny_pure ?_)
 show R _ _
 rw [Heap.size_push]
 exact hq
theorem sw {rest : List Value} {init : Value} (Y : jS (model prog w) h C) (hi : Looks (model prog w) h (typeLookup (.ref C) "__init__") (some init))
  (hb : ∀ self, Looks (model prog w) h (bindSpecial init self) (init, [self])) (hrest : rest.length ≤ sizeLine)
  (hq : codeAny (model prog w) (A.under (.builtin "type.__call__" ⟨.ref C :: rest, []⟩)) (.call init ⟨.ref (h.objs.size + 1) :: rest, []⟩) (InitBack (h.objs.size + 1) R) ⟨(h.push (db rest)).push (fo C h.objs.size), g, d, t, os⟩) :
  codeAny (model prog w) A (.call (.ref C) ⟨rest, []⟩) R ⟨h, g, d, t, os⟩ := by
 have Y' := Y
 obtain ⟨⟨oc, od, cd, sl, hC, e1, e2, e4⟩, made, base, self, exc, bexc, nattr, nname, call, typ, ty⟩ := Y
 refine codeAny_of_tree ?_
 show wpAny _ _ (callAny (.ref C) _) _ _ _
 refine nd_load hC ?_
 show wpAny _ _ (callAny.viaDunder (.ref C) _) _ _ _
 unfold callAny.viaDunder
 refine wpAny_bind (call.at ?_)
 dsimp only
 rw [tc_bind]
 refine wpAny_bind (wpAny_pure (wpAny_bind (wpAny_pure ?_)))
 refine wpAny_pure (a := Fin.again (.call (.builtin "type.__call__") ⟨.ref C :: rest, []⟩)) (And.intro rfl ?_)
 refine codeAny_call_builtin_at (Code.quiet_builtin _ (by decide +kernel)) entry_typeCall (check_slot tc_kind tc_split typ (tc_args _ _ _) ?_)
 unfold Builtin.«type.__call__»
 have hm : Looks (model prog w) h (mroOf (.ref C)) cd.mro := ((Looks.ld (part := none) hC).andThen .now).andThen .now
 repeat (first | simp only [e4, Bool.false_eq_true, if_false] | with_reducible refine wpAny_call ?_ | lk)
 refine Bd Y' hrest ?_
 have k : ∀ b o, h.get? b = some o -> ((h.push (db rest)).push (fo C h.objs.size)).get? b = some o := λ b o e => Heap.get?_push_of_some _ (Heap.get?_push_of_some _ e)
 have hx : ((h.push (db rest)).push (fo C h.objs.size)).get? (h.objs.size + 1) = some (fo C h.objs.size) := by heap_get
 have t1 : Looks (model prog w) ((h.push (db rest)).push (fo C h.objs.size)) (typeOf (.ref (h.objs.size + 1))) (.ref C) := (Looks.ld hx).andThen .now
 have s1 := self.keeps k
 have i1 := hi.keeps k
 have b1 := (hb (.ref (h.objs.size + 1))).keeps k
 unfold isInstance callSpecial? specialOf
 repeat (first | with_reducible refine wpAny_call ?_ | lk)
 refine codeAny_mono hq λ r s' z => ?_
 rcases r with e | (v | _ | _ | _) <;> first | exact z | exact z.elim | skip
 obtain ⟨rfl, z⟩ := z
 exact wpAny_pure (wpAny_pure z)
end
noncomputable def aU : List Value -> Bool
 | .ref _ :: r => aU r
 | l => l == [.type "Exception", .type "BaseException", .type "object"]
theorem oZ (self : Value) : ∀ {l : List Value}, aU l = true -> refuseLoop self "__setattr__" l = pure ()
 | .ref c :: r, e => by rw [refuseLoop_ref]; exact oZ self (by unfold aU at e; exact e)
 | .type n :: r, e => by
  unfold aU at e
  rw [beq_iff_eq] at e
  rw [e]
  kernel_rfl
 | [], e => by cases e
 | .none :: _, e => by simp [aU] at e
 | .ellipsis :: _, e => by simp [aU] at e
 | .notImplemented :: _, e => by simp [aU] at e
 | .bool _ :: _, e => by simp [aU] at e
 | .int _ _ :: _, e => by simp [aU] at e
 | .float _ _ :: _, e => by simp [aU] at e
 | .str _ _ :: _, e => by simp [aU] at e
 | .bytes _ _ :: _, e => by simp [aU] at e
 | .builtin _ :: _, e => by simp [aU] at e
theorem wv : ∀ {l : List Value}, aU l = true -> l.contains (.type "object") = true
 | .ref c :: r, e => by rw [List.contains_cons, wv (l := r) (by unfold aU at e; exact e), Bool.or_true]
 | .type n :: r, e => by
  unfold aU at e
  rw [beq_iff_eq] at e
  rw [e]; rfl
 | [], e => by cases e
 | .none :: _, e => by simp [aU] at e
 | .ellipsis :: _, e => by simp [aU] at e
 | .notImplemented :: _, e => by simp [aU] at e
 | .bool _ :: _, e => by simp [aU] at e
 | .int _ _ :: _, e => by simp [aU] at e
 | .float _ _ :: _, e => by simp [aU] at e
 | .str _ _ :: _, e => by simp [aU] at e
 | .bytes _ _ :: _, e => by simp [aU] at e
 | .builtin _ :: _, e => by simp [aU] at e
noncomputable def mv (K : Frag) (C : Addr) : Bool := (clsIn K C).any λ cd => aU cd.mro
section
variable {prog : Program} {w : World} {A : Around} {K : Frag} {C x : Addr} {s : Shared} {R : Result -> Shared -> Prop} {E : Value -> Shared -> Prop}
theorem wP {ox : Obj} {od : Option Obj} {name : Str} {tk : Tok} {v : Value} {r : Option Value} (X : K.In s.heap) (I : InstAt s.heap x ox C od) (hp : mv K C = true) (ht : takerIn K C name = some r)
  (h : ∀ b, wpAny (model prog w) A.in1 (match r with | some a => setByDescriptor a (.ref x) v | none => storeInOwnDict (.ref x) (.ref C) (.str name tk) name v b)
   (λ fin s' => match fin with | .done f => R (.ok f) s' | .again c' => c'.quiet = true ∧ codeAny (model prog w) A c' R s') (λ e s' => R (.error e) s') s) :
  codeAny (model prog w) A (.call (.builtin "object.__setattr__") ⟨[.ref x, .str name tk, v], []⟩) R s := by
 have SF := PySem.F.store_object
 obtain ⟨cd, hc, ho⟩ := any_some hp
 have ne : cd.mro.isEmpty = false := by cases q : cd.mro with | nil => rw [q] at ho; cases ho | cons _ _ => rfl
 have sub : Looks (model prog w) s.heap (isInstance (.ref x) (.type "object")) true := I.type.andThen (looks_mroIn X (by unfold mroIn; rw [hc, Option.bind_some, if_neg (by rw [ne]; decide), wv ho]))
 refine codeAny_call_builtin SF.slot.plain SF.entry (@check_slot (model prog w) _ _ s "object.__setattr__" "object" "__setattr__" (.ref x) [.str name tk, v] [] _ SF.kind SF.split sub (SF.args (.ref x) (.str name tk) v) ?_)
 obtain ⟨attr, ha, hr⟩ := Option.bind_eq_some_iff.mp ht
 have hm : Looks (model prog w) s.heap (mroOf (.ref C)) cd.mro := (looks_clsIn X hc).andThen .now
 have L3 : Looks (model prog w) s.heap (storeTaker? attr) r := by
  cases attr with
  | none => cases hr; exact .now
  | some a =>
   obtain ⟨b, hb, rfl⟩ := Option.map_eq_some_iff.mp hr
   refine (looks_takesIn X hb).andThen ?_
   cases b <;> exact .now
 rw [osa_eq, refuse_eq]
 refine wpAny_bind (wpAny_bind (I.type.here (wpAny_bind (hm.here ?_))))
 rw [oZ _ ho]
 refine wpAny_pure (wpAny_bind (I.type.here (wpAny_bind ((looks_findIn X ha).here (wpAny_bind (L3.here ?_))))))
 exact h _
end
theorem oq (name : Str) (hsh : Int) (t : Tok) (v : Value) : ∀ es : List DictEntry, es.any (·.refKey) = false -> (putL name hsh (.str name t) v es).any (·.refKey) = false
 | [], _ => rfl
 | e :: r, h => by
  rw [List.any_cons, Bool.or_eq_false_iff] at h
  unfold putL
  split
  ·rw [List.any_cons, h.2, Bool.or_false]; exact h.1
  ·rw [List.any_cons, oq name hsh t v r h.2, Bool.or_false]; exact h.1
theorem nS (name : Str) (hsh : Int) (t : Tok) (v : Value) : ∀ es : List DictEntry, getL name (putL name hsh (.str name t) v es) = some (some v)
 | [] => by simp [getL, putL, Value.isStr]
 | e :: r => by
  unfold putL
  cases h : e.key.isStr name with
  | true =>
   unfold getL
   simp [List.find?_cons, h]
  | false =>
   have ih := nS name hsh t v r
   unfold getL at ih ⊢
   simp only [Bool.false_eq_true, if_false, List.find?_cons, h]
   split at ih
   ·rename_i e' he'; rw [he']; exact ih
   ·rename_i he'
    split at ih <;> cases ih
theorem jF {name y : Str} (hy : y ≠ name) (hsh : Int) (t : Tok) (v : Value) : ∀ es : List DictEntry, es.any (·.refKey) = false -> getL y (putL name hsh (.str name t) v es) = getL y es
 | [], _ => by
  have : (name == y) = false := beq_eq_false_iff_ne.mpr (Ne.symm hy)
  simp [getL, putL, Value.isStr, this, DictEntry.refKey]
 | e :: r, nr => by
  rw [List.any_cons, Bool.or_eq_false_iff] at nr
  have ih := jF hy hsh t v r nr.2
  have nr' := oq name hsh t v r nr.2
  unfold putL
  cases h : e.key.isStr name with
  | true =>
   have : e.key.isStr y = false := by
    cases hk : e.key <;> simp only [hk, Value.isStr] at h ⊢ <;> first | rfl | (rw [beq_iff_eq] at h; rw [h]; exact beq_eq_false_iff_ne.mpr (Ne.symm hy))
   unfold getL
   have nk : (DictEntry.mk e.hash e.key v).refKey = false := nr.1
   simp only [if_true, List.find?_cons, this, List.any_cons, nr.1, nr.2, nk, Bool.or_false]
  | false =>
   unfold getL at ih ⊢
   simp only [Bool.false_eq_true, if_false, List.find?_cons, List.any_cons, nr.1, nr.2, nr', Bool.or_false] at ih ⊢
   cases hk : e.key.isStr y with
   | true => rfl
   | false => exact ih
theorem p4 (name : Str) (hsh : Int) (t : Tok) (v : Value) : ∀ es : List DictEntry, es.any (·.refKey) = false -> (putL name hsh (.str name t) v es).any (·.refKey) = false
 | [], _ => rfl
 | e :: r, h => by
  rw [List.any_cons, Bool.or_eq_false_iff] at h
  unfold putL
  split
  ·rw [List.any_cons, h.2, Bool.or_false]; exact h.1
  ·rw [List.any_cons, p4 name hsh t v r h.2, Bool.or_false]; exact h.1
theorem qI (name : Str) (hsh : Int) (t : Tok) (v : Value) : ∀ es : List DictEntry, (putL name hsh (.str name t) v es).length ≤ es.length + 1
 | [] => by simp [putL]
 | e :: r => by
  unfold putL
  have := qI name hsh t v r
  split <;> simp <;> exact (lnr [_,_] [] 0x16190016190092) this
section
variable {prog : Program} {w : World} {A : Around} {K : Frag} {C x : Addr} {s : Shared} {R : Result -> Shared -> Prop} {E : Value -> Shared -> Prop}
theorem Ah {d : Addr} {es : List DictEntry} {n : Nat} {name : Str} {tk : Tok} {v : Value} {Q : Fin -> Shared -> Prop} (hd : s.heap.get? d = some (dictOf es n)) (nr : es.any (·.refKey) = false) (hl : es.length ≤ 100)
  (h : Q (.done (.ret .none)) (up s (s.heap.update d (Obj.putName name (PyData.keyHash w.params name) (.str name s.toks) v)) (s.toks + 1))) :
  wpAny (model prog w) A (storeInDict d (.str name tk) name v) Q E s := by
 unfold storeInDict newKeyGuard
 refine wpAny_bind (wpAny_pure (wpAny_bind ?_))
 unfold nsSet
 refine wpAny_bind (wpAny_bind (wpAny_askSetting (wpAny_pure (wpAny_bind (wpAny_mkText (wpAny_bind (wpAny_loadPart hd ?_)))))))
 dsimp only
 have c0 : (!es.toArray.any (·.key.isStr name) && es.toArray.any (·.refKey)) = false := by
  rw [← Array.any_toList, ← Array.any_toList]
  simp only [nr, Bool.and_false]
 rw [aRefKeyMayBeTheName_at, c0]
 have hp : (s.heap.update d (Obj.putName name (PyData.keyHash w.params name) (.str name s.toks) v)).get? d = some (dictOf (putL name (PyData.keyHash w.params name) (.str name s.toks) v es) (putN name es n)) := by
  have := Heap.get?_update_self (Obj.putName name (PyData.keyHash w.params name) (.str name s.toks) v) hd (by rw [putName_dict]; rfl)
  rw [this, putName_dict]
 have hlen := qI name (PyData.keyHash w.params name) s.toks v es
 refine wpAny_updatePart hd ?_
 refine wpAny_bind (wpAny_lookBehind hp (pastItsLine_dict (by rw [List.size_toArray, sizeLine_eq]; exact (lnr [_,_] [] 0x16188888888690016190091CC61092) hl hlen)) ?_)
 exact wpAny_pure h
theorem wt {od : Option Addr} {vs : Array Value} {sl : Array (Option Value)} {name : Str} {v : Value} {Q : Unit -> Shared -> Prop} (X : K.In s.heap) (hx : s.heap.get? x = some ⟨.ref C, od, .fields vs, sl⟩)
  (ho : mv K C = true) (ht : takerIn K C name = some none) (hh : hasDictIn K C = true) (hs : findIn K (.ref C) "__setattr__" = some (some (.builtin "object.__setattr__")))
  (hd : ∀ d, od = some d -> d ≠ x ∧ ∃ es n, s.heap.get? d = some (dictOf es n) ∧ es.any (·.refKey) = false ∧ es.length ≤ 100)
  (h : ∀ h' tk d es' n', h'.get? x = some ⟨.ref C, some d, .fields vs, sl⟩ -> h'.get? d = some (dictOf es' n') -> getL name es' = some (some v) -> es'.any (·.refKey) = false -> (∀ es n d', od = some d' -> s.heap.get? d' = some (dictOf es n) -> es'.length ≤ es.length + 1) -> (od = none -> es'.length ≤ 1) -> (∀ y, y ≠ name -> getL y es' = match od.bind s.heap.get? with | some ⟨_, _, .dict es _, _⟩ => getL y es.toList | _ => some none) ->
   d ≠ x -> (∀ d', od = some d' -> d = d') -> (od = none -> s.heap.get? d = none) -> (∀ b o, b ≠ x -> b ≠ d -> s.heap.get? b = some o -> h'.get? b = some o) -> (∀ a, h'.get? a = none -> s.heap.get? a = none) -> Q () (up s h' tk)) :
  wpAny (model prog w) A (setAttr (.ref x) name v) Q E s := by
 obtain ⟨cd, hc, hdict⟩ := any_some hh
 cases od with
 | none =>
  have I : InstAt s.heap x ⟨.ref C, none, .fields vs, sl⟩ C none := ⟨hx, rfl, rfl, trivial⟩
  refine set_plain X I hs (wP (s := { s with toks := s.toks + 1 }) X I ho ht λ b => ?_)
  dsimp only
  have hx₁ : (s.heap.push emptyDict).get? x = some ⟨.ref C, none, .fields vs, sl⟩ := Heap.get?_push_of_some _ hx
  have hxs : x ≠ s.heap.objs.size := Nat.ne_of_lt (Heap.lt_size hx)
  refine wpAny_bind (wpAny_pure (wpAny_bind (wpAny_bind (wpAny_loadPart hx (wpAny_bind (Looks.here (s := { s with toks := s.toks + 1 }) (looks_clsIn X hc) ?_))))))
  rw [hdict]
  dsimp only
  rw [if_neg (by simp [typeHasDict])]
  refine wpAny_bind (wpAny_alloc ?_)
  refine wpAny_bind (wpAny_update hx₁ ?_)
  refine wpAny_pure ?_
  have hx₂ : ((s.heap.push emptyDict).update x λ o => { o with dict := some s.heap.objs.size }).get? x = some ⟨.ref C, some s.heap.objs.size, .fields vs, sl⟩ := Heap.get?_update_self _ hx₁ rfl
  have hd₂ : ((s.heap.push emptyDict).update x λ o => { o with dict := some s.heap.objs.size }).get? s.heap.objs.size = some (dictOf [] 0) :=
   (Heap.get?_update_other _ _ hxs).trans (Heap.get?_push_size _ rfl)
  refine Ah (s := { s with heap := (s.heap.push emptyDict).update x λ o => { o with dict := some s.heap.objs.size }, toks := s.toks + 1 }) hd₂ rfl (Nat.zero_le _) ?_
  refine h _ _ s.heap.objs.size _ (putN name [] 0) ((Heap.get?_update_other _ _ hxs.symm).trans hx₂) ?_ (nS name (PyData.keyHash w.params name) (s.toks + 1) v []) rfl (λ es n d' e => by cases e) (λ _ => by simp [putL]) (λ y hy => jF hy _ _ v [] rfl) hxs.symm (λ d' e => by cases e) (λ _ => bp _) (λ b o hb hbd e => ?_) (λ a e => ?_)
  ·have := Heap.get?_update_self (Obj.putName name (PyData.keyHash w.params name) (.str name (s.toks + 1)) v) hd₂ (by rw [putName_dict]; rfl)
   rw [this, putName_dict]
  ·rw [Heap.get?_update_other _ _ (Ne.symm hbd), Heap.get?_update_other _ _ (Ne.symm hb)]
   exact Heap.get?_push_of_some _ e
  ·cases q : s.heap.get? a with
   | none => rfl
   | some o =>
    exfalso
    have ha : a ≠ s.heap.objs.size := Nat.ne_of_lt (Heap.lt_size q)
    rw [Heap.get?_update_other _ _ (Ne.symm ha)] at e
    by_cases hax : a = x
    ·subst hax; rw [hx₂] at e; cases e
    ·rw [Heap.get?_update_other _ _ (Ne.symm hax), Heap.get?_push_of_some _ q] at e; cases e
 | some d =>
  obtain ⟨hdx, es, n, hd, nr, hl⟩ := hd d rfl
  have I : InstAt s.heap x ⟨.ref C, some d, .fields vs, sl⟩ C (some (dictOf es n)) := ⟨hx, rfl, rfl, hd⟩
  refine set_plain X I hs (wP (s := { s with toks := s.toks + 1 }) X I ho ht λ b => ?_)
  dsimp only
  refine wpAny_bind (wpAny_pure (wpAny_bind (wpAny_bind (wpAny_loadPart hx (wpAny_bind (Looks.here (s := { s with toks := s.toks + 1 }) (looks_clsIn X hc) ?_))))))
  rw [hdict]
  refine wpAny_pure (a := some d) ?_
  refine Ah (s := { s with toks := s.toks + 1 }) hd nr hl ?_
  have hd' := Heap.get?_update_self (Obj.putName name (PyData.keyHash w.params name) (.str name (s.toks + 1)) v) hd (by rw [putName_dict]; rfl)
  rw [putName_dict] at hd'
  refine h _ _ d _ _ ((Heap.get?_update_other _ _ hdx).trans hx) hd' (nS name (PyData.keyHash w.params name) (s.toks + 1) v es) (p4 name _ _ v es nr) (λ es0 n0 d' e e2 => ?_) (λ e => by cases e) (λ y hy => by rw [Option.bind_some, hd]; exact jF hy _ _ v es nr) hdx (λ d' e => by cases e; rfl) (λ e => by cases e) (λ b o hb hbd e => ?_) (λ a e => ?_)
  ·cases e; rw [hd] at e2; cases e2; exact qI name _ _ v es
  ·rw [Heap.get?_update_other _ _ (Ne.symm hbd)]; exact e
  ·cases q : s.heap.get? a with
   | none => rfl
   | some o =>
    exfalso
    by_cases had : a = d
    ·subst had; rw [hd'] at e; cases e
    ·rw [Heap.get?_update_other _ _ (Ne.symm had), q] at e; cases e
end
section
variable {prog : Program} {w : World} {A : Around} {K : Frag} {C x : Addr} {s : Shared} {R : Result -> Shared -> Prop} {E : Value -> Shared -> Prop}
theorem tw {M : Model} {whole : Bool} {sig : Manifest.Signature} {self : Value} {cd : ClassData} {Q : String -> Shared -> Prop} (hs : sig.receiver = .self) (hT : Looks M s.heap (typeOf self) (.ref C)) (hc : Looks M s.heap (classData C) cd) (h : ∀ x, Q x s) :
  wpAny M A (Bind.printed "*" whole sig (some self)) Q E s := by
 unfold Bind.printed Bind.receiverType
 rw [if_neg (by decide), hs]
 refine wpAny_bind (m := (if (Manifest.Receiver.self == Manifest.Receiver.cls) = true then pure self else typeOf self)) ?_
 rw [if_neg (by decide)]
 refine hT.here (wpAny_bind (m := typeNameWhole _) ?_)
 show wpAny _ _ (do return (← classData C).name.toString) _ _ _
 exact wpAny_bind (hc.here (wpAny_pure (wpAny_pure (h _))))
theorem DP {od : Option Addr} {vs : Array Value} {sl : Array (Option Value)} {t0 : Addr} {rest : List Value} {Q : Value -> Shared -> Prop} (X : K.In s.heap) (hx : s.heap.get? x = some ⟨.ref C, od, .fields vs, sl⟩) (hok : nz K C = true)
  (h0 : vs[0]? = some (.ref t0)) (hrest : rest.length ≤ sizeLine)
  (h : Q .none { s with heap := (s.heap.push { cls := .type "tuple", data := .seq rest.toArray }).update x (Obj.mapFields (·.setIfInBounds 0 (.ref s.heap.objs.size))) }) :
  wpAny (model prog w) A (call (.builtin "Exception.__init__") (.ref x :: rest)) Q E s := by
 have F := PySem.F.excCall_Exception
 have Y := fm (M := model prog w) X hok
 obtain ⟨cd, hcd⟩ : ∃ cd, clsIn K C = some cd := by
  unfold nz at hok
  split at hok
  ·rename_i hl; exact ⟨_, by unfold clsIn; rw [hl]⟩
  ·cases hok
 have T1 : Looks (model prog w) s.heap (typeOf (.ref x)) (.ref C) := (Looks.ld hx).andThen .now
 have GJ : wpAny (model prog w) A.in1 (checkBuiltinCall "Exception.__init__" ⟨.ref x :: rest, []⟩) (λ _ s' => s' = s) (λ _ _ => False) s := by
  simp only [checkBuiltinCall, F.initKind, F.initSplit, F.initRow]
  refine wpAny_bind ((T1.andThen Y.exc : Looks _ _ (isInstance (.ref x) (.type "Exception")) true).here ?_)
  simp only [Bool.not_true, Bool.false_eq_true, if_false]
  unfold Bind.checkArgs
  dsimp only
  refine wpAny_bind (m := Bind.printed "*" true _ _) (tw (self := .ref x) rfl T1 (looks_clsIn X hcd) λ full => ?_)
  refine wpAny_bind (m := Bind.printed "Exception" false _ _) (printed_name F.noStar ?_)
  show wpAny _ _ (Sem.onRaise (Bind.check _ full "Exception" _ []) _) _ _ s
  rw [check_varPos]
  exact wpAny_pure rfl
 refine wpAny_call (codeAny_call_builtin F.init.plain F.initEntry (wpAny_mono GJ (λ _ s' e => ?_) λ _ _ f => f.elim))
 subst e
 unfold Builtin.«BaseException.__init__»
 dsimp only
 rw [if_neg (by simp)]
 unfold newTuple Builtin.BaseException.bexcPut
 have hsz : 0 < vs.size := (Array.getElem?_eq_some_iff.mp h0).1
 have he₁ := Heap.get?_push_of_some (h := s'.heap) { cls := .type "tuple", data := .seq rest.toArray } hx
 refine wpAny_bind (wpAny_newObj_type (wpAny_bind (wpAny_bind (wpAny_field he₁ rfl h0 (wpAny_bind (wpAny_setField he₁ rfl hsz ?_))))) (by show rest.toArray.size ≤ sizeLine; rw [List.size_toArray]; exact hrest))
 exact wpAny_letGo (wpAny_pure h)
end
section
variable {prog : Program} {w : World} {A : Around} {K : Frag} {s : Shared} {E : Value -> Shared -> Prop} {name : Str} {v : Value}
theorem qM {T : String} {pl : Sem Bool} {Q : Value × List Value -> Shared -> Prop} (X : K.In s.heap) (ht : typeOf (.type T) = pure (.type "type")) (hs : Manifest.isStub T = false)
  (e : findCls K (.type T) (.type "type") name = some (.val v)) (hh : handedIn v = true) (h : Q (v, []) { s with toks := s.toks + 1 }) : wpAny (model prog w) A (getMethod (.type T) name pl) Q E s := by
 have hstub : opaqueClassAbove (.type T) = pure none := by unfold opaqueClassAbove; dsimp only; rw [hs]; rfl
 have L0 : Looks (model prog w) s.heap (typeOf (.type T)) (.type "type") := Looks.of_pure ht
 have hg : findIn K (.type "type") "__getattribute__" = some (some (.builtin "type.__getattribute__")) := type_tga
 unfold getMethod specialOf
 refine wpAny_bind (wpAny_bind (L0.here ((looks_findIn X hg).here ?_)))
 dsimp only
 rw [if_pos canon_tga]
 refine wpAny_bind (wpAny_mono (Q := λ v => Q (v, [])) (E := E) ?_ (λ _ _ z => wpAny_pure z) λ _ _ z => z)
 have LO : Looks (model prog w) s.heap (opaqueClassAbove (.type T)) none := Looks.of_pure hstub
 refine cls_open X LO L0 hg (looks_hook X (r := none) (by rfl)) (by show subIn K _ _ = _; rfl) e
  (wpAny_pure (by show wpAny _ _ (handedOut v) _ _ _; rw [handedOut_of hh]; exact wpAny_pure h))
end
noncomputable def wu (K : Frag) (C : Addr) : Option Addr := oY (findIn K (.ref C) "__init__")
noncomputable def kE (f : Str) (st : Stmt) : Bool := eV st λ ts v _ => oz ts λ t => cr t λ o n _ => cc o λ s _ => cc v λ x _ => (s == ("self" : Str)) && (n == f) && (x == f)
theorem l4 {f : Str} {st : Stmt} (h : kE f st = true) : ∃ sp ap vp p, st = .Assign [.Attribute (.Name "self" sp) f ap] (.Name f vp) p := by
 apply d3 h; intro ts v p h
 apply bk h; intro t h
 apply cB h; intro o n ap h
 apply aP h; intro s sp h
 apply aP h; intro x vp h
 refine aS h λ h h3 => ?_
 refine aS h λ h1 h2 => ?_
 cases eq_of_beq h1; cases eq_of_beq h2; cases eq_of_beq h3
 exact ⟨sp, ap, vp, p, rfl⟩
noncomputable def um (st : Stmt) : Bool := mG st λ c _ => eO c λ v i apos as pos => cc v λ e _ => AC as λ y z => cc y λ s _ => cc z λ w _ => (e == ("Exception" : Str)) && (i == ("__init__" : Str)) && (s == ("self" : Str)) && (w == ("what" : Str)) && (apos.endLine == pos.line)
theorem un {st : Stmt} (h : um st = true) : ∃ ep apos sp wp pos p, st = .Expr (.Call (.Attribute (.Name "Exception" ep) "__init__" apos) [.Name "self" sp, .Name "what" wp] [] pos) p ∧ (apos.endLine == pos.line) = true := by
 apply lY h; intro c p h
 apply cN h; intro v i apos as pos h
 apply aP h; intro e ep h
 apply dD h; intro y z h
 apply aP h; intro s sp h
 apply aP h; intro w wp h
 refine aS h λ h h5 => ?_
 refine aS h λ h h4 => ?_
 refine aS h λ h h3 => ?_
 refine aS h λ h1 h2 => ?_
 cases eq_of_beq h1; cases eq_of_beq h2; cases eq_of_beq h3; cases eq_of_beq h4
 exact ⟨ep, apos, sp, wp, pos, p, rfl, h5⟩
noncomputable def uk (b : FuncBody) : Bool := mJ b λ l => fy l λ s1 r => AC r λ s2 s3 => um s1 && kE "what" s2 && kE "at" s3
theorem ul {b : FuncBody} (h : uk b = true) : ∃ s1 s2 s3, b = .stmts [s1, s2, s3] ∧ um s1 = true ∧ kE "what" s2 = true ∧ kE "at" s3 = true := by
 apply iK h; intro l h
 apply bu h; intro s1 r h
 apply dD h; intro s2 s3 h
 refine aS h λ h h3 => ?_
 refine aS h λ h1 h2 => ?_
 exact ⟨s1, s2, s3, rfl, h1, h2, h3⟩
noncomputable def FA (K : Frag) (fd : FuncData) : Bool :=
 fd.closure.isEmpty && (fd.globals == mainGlobals) && (fd.builtins == builtinsNs) && (fd.scope.kind == .function) && !fd.scope.isCoroutine && !fd.scope.isGenerator && fd.params.posonlyargs.isEmpty && fd.params.vararg.isNone &&
 fd.params.kwonlyargs.isEmpty && fd.params.kwarg.isNone && (bo fd == [("self" : Str), "what", "at"]) && codeIn K fd.code fd.qualname &&
 (fd.scope.names == [(("self" : Str), .local), ("what", .local), ("at", .local), ("Exception", .globalImplicit)]) && uk fd.body &&
 wN fd.defaults λ d => Cz (K.lookup d) λ vs => vs == #[Value.none]
structure ES (K : Frag) (fd : FuncData) : Prop where
 c1 : fd.closure = []
 c2 : fd.globals = mainGlobals
 c3 : fd.builtins = builtinsNs
 c4 : fd.scope.kind = .function
 c5 : fd.scope.isCoroutine = false
 c6 : fd.scope.isGenerator = false
 c7 : fd.params.posonlyargs = []
 c8 : fd.params.vararg = none
 c9 : fd.params.kwonlyargs = []
 c10 : fd.params.kwarg = none
 c11 : bo fd = [("self" : Str), "what", "at"]
 c12 : codeIn K fd.code fd.qualname = true
 c13 : fd.scope.names = [(("self" : Str), .local), ("what", .local), ("at", .local), ("Exception", .globalImplicit)]
 c14 : uk fd.body = true
 c15 : ∃ dT tcls tdict tn tsl, fd.defaults = .ref dT ∧ K.lookup dT = some ⟨tcls, tdict, .seq #[Value.none] tn, tsl⟩
theorem yS {K : Frag} {fd : FuncData} (h : FA K fd = true) : ES K fd :=
 have x15 := ab h
 have x14 := ab x15.1
 have x13 := ab x14.1
 have x12 := ab x13.1
 have x11 := ab x12.1
 have x10 := ab x11.1
 have x9 := ab x10.1
 have x8 := ab x9.1
 have x7 := ab x8.1
 have x6 := ab x7.1
 have x5 := ab x6.1
 have x4 := ab x5.1
 have x3 := ab x4.1
 have x2 := ab x3.1
 ⟨List.isEmpty_iff.mp x2.1, eq_of_beq x2.2, eq_of_beq x3.2, eq_of_beq x4.2, qP x5.2, qP x6.2, List.isEmpty_iff.mp x7.2, Option.isNone_iff_eq_none.mp x8.2, List.isEmpty_iff.mp x9.2, Option.isNone_iff_eq_none.mp x10.2, eq_of_beq x11.2, x12.2, eq_of_beq x13.2, x14.2,
  p8 (P := λ v => ∃ dT tcls tdict tn tsl, v = .ref dT ∧ K.lookup dT = some ⟨tcls, tdict, .seq #[Value.none] tn, tsl⟩) x15.2 λ dT h => ⟨dT, xJ (P := λ o => ∃ tcls tdict tn tsl, .ref dT = Value.ref dT ∧ o = some ⟨tcls, tdict, .seq #[Value.none] tn, tsl⟩) h λ c d a n s e => ⟨c, d, n, s, rfl, eq_of_beq e ▸ rfl⟩⟩⟩
noncomputable def uw (r : Option CFound) : Bool := match r with | some (.val (.builtin i)) => i == "Exception.__init__" | _ => false
theorem ux {r : Option CFound} (h : uw r = true) : r = some (.val (.builtin "Exception.__init__")) := by
 unfold uw at h
 split at h
 ·exact congrArg (λ i => some (CFound.val (.builtin i))) (eq_of_beq h)
 ·exact bY h
noncomputable def yV (K : Kx) (C : Addr) : Bool := nz K.frag C && (keepIn K.frag (.ref C) && (mv K.frag C && (takerIn K.frag C "what" == some none) && (takerIn K.frag C "at" == some none) && hasDictIn K.frag C && (findIn K.frag (.ref C) "__setattr__" == some (some (.builtin "object.__setattr__"))) &&
   (nsIn K.frag mainGlobals "Exception" == some none) && uw (findCls K.frag (.type "Exception") (.type "type") "__init__") &&
   bJ (wu K.frag C) λ f => isFn K.frag (.ref f) && oE (K.frag.lookup f) λ fd => FA K.frag fd))
structure CK (K : Kx) (C fI : Addr) (fd : FuncData) : Prop where
 k1 : nz K.frag C = true
 k2 : mv K.frag C = true
 k3 : takerIn K.frag C "what" = some none
 k4 : takerIn K.frag C "at" = some none
 k5 : hasDictIn K.frag C = true
 k6 : findIn K.frag (.ref C) "__setattr__" = some (some (.builtin "object.__setattr__"))
 k8 : nsIn K.frag mainGlobals "Exception" = some none
 k9 : findCls K.frag (.type "Exception") (.type "type") "__init__" = some (.val (.builtin "Exception.__init__"))
 k10 : typeIn K.frag (.ref fI) = some (.type "function")
 init : findIn K.frag (.ref C) "__init__" = some (some (.ref fI))
 look : ∃ oc od osl, K.frag.lookup fI = some ⟨oc, od, .func fd, osl⟩
 fd : ES K.frag fd
theorem GS {K : Kx} {C : Addr} (h : yV K C = true) : ∃ fI fd, CK K C fI fd :=
 have y1 := ab h
 have z := ab (ab y1.2).2
 have y2 := ab z.1
 have y3 := ab y2.1
 have y4 := ab y3.1
 have y5 := ab y4.1
 have y6 := ab y5.1
 have y7 := ab y6.1
 aH (P := λ o => wu K.frag C = o -> ∃ fI fd, CK K C fI fd) z.2 (λ f h e =>
  have w := ab h
  oF (P := λ o => K.frag.lookup f = o -> ∃ fI fd, CK K C fI fd) w.2 (λ c d fd s h l => ⟨f, fd, y1.1, y7.1, eq_of_beq y7.2, eq_of_beq y6.2, y5.2, eq_of_beq y4.2, eq_of_beq y3.2, ux y2.2, eq_of_beq w.1, eY e, ⟨c, d, s, l⟩, yS h⟩) rfl) rfl
noncomputable def iu (K : Kx) : Bool := bJ (dB K) λ C => yV K C
theorem p9 {α : Type} {o : Option α} {k : α -> Bool} {a : α} (h : bJ o k = true) (e : o = some a) : k a = true := by rw [e] at h; exact h
theorem lj {K : Kx} {C : Addr} (h : iu K = true) (hC : dB K = some C) : nz K.frag C = true ∧ keepIn K.frag (.ref C) = true := by
 have h : yV K C = true := p9 h hC
 exact ⟨(ab h).1, (ab (ab h).2).1⟩
theorem yU {s : Shared} {fd : FuncData} {T : Addr} {o : Obj} {n : Nat} {v0 v1 v2 : Value} (h1 : fd.params.posonlyargs = []) (h2 : fd.params.vararg = none) (h3 : fd.params.kwonlyargs = []) (h4 : fd.params.kwarg = none)
  (hns : bo fd = [("self" : Str), "what", "at"]) (hd : fd.defaults = .ref T) (ho : s.heap.get? T = some o) (hs : o.data = .seq #[Value.none] n) :
  BindsTo s fd ⟨[v0, v1, v2], []⟩ [(("self" : Str), v0), ("what", v1), ("at", v2)] := by
 intro M A E Q hq
 obtain ⟨name, qn, ps, bd, sc, gl, cl, df, kd⟩ := fd
 obtain ⟨po, as, va, ko⟩ := ps
 unfold bo at hns
 dsimp only at h1 h2 h3 h4 hd hns
 subst h1 h2 h3 h4 hd
 refine wpAny_bind (m := seqItems? (.ref T)) (wpAny_seqItems ho hs ?_)
 rw [hns]
 exact wpAny_of_eq (a := [(("self" : Str), v0), ("what", v1), ("at", v2)]) rfl hq
section
variable {K : Kx} {g : Heap} {mg mb : Str -> Option Value} {A : Around} {s : Shared} {E : Value -> Shared -> Prop}
theorem FC {k : Nat} {C : Addr} {w a : Value} {Q : Value -> Shared -> Prop} (G : dw K g mg mb) (ck : iu K = true) (hC : dB K = some C) (hR : cR (k + 1) A) (keep : g.StaysIn s.heap)
  (h : ∀ h' tk e d es n t, h'.get? e = some ⟨.ref C, some d, .fields #[.ref t, .none, .none, .none, .bool false, .none], #[]⟩ -> h'.get? d = some (dictOf es n) -> getL "at" es = some (some a) -> getL "told" es = some none -> s.heap.get? e = none -> s.heap.get? d = none ->
   (∀ b o, s.heap.get? b = some o -> h'.get? b = some o) -> (∀ a, h'.get? a = none -> s.heap.get? a = none) -> Q (.ref e) (up s h' tk)) :
  wpAny (model K.prog K.w) A (call (.ref C) [w, a]) Q E s := by
 obtain ⟨fI, fd, k1, k2, k3, k4, k5, k6, k8, hfc, k10, hinit, ⟨oc, od, osl, hl⟩, c1, c2, c3, c4, c5, c6, c7, c8, c9, c10, c11, c12, c13, c14, dT, tcls, tdict, tn, tsl, hdT, hlT⟩ := GS (p9 ck hC)
 have kin : K.frag.In s.heap := λ a o e => keep _ _ (G.kin a o e)
 obtain ⟨hh, gs, dr, tk0, os⟩ := s
 refine wpAny_call (sw (fm kin k1) (looks_findIn kin hinit) (λ self => bind_fn kin self k10) (by show 2 ≤ sizeLine; decide) ?_)
 generalize hS1 : (hh.push (db [w, a])).push (fo C hh.objs.size) = S1
 have hk1 : ∀ b o, hh.get? b = some o -> S1.get? b = some o := λ b o e => hS1 ▸ Heap.get?_push_of_some _ (Heap.get?_push_of_some _ e)
 have he1 : S1.get? (hh.objs.size + 1) = some (fo C hh.objs.size) := by
  rw [← hS1]
  have := Heap.get?_push_size (hh.push (db [w, a])) (o := fo C hh.objs.size) rfl
  rwa [Heap.size_push] at this
 have ne0 : hh.get? (hh.objs.size + 1) = none := by
  cases q : hh.get? (hh.objs.size + 1) with
  | none => rfl
  | some o => exact absurd (Heap.lt_size q) (Nat.not_lt.mpr (Nat.le_succ _))
 generalize hx : hh.objs.size + 1 = x at he1 ne0 ⊢
 have keep1 : g.StaysIn S1 := λ b o e => hk1 _ _ (keep b o e)
 have kin1 : K.frag.In S1 := λ a o e => keep1 _ _ (G.kin a o e)
 have hR1 : cR k (A.under (.builtin "type.__call__" ⟨[.ref C, w, a], []⟩)) := hR.make C [w, a]
 generalize A.under (.builtin "type.__call__" ⟨[.ref C, w, a], []⟩) = A1 at hR1 ⊢
 obtain ⟨st1, st2, st3, hbody, b1, b2, b3⟩ := ul c14
 obtain ⟨ep1, apos, sp1, wp1, pos, p1, rfl, hpos⟩ := un b1
 obtain ⟨sp2, wp2, wp3, p2, rfl⟩ := l4 b2
 obtain ⟨sp3, ap2, ap3, p3, rfl⟩ := l4 b3
 clear b1 b2 b3 c14
 have hn : ∀ n, fd.scope.names.lookup n = [(("self" : Str), NameKind.local), ("what", .local), ("at", .local), ("Exception", .globalImplicit)].lookup n := λ n => by rw [c13]
 refine codeAny_call_def (s := ⟨S1, gs, dr, tk0, os⟩) (by have := hR1.1; exact (lnr [_,_,_] [] 0x1011209193) this) (kin1 _ _ hl) rfl (G.lim.keeps keep1) (codeRec_of kin1 c12) hbody (yU c7 c8 c9 c10 c11 hdT (kin1 _ _ hlT) rfl)
  (λ y hy => by rw [c13] at hy; simp at hy; rcases hy with rfl | rfl | rfl | rfl <;> decide) (λ y hy => by rw [hn]; simp at hy; rcases hy with rfl | rfl | rfl <;> rfl) (λ h₀ hns hk2 => ?_) c5 c6 c4
 generalize henv : callEnv fd S1.objs.size fI = env at hns ⊢
 have n1 : env.scope = fd.scope := by rw [← henv]; rfl
 have n2 : env.globals = fd.globals := by rw [← henv]; rfl
 have n3 : env.builtins = fd.builtins := by rw [← henv]; rfl
 have n4 : env.locals = S1.objs.size := by rw [← henv]; rfl
 dsimp only at hk2 hns
 rw [← n4] at hns
 generalize hL : env.locals = L at hns n4
 refine wpAny_noRaise ?_
 have kd : env.scope.kind = .function := by rw [n1]; exact c4
 have ks : env.kindOf "self" = some .local := by unfold Env.kindOf; rw [n1, hn]; decide
 have kw : env.kindOf "what" = some .local := by unfold Env.kindOf; rw [n1, hn]; decide
 have ka : env.kindOf "at" = some .local := by unfold Env.kindOf; rw [n1, hn]; decide
 have ke : env.kindOf "Exception" = some .globalImplicit := by unfold Env.kindOf; rw [n1, hn]; decide
 have hg2 : h₀.Ns mainGlobals mg := G.gns.keeps λ b o e => hk2 _ _ (keep1 b o e)
 have hb2 : h₀.Ns builtinsNs mb := G.bns.keeps λ b o e => hk2 _ _ (keep1 b o e)
 have kin2 : K.frag.In h₀ := λ a o e => hk2 _ _ (kin1 a o e)
 have he2 : h₀.get? x = some (fo C hh.objs.size) := hk2 _ _ he1
 have hLx : L ≠ x := λ q => by have := Heap.lt_size he1; rw [← q, n4] at this; exact Nat.lt_irrefl _ this
 have mE : mg "Exception" = none := mg_none_of G.kin G.gns k8
 have nameSelf : ∀ {M : Model} {h : Heap} {s' : Shared} {p : Pos} {Q' : Value -> Shared -> Prop} {E' : Value -> Shared -> Prop}, s'.heap.Ns L (λ y => [(("self" : Str), Value.ref x), ("what", w), ("at", a)].reverse.lookup y) -> Q' (.ref x) s' -> wpAny M (A1.deeper env) (eval (.Name "self" p) env) Q' E' s' :=
  λ hn q => wpAny_Name (wpAny_loadName_local kd ks (hL ▸ hn) rfl q)
 have nameWhat : ∀ {M : Model} {h : Heap} {s' : Shared} {p : Pos} {Q' : Value -> Shared -> Prop} {E' : Value -> Shared -> Prop}, s'.heap.Ns L (λ y => [(("self" : Str), Value.ref x), ("what", w), ("at", a)].reverse.lookup y) -> Q' w s' -> wpAny M (A1.deeper env) (eval (.Name "what" p) env) Q' E' s' :=
  λ hn q => wpAny_Name (wpAny_loadName_local kd kw (hL ▸ hn) rfl q)
 have nameAt : ∀ {M : Model} {h : Heap} {s' : Shared} {p : Pos} {Q' : Value -> Shared -> Prop} {E' : Value -> Shared -> Prop}, s'.heap.Ns L (λ y => [(("self" : Str), Value.ref x), ("what", w), ("at", a)].reverse.lookup y) -> Q' a s' -> wpAny M (A1.deeper env) (eval (.Name "at" p) env) Q' E' s' :=
  λ hn q => wpAny_Name (wpAny_loadName_local kd ka (hL ▸ hn) rfl q)
 have hcl : eK ⟨K, fd.scope, ["self", "what"], []⟩ (.cons (.var 0) (.cons (.var 1) .nil)) [.Name "self" sp1, .Name "what" wp1] = true := by
  have q0 : aR ⟨K, fd.scope, ["self", "what"], []⟩ (.var 0) (.Name "self" sp1) = true := by
   show Cx.isVar ⟨K, fd.scope, ["self", "what"], []⟩ 0 "self" = true
   unfold Cx.isVar Cx.kind
   simp only [hn]
   rfl
  have q1 : aR ⟨K, fd.scope, ["self", "what"], []⟩ (.var 1) (.Name "what" wp1) = true := by
   show Cx.isVar ⟨K, fd.scope, ["self", "what"], []⟩ 1 "what" = true
   unfold Cx.isVar Cx.kind
   simp only [hn]
   rfl
  show (_ && (_ && true)) = true
  rw [q0, q1]; rfl
 refine wpAny_execs_cons (wpAny_Expr_any ?_ (by unfold interactive; rw [kd]; rfl) rfl)
 refine oj (cx := ⟨K, fd.scope, ["self", "what"], []⟩) rfl hpos hcl (by simp) ?_
 refine Calls.Name_function_global kd ke (Calls.loadGlobal_builtin (by rw [n2, c2]; exact hg2) mE (by rw [n3, c3]; exact hb2) ((G.blt "Exception" (by decide)).trans (show bootBuiltins "Exception" = some (.type "Exception") by decide +kernel)) ?_) (by decide)
 intro pl
 refine qM kin2 (by kernel_rfl) (by decide +kernel) hfc rfl ?_
 refine lK hcl ?_
 refine wpAny_items_cons (nameSelf (h := h₀) hns ?_)
 refine wpAny_items_cons (nameWhat (h := h₀) hns (wpAny_items_nil ?_))
 refine DP (od := none) (t0 := hh.objs.size) (vs := #[.ref hh.objs.size, .none, .none, .none, .bool false, .none]) (sl := #[]) kin2 he2 k1 rfl (by show 1 ≤ sizeLine; decide) ?_
 dsimp only
 have hx0 : (h₀.push (db [w])).get? x = some (fo C hh.objs.size) := Heap.get?_push_of_some _ he2
 have hX1 := Heap.get?_update_self (Obj.mapFields (·.setIfInBounds 0 (.ref h₀.objs.size))) hx0 rfl
 have hXo : ∀ b o, b ≠ x -> h₀.get? b = some o -> ((h₀.push (db [w])).update x (Obj.mapFields (·.setIfInBounds 0 (.ref h₀.objs.size)))).get? b = some o := λ b o hb e => by
  rw [Heap.get?_update_other _ _ (Ne.symm hb)]; exact Heap.get?_push_of_some _ e
 have hXa : ∀ b, ((h₀.push (db [w])).update x (Obj.mapFields (·.setIfInBounds 0 (.ref h₀.objs.size)))).get? b = none -> h₀.get? b = none := λ b e =>
  cJ (λ _ _ e => Heap.get?_push_of_some _ e) b (by
   by_cases q : b = x
   ·subst q; rw [hX1] at e; cases e
   ·rwa [Heap.get?_update_other _ _ (Ne.symm q)] at e)
 generalize hS3 : (h₀.push (db [w])).update x (Obj.mapFields (·.setIfInBounds 0 (.ref h₀.objs.size))) = S3 at hX1 hXo hXa ⊢
 have hX1' : S3.get? x = some ⟨.ref C, none, .fields #[.ref h₀.objs.size, .none, .none, .none, .bool false, .none], #[]⟩ := hX1
 have kin3 : K.frag.In S3 := λ b o e => hXo b o (λ q => by have := kin b o e; rw [q, ne0] at this; cases this) (kin2 b o e)
 have nsL3 := hns.at' λ o e => hXo L o hLx e
 refine wpAny_execs_cons (plainObj_wpAny_Assign_Attribute (nameWhat (h := S3) nsL3 (nameSelf (h := S3) nsL3 ?_)) rfl)
 refine wt (od := none) kin3 hX1' k2 k3 k5 k6 (λ d e => by cases e) λ h4 t4 d es4 n4' q1 q2 q3 q4 q5 q6 qo q7 q8 q9 q10 q11 => ?_
 dsimp only at q1 q2 q9 q10 q11 ⊢
 have hdn : d ≠ L := λ q => by
  obtain ⟨o, _, _, e, _⟩ := nsL3
  have := q9 rfl
  rw [q, e] at this; cases this
 have kin4 : K.frag.In h4 := λ b o e => q10 b o (λ q => by have := kin b o e; rw [q, ne0] at this; cases this) (λ q => by have := kin3 b o e; rw [q, q9 rfl] at this; cases this) (kin3 b o e)
 have nsL4 := nsL3.at' λ o e => q10 L o hLx (Ne.symm hdn) e
 refine wpAny_execs_cons (plainObj_wpAny_Assign_Attribute (nameAt (h := h4) nsL4 (nameSelf (h := h4) nsL4 ?_)) rfl)
 refine wt (od := some d) kin4 q1 k2 k4 k5 k6 (λ d' e => by cases e; exact ⟨q7, es4, n4', q2, q4, Nat.le_trans (q6 rfl) (by decide)⟩) λ h5 t5 d5 es5 n5 r1 r2 r3 r4 r5 r6 ro r7 r8 r9 r10 r11 => ?_
 have hd5 := r8 d rfl
 subst hd5
 dsimp only at r1 r2 r10 r11 ⊢
 refine wpAny_execs_nil ?_
 refine ⟨rfl, ?_⟩
 have up : ∀ b o, hh.get? b = some o -> h5.get? b = some o := λ b o e => by
  have nx : b ≠ x := λ q => by rw [q, ne0] at e; cases e
  have e3 := hXo b o nx (hk2 _ _ (hk1 _ _ e))
  have nd : b ≠ d5 := λ q => by rw [q, q9 rfl] at e3; cases e3
  exact r10 b o nx nd (q10 b o nx nd e3)
 have dn : ∀ b, S3.get? b = none -> hh.get? b = none := λ b e => cJ (λ b o e => hk2 _ _ (hk1 _ _ e)) b (hXa b e)
 have hto : getL "told" es5 = some none := by
  rw [ro "told" (by decide), Option.bind_some, q2]
  exact qo "told" (by decide)
 exact h h5 t5 x d5 es5 n5 _ r1 r2 r3 hto ne0 (dn _ (q9 rfl)) up λ b e => dn b (q11 b (r11 b e))
end
end Mine
end
section
open PySem PySem.W PyProof.Rows PySem.Calls
namespace Mine
section
variable {prog : Program} {w : World} {A : Around} {s : Shared} {E : Value -> Shared -> Prop} {env : Env}
noncomputable def w6 (M : Model) (E : Value -> Shared -> Prop) (v : Value) (s₁ : Shared) : Prop :=
 ∃ a C od vs sl, v = .ref a ∧ s₁.heap.get? a = some ⟨.ref C, od, .fields vs, sl⟩ ∧ jS M s₁.heap C ∧ vs[1]? = some .none ∧ E (.ref a) s₁
theorem w7 {e : Expr} {pos : Pos} {Q : Flow -> Shared -> Prop} (hh : A.handled = none)
  (h : wpAny (model prog w) A (eval e env) (w6 (model prog w) E) E s) : wpAny (model prog w) A (exec (.Raise (some e) none pos) env) Q E s := by
 show wpAny _ A (do standAt pos; raiseStmt env (some (do let v ← eval e env; standAt pos; pure v)) none) Q E s
 refine wpAny_bind (wpAny_standAt ?_)
 unfold raiseStmt
 dsimp only
 refine wpAny_bind (wpAny_bind (wpAny_mono h (λ v s₁ h₁ => wpAny_bind (wpAny_standAt (wpAny_pure ?_))) λ _ _ x => x))
 obtain ⟨a, C, od, vs, sl, rfl, ha, Y, h1, hE⟩ := h₁
 have T1 : Looks (model prog w) s₁.heap (typeOf (.ref a)) (.ref C) := (Looks.ld ha).andThen .now
 have hnt : ∀ {Q' : Bool -> Shared -> Prop}, Q' false s₁ -> wpAny (model prog w) A (isType (.ref a)) Q' E s₁ := by
  intro Q' hq
  simp only [isType, loadHead]
  refine wpAny_bind (wpAny_loadPart ha ?_)
  exact wpAny_pure hq
 refine wpAny_bind (wpAny_pure ?_)
 dsimp only
 refine wpAny_bind (wpAny_holding ?_)
 unfold excFromValue isExcClass
 refine wpAny_bind (wpAny_bind (hnt ?_))
 simp only [Bool.false_eq_true, if_false]
 refine wpAny_pure ?_
 simp only [Bool.false_eq_true, if_false]
 refine wpAny_bind ((T1.andThen Y.bexc : Looks _ _ (isInstance (.ref a) (.type "BaseException")) true).here ?_)
 simp only [if_true]
 refine wpAny_pure ?_
 refine wpAny_bind (hnt ?_)
 simp only [Bool.false_eq_true, if_false]
 unfold raisedInstance
 refine wpAny_bind (wpAny_bind (T1.here (wpAny_bind (Y.ty.here ?_))))
 rw [if_pos (by decide)]
 refine wpAny_pure ?_
 unfold setFlight raiseNew
 refine wpAny_bind (wpAny_bind (wpAny_field ha rfl h1 ?_))
 rw [if_neg (by decide)]
 refine wpAny_pure (wpAny_bind (wpAny_handled ?_))
 rw [hh]
 first
  | exact wpAny_throw hE
  | exact wpAny_bind (wpAny_pure (wpAny_throw hE))
end
section
variable {T : Fn -> ac} {K : Kx} {g : Heap} {mg mb : Str -> Option Value} {Γ : List Str} {D : List Fn} {A : Around} {outer : List Env} {k : Nat} {F L₀ : List Addr} {φ φ' : aO} {σ : aa} {s : Shared} {h h' : Heap} {t' : Nat} {env : Env} {ρ ρ' : aj} {E : Value -> Shared -> Prop}
theorem BW (H : aF T K g mg mb D k) (hR : cR (k + 1) A) (xk : iu K = true) {w a : ME} (ihw : PE T K g Γ D A outer w) (iha : PE T K g Γ D A outer a) : PS T K g Γ D A outer (.raise w a) := by
 intro env F L₀ stm ρ σ φ s Q X Q' E' hc eo ow ha st lo hw hq hx hp
 apply rd hc; intro o c pos0 hc
 refine aS hc λ h0 hc => ?_
 apply iD h0
 apply aH hc; intro r hc
 apply ct hc; intro x xp as pos hc
 apply dD hc; intro y z hc
 have y1 := ab hc
 have y2 := ab y1.1
 have y3 := ab y2.1
 apply bI y3.2
 have hg := y3.1
 rw [eq_of_beq y3.2] at hg
 have h1 := y2.2
 have h2 := y1.2
 cases hC : dB K with
 | none => unfold iu at xk; rw [hC] at xk; exact bY xk
 | some C =>
  have hn : nsIn K.frag mainGlobals "ReadError" = some (some (.ref C)) := eY hC
  have hok := (lj xk hC).1
  have hkeep := (lj xk hC).2
  have hcl : eK ⟨K, env.scope, Γ, D⟩ (.cons w (.cons a .nil)) [y, z] = true := by show (_ && (_ && true)) = true; rw [h1, h2]; rfl
  refine w7 ha.hand (wpAny_Call_NameR (lV H bA eo st hg hn (m3 hcl hkeep ?_)))
  have hxl := hx.low
  refine wpAny_items_cons (ihw env.scope env F y ρ σ φ s _ X _ E' h1 bA eo ha st lo hw ?_ hxl) (cK h1 _ env)
  intro Vw σ₁ φ₁ h₁ t₁ vw hw st₁ sp₁ r₁
  refine wpAny_items_cons (iha env.scope env F z ρ σ₁ φ₁ (up s h₁ t₁) _ X _ E' h2 bA eo ha st₁ (lo.step K g st eo sp₁) hw ?_ (hxl.go st sp₁)) (cK h2 _ env)
  rintro Va σ₂ φ₂ h₂ t₂ va ⟨l, c, rfl, hX⟩ st₂ sp₂ r₂
  refine wpAny_items_nil ⟨H.G.kept st₂, ?_⟩
  refine FC (s := (up s h₂ t₂)) H.G xk hC hR st₂.keep λ h₃ t₃ e d es n t q1 q2 q3 qt q4 q5 q6 q7 => ?_
  have st₃ := St.keeps K g st₂ q6
  have sp₃ : an [] φ φ₂ s.heap h₃ := (sp₁.trans sp₂).trans (an.kept φ₂ q6)
  refine ⟨e, C, some d, _, #[], rfl, q1, fm (H.G.kept st₃) hok, rfl, ?_⟩
  refine hx (.inst .place [l, c]) σ₂ φ₂ h₃ t₃ e hX st₃ ⟨C, d, es, n, va, _, #[], hC, q1, (sp₁.trans sp₂).all _ q4, q2, st₂.fresh q5, q3, qt, an.rep K (F₀ := []) (an.kept φ₂ q6) (λ _ h => nomatch h) r₂, by simp, .inl rfl⟩
   (an.xstep K g st (tR sp₃) ow.sub)
end
end Mine
end
section
open PySem PySem.W PyProof.Rows PySem.Calls Builtin Builtin.ObjectAttr Builtin.Getset_descriptor
set_option maxHeartbeats 4000000
namespace Mine
section
variable {prog : Program} {w : World} {A : Around} {K : Frag} {C x d : Addr} {s : Shared} {E : Value -> Shared -> Prop} {name : Str} {v : Value}
theorem yA : builtinKind "BaseException.__getattribute__" = some .slot := by decide +kernel
theorem xc : splitId "BaseException.__getattribute__" = some ("BaseException", "__getattribute__") := by decide +kernel
theorem FB {expr : Bool} {vs : Array Value} {sl : Array (Option Value)} {es : List DictEntry} {n : Nat} {Q : Value -> Shared -> Prop} (X : K.In s.heap) (hok : nz K C = true) (hx : s.heap.get? x = some ⟨.ref C, some d, .fields vs, sl⟩) (hd : s.heap.get? d = some (dictOf es n))
  (hga : findIn K (.ref C) "__getattribute__" = some (some (.builtin "BaseException.__getattribute__"))) (hgt : findIn K (.ref C) "__getattr__" = some none) (ha : findIn K (.ref C) name = some none) (hh : hasDictIn K C = true)
  (hl : getL name es = some (some v)) (hv : handedIn v = true) (h : Q v { s with toks := s.toks + 1 }) : wpAny (model prog w) A (getAttr (.ref x) name expr) Q E s := by
 have I : InstAt s.heap x ⟨.ref C, some d, .fields vs, sl⟩ C (some (dictOf es n)) := ⟨hx, rfl, rfl, hd⟩
 have Y := fm (M := model prog w) X hok
 obtain ⟨hh', g, dr, t, os⟩ := s
 have L0 := I.type (M := model prog w)
 have L1 := looks_findIn (M := model prog w) X hga
 have L2 : Looks (model prog w) hh' (hookBefore (.ref C)) none := looks_hook X (by rw [if_pos (by rfl)]; exact hgt)
 have LB : Looks (model prog w) hh' (isInstance (.ref x) (.type "BaseException")) true := L0.andThen Y.bexc
 have LF := looks_find (M := model prog w) X I (findObj_own hh ha rfl (by rw [lookIn_dict]; exact hl))
 unfold getAttr getAttrBy
 refine wpAny_bind (wpAny_mkText (wpAny_holding (wpAny_bind (L0.at (wpAny_bind (L1.at ?_))))))
 dsimp only
 have q0 : ((Value.builtin "BaseException.__getattribute__" : Value) == .builtin "object.__getattribute__") = false := by decide +kernel
 rw [if_neg (by rw [q0, Bool.and_false]; exact Bool.false_ne_true)]
 unfold getAttrByItsOwn
 refine wpAny_bind (L2.at ?_)
 unfold callGetattribute
 rw [if_neg (by cases expr <;> decide)]
 refine wpAny_bind (wpAny_attempt (wpAny_holding ?_))
 unfold boundAndCalled
 rw [F.attrBase_Exception.ga.bind (.ref x)]
 refine wpAny_bind (wpAny_pure ?_)
 refine wpAny_call ?_
 show codeAny _ A (.call (.builtin "BaseException.__getattribute__") ⟨[.ref x, .str name t], []⟩) _ _
 have hargs := F.args_bexc_ga (.ref x) (.str name t)
 refine codeAny_call_builtin F.attrBase_Exception.ga.plain F.entry_bexc_ga (@check_slot (model prog w) _ _ ⟨hh', g, dr, t + 1, os⟩ "BaseException.__getattribute__" "BaseException" "__getattribute__" (.ref x) [.str name t] [] _ yA xc LB hargs ?_)
 unfold Builtin.«object.__getattribute__»
 refine wpAny_bind (m := slotArgs _ _ _) (wpAny_pure ?_)
 dsimp only
 refine wpAny_bind (m := attrName _) (wpAny_pure ?_)
 refine wpAny_bind (L0.at ?_)
 refine wpAny_bind (LF.at ?_)
 refine wpAny_pure ?_
 show wpAny _ _ (handedOut v) _ _ _
 rw [handedOut_of hv]
 exact wpAny_pure h
theorem xb : (Manifest.canonical "BaseException.__getattribute__" != "object.__getattribute__") = false := by decide +kernel
theorem yT {f : Addr} {pl : Sem Bool} {vs : Array Value} {sl : Array (Option Value)} {es : List DictEntry} {n : Nat} {Q : Value × List Value -> Shared -> Prop} (X : K.In s.heap) (hx : s.heap.get? x = some ⟨.ref C, some d, .fields vs, sl⟩) (hd : s.heap.get? d = some (dictOf es n))
  (hga : findIn K (.ref C) "__getattribute__" = some (some (.builtin "BaseException.__getattribute__"))) (hk : findIn K (.ref C) "__getattr__" = some none)
  (hf : findIn K (.ref C) name = some (some (.ref f))) (ht : typeIn K (.ref f) = some (.type "function")) (hs : getL name es = some none) (h : Q (.ref f, [.ref x]) s) :
  wpAny (model prog w) A (getMethod (.ref x) name pl) Q E s := by
 have I : InstAt s.heap x ⟨.ref C, some d, .fields vs, sl⟩ C (some (dictOf es n)) := ⟨hx, rfl, rfl, hd⟩
 unfold getMethod specialOf
 refine wpAny_bind (wpAny_bind (I.type.here ((looks_findIn X hga).here ?_)))
 dsimp only
 rw [xb, if_neg (by decide)]
 refine wpAny_bind (wpAny_bind (I.type.here ((looks_findIn X hk).here ?_)))
 refine wpAny_bind (wpAny_bind (I.type.here ((looks_findIn X hf).here (wpAny_bind ((looks_typeIn X ht).here ?_)))))
 rw [if_neg (by decide +kernel)]
 refine wpAny_bind (wpAny_loadPart I.at_ ?_)
 refine wpAny_bind (wpAny_bind (wpAny_loadPart hd ?_))
 rw [nsLook_of (show lookIn name (dictOf es n) = some none from hs)]
 refine wpAny_pure ?_
 exact wpAny_bind (wpAny_rule (wpAny_pure h))
end
end Mine
end
section
open PySem PySem.W PyProof.Rows PySem.Calls
namespace Mine
noncomputable def o1 (f : Str) (x : Expr) : Bool := cr x λ o n _ => cc o λ s _ => (s == ("self" : Str)) && (n == f)
theorem gL {f : Str} {x : Expr} (h : o1 f x = true) : ∃ p q, x = .Attribute (.Name "self" p) f q := by
 apply cB h; intro o n q h
 apply aP h; intro s p h
 refine aS h λ h1 h2 => ?_
 cases eq_of_beq h1; cases eq_of_beq h2
 exact ⟨p, q, rfl⟩
noncomputable def lD (b : FuncBody) : Bool := mJ b λ l => oz l λ s => dq s λ o _ => bJ o λ x => fH x λ ts _ _ => AC ts λ a b => o1 "line" a && o1 "column" b
theorem pw {b : FuncBody} (h : lD b = true) : ∃ p1 q1 p2 q2 k tp rp, b = .stmts [.Return (some (.Tuple [.Attribute (.Name "self" p1) "line" q1, .Attribute (.Name "self" p2) "column" q2] k tp)) rp] := by
 apply iK h; intro l h
 apply bk h; intro s h
 apply cD h; intro o rp h
 apply aH h; intro x h
 apply eh h; intro ts k tp h
 apply dD h; intro a b h
 refine aS h λ h1 h2 => ?_
 obtain ⟨p1, q1, rfl⟩ := gL h1
 obtain ⟨p2, q2, rfl⟩ := gL h2
 exact ⟨p1, q1, p2, q2, k, tp, rp, rfl⟩
noncomputable def FI : CmpOp -> Bool | .Is => true | _ => false
theorem zf {o : CmpOp} (h : FI o = true) : o = .Is := by cases o <;> first | rfl | exact bY h
noncomputable def kN (b : FuncBody) : Bool := mJ b λ l => AC l λ s1 s2 => (tm s1 λ t _ e _ => e.isEmpty && dR t λ l os rs _ => oz os λ o => oz rs λ r => FI o && o1 "at" l && cv r λ c _ _ => c.ctorIdx == 0) &&
 (dq s2 λ o _ => bJ o λ x => eO x λ v t apos as pos => as.isEmpty && o1 "at" v && (t == ("told" : Str)) && (apos.endLine == pos.line))
theorem rI {b : FuncBody} (h : kN b = true) : ∃ p1 q1 n cp xp body ip p2 q2 apos pos rp, b = .stmts [.If (.Compare (.Attribute (.Name "self" p1) "at" q1) [.Is] [.Constant .none n cp] xp) body [] ip, .Return (some (.Call (.Attribute (.Attribute (.Name "self" p2) "at" q2) "told" apos) [] [] pos)) rp] ∧ (apos.endLine == pos.line) = true := by
 apply iK h; intro l h
 apply dD h; intro s1 s2 h
 refine aS h λ h g => ?_
 apply lC h; intro t body e ip h
 refine aS h λ h0 h => ?_
 apply bz h0
 apply cC h; intro l os rs xp h
 apply bk h; intro o h
 apply bk h; intro r h
 refine aS h λ h1 h => ?_
 refine aS h1 λ h1 h2 => ?_
 cases zf h1
 obtain ⟨p1, q1, rfl⟩ := gL h2
 apply cm h; intro c n cp h
 apply pC h
 apply cD g; intro o rp g
 apply aH g; intro x g
 apply cN g; intro v t apos as pos g
 refine aS g λ g g3 => ?_
 refine aS g λ g g2 => ?_
 refine aS g λ g0 g1 => ?_
 apply bz g0
 obtain ⟨p2, q2, rfl⟩ := gL g1
 cases eq_of_beq g2
 exact ⟨p1, q1, n, cp, xp, body, ip, p2, q2, apos, pos, rp, rfl, g3⟩
noncomputable def lF (K : Kx) (fd : FuncData) : Bool := DQ K fd ["self"] 1 && (fd.scope.names == [(("self" : Str), NameKind.local)])
noncomputable def j3 (K : Frag) (C : Addr) : Option Addr := oY (findIn K (.ref C) "told")
noncomputable def Ey (K : Kx) (C p : Addr) : Bool := (findIn K.frag (.ref C) "__getattribute__" == some (some (.builtin "BaseException.__getattribute__"))) && (findIn K.frag (.ref C) "__getattr__" == some none) && (findIn K.frag (.ref C) "at" == some none) && hasDictIn K.frag C && nz K.frag C &&
   (oE (K.frag.lookup p) λ fd => lF K fd && lD fd.body) && (bJ (j3 K.frag C) λ f => isFn K.frag (.ref f) && keepIn K.frag (.ref f) && (oE (K.frag.lookup f) λ fd => lF K fd && kN fd.body))
noncomputable def gO (K : Kx) : Bool := bJ (dB K) λ C => bJ (bg K .place_told) λ p => Ey K C p
structure tX (K : Kx) (C p : Addr) : Prop where
 k1 : findIn K.frag (.ref C) "__getattribute__" = some (some (.builtin "BaseException.__getattribute__"))
 k2 : findIn K.frag (.ref C) "__getattr__" = some none
 k3 : findIn K.frag (.ref C) "at" = some none
 k4 : hasDictIn K.frag C = true
 k5 : nz K.frag C = true
 pl : ∃ c d fd s, K.frag.lookup p = some ⟨c, d, .func fd, s⟩ ∧ lF K fd = true ∧ lD fd.body = true
 fn : ∃ f c d fd s, j3 K.frag C = some f ∧ isFn K.frag (.ref f) = true ∧ keepIn K.frag (.ref f) = true ∧ K.frag.lookup f = some ⟨c, d, .func fd, s⟩ ∧ lF K fd = true ∧ kN fd.body = true
theorem wy {o : Option Obj} {k : FuncData -> Bool} {P : Prop} (h : oE o k = true) (f : ∀ c d fd s, o = some ⟨c, d, .func fd, s⟩ -> k fd = true -> P) : P :=
 oF (P := λ o' => o = o' -> P) h (λ c d fd s h e => f c d fd s e h) rfl
theorem jQ {K : Kx} (h : gO K = true) : ∃ C p, dB K = some C ∧ bg K .place_told = some p ∧ tX K C p := by
 refine aH (P := λ o => dB K = o -> ∃ C p, dB K = some C ∧ bg K .place_told = some p ∧ tX K C p) h (λ C h e1 => aH (P := λ o => bg K .place_told = o -> ∃ C p, dB K = some C ∧ bg K .place_told = some p ∧ tX K C p) h (λ p h e2 => ?_) rfl) rfl
 have x7 := ab h
 have x6 := ab x7.1
 have x5 := ab x6.1
 have x4 := ab x5.1
 have x3 := ab x4.1
 have x2 := ab x3.1
 exact ⟨C, p, e1, e2, eq_of_beq x2.1, eq_of_beq x2.2, eq_of_beq x3.2, x4.2, x5.2, wy x6.2 λ c d fd s l g => ⟨c, d, fd, s, l, ab g⟩,
  aH (P := λ o => j3 K.frag C = o -> ∃ f c d fd s, j3 K.frag C = some f ∧ isFn K.frag (.ref f) = true ∧ keepIn K.frag (.ref f) = true ∧ K.frag.lookup f = some ⟨c, d, .func fd, s⟩ ∧ lF K fd = true ∧ kN fd.body = true) x7.2
   (λ f h e => have y := ab h; wy y.2 λ c d fd s l g => ⟨f, c, d, fd, s, e, (ab y.1).1, (ab y.1).2, l, ab g⟩) rfl⟩
section
variable {K : Kx} {g : Heap} {mg mb : Str -> Option Value} {A : Around} {F : List Addr} {φ : aO} {σ : aa} {s : Shared} {E : Value -> Shared -> Prop}
theorem pB {p : Addr} {fd : FuncData} {oc : Value} {od : Option Addr} {osl : Array (Option Value)} {o : Value} {body : List Stmt} {R : Result -> Shared -> Prop} (G : dw K g mg mb) (hl : K.frag.lookup p = some ⟨oc, od, .func fd, osl⟩) (hfd : lF K fd = true) (hb : fd.body = .stmts body)
  (hR : A.depth < recursionLimit) (st : St K g F φ σ s.heap)
  (h : ∀ (env : Env) (h₀ : Heap) (tk : Nat), env.scope.kind = .function -> env.kindOf "self" = some .local -> h₀.Ns env.locals (λ y => [(("self" : Str), o)].reverse.lookup y) -> (∀ b x, s.heap.get? b = some x -> h₀.get? b = some x) -> s.heap.get? env.locals = none ->
   wpAny (model K.prog K.w) (A.deeper env) (execs body env) (λ f s' => R (.ok (.ret (match f with | .ret v => v | _ => .none))) s') (λ _ _ => False) (up s h₀ tk)) :
  codeAny (model K.prog K.w) A (.call (.ref p) ⟨[o], []⟩) R s := by
 have x := ab hfd
 obtain ⟨⟨c1, c2, c3, c4, c5, c6, c7, c8, c9, c10, c11, c12, c13, c14, c16⟩, c15⟩ := GT x.1
 have c17 := eq_of_beq x.2
 have kin := G.kept st
 have c12 : bo fd = [("self" : Str)] := c12
 have hbind : bindArgs fd ⟨[o], []⟩ = pure ((bo fd).zip [o]) := lJ c7 c8 c9 c10 c11 (show (bo fd).Nodup by rw [c12]; decide) (show (bo fd).length = 1 by rw [c12]; rfl)
 rw [c12] at hbind
 refine codeAny_call_def hR (kin _ _ hl) rfl (G.lim.keeps st.keep) (codeRec_of kin c15) hb (BindsTo.of_eq hbind) (λ y hy => by rw [c17] at hy; simp at hy; rcases hy with rfl; decide) (λ y hy => by rw [c17]; simp at hy; rcases hy with rfl; rfl) (λ h₀ hns hk => ?_) c5 c6 c4
 refine wpAny_noRaise ?_
 exact h _ h₀ _ c4 (by show fd.scope.names.lookup _ = _; rw [c17]; rfl) hns hk (bp _)
theorem kF {env : Env} {o : Value} {name : Str} {p q : Pos} {Q : Value -> Shared -> Prop} (kd : env.scope.kind = .function) (ks : env.kindOf "self" = some .local) (hns : s.heap.Ns env.locals (λ y => [(("self" : Str), o)].reverse.lookup y))
  (h : wpAny (model K.prog K.w) A (getAttr o name true) Q E s) : wpAny (model K.prog K.w) A (eval (.Attribute (.Name "self" p) name q) env) Q E s := by
 rw [arm_eval_Attribute, jO name env _ _ rfl]
 exact wpAny_bind (wpAny_Name (wpAny_loadName_local kd ks hns rfl (wpAny_bind (wpAny_standAt (wpAny_bind (wpAny_holding (wpAny_mono h (λ r s₂ h₂ => wpAny_bind (wpAny_letTemporaryGo (wpAny_pure h₂))) λ _ _ x => x)))))))
theorem xR {p : Addr} {l c : AV} {o : Value} {Q : Value -> Shared -> Prop} (G : dw K g mg mb) (ck : gE K = true) (tk : gO K = true) (hp : bg K .place_told = some p) (hR : A.depth < recursionLimit) (st : St K g F φ σ s.heap)
  (ro : aM K s.heap F φ (.inst .place [l, c]) o) (h : Ok K g F φ s (.tup [l, c], σ) Q) :
  wpAny (model K.prog K.w) A (call (.ref p) [o]) Q E s := by
 obtain ⟨C, p', hC, hp', tk⟩ := jQ tk
 rw [hp] at hp'; cases hp'
 obtain ⟨oc, od, fd, osl, hl, hfd, hb⟩ := tk.pl
 obtain ⟨sp1, lp1, sp2, cp1, k1, tp, rp, hbody⟩ := pw hb
 refine wpAny_call (pB G hl hfd hbody hR st λ env h₀ t₀ kd ks hns hk hnew => ?_)
 have st₀ := St.keeps K g st hk
 have ro₀ : aM K h₀ F φ (.inst .place [l, c]) o := an.rep K (F₀ := []) (an.kept φ hk) (λ _ h => nomatch h) ro
 refine wpAny_execs_cons (wpAny_Return_some (wpAny_Tuple ?_))
 refine wpAny_items_cons (kF (s := (up s h₀ t₀)) kd ks hns (u5 (σ := σ) (vo := .inst .place [l, c]) (f := .line) (r := l) G ck rfl st₀ ro₀ λ φ₁ h₁ t₁ v₁ st₁ sp₁ r₁ => ?_))
 have hns₁ := hns.at' λ x e => sp₁.chg _ x e λ q => st.fresh hnew (iM q (λ _ h => nomatch h) λ _ h => h)
 refine wpAny_items_cons (kF (s := (up s h₁ t₁)) kd ks hns₁ (u5 (σ := σ) (vo := .inst .place [l, c]) (f := .column) (r := c) G ck rfl st₁ (cP ro₀ sp₁) λ φ₂ h₂ t₂ v₂ st₂ sp₂ r₂ => ?_))
 refine wpAny_items_nil ⟨by show 2 ≤ sizeLine; decide, ?_⟩
 have rl : ao K h₂ F φ₂ [l, c] [v₁, v₂] := .cons (cP r₁ sp₂) (.cons r₂ .nil)
 have rt := St.newTup st₂ (by show 2 ≤ sizeLine; decide) rl
 exact h φ₂ _ _ _ (st₂.pushed _) ((((an.kept φ hk).trans sp₁).trans sp₂).trans (an.pushed φ₂ h₂ _)) rt
end
section
variable {K : Kx} {g : Heap} {mg mb : Str -> Option Value} {A : Around} {F : List Addr} {φ : aO} {σ : aa} {s : Shared} {E : Value -> Shared -> Prop}
theorem At {C f e d : Addr} {l c : AV} {v : Value} {vs : Array Value} {sl : Array (Option Value)} {es : List DictEntry} {n : Nat} {Q : Value -> Shared -> Prop} (G : dw K g mg mb) (ck : gE K = true) (tk : gO K = true) (hC : dB K = some C) (hf : j3 K.frag C = some f)
  (hR : A.depth + 2 < recursionLimit) (st : St K g F φ σ s.heap) (hx : s.heap.get? e = some ⟨.ref C, some d, .fields vs, sl⟩) (hd : s.heap.get? d = some (dictOf es n)) (hat : getL "at" es = some (some v)) (rv : aM K s.heap F φ (.inst .place [l, c]) v)
  (h : Ok K g F φ s (.tup [l, c], σ) Q) : wpAny (model K.prog K.w) A (call (.ref f) [.ref e]) Q E s := by
 have tk' := tk
 obtain ⟨C', p, hC', hp, tk⟩ := jQ tk
 cases hC.symm.trans hC'
 obtain ⟨k1, k2, k3, k4, k5, -, f', oc, od, fd, osl, hf', k6, k7, hl, hfd, hb⟩ := tk
 cases hf.symm.trans hf'
 obtain ⟨sp1, ap1, nk, np, cp, ib, ip, sp2, ap2, apos, pos, rp, hbody, hpos⟩ := rI hb
 refine wpAny_call (pB G hl hfd hbody (by exact (lnr [_,_] [] 0x10112609192) hR) st λ env h₀ t₀ kd ks hns hk hnew => ?_)
 have st₀ := St.keeps K g st hk
 have rv₀ : aM K h₀ F φ (.inst .place [l, c]) v := an.rep K (F₀ := []) (an.kept φ hk) (λ _ h => nomatch h) rv
 have kin := G.kept st₀
 have hv : handedIn v = true := zc rv₀
 have hnn : (v == .none) = false := by cases rv₀ with | mk _ _ _ _ _ e => rw [e]; rfl
 have get : ∀ {A' : Around} {t' : Nat} {Q' E' : Value -> Shared -> Prop}, Q' v (up s h₀ (t' + 1)) -> wpAny (model K.prog K.w) A' (getAttr (.ref e) "at" true) Q' E' (up s h₀ t') := λ q =>
  FB (K := K.frag) (s := (up s h₀ _)) kin k5 (hk _ _ hx) (hk _ _ hd) k1 k2 k3 k4 hat hv q
 refine wpAny_execs_cons (wpAny_If (wpAny_isTrue_Compare1 (kF (s := (up s h₀ t₀)) kd ks hns (get ?_)) rfl))
 refine wpAny_Constant_none (is_none (wpAny_truthy_bool ?_))
 rw [hnn]
 refine wpAny_execs_nil ?_
 refine wpAny_execs_cons (wpAny_Return_some ?_)
 refine oj (es := .nil) (cx := ⟨K, default, [], []⟩) rfl hpos rfl (by decide) (kF (s := (up s h₀ (t₀ + 1))) kd ks hns (get ?_))
 intro pl
 refine CC (σ := σ) (vo := .inst .place [l, c]) (c := .place) (m := .told) (f := .place_told) G ck rfl rfl st₀ rv₀ λ a ha hkeep => ?_
 refine m3 (es := .nil) (cx := ⟨K, default, [], []⟩) rfl hkeep (wpAny_items_nil ⟨kin, ?_⟩)
 refine xR (s := (up s h₀ (t₀ + 1 + 1))) G ck tk' ha (by show A.depth + 1 < recursionLimit; exact (lnr [_,_] [] 0x11609112609192) hR) st₀ rv₀ λ φ₁ h₁ t₁ v₁ st₁ sp₁ r₁ => ?_
 exact h φ₁ h₁ t₁ v₁ st₁ ((an.kept φ hk).trans sp₁) r₁
end
section
variable {prog : Program} {w : World} {A : Around} {s : Shared} {E : Value -> Shared -> Prop}
theorem Bc {C e : Addr} {od : Option Addr} {vs : Array Value} {sl : Array (Option Value)} {Q : Bool -> Shared -> Prop} (Y : jS (model prog w) s.heap C) (hx : s.heap.get? e = some ⟨.ref C, od, .fields vs, sl⟩) (h : Q true s) :
  wpAny (model prog w) A (excMatches (.ref e) (.ref C)) Q E s := by
 obtain ⟨oc, od', cd, sl', hC, _⟩ := Y.obj
 have T1 : Looks (model prog w) s.heap (typeOf (.ref e)) (.ref C) := (Looks.ld hx).andThen .now
 have TT : Looks (model prog w) s.heap (isInstance (.ref C) (.type "tuple")) false := Y.ty.andThen (Looks.of_pure (by rw [isSubtype_type]; kernel_rfl))
 have IC : Looks (model prog w) s.heap (isExcClass (.ref C)) true := by
  intro A Q E s k q
  unfold isExcClass
  refine wpAny_bind ?_
  simp only [isType, loadHead]
  refine wpAny_bind (wpAny_loadPart (k _ _ hC) (wpAny_pure ?_))
  exact Y.bexc A _ E s k q
 unfold excMatches
 refine wpAny_bind (TT.here ?_)
 simp only [Bool.false_eq_true, if_false]
 refine wpAny_bind (wpAny_pure ?_)
 rw [List.forIn_cons]
 refine wpAny_bind (wpAny_bind (wpAny_bind (IC.here ?_)))
 simp only [Bool.not_true, Bool.false_eq_true, if_false]
 refine wpAny_pure ?_
 dsimp only
 rw [List.forIn_nil]
 refine wpAny_pure ?_
 refine wpAny_bind (T1.here ?_)
 rw [List.forIn_cons]
 refine wpAny_bind (wpAny_bind (wpAny_bind (Y.self.here ?_)))
 simp only [if_true]
 exact wpAny_pure (wpAny_pure (wpAny_pure h))
end
section
variable {T : Fn -> ac} {K : Kx} {g : Heap} {mg mb : Str -> Option Value} {Γ : List Str} {D : List Fn} {A : Around} {outer : List Env} {k : Nat} {F L₀ : List Addr} {φ φ' : aO} {σ : aa} {s : Shared} {h h' : Heap} {t' : Nat} {env : Env} {ρ ρ' : aj} {E : Value -> Shared -> Prop}
noncomputable def PQH (K : Kx) (g : Heap) (L₀ F : List Addr) (φ : aO) (s : Shared) (Q : aA -> aj -> aa -> Prop) (Q' : Flow -> Shared -> Prop) : Prop :=
 ∀ V ρ' σ' φ' h' t' v, Q (.ret V) ρ' σ' -> St K g F φ' σ' h' -> eC L₀ F φ φ' s.heap h' -> aM K h' F φ' V v -> Q' (.ret v) (up s h' t')
theorem xZ (H : aF T K g mg mb D k) (hR : cR (k + 1) A) (hk2 : 1 ≤ k) (xk : iu K = true) (tk : gO K = true) {e : ME} (ih : PE T K g Γ D A outer e) :
  ∀ (env : Env) (F L₀ : List Addr) (stm : Stmt) (ρ : aj) (σ : aa) (φ : aO) (s : Shared) (Q : aA -> aj -> aa -> Prop) (X : AV -> aa -> Prop) (Q' : Flow -> Shared -> Prop) (E' : Value -> Shared -> Prop),
   t9 ⟨K, env.scope, Γ, D⟩ e stm = true -> aX env F -> yi outer env L₀ F -> i7 A outer F -> St K g F φ σ s.heap -> dc K env Γ ρ F φ s.heap -> AL T (.tryTold e) ρ σ Q X -> PQH K g L₀ F φ s Q Q' ->
   wpAny (model K.prog K.w) A (exec stm env) Q' E' s := by
 intro env F L₀ stm ρ σ φ s Q X Q' E' hc eo ow ha st lo hw hq
 apply ua hc; intro x rp0 cn cp n m mp told apos pos rp1 hpos tpos hc
 simp only [Bool.and_eq_true, beq_iff_eq, Bool.not_eq_true'] at hc
 obtain ⟨⟨⟨⟨⟨⟨⟨⟨h1, hg⟩, rfl⟩, rfl⟩, hkn⟩, rfl⟩, hpe⟩, hnd⟩, hnΓ⟩ := hc
 refine wpAny_Try_except (wpAny_execs_cons (wpAny_Return_some (ih env.scope env F x ρ σ φ s _ _ _ _ h1 bA eo ha st lo hw ?_ ?_)))
 ·intro V σ₁ φ₁ h₁ t₁ w hQ st₁ sp₁ r₁
  exact hq V _ σ₁ φ₁ h₁ t₁ w hQ st₁ (an.xstep K g st (tR sp₁) ow.sub) r₁
 ·rintro V σ₁ φ₁ h₁ t₁ ea ⟨l, c, rfl, hQ⟩ st₁ xi xs
  obtain ⟨rest, rfl⟩ := ow.top
  obtain ⟨C, d, es, dn, v, vs, sl, hC, he, ge, hd, nd, hat, hto, rv, hsz, htb⟩ := xi
  have hin := pK ha.outs
  obtain ⟨_, L, hL, hf⟩ := ha.outs env List.mem_cons_self
  refine Ct (s := (up s h₁ t₁)) (outer := rest) ha.frames (j6 st₁ ha.outs) hf he st₁.keep (h₀ := s.heap) xs.all (λ a q => st.baseFresh q) ge rfl hsz htb λ h₂ X₂ => ?_
  have st₂ := X₂.st st₁ hin
  obtain ⟨vs₂, he₂, hsz₂, htb₂⟩ := X₂.exc
  have hn : nsIn K.frag mainGlobals "ReadError" = some (some (.ref C)) := eY hC
  have hok : nz K.frag C = true := (lj xk hC).1
  have Y := fm (M := model K.prog K.w) (H.G.kept st₂) hok
  refine wpAny_handleBy_cons (codeAny_handlers_test (lV (s := (up s h₂ t₁)) H bA eo st₂ hg hn (Bc Y he₂ ?_))) (by intro q; cases q)
  simp only [if_true]
  refine codeAny_handlers_suite_as ?_
  have fl : ∀ {M : Model} {A' : Around} {Q₁ : Unit -> Shared -> Prop} {E₁ : Value -> Shared -> Prop} , (∀ h₃, (∀ b o, h₂.get? b = some o -> NR o -> h₃.get? b = some o) -> h₃.get? ea = some ⟨.ref C, some d, .fields vs₂, sl⟩ -> (∀ b o, s.heap.get? b ≠ none -> h₂.get? b = some o -> h₃.get? b = some o) -> (∀ b, h₃.get? b = none -> h₂.get? b = none) -> Q₁ () (up s h₃ t₁)) ->
    wpAny M A' (setFlight (.ref ea) none) Q₁ E₁ (up s h₂ t₁) := by
   intro M A' Q₁ E₁ k₁
   unfold setFlight
   rcases htb₂ with z1 | ⟨T₁, oT, ts, z1, hnT, hTe, hT, hdT, z3⟩
   ·refine wpAny_bind (wpAny_field he₂ rfl z1 ?_)
    rw [if_neg (by decide)]
    exact wpAny_pure (k₁ h₂ (λ _ _ e _ => e) he₂ (λ _ _ _ e => e) (λ _ e => e))
   ·refine wpAny_bind (wpAny_field he₂ rfl z1 ?_)
    rw [if_pos (show (Value.ref T₁ != Value.none) = true from by simp)]
    refine wpAny_setField hT hdT (Array.getElem?_eq_some_iff.mp z3).1 (k₁ _ (λ b o eb nr => ?_) ?_ (λ b o nb eb => ?_) λ b eb => ei hT hdT eb)
    ·rw [Heap.get?_update_other _ _ (λ q => by subst q; rw [hT] at eb; cases eb; exact nr ts hdT)]; exact eb
    ·rw [Heap.get?_update_other _ _ hTe]; exact he₂
    ·rw [Heap.get?_update_other _ _ (λ q => nb (by rw [← q]; exact hnT))]; exact eb
  refine fl λ h₃ nr₃ he₃ ge₃ all₃ => ?_
  have st₃ : St K g F φ₁ σ₁ h₃ := St.nr st₂ nr₃ (λ b o e => ge₃ b o (λ q => by rw [st.keep b o e] at q; cases q) (st₂.keep b o e))
  have k12 : ∀ b o, h₁.get? b = some o -> NR o -> b ∉ F -> h₂.get? b = some o := λ b o e n nf => X₂.same b o n (λ q => nf (hin b q)) e
  obtain ⟨m0, hns0, hce0, _⟩ := lo
  have frs : ∀ a ∈ F, ∀ o, s.heap.get? a = some o -> NR o -> ∃ sl', h₃.get? a = some { o with slots := sl' } := λ a ha o e nr => by
   obtain ⟨s1, e1⟩ := xs.frs a ha (λ q => nomatch q) o e
   obtain ⟨s2, e2⟩ := X₂.slots a { o with slots := s1 } nr e1
   exact ⟨s2, nr₃ a { o with slots := s2 } e2 nr⟩
  have hns₃ : h₃.Ns env.locals m0 := by
   obtain ⟨o, es0, ep0, e0, d0, k0, f0⟩ := hns0
   obtain ⟨s3, e3⟩ := frs env.locals eo.loc o e0 (NR.dict d0)
   exact ⟨_, es0, ep0, e3, d0, k0, f0⟩
  have hce₃ : ∀ x c, env.cells.lookup x = some c -> ∃ v₀, h₃.IsCell c v₀ := λ x c q => by
   obtain ⟨v₀, o, e0, d0⟩ := hce0 x c q
   obtain ⟨s3, e3⟩ := frs c (eo.cells x c q) o e0 (λ vs z => by rw [d0] at z; cases z)
   exact ⟨v₀, _, e3, d0⟩
  have kk := eo.kind
  refine wpAny_storeName_local (s := (up s h₃ t₁)) hkn hns₃ (λ h₄ hns₄ hs₄ => ?_) (by rw [kk]; rfl)
  obtain ⟨st₄, sp₄⟩ := St.frame st₃ eo.loc (λ b o hb e => hs₄.extBut b o hb e) (ou hns₄)
  have nea : ea ≠ env.locals := λ q => by
   obtain ⟨o, e0, nr⟩ := st₃.fr _ eo.loc
   rw [← q, he₃] at e0; cases e0; exact nr _ rfl
  have he₄ : h₄.get? ea = some ⟨.ref C, some d, .fields vs₂, sl⟩ := hs₄.extBut _ _ nea he₃
  have upk : ∀ b o, h₁.get? b = some o -> NR o -> ¬ bZ F φ₁ b -> h₄.get? b = some o := λ b o e nr no => hs₄.extBut b o (λ q => no (.inl (q ▸ eo.loc))) (nr₃ b o (k12 b o e nr λ q => no (.inl q)) nr)
  have hd₄ := upk d _ hd (.dict rfl) nd
  have rv₄ : aM K h₄ F φ₁ (.inst .place [l, c]) v := aM.mono K (λ b o e nr no => ⟨upk b o e nr no, no⟩) (λ _ _ e => e) rv
  obtain ⟨C', p, hC', hp', tk'⟩ := jQ tk
  cases hC.symm.trans hC'
  obtain ⟨k1, k2, k3, k4, k5, -, f, oc, od, fd, osl, hf', kf1, kf2, -, -, -⟩ := tk'
  ·have hfind : findIn K.frag (.ref C) "told" = some (some (.ref f)) := eY hf'
   refine wpAny_execs_cons (wpAny_Return_some (oj (es := .nil) (cx := ⟨K, env.scope, [], []⟩) rfl (beq_iff_eq.mpr hpe) rfl (by decide) (wpAny_Name (wpAny_loadName_local kk hkn hns₄ (if_pos rfl) ?_) ?_)))
   ·intro pl
    refine yT (K := K.frag) (s := (up s h₄ (t₁ + 1))) (H.G.kept st₄) he₄ hd₄ k1 k2 hfind (beq_iff_eq.mp kf1) hto ?_
    refine m3 (es := .nil) (cx := ⟨K, env.scope, [], []⟩) rfl kf2 (wpAny_items_nil ⟨H.G.kept st₄, ?_⟩)
    refine At (s := (up s h₄ (t₁ + 1))) H.G H.ck tk hC hf' (by have := hR.1; show A.depth + 2 < recursionLimit; exact (lnr [_,_,_] [] 0x126091116290919216093) hk2 this) st₄ he₄ hd₄ hat rv₄ λ φ₅ h₅ t₅ v₅ st₅ sp₅ r₅ => ?_
    have hns₅ := hns₄.at' λ o eo' => sp₅.chg _ o eo' (St.notCell K g st₄ eo.loc)
    refine wpAny_nameGoes (s := (up s h₅ t₅)) hkn hns₅ (by rw [kk]; rfl) λ h₆ m₆ hns₆ hs₆ => ?_
    obtain ⟨st₆, sp₆⟩ := St.frame st₅ eo.loc (λ b o hb e => hs₆.extBut b o hb e) (ou hns₆)
    have all4 : ∀ a, h₄.get? a = none -> s.heap.get? a = none := λ a z => xs.all a (X₂.all a (all₃ a (sp₄.all a z)))
    refine hq _ _ σ₁ φ₅ h₆ (t₅ + 1) v₅ hQ st₆ ⟨xs.grow.trans all4 sp₅.grow, λ a o e no => ?_, λ a ha hn o e => ?_, λ a z => all4 a (sp₅.all a (sp₆.all a z))⟩ (an.rep K (F₀ := [env.locals]) sp₆ (λ a ha => List.mem_singleton.mp ha ▸ eo.loc) r₅)
    ·have nl : a ≠ env.locals := λ q => no (.inl (q ▸ eo.loc))
     have dp := xs.grow.not_own e no
     have e3 := ge₃ a o (av e) (X₂.old a o (av e) (λ q => no (.inl (hin a q))) (xs.nr a o e no))
     exact hs₆.extBut a o nl (sp₅.chg a o (hs₄.extBut a o nl e3) λ q => dp (dF cf q))
    ·have nl : a ≠ env.locals := λ q => hn (q ▸ ow.loc)
     exact (st.fr a ha).elim λ o' x => (frs a ha o e (Option.some.inj (x.1.symm.trans e) ▸ x.2)).imp λ s3 e3 => hs₆.extBut a _ nl (sp₅.chg a _ (hs₄.extBut a _ nl e3) (St.notCell K g st₁ ha))
   ·unfold fw at hnd; simpa using hnd
end
end Mine
end
section
open PySem PySem.W PyProof.Rows
namespace Mine
noncomputable def PQX (K : Kx) (g : Heap) (F₀ F : List Addr) (φ : aO) (s : Shared) (Q : AV -> aa -> Prop) (Q' : Value -> Shared -> Prop) : Prop :=
 ∀ V σ' φ' h' t' v, Q V σ' -> St K g F φ' σ' h' -> eC F₀ F φ φ' s.heap h' -> aM K h' F φ' V v -> Q' v (up s h' t')
noncomputable def yu (K : Kx) (g : Heap) (k : Nat) (a : Addr) (C : ac) : Prop :=
 ∀ (A : Around) (outer : List Env) (F : List Addr) (φ : aO) (σ : aa) (s : Shared) (args : List AV) (vs : List Value) (Q X : AV -> aa -> Prop) (Q' E' : Value -> Shared -> Prop),
  cR k A -> i7 A outer F -> St K g F φ σ s.heap -> ao K s.heap F φ args vs -> C args σ Q X -> PQX K g [] F φ s Q Q' ->
  codeAny (model K.prog K.w) A (.call (.ref a) ⟨vs, []⟩) (Gg Q' E') s
theorem eC.leave {K : Kx} {g : Heap} {F L₀ : List Addr} {φ φ' : aO} {h h' h₀ : Heap} (sp : eC L₀ (L₀ ++ F) φ φ' h h') (hk : ∀ b o, h₀.get? b = some o -> h.get? b = some o) (hL : ∀ a ∈ L₀, h₀.get? a = none) : eC [] F φ φ' h₀ h' :=
 ⟨sp.grow.back hk, λ a o e no => sp.nr a o (hk a o e) λ q => (wQ q).elim (λ q => av e (hL a q)) no, λ a ha _ o e => sp.frs a (List.mem_append_right _ ha) (λ q => av e (hL a q)) o (hk a o e), λ a e => cJ hk a (sp.all a e)⟩
noncomputable def uo (K : Kx) (f : Fn) (Γ : List Str) (n : Nat) (e : ME) (D : List Fn) : Bool := FF K f Γ n λ sc b => oz b λ stm => t9 ⟨K, sc, Γ, D⟩ e stm
section
variable {T : Fn -> ac} {K : Kx} {g : Heap} {mg mb : Str -> Option Value} {Γ : List Str} {D : List Fn} {k n : Nat} {e : ME} {f : Fn}
theorem Aa (H : aF T K g mg mb D k) (hk1 : 1 ≤ k) (xk : iu K = true) (tk : gO K = true) (hc : uo K f Γ n e D = true)
  (hE : ∀ A outer, cR (k + 1) A -> PE T K g Γ D A outer e) : ∃ a, bg K f = some a ∧ keepIn K.frag (.ref a) = true ∧ yu K g (k + 2) a (aJ T Γ.length n (.cons (.tryTold e) .nil)) := by
 refine (qE hc).imp λ a x => ⟨x.1, x.2.1, ?_⟩
 obtain ⟨oc, od, fd, osl, body, p⟩ := x.2.2
 have hb := p.bd
 have hok := p.ok
 revert hb
 apply bk hok; intro stm hok hb
 intro A outer F φ σ s args vs Q X Q' E' hR hA st ra hC hq
 refine wq H (H.G.kin _ _ p.look) (codeRec_of H.G.kin p.code) hb p.hd hR hA st ra hC.1 λ env L₀ h₁ t₁ N => ?_
 have hw := hC.2
 unfold fE at hw
 refine wpAny_execs_cons (xZ H N.room hk1 xk tk (hE (A.deeper env) (env :: outer) N.room) env (L₀ ++ F) L₀ stm _ σ φ (up s h₁ t₁) _ X _ _ (N.scope ▸ hok) N.eo N.ow N.act N.st N.lo hw ?_)
 intro V ρ' σ' φ' h' t' v hQ st' sp' r
 have subF : ∀ a ∈ F, a ∈ L₀ ++ F := λ a ha => List.mem_append_right _ ha
 exact hq V σ' φ' h' t' v hQ (st'.leave subF) (eC.leave (K := K) (g := g) sp' N.keep N.new) (sT subF r)
end
section
variable {T : Fn -> ac} {K : Kx} {g : Heap} {mg mb : Str -> Option Value} {Γ : List Str} {D : List Fn} {A : Around} {outer : List Env} {k : Nat} {F L₀ : List Addr} {φ φ' : aO} {σ : aa} {s : Shared} {h h' : Heap} {t' : Nat} {env : Env} {ρ ρ' : aj} {E : Value -> Shared -> Prop}
theorem eC.step (x : eC [] F φ φ' h h') (hF : ∀ a ∈ F, a ∈ L₀) : an L₀ φ φ' h h' :=
 ⟨x.grow, λ a o e no => x.nr a o e λ q => no (dF hF q), x.all⟩
theorem dc.xstep (x : dc K env Γ ρ F φ h) (st : St K g F φ σ h) (eo : aX env F) (sp : eC [] F φ φ' h h') : dc K env Γ ρ F φ' h' := by
 have keepF : ∀ a ∈ F, ∀ o, h.get? a = some o -> ∃ sl, h'.get? a = some { o with slots := sl } := λ a ha o e => sp.frs a ha (λ q => nomatch q) o e
 have rep : ∀ {V v}, aM K h F φ V v -> aM K h' F φ' V v := λ r => aM.mono K (λ a o e _ n => ⟨sp.nr a o e n, sp.grow.not_own e n⟩) sp.grow.nth r
 cases x with | mk m hn hc hv =>
 have cel : ∀ x c v, env.cells.lookup x = some c -> h.IsCell c v -> h'.IsCell c v := λ x c v q y => y.elim λ oc z => (keepF _ (eo.cells _ _ q) _ z.1).elim λ sl e => ⟨_, e, z.2⟩
 refine ⟨m, ?_, λ x c q => (hc x c q).imp λ v w => cel x c v q w, λ i y V e1 e2 => (hv i y V e1 e2).map (λ v w => ⟨w.1, rep w.2⟩) λ v w => ⟨w.1.imp λ c z => ⟨z.1, cel _ _ _ z.1 z.2⟩, rep w.2⟩⟩
 obtain ⟨o, es, ep, ho, hd⟩ := hn
 exact (keepF _ eo.loc _ ho).elim λ sl e => ⟨_, es, ep, e, hd⟩
noncomputable def gi (T : Fn -> ac) (K : Kx) (g : Heap) (k : Nat) (outer : List Env) : Prop := ∀ args σ Q X, T .l_heard args σ Q X ->
 outer.length = 1 ∧ ∃ a, bg K .l_heard = some a ∧ keepIn K.frag (.ref a) = true ∧ yu K g k a (T .l_heard)
theorem pU (H : aF T K g mg mb D k) (hR : cR (k + 1) A) (hh : gi T K g k outer) (hkn : ∃ a, bg K .l_heard = some a ∧ keepIn K.frag (.ref a) = true) {es : fC} (ih : PL T K g Γ D A outer es)
  {x : Str} {px pos : Pos} {args : List Expr} {X : AV -> aa -> Prop} {E' : Value -> Shared -> Prop} {Q : AV -> aa -> Prop} {Q' : Value -> Shared -> Prop}
  (hg : Cx.isGlob ⟨K, env.scope, Γ, D⟩ x = true) (hp : lr .l_heard x = true) (h1 : eK ⟨K, env.scope, Γ, D⟩ es args = true)
  (eo : aX env F) (ow : yi outer env L₀ F) (ha : i7 A outer F) (st : St K g F φ σ s.heap) (lo : dc K env Γ ρ F φ s.heap)
  (hw : mQ T es ρ σ (λ vs σ₁ => T .l_heard vs σ₁ Q (λ _ _ => False)) X) (hx : PX K g L₀ F φ s X E')
  (hq : ∀ V σ' φ' h' t' v, Q V σ' -> St K g F φ' σ' h' -> an L₀ φ φ' s.heap h' -> dc K env Γ ρ F φ' h' -> aM K h' F φ' V v -> Q' v (up s h' t')) :
  wpAny (model K.prog K.w) A (eval (.Call (.Name x px) args [] pos) env) Q' E' s := by
 obtain ⟨a, haddr, hk⟩ := hkn
 have hn : nsIn K.frag mainGlobals x = some (some (.ref a)) := ww hp λ e => Cl e haddr
 refine wpAny_Call_NameR (lV H bA eo st hg hn ?_)
 refine m3 h1 hk (ih env.scope env F args pos ρ σ φ s _ X _ E' h1 bA eo ha st lo hw ?_ hx.low)
 intro Vs σ₁ φ₁ h₁ t₁ vs hT st₁ sp₁ r₁ hl
 refine ⟨H.G.kept st₁, ?_⟩
 obtain ⟨hlen, a', ha2, _, S⟩ := hh _ _ _ _ hT
 rw [haddr] at ha2; cases ha2
 refine qv (S A outer F φ₁ σ₁ (up s h₁ t₁) Vs vs Q _ Q' E' (hR.mono (Nat.le_succ k)) ha st₁ r₁ hT ?_)
 intro V σ' φ' h' t' v hQ st' xs r
 exact hq V σ' φ' h' t' v hQ st' ((tR sp₁).trans (xs.step (ow.all hlen))) ((lo.step K g st eo sp₁).xstep st₁ eo xs) r
theorem xY (H : aF T K g mg mb D k) (hR : cR (k + 1) A) (hh : gi T K g k outer) (hkn : ∃ a, bg K .l_heard = some a ∧ keepIn K.frag (.ref a) = true) {es : fC} {op : vq} {b : ME} {x y : bq} (ih : PL T K g Γ D A outer es) (ihb : PE T K g Γ D A outer b)
  (ihx : pz T K g Γ D A outer x) (ihy : pz T K g Γ D A outer y) : PS T K g Γ D A outer (.ifHeard es op b x y) := by
 intro env F L₀ stm ρ σ φ s Q X Q' E' hc eo ow ha st lo hw hq hx hp
 apply lC hc; intro t yy zz ipos hc
 apply lZ hc; intro fx px args cpos o r ppos h1 h2 hc
 refine aS hc λ hc h7 => ?_
 refine aS hc λ hc h6 => ?_
 refine aS hc λ hc h5 => ?_
 refine aS hc λ h3 h4 => ?_
 apply bI h4
 refine wpAny_If (wpAny_isTrue_Compare1 (pU H hR hh hkn ih h1 h2 h3 eo ow ha st lo hw hx ?_) (i2 h5))
 intro V σ₁ φ₁ h₁ t₁ v hw st₁ sp₁ lo₁ r₁
 refine ihb env.scope env F _ ρ σ₁ φ₁ (up s h₁ t₁) _ _ _ E' h5 bA eo ha st₁ lo₁ hw ?_ (PX.none K g)
 rintro W σ₂ φ₂ h₂ t₂ w ⟨rr, e, hQ⟩ st₂ sp₂ r₂
 have lo₂ := lo₁.step K g st₁ eo sp₂
 refine tD (s := (up s h₂ t₂)) (by have := hR.2; exact (lnr [_,_,_] [] 0x11CC609111CC6162947099193) this) e st₂ (cP r₁ sp₂) r₂ λ φ₃ h₃ t₃ v₃ st₃ sp₃ r₃ => ?_
 rw [d8 r₃]
 refine wpAny_truthy_bool ?_
 have lo₃ := lo₂.step K g st₂ eo sp₃
 have sp := sp₁.trans (tR (L₀ := L₀) (sp₂.trans sp₃))
 cases rr
 ·exact ihy env F L₀ _ ρ σ₂ φ₃ (up s h₃ t₃) _ X _ E' h7 eo ow ha st₃ lo₃ hQ (hq.step sp) (hx.goL st sp ow) hp
 ·exact ihx env F L₀ _ ρ σ₂ φ₃ (up s h₃ t₃) _ X _ E' h6 eo ow ha st₃ lo₃ hQ (hq.step sp) (hx.goL st sp ow) hp
theorem u6 (H : aF T K g mg mb D k) (hR : cR (k + 1) A) (hh : gi T K g k outer) (hkn : ∃ a, bg K .l_heard = some a ∧ keepIn K.frag (.ref a) = true) {es : fC} {op : vq} {b : ME} (ih : PL T K g Γ D A outer es) (ihb : PE T K g Γ D A outer b) :
  PS T K g Γ D A outer (.retHeard es op b) := by
 intro env F L₀ stm ρ σ φ s Q X Q' E' hc eo ow ha st lo hw hq hx hp
 apply cD hc; intro o ipos hc
 apply aH hc; intro t hc
 apply lZ hc; intro fx px args cpos o r ppos h1 h2 hc
 refine aS hc λ hc h5 => ?_
 refine aS hc λ h3 h4 => ?_
 apply bI h4
 refine wpAny_Return_some (wpAny_Compare1 (pU H hR hh hkn ih h1 h2 h3 eo ow ha st lo hw hx ?_) (i2 h5))
 intro V σ₁ φ₁ h₁ t₁ v hw st₁ sp₁ lo₁ r₁
 refine ihb env.scope env F _ ρ σ₁ φ₁ (up s h₁ t₁) _ _ _ E' h5 bA eo ha st₁ lo₁ hw ?_ (PX.none K g)
 rintro W σ₂ φ₂ h₂ t₂ w ⟨rr, e, hQ⟩ st₂ sp₂ r₂
 have lo₂ := lo₁.step K g st₁ eo sp₂
 refine tD (s := (up s h₂ t₂)) (by have := hR.2; exact (lnr [_,_,_] [] 0x11CC609111CC6162947099193) this) e st₂ (cP r₁ sp₂) r₂ λ φ₃ h₃ t₃ v₃ st₃ sp₃ r₃ => ?_
 exact hq (.ret (.bool rr)) ρ σ₂ φ₃ h₃ t₃ (.ret v₃) hQ st₃ (sp₁.trans (tR (L₀ := L₀) (sp₂.trans sp₃))) (lo₂.step K g st₂ eo sp₃) ⟨_, rfl, r₃⟩
end
section
variable {C : Fn -> ac} {K : Kx} {g : Heap} {mg mb : Str -> Option Value} {Γ : List Str} {D : List Fn} {A : Around} {outer : List Env} {k n : Nat} {ms : bq} {f : Fn}
structure AE (K : Kx) : Prop where
 xk : iu K = true
 tk : gO K = true
 hn : ∃ a, bg K .l_heard = some a ∧ keepIn K.frag (.ref a) = true
theorem tK {T : Fn -> ac} (H : aF T K g mg mb D k) (B : AE K) (hΓ : Γ.Nodup) (hR : cR (k + 1) A) (hh : gi T K g k outer) (ms : bq) : pz T K g Γ D A outer ms :=
 fJ H hΓ hR (λ w a => BW H hR B.xk (aw H hΓ hR w).1 (aw H hΓ hR a).1)
  (λ es op b x y ihx ihy => xY H hR hh B.hn (dG H hΓ hR es).1 (aw H hΓ hR b).1 ihx ihy)
  (λ es op b => u6 H hR hh B.hn (dG H hΓ hR es).1 (aw H hΓ hR b).1) ms
theorem s9 {f : Fn} {b : Scope -> List Stmt -> Bool} (hc : FF K f Γ n b = true) : Γ.Nodup :=
 (qE hc).elim λ a x => x.2.2.elim λ oc x => x.elim λ od x => x.elim λ fd x => x.elim λ osl x => x.elim λ body x => x.hd.c14
theorem wT {f f' : Fn} (e : f' ≠ f) : rT C (f :: D) f' = rT C D f' := by
 unfold rT
 by_cases m : f' ∈ D
 ·rw [if_pos m, if_pos (List.mem_cons_of_mem _ m)]
 ·rw [if_neg m, if_neg λ q => (List.mem_cons.mp q).elim e m]
theorem ja.weaken {k : Nat} {a : Addr} {C C' : ac} (h : ja K g k a C') (w : ∀ args σ Q X, C args σ Q X -> C' args σ Q X) : ja K g k a C :=
 λ A outer F φ σ s args vs Q X Q' E' hR hA st ra hC => h A outer F φ σ s args vs Q X Q' E' hR hA st ra (w _ _ _ _ hC)
theorem aQ (H : aF (rT C D) K g mg mb D k) (B : AE K) (hne : f ≠ .l_heard) (hnD : .l_heard ∉ D) (hc : aN K f Γ n ms D = true)
  (hw : ∀ args σ Q X, C f args σ Q X -> aJ (rT C D) Γ.length n ms args σ Q X) (hi : ∀ c, jG c = f -> ol K c = true ∧ C f = iy c) :
  aF (rT C (f :: D)) K g mg mb (f :: D) (k + 2) := by
 have hh : ∀ outer, gi (rT C D) K g k outer := λ outer args σ Q X h => by
  unfold rT at h; rw [if_neg hnD] at h; exact h.elim
 obtain ⟨a, h1, h2, S⟩ := B0 H hc λ A outer hR => tK H B (s9 hc) hR (hh outer) ms
 have S := S.weaken hw
 refine ⟨H.G, H.ck, λ f' hf => ?_, λ f' args σ Q X hf hT => ?_, λ c hcD => ?_⟩
 ·exact (List.mem_cons.mp hf).elim (λ e => e ▸ ⟨a, h1, h2⟩) (H.known f')
 ·by_cases e : f' = f
  ·subst e
   refine ⟨a, h1, h2, ?_⟩
   unfold rT; rw [if_pos List.mem_cons_self]; exact S
  ·rw [wT e] at hT ⊢
   exact (H.fns f' args σ Q X hf hT).imp λ a' x => ⟨x.1, x.2.1, x.2.2.mono K g (by exact (lnr [_] [] 0x2609001))⟩
 ·exact (List.mem_cons.mp hcD).elim (λ e => ⟨(hi c e).1, a, e ▸ h1, (hi c e).2 ▸ S⟩) λ e => ⟨(H.inits c e).1, (H.inits c e).2.imp λ a' y => ⟨y.1, y.2.mono K g (by exact (lnr [_] [] 0x2609001))⟩⟩
theorem yv {e : ME} (H : aF (rT C D) K g mg mb D k) (hk : 1 ≤ k) (B : AE K) (hnD : .l_heard ∉ D) (hc : uo K .l_heard Γ n e D = true)
  (hw : ∀ args σ Q X, C .l_heard args σ Q X -> aJ (rT C D) Γ.length n (.cons (.tryTold e) .nil) args σ Q X) :
  aF (rT C (.l_heard :: D)) K g mg mb D (k + 2) ∧ ∀ outer, outer.length = 1 -> gi (rT C (.l_heard :: D)) K g (k + 2) outer := by
 obtain ⟨a, h1, h2, S⟩ := Aa H hk B.xk B.tk hc λ A outer hR => (aw H (s9 hc) hR e).1
 constructor
 ·refine ⟨H.G, H.ck, H.known, λ f' args σ Q X hf hT => ?_, λ c hcD => ?_⟩
  ·rw [wT hf] at hT ⊢
   exact (H.fns f' args σ Q X hf hT).imp λ a' x => ⟨x.1, x.2.1, x.2.2.mono K g (by exact (lnr [_] [] 0x2609001))⟩
  ·exact ⟨(H.inits c hcD).1, (H.inits c hcD).2.imp λ a' y => ⟨y.1, y.2.mono K g (by exact (lnr [_] [] 0x2609001))⟩⟩
 ·intro outer ho args σ Q X _
  refine ⟨ho, a, h1, h2, ?_⟩
  unfold rT
  rw [if_pos List.mem_cons_self]
  exact λ A outer F φ σ s args vs Q X Q' E' hR hA st ra hC => S A outer F φ σ s args vs Q X Q' E' hR hA st ra (hw _ _ _ _ hC)
end
noncomputable def j8 : List String := ["self", "line", "column"]
noncomputable def gk : bq := (.cons (.asgA .line (.var 0) (.var 1)) (.cons (.asgA .column (.var 0) (.var 2)) .nil))
noncomputable def j9 : List String := ["self"]
noncomputable def gm : bq := (.cons (.ret (.tup (.cons (.attr .line (.var 0)) (.cons (.attr .column (.var 0)) .nil)))) .nil)
noncomputable def nG : List String := ["sign", "code"]
noncomputable def jv : bq := (.cons (.asg 1 (.bi .ord (.var 0))) (.cons (.ifS (.cmp2 .le .le (.int 48) (.var 1) (.int 57)) (.cons (.ret (.bin .sub (.var 1) (.int 48))) .nil) .nil) (.cons (.ifS (.cmp2 .le .le (.int 97) (.var 1) (.int 102)) (.cons (.ret (.bin .sub (.var 1) (.int 87))) .nil) .nil) (.cons (.ifS (.cmp2 .le .le (.int 65) (.var 1) (.int 70)) (.cons (.ret (.bin .sub (.var 1) (.int 55))) .nil) .nil) (.cons (.ret (.int 16)) .nil)))))
noncomputable def lQ : List String := ["sign", "code"]
noncomputable def hN : bq := (.cons (.asg 1 (.bi .ord (.var 0))) (.cons (.ret (.orE (.cons (.cmp2 .le .le (.int 97) (.var 1) (.int 122)) (.cons (.cmp2 .le .le (.int 65) (.var 1) (.int 90)) .nil)))) .nil))
noncomputable def jd : List String := ["sign"]
noncomputable def fN : bq := (.cons (.ret (.orE (.cons (.call .is_letter (.cons (.var 0) .nil)) (.cons (.cmp .eq (.var 0) (.str [95])) (.cons (.cmp .eq (.var 0) (.str [46])) .nil))))) .nil)
noncomputable def iv : List String := ["sign", "code"]
noncomputable def eZ : bq := (.cons (.asg 1 (.bi .ord (.var 0))) (.cons (.ret (.orE (.cons (.cmp2 .le .le (.int 48) (.var 1) (.int 57)) (.cons (.cmp2 .le .le (.int 97) (.var 1) (.int 122)) (.cons (.cmp2 .le .le (.int 65) (.var 1) (.int 90)) (.cons (.cmp .eq (.var 0) (.str [95])) (.cons (.cmp .eq (.var 0) (.str [46])) (.cons (.cmp .eq (.var 0) (.str [36])) .nil)))))))) .nil))
noncomputable def ji : List String := ["text", "at", "sign", "worth", "here", "number"]
noncomputable def gZ : bq := (.cons (.ifS (.cmp .eq (.idx (.gstr "ESCAPE_SIGNS" [98, 116, 110, 102, 114, 34, 39, 92]) (.var 5)) (.var 2)) (.cons (.ret (.tup (.cons (.bi .ord (.idx (.gstr "ESCAPE_CODES" [8, 9, 10, 12, 13, 34, 39, 92]) (.var 5))) (.cons (.bin .add (.var 1) (.int 2)) .nil)))) .nil) .nil) .nil)
noncomputable def gR : ME := (.andE (.cons (.cmp .lt (.var 4) (.bi .len (.var 0))) (.cons (.cmp .lt (.call .digit_of (.cons (.idx (.var 0) (.var 4)) .nil)) (.int 16)) .nil)))
noncomputable def g5 : bq := (.cons (.asg 3 (.bin .mod (.bin .add (.bin .mul (.var 3) (.int 16)) (.call .digit_of (.cons (.idx (.var 0) (.var 4)) .nil))) (.int 256))) (.cons (.asg 4 (.bin .add (.var 4) (.int 1))) .nil))
noncomputable def gS : ME := (.andE (.cons (.cmp .lt (.var 4) (.bi .len (.var 0))) (.cons (.cmp .lt (.var 4) (.bin .add (.var 1) (.int 4))) (.cons (.cmp .lt (.call .digit_of (.cons (.idx (.var 0) (.var 4)) .nil)) (.int 8)) .nil))))
noncomputable def g6 : bq := (.cons (.asg 3 (.bin .add (.bin .mul (.var 3) (.int 8)) (.call .digit_of (.cons (.idx (.var 0) (.var 4)) .nil)))) (.cons (.asg 4 (.bin .add (.var 4) (.int 1))) .nil))
noncomputable def fS : bq := (.cons (.ifS (.cmp .ge (.bin .add (.var 1) (.int 1)) (.bi .len (.var 0))) (.cons (.ret (.tup (.cons (.neg 1) (.cons (.bin .add (.var 1) (.int 1)) .nil)))) .nil) .nil) (.cons (.asg 2 (.idx (.var 0) (.bin .add (.var 1) (.int 1)))) (.cons (.asg 3 (.int 0)) (.cons (.asg 4 (.bin .add (.var 1) (.int 1))) (.cons (.ifS (.cmp .lt (.call .digit_of (.cons (.var 2) .nil)) (.int 8)) (.cons (.while gS g6) (.cons (.ret (.tup (.cons (.bin .mod (.var 3) (.int 256)) (.cons (.var 4) .nil)))) .nil)) .nil) (.cons (.ifS (.cmp .eq (.var 2) (.str [120])) (.cons (.asg 4 (.bin .add (.var 4) (.int 1))) (.cons (.while gR g5) (.cons (.ifS (.cmp .eq (.var 4) (.bin .add (.var 1) (.int 2))) (.cons (.ret (.tup (.cons (.neg 1) (.cons (.bin .add (.var 1) (.int 1)) .nil)))) .nil) .nil) (.cons (.ret (.tup (.cons (.var 3) (.cons (.var 4) .nil)))) .nil)))) .nil) (.cons (.forS [5] (.range (.bi .len (.gstr "ESCAPE_SIGNS" [98, 116, 110, 102, 114, 34, 39, 92]))) gZ) (.cons (.ret (.tup (.cons (.neg 1) (.cons (.bin .add (.var 1) (.int 1)) .nil)))) .nil))))))))
noncomputable def lU : List String := ["text", "at", "code", "end"]
noncomputable def hY : bq := (.cons (.ifS (.orE (.cons (.cmp .ge (.bin .add (.var 1) (.int 1)) (.bi .len (.var 0))) (.cons (.cmp .eq (.idx (.var 0) (.bin .add (.var 1) (.int 1))) (.str [10])) .nil))) (.cons (.ret (.tup (.cons (.neg 1) (.cons (.bin .add (.var 1) (.int 1)) .nil)))) .nil) .nil) (.cons (.asg 2 (.bi .ord (.idx (.var 0) (.bin .add (.var 1) (.int 1))))) (.cons (.asg 3 (.bin .add (.var 1) (.int 2))) (.cons (.ifS (.cmp .eq (.idx (.var 0) (.bin .add (.var 1) (.int 1))) (.str [92])) (.cons (.asgT [2, 3] (.call .read_escape (.cons (.var 0) (.cons (.bin .add (.var 1) (.int 1)) .nil)))) .nil) (.cons (.ifS (.orE (.cons (.cmp .lt (.var 2) (.int 32)) (.cons (.cmp .gt (.var 2) (.int 126)) .nil))) (.cons (.asg 2 (.neg 1)) .nil) .nil) .nil)) (.cons (.ifS (.andE (.cons (.cmp .ge (.var 2) (.int 0)) (.cons (.cmp .lt (.var 3) (.bi .len (.var 0))) (.cons (.cmp .eq (.idx (.var 0) (.var 3)) (.str [39])) .nil)))) (.cons (.asg 3 (.bin .add (.var 3) (.int 1))) .nil) .nil) (.cons (.ret (.tup (.cons (.var 2) (.cons (.var 3) .nil)))) .nil))))))
noncomputable def nR : List String := ["text", "at", "here"]
noncomputable def jY : ME := (.andE (.cons (.cmp .lt (.var 2) (.bi .len (.var 0))) (.cons (.cmp .ne (.idx (.var 0) (.var 2)) (.str [10])) .nil)))
noncomputable def kQ : bq := (.cons (.ifS (.cmp .eq (.idx (.var 0) (.var 2)) (.str [34])) (.cons (.ret (.bin .add (.var 2) (.int 1))) .nil) .nil) (.cons (.ifS (.cmp .eq (.idx (.var 0) (.var 2)) (.str [92])) (.cons (.asg 2 (.idx (.call .read_escape (.cons (.var 0) (.cons (.var 2) .nil))) (.int 1))) .nil) (.cons (.asg 2 (.bin .add (.var 2) (.int 1))) .nil)) .nil))
noncomputable def jD : bq := (.cons (.asg 2 (.bin .add (.var 1) (.int 1))) (.cons (.while jY kQ) (.cons (.ret (.var 2)) .nil)))
noncomputable def sI : List String := ["worth", "found", "sign", "code"]
noncomputable def gQ : bq := (.cons (.asg 3 (.bi .ord (.var 2))) (.cons (.ifS (.orE (.cons (.cmp .eq (.var 2) (.str [34])) (.cons (.cmp .eq (.var 2) (.str [92])) .nil))) (.cons (.asg 1 (.bin .add (.bin .add (.var 1) (.str [92])) (.var 2))) .nil) (.cons (.ifS (.cmp2 .le .le (.int 32) (.var 3) (.int 126)) (.cons (.asg 1 (.bin .add (.var 1) (.var 2))) .nil) (.cons (.asg 1 (.bin .add (.bin .add (.bin .add (.bin .add (.var 1) (.str [92])) (.bi .str (.bin .fdiv (.var 3) (.int 64)))) (.bi .str (.bin .mod (.bin .fdiv (.var 3) (.int 8)) (.int 8)))) (.bi .str (.bin .mod (.var 3) (.int 8))))) .nil)) .nil)) .nil))
noncomputable def mU : bq := (.cons (.asg 1 (.str [34])) (.cons (.forS [2] (.plain (.var 0)) gQ) (.cons (.ret (.bin .add (.var 1) (.str [34]))) .nil)))
noncomputable def nO : List String := ["text", "at", "here"]
noncomputable def jX : ME := (.andE (.cons (.cmp .lt (.var 2) (.bi .len (.var 0))) (.cons (.cmp .ne (.idx (.var 0) (.var 2)) (.str [10])) .nil)))
noncomputable def kP : bq := (.cons (.asg 2 (.bin .add (.var 2) (.int 1))) .nil)
noncomputable def jA : bq := (.cons (.asg 2 (.var 1)) (.cons (.while jX kP) (.cons (.ret (.var 2)) .nil)))
noncomputable def lS : List String := ["text", "at", "here"]
noncomputable def jb : ME := (.andE (.cons (.cmp .lt (.var 2) (.bi .len (.var 0))) (.cons (.cmp .ne (.idx (.var 0) (.var 2)) (.str [10])) (.cons (.cmp .ne (.idx (.var 0) (.var 2)) (.str [59])) .nil))))
noncomputable def jp : bq := (.cons (.ifS (.cmp .eq (.idx (.var 0) (.var 2)) (.str [35])) (.cons (.asg 2 (.call .line_end (.cons (.var 0) (.cons (.var 2) .nil)))) .nil) (.cons (.ifS (.cmp .eq (.idx (.var 0) (.var 2)) (.str [34])) (.cons (.asg 2 (.call .text_end (.cons (.var 0) (.cons (.var 2) .nil)))) .nil) (.cons (.ifS (.cmp .eq (.idx (.var 0) (.var 2)) (.str [39])) (.cons (.asg 2 (.idx (.call .read_char (.cons (.var 0) (.cons (.var 2) .nil))) (.int 1))) .nil) (.cons (.asg 2 (.bin .add (.var 2) (.int 1))) .nil)) .nil)) .nil)) .nil)
noncomputable def hU : bq := (.cons (.asg 2 (.var 1)) (.cons (.while jb jp) (.cons (.ret (.var 2)) .nil)))
noncomputable def jl : List String := ["text", "found", "line", "begin", "here", "end"]
noncomputable def gT : ME := (.bool true)
noncomputable def g7 : bq := (.cons (.asg 5 (.call .piece_end (.cons (.var 0) (.cons (.var 4) .nil)))) (.cons (.exprS (.app (.var 1) (.tup (.cons (.var 2) (.cons (.bin .add (.bin .mul (.str [32]) (.bin .sub (.var 4) (.var 3))) (.slice (.var 0) (.some (.var 4)) (.some (.var 5)))) .nil))))) (.cons (.ifS (.cmp .ge (.var 5) (.bi .len (.var 0))) (.cons (.ret (.var 1)) .nil) .nil) (.cons (.asg 4 (.bin .add (.var 5) (.int 1))) (.cons (.ifS (.cmp .eq (.idx (.var 0) (.var 5)) (.str [10])) (.cons (.asg 2 (.bin .add (.var 2) (.int 1))) (.cons (.asg 3 (.var 4)) .nil)) .nil) .nil)))))
noncomputable def fV : bq := (.cons (.asg 1 (.lst .nil)) (.cons (.asg 2 (.int 1)) (.cons (.asg 3 (.int 0)) (.cons (.asg 4 (.int 0)) (.cons (.while gT g7) .nil)))))
noncomputable def iw : List String := ["word", "base", "begin", "worth", "sign", "figure"]
noncomputable def gh : bq := (.cons (.asg 5 (.call .digit_of (.cons (.var 4) .nil))) (.cons (.ifS (.cmp .ge (.var 5) (.var 1)) (.cons (.ret (.neg 1)) .nil) .nil) (.cons (.asg 3 (.bin .add (.bin .mul (.var 3) (.var 1)) (.var 5))) .nil)))
noncomputable def dy : bq := (.cons (.asg 1 (.int 10)) (.cons (.asg 2 (.int 0)) (.cons (.ifS (.andE (.cons (.cmp .gt (.bi .len (.var 0)) (.int 1)) (.cons (.cmp .eq (.idx (.var 0) (.int 0)) (.str [48])) .nil))) (.cons (.asg 1 (.int 8)) (.cons (.asg 2 (.int 1)) (.cons (.ifS (.orE (.cons (.cmp .eq (.idx (.var 0) (.int 1)) (.str [120])) (.cons (.cmp .eq (.idx (.var 0) (.int 1)) (.str [88])) .nil))) (.cons (.asg 1 (.int 16)) (.cons (.asg 2 (.int 2)) .nil)) (.cons (.ifS (.orE (.cons (.cmp .eq (.idx (.var 0) (.int 1)) (.str [98])) (.cons (.cmp .eq (.idx (.var 0) (.int 1)) (.str [66])) .nil))) (.cons (.asg 1 (.int 2)) (.cons (.asg 2 (.int 2)) .nil)) .nil) .nil)) .nil))) .nil) (.cons (.ifS (.cmp .eq (.var 2) (.bi .len (.var 0))) (.cons (.ret (.neg 1)) .nil) .nil) (.cons (.asg 3 (.int 0)) (.cons (.forS [4] (.plain (.slice (.var 0) (.some (.var 2)) .none)) gh) (.cons (.ret (.var 3)) .nil)))))))
noncomputable def jh : List String := ["word", "worth", "sign"]
noncomputable def eB : bq := (.cons (.ifS (.cmp .gt (.call .digit_of (.cons (.var 2) .nil)) (.int 9)) (.cons (.ret (.neg 1)) .nil) .nil) (.cons (.asg 1 (.bin .add (.bin .mul (.var 1) (.int 10)) (.call .digit_of (.cons (.var 2) .nil)))) .nil))
noncomputable def fR : bq := (.cons (.ifS (.orE (.cons (.cmp .lt (.bi .len (.var 0)) (.int 2)) (.cons (.andE (.cons (.cmp .ne (.idx (.var 0) (.neg 1)) (.str [98])) (.cons (.cmp .ne (.idx (.var 0) (.neg 1)) (.str [102])) .nil))) .nil))) (.cons (.ret (.neg 1)) .nil) .nil) (.cons (.asg 1 (.int 0)) (.cons (.forS [2] (.plain (.slice (.var 0) .none (.some (.neg 1)))) eB) (.cons (.ret (.var 1)) .nil))))
noncomputable def km : List String := ["self", "kind", "text", "worth", "at"]
noncomputable def gu : bq := (.cons (.asgA .kind (.var 0) (.var 1)) (.cons (.asgA .text (.var 0) (.var 2)) (.cons (.asgA .worth (.var 0) (.var 3)) (.cons (.asgA .pat (.var 0) (.var 4)) .nil))))
noncomputable def kj : List String := ["self"]
noncomputable def gr : bq := (.cons (.ret (.andE (.cons (.cmp .eq (.attr .kind (.var 0)) (.str [108, 111, 99, 97, 108])) (.cons (.cmp .eq (.idx (.attr .text (.var 0)) (.neg 1)) (.str [98])) .nil)))) .nil)
noncomputable def kp : List String := ["self"]
noncomputable def gv : bq := (.cons (.ret (.tup (.cons (.attr .kind (.var 0)) (.cons (.attr .worth (.var 0)) .nil)))) .nil)
noncomputable def jj : List String := ["self", "text", "line"]
noncomputable def fT : bq := (.cons (.asgA .text (.var 0) (.var 1)) (.cons (.asgA .line (.var 0) (.var 2)) (.cons (.asgA .pat (.var 0) (.int 0)) .nil)))
noncomputable def pQ : List String := ["self", "at"]
noncomputable def kW : bq := (.cons (.ret (.new .place (.cons (.attr .line (.var 0)) (.cons (.bin .add (.var 1) (.int 1)) .nil)))) .nil)
noncomputable def lT : List String := ["self"]
noncomputable def jc : ME := (.andE (.cons (.cmp .lt (.attr .pat (.var 0)) (.bi .len (.attr .text (.var 0)))) (.cons (.cmp .in_ (.idx (.attr .text (.var 0)) (.attr .pat (.var 0))) (.tup (.cons (.str [32]) (.cons (.str [9]) (.cons (.str [13]) .nil))))) .nil)))
noncomputable def jq : bq := (.cons (.asgA .pat (.var 0) (.bin .add (.attr .pat (.var 0)) (.int 1))) .nil)
noncomputable def hW : bq := (.cons (.while jc jq) (.cons (.ret (.orE (.cons (.cmp .ge (.attr .pat (.var 0)) (.bi .len (.attr .text (.var 0)))) (.cons (.cmp .eq (.idx (.attr .text (.var 0)) (.attr .pat (.var 0))) (.str [35])) .nil)))) .nil))
noncomputable def nQ : List String := ["self", "end", "begin"]
noncomputable def jC : bq := (.cons (.asg 2 (.attr .pat (.var 0))) (.cons (.asgA .pat (.var 0) (.var 1)) (.cons (.ret (.slice (.attr .text (.var 0)) (.some (.var 2)) (.some (.var 1)))) .nil)))
noncomputable def kg : List String := ["self", "at", "here"]
noncomputable def ii : ME := (.andE (.cons (.cmp .lt (.var 2) (.bi .len (.attr .text (.var 0)))) (.cons (.call .is_name_sign (.cons (.idx (.attr .text (.var 0)) (.var 2)) .nil)) .nil)))
noncomputable def iS : bq := (.cons (.asg 2 (.bin .add (.var 2) (.int 1))) .nil)
noncomputable def gp : bq := (.cons (.asg 2 (.var 1)) (.cons (.while ii iS) (.cons (.ret (.var 2)) .nil)))
noncomputable def nP : List String := ["self", "at", "word", "worth"]
noncomputable def jB : bq := (.cons (.asg 1 (.meth .place (.var 0) (.cons (.attr .pat (.var 0)) .nil))) (.cons (.asg 2 (.meth .passed (.var 0) (.cons (.meth .name_end (.var 0) (.cons (.attr .pat (.var 0)) .nil)) .nil))) (.cons (.asg 3 (.call .number_worth (.cons (.var 2) .nil))) (.cons (.ifS (.cmp .gt (.var 3) (.gint "TOP" 18446744073709551615)) (.cons (.raise (.str [110, 117, 109, 98, 101, 114, 32, 116, 111, 111, 32, 108, 97, 114, 103, 101]) (.var 1)) .nil) .nil) (.cons (.ifS (.cmp .ge (.var 3) (.int 0)) (.cons (.ret (.new .token (.cons (.str [110, 117, 109, 98, 101, 114]) (.cons (.var 2) (.cons (.var 3) (.cons (.var 1) .nil)))))) .nil) .nil) (.cons (.asg 3 (.call .local_worth (.cons (.var 2) .nil))) (.cons (.ifS (.cmp .ge (.var 3) (.int 0)) (.cons (.ret (.new .token (.cons (.str [108, 111, 99, 97, 108]) (.cons (.var 2) (.cons (.var 3) (.cons (.var 1) .nil)))))) .nil) .nil) (.cons (.raise (.bin .add (.str [98, 97, 100, 32, 110, 117, 109, 98, 101, 114, 32]) (.var 2)) (.var 1)) .nil))))))))
noncomputable def kf : List String := ["self", "at", "code", "end"]
noncomputable def gn : bq := (.cons (.asg 1 (.meth .place (.var 0) (.cons (.attr .pat (.var 0)) .nil))) (.cons (.asgT [2, 3] (.call .read_char (.cons (.attr .text (.var 0)) (.cons (.attr .pat (.var 0)) .nil)))) (.cons (.ifS (.cmp .lt (.var 2) (.int 0)) (.cons (.raise (.str [98, 97, 100, 32, 99, 104, 97, 114, 97, 99, 116, 101, 114, 32, 99, 111, 110, 115, 116, 97, 110, 116]) (.var 1)) .nil) .nil) (.cons (.ret (.new .token (.cons (.str [110, 117, 109, 98, 101, 114]) (.cons (.meth .passed (.var 0) (.cons (.var 3) .nil)) (.cons (.var 2) (.cons (.var 1) .nil)))))) .nil))))
noncomputable def pR : List String := ["self", "at", "worth", "here", "code", "end"]
noncomputable def ij : ME := (.andE (.cons (.cmp .lt (.var 3) (.bi .len (.attr .text (.var 0)))) (.cons (.cmp .ne (.idx (.attr .text (.var 0)) (.var 3)) (.str [34])) .nil)))
noncomputable def iT : bq := (.cons (.asg 4 (.bi .ord (.idx (.attr .text (.var 0)) (.var 3)))) (.cons (.asg 5 (.bin .add (.var 3) (.int 1))) (.cons (.ifS (.cmp .eq (.idx (.attr .text (.var 0)) (.var 3)) (.str [92])) (.cons (.asgT [4, 5] (.call .read_escape (.cons (.attr .text (.var 0)) (.cons (.var 3) .nil)))) (.cons (.ifS (.cmp .lt (.var 4) (.int 0)) (.cons (.raise (.str [98, 97, 100, 32, 101, 115, 99, 97, 112, 101]) (.meth .place (.var 0) (.cons (.var 3) .nil))) .nil) .nil) .nil)) (.cons (.ifS (.andE (.cons (.cmp .ne (.var 4) (.int 9)) (.cons (.orE (.cons (.cmp .lt (.var 4) (.int 32)) (.cons (.cmp .gt (.var 4) (.int 126)) .nil))) .nil))) (.cons (.raise (.str [98, 97, 100, 32, 115, 105, 103, 110, 32, 105, 110, 32, 97, 32, 116, 101, 120, 116]) (.meth .place (.var 0) (.cons (.var 3) .nil))) .nil) .nil) .nil)) (.cons (.asg 2 (.bin .add (.var 2) (.bi .chr (.var 4)))) (.cons (.asg 3 (.var 5)) .nil)))))
noncomputable def iV : bq := (.cons (.asg 1 (.meth .place (.var 0) (.cons (.attr .pat (.var 0)) .nil))) (.cons (.asg 2 (.str [])) (.cons (.asg 3 (.bin .add (.attr .pat (.var 0)) (.int 1))) (.cons (.while ij iT) (.cons (.ifS (.cmp .ge (.var 3) (.bi .len (.attr .text (.var 0)))) (.cons (.raise (.str [116, 101, 120, 116, 32, 119, 105, 116, 104, 111, 117, 116, 32, 97, 110, 32, 101, 110, 100]) (.var 1)) .nil) .nil) (.cons (.ret (.new .token (.cons (.str [116, 101, 120, 116]) (.cons (.meth .passed (.var 0) (.cons (.bin .add (.var 3) (.int 1)) .nil)) (.cons (.var 2) (.cons (.var 1) .nil)))))) .nil))))))
noncomputable def kh : List String := ["self", "at", "here", "word"]
noncomputable def fh : ME := (.andE (.cons (.cmp .lt (.var 2) (.bi .len (.attr .text (.var 0)))) (.cons (.orE (.cons (.call .is_letter (.cons (.idx (.attr .text (.var 0)) (.var 2)) .nil)) (.cons (.cmp .lt (.call .digit_of (.cons (.idx (.attr .text (.var 0)) (.var 2)) .nil)) (.int 10)) .nil))) .nil)))
noncomputable def fB : bq := (.cons (.asg 2 (.bin .add (.var 2) (.int 1))) .nil)
noncomputable def gq : bq := (.cons (.asg 1 (.meth .place (.var 0) (.cons (.attr .pat (.var 0)) .nil))) (.cons (.asg 2 (.bin .add (.attr .pat (.var 0)) (.int 1))) (.cons (.while fh fB) (.cons (.asg 3 (.meth .passed (.var 0) (.cons (.var 2) .nil))) (.cons (.ret (.new .token (.cons (.str [114, 101, 103, 105, 115, 116, 101, 114]) (.cons (.var 3) (.cons (.sm0 .lower (.slice (.var 3) (.some (.int 1)) .none)) (.cons (.var 1) .nil)))))) .nil)))))
noncomputable def sJ : List String := ["self", "at", "pair", "word"]
noncomputable def mV : bq := (.cons (.asg 1 (.meth .place (.var 0) (.cons (.attr .pat (.var 0)) .nil))) (.cons (.ifS (.cmp .notIn (.idx (.attr .text (.var 0)) (.attr .pat (.var 0))) (.gstr "SIGNS" [43, 45, 42, 47, 37, 38, 124, 94, 126, 33, 40, 41, 91, 93, 44, 58, 36, 61, 60, 62])) (.cons (.raise (.str [98, 97, 100, 32, 115, 105, 103, 110]) (.var 1)) .nil) .nil) (.cons (.asg 2 (.slice (.attr .text (.var 0)) (.some (.attr .pat (.var 0))) (.some (.bin .add (.attr .pat (.var 0)) (.int 2))))) (.cons (.asg 3 (.meth .passed (.var 0) (.cons (.ite (.orE (.cons (.cmp .eq (.var 2) (.str [60, 60])) (.cons (.cmp .eq (.var 2) (.str [62, 62])) .nil))) (.bin .add (.attr .pat (.var 0)) (.int 2)) (.bin .add (.attr .pat (.var 0)) (.int 1))) .nil))) (.cons (.ret (.new .token (.cons (.str [115, 105, 103, 110]) (.cons (.var 3) (.cons (.var 3) (.cons (.var 1) .nil)))))) .nil)))))
noncomputable def pS : List String := ["self", "sign", "at", "word"]
noncomputable def kX : bq := (.cons (.asg 1 (.idx (.attr .text (.var 0)) (.attr .pat (.var 0)))) (.cons (.ifS (.call .begins_name (.cons (.var 1) .nil)) (.cons (.asg 2 (.meth .place (.var 0) (.cons (.attr .pat (.var 0)) .nil))) (.cons (.asg 3 (.meth .passed (.var 0) (.cons (.meth .name_end (.var 0) (.cons (.attr .pat (.var 0)) .nil)) .nil))) (.cons (.ret (.new .token (.cons (.str [110, 97, 109, 101]) (.cons (.var 3) (.cons (.var 3) (.cons (.var 2) .nil)))))) .nil))) .nil) (.cons (.ifS (.cmp .lt (.call .digit_of (.cons (.var 1) .nil)) (.int 10)) (.cons (.ret (.meth .number (.var 0) .nil)) .nil) .nil) (.cons (.ifS (.cmp .eq (.var 1) (.str [39])) (.cons (.ret (.meth .constant (.var 0) .nil)) .nil) .nil) (.cons (.ifS (.cmp .eq (.var 1) (.str [34])) (.cons (.ret (.meth .quote (.var 0) .nil)) .nil) .nil) (.cons (.ifS (.andE (.cons (.cmp .eq (.var 1) (.str [37])) (.cons (.cmp .lt (.bin .add (.attr .pat (.var 0)) (.int 1)) (.bi .len (.attr .text (.var 0)))) (.cons (.call .is_letter (.cons (.idx (.attr .text (.var 0)) (.bin .add (.attr .pat (.var 0)) (.int 1))) .nil)) .nil)))) (.cons (.ret (.meth .register (.var 0) .nil)) .nil) .nil) (.cons (.ret (.meth .mark (.var 0) .nil)) .nil)))))))
noncomputable def jg : List String := ["text", "line", "reader", "found"]
noncomputable def cy : ME := (.notE (.meth .is_done (.var 2) .nil))
noncomputable def bU : bq := (.cons (.exprS (.app (.var 3) (.meth .token (.var 2) .nil))) .nil)
noncomputable def fQ : bq := (.cons (.asg 2 (.new .reader (.cons (.var 0) (.cons (.var 1) .nil)))) (.cons (.asg 3 (.lst .nil)) (.cons (.while cy bU) (.cons (.exprS (.app (.var 3) (.new .token (.cons (.str [101, 110, 100]) (.cons (.str []) (.cons (.str []) (.cons (.meth .place (.var 2) (.cons (.attr .pat (.var 2)) .nil)) .nil))))))) (.cons (.ret (.var 3)) .nil)))))
noncomputable def jk : List String := ["tokens", "token"]
noncomputable def fU : bq := (.cons (.ret (.sm1 .join (.str [32]) (.comp (.attr .text (.var 1)) [1] (.plain (.var 0)) (.some (.cmp .ne (.attr .kind (.var 1)) (.str [101, 110, 100])))))) .nil)
noncomputable def jf : List String := ["self", "tokens"]
noncomputable def fP : bq := (.cons (.asgA .tokens (.var 0) (.var 1)) (.cons (.asgA .pat (.var 0) (.int 0)) .nil))
noncomputable def sG : List String := ["self"]
noncomputable def mR : bq := (.cons (.ret (.idx (.attr .tokens (.var 0)) (.attr .pat (.var 0)))) .nil)
noncomputable def sH : List String := ["self", "token"]
noncomputable def mS : bq := (.cons (.asg 1 (.idx (.attr .tokens (.var 0)) (.attr .pat (.var 0)))) (.cons (.ifS (.cmp .ne (.attr .kind (.var 1)) (.str [101, 110, 100])) (.cons (.asgA .pat (.var 0) (.bin .add (.attr .pat (.var 0)) (.int 1))) .nil) .nil) (.cons (.ret (.var 1)) .nil)))
noncomputable def nF : List String := ["self"]
noncomputable def ju : bq := (.cons (.ret (.cmp .eq (.attr .kind (.idx (.attr .tokens (.var 0)) (.attr .pat (.var 0)))) (.str [101, 110, 100]))) .nil)
noncomputable def je : List String := ["self", "text", "token"]
noncomputable def fO : bq := (.cons (.asg 2 (.idx (.attr .tokens (.var 0)) (.attr .pat (.var 0)))) (.cons (.ifS (.andE (.cons (.cmp .eq (.attr .kind (.var 2)) (.str [110, 97, 109, 101])) (.cons (.cmp .eq (.attr .text (.var 2)) (.var 1)) .nil))) (.cons (.asgA .pat (.var 0) (.bin .add (.attr .pat (.var 0)) (.int 1))) (.cons (.ret (.bool true)) .nil)) .nil) (.cons (.ret (.bool false)) .nil)))
noncomputable def lR : List String := []
noncomputable def hO : bq := (.cons (.ret .escD) .nil)
noncomputable def nI : List String := ["sign", "base", "at"]
noncomputable def jw : bq := (.cons (.asg 2 (.sm1 .find (.str [48, 49, 50, 51, 52, 53, 54, 55, 56, 57, 97, 98, 99, 100, 101, 102]) (.var 0))) (.cons (.ifS (.cmp .lt (.var 2) (.int 0)) (.cons (.asg 2 (.sm1 .find (.str [48, 49, 50, 51, 52, 53, 54, 55, 56, 57, 65, 66, 67, 68, 69, 70]) (.var 0))) .nil) .nil) (.cons (.ret (.ite (.cmp .lt (.var 2) (.var 1)) (.var 2) (.neg 1))) .nil)))
noncomputable def nH : List String := ["text", "at", "rest", "figures", "base", "sign", "worth", "place", "figure"]
noncomputable def dH : bq := (.cons (.ifS (.orE (.cons (.cmp .lt (.call .l_figure (.cons (.var 5) (.cons (.var 4) .nil))) (.int 0)) (.cons (.andE (.cons (.cmp .eq (.var 4) (.int 8)) (.cons (.cmp .eq (.bi .len (.var 3)) (.int 3)) .nil))) .nil))) (.cons .brk .nil) .nil) (.cons (.exprS (.app (.var 3) (.call .l_figure (.cons (.var 5) (.cons (.var 4) .nil))))) .nil))
noncomputable def fb : bq := (.cons (.asg 2 (.slice (.var 0) (.some (.bin .add (.var 1) (.int 1))) .none)) (.cons (.asg 3 (.lst .nil)) (.cons (.asg 4 (.int 8)) (.cons (.ifS (.cmp .eq (.slice (.var 2) .none (.some (.int 1))) (.str [120])) (.cons (.asg 4 (.int 16)) (.cons (.asg 2 (.slice (.var 2) (.some (.int 1)) .none)) .nil)) .nil) (.cons (.forS [5] (.plain (.var 2)) dH) (.cons (.ifS (.cmp .ne (.var 3) (.lst .nil)) (.cons (.asg 6 (.bi .sum (.comp (.bin .mul (.var 8) (.bin .pow (.var 4) (.var 7))) [7, 8] (.enum (.rev (.var 3))) .none))) (.cons (.ret (.tup (.cons (.bin .mod (.var 6) (.int 256)) (.cons (.bin .add (.bin .add (.bin .add (.var 1) (.int 1)) (.bi .len (.var 3))) (.bin .fdiv (.var 4) (.int 16))) .nil)))) .nil)) .nil) (.cons (.ifS (.andE (.cons (.cmp .eq (.var 4) (.int 8)) (.cons (.cmp .in_ (.slice (.var 2) .none (.some (.int 1))) (.call .l_ESCAPES .nil)) .nil))) (.cons (.ret (.tup (.cons (.idx (.call .l_ESCAPES .nil) (.idx (.var 2) (.int 0))) (.cons (.bin .add (.var 1) (.int 2)) .nil)))) .nil) .nil) (.cons (.ret (.tup (.cons (.neg 1) (.cons (.bin .add (.var 1) (.int 1)) .nil)))) .nil))))))))
noncomputable def j7 : List String := ["text", "at", "sign", "code", "end"]
noncomputable def cS : bq := (.cons (.asg 2 (.slice (.var 0) (.some (.bin .add (.var 1) (.int 1))) (.some (.bin .add (.var 1) (.int 2))))) (.cons (.ifS (.orE (.cons (.cmp .eq (.var 2) (.str [])) (.cons (.cmp .eq (.var 2) (.str [10])) .nil))) (.cons (.ret (.tup (.cons (.neg 1) (.cons (.bin .add (.var 1) (.int 1)) .nil)))) .nil) .nil) (.cons (.asgT [3, 4] (.tup (.cons (.bi .ord (.var 2)) (.cons (.bin .add (.var 1) (.int 2)) .nil)))) (.cons (.ifS (.cmp .eq (.var 2) (.str [92])) (.cons (.asgT [3, 4] (.call .l_escape (.cons (.var 0) (.cons (.bin .add (.var 1) (.int 1)) .nil)))) .nil) (.cons (.ifS (.orE (.cons (.cmp .lt (.var 3) (.int 32)) (.cons (.cmp .gt (.var 3) (.int 126)) .nil))) (.cons (.ret (.tup (.cons (.neg 1) (.cons (.var 4) .nil)))) .nil) .nil) .nil)) (.cons (.ifS (.andE (.cons (.cmp .ge (.var 3) (.int 0)) (.cons (.cmp .eq (.slice (.var 0) (.some (.var 4)) (.some (.bin .add (.var 4) (.int 1)))) (.str [39])) .nil))) (.cons (.asg 4 (.bin .add (.var 4) (.int 1))) .nil) .nil) (.cons (.ret (.tup (.cons (.var 3) (.cons (.var 4) .nil)))) .nil))))))
noncomputable def nK : List String := ["text", "found", "line", "begin", "start", "at", "mood", "sign"]
noncomputable def dz : ME := (.cmp .lt (.var 5) (.bi .len (.var 0)))
noncomputable def bK : bq := (.cons (.asg 7 (.idx (.var 0) (.var 5))) (.cons (.ifS (.orE (.cons (.cmp .eq (.var 7) (.str [10])) (.cons (.andE (.cons (.cmp .eq (.var 7) (.str [59])) (.cons (.cmp .eq (.var 6) (.str [112, 108, 97, 105, 110])) .nil))) .nil))) (.cons (.exprS (.app (.var 1) (.tup (.cons (.var 2) (.cons (.bin .add (.bin .mul (.str [32]) (.bin .sub (.var 4) (.var 3))) (.slice (.var 0) (.some (.var 4)) (.some (.var 5)))) .nil))))) (.cons (.asgT [4, 6] (.tup (.cons (.bin .add (.var 5) (.int 1)) (.cons (.str [112, 108, 97, 105, 110]) .nil)))) (.cons (.ifS (.cmp .eq (.var 7) (.str [10])) (.cons (.asgT [2, 3] (.tup (.cons (.bin .add (.var 2) (.int 1)) (.cons (.bin .add (.var 5) (.int 1)) .nil)))) .nil) .nil) (.cons (.asg 5 (.bin .add (.var 5) (.int 1))) .nil)))) (.cons (.ifS (.cmp .eq (.var 6) (.str [114, 101, 109, 97, 114, 107])) (.cons (.asg 5 (.bin .add (.var 5) (.int 1))) .nil) (.cons (.ifS (.andE (.cons (.cmp .eq (.var 7) (.str [92])) (.cons (.cmp .eq (.var 6) (.str [116, 101, 120, 116])) .nil))) (.cons (.asg 5 (.idx (.call .l_escape (.cons (.var 0) (.cons (.var 5) .nil))) (.int 1))) .nil) (.cons (.ifS (.andE (.cons (.cmp .eq (.var 7) (.str [39])) (.cons (.cmp .eq (.var 6) (.str [112, 108, 97, 105, 110])) .nil))) (.cons (.asg 5 (.idx (.call .l_constant (.cons (.var 0) (.cons (.var 5) .nil))) (.int 1))) .nil) (.cons (.ifS (.cmp .eq (.var 7) (.str [34])) (.cons (.asg 6 (.ite (.cmp .eq (.var 6) (.str [116, 101, 120, 116])) (.str [112, 108, 97, 105, 110]) (.str [116, 101, 120, 116]))) .nil) (.cons (.ifS (.andE (.cons (.cmp .eq (.var 7) (.str [35])) (.cons (.cmp .eq (.var 6) (.str [112, 108, 97, 105, 110])) .nil))) (.cons (.asg 6 (.str [114, 101, 109, 97, 114, 107])) .nil) .nil) .nil)) (.cons (.asg 5 (.bin .add (.var 5) (.int 1))) .nil))) .nil)) .nil)) .nil)) .nil))
noncomputable def jx : bq := (.cons (.asgT [1, 2, 3, 4, 5, 6] (.tup (.cons (.lst .nil) (.cons (.int 1) (.cons (.int 0) (.cons (.int 0) (.cons (.int 0) (.cons (.str [112, 108, 97, 105, 110]) .nil)))))))) (.cons (.while dz bK) (.cons (.ret (.bin .add (.var 1) (.lst (.cons (.tup (.cons (.var 2) (.cons (.bin .add (.bin .mul (.str [32]) (.bin .sub (.var 4) (.var 3))) (.slice (.var 0) (.some (.var 4)) .none)) .nil))) .nil)))) .nil)))
noncomputable def nJ : List String := ["word", "base", "figures", "worth", "sign", "place"]
noncomputable def fg : bq := (.cons (.asgT [1, 2] (.tup (.cons (.int 10) (.cons (.var 0) .nil)))) (.cons (.ifS (.andE (.cons (.cmp .eq (.idx (.var 0) (.int 0)) (.str [48])) (.cons (.cmp .gt (.bi .len (.var 0)) (.int 1)) .nil))) (.cons (.asgT [1, 2] (.tup (.cons (.int 8) (.cons (.slice (.var 0) (.some (.int 1)) .none) .nil)))) (.cons (.ifS (.cmp .in_ (.idx (.var 0) (.int 1)) (.tup (.cons (.str [120]) (.cons (.str [88]) .nil)))) (.cons (.asgT [1, 2] (.tup (.cons (.int 16) (.cons (.slice (.var 0) (.some (.int 2)) .none) .nil)))) .nil) .nil) (.cons (.ifS (.cmp .in_ (.idx (.var 0) (.int 1)) (.tup (.cons (.str [98]) (.cons (.str [66]) .nil)))) (.cons (.asgT [1, 2] (.tup (.cons (.int 2) (.cons (.slice (.var 0) (.some (.int 2)) .none) .nil)))) .nil) .nil) .nil))) .nil) (.cons (.ifS (.andE (.cons (.cmp .ne (.var 2) (.str [])) (.cons (.cmp .eq (.comp (.var 4) [4] (.plain (.var 2)) (.some (.cmp .lt (.call .l_figure (.cons (.var 4) (.cons (.var 1) .nil))) (.int 0)))) (.lst .nil)) .nil))) (.cons (.asg 3 (.bi .sum (.comp (.bin .mul (.call .l_figure (.cons (.var 4) (.cons (.var 1) .nil))) (.bin .pow (.var 1) (.var 5))) [5, 4] (.enum (.rev (.var 2))) .none))) (.cons (.ret (.ite (.cmp .lt (.var 3) (.bin .shl (.int 1) (.int 64))) (.tup (.cons (.str [110, 117, 109, 98, 101, 114]) (.cons (.var 3) .nil))) .none)) .nil)) .nil) (.cons (.ifS (.andE (.cons (.cmp .in_ (.idx (.var 0) (.neg 1)) (.tup (.cons (.str [98]) (.cons (.str [102]) .nil)))) (.cons (.cmp .eq (.comp (.var 4) [4] (.plain (.slice (.var 0) .none (.some (.neg 1)))) (.some (.cmp .lt (.call .l_figure (.cons (.var 4) (.cons (.int 10) .nil))) (.int 0)))) (.lst .nil)) (.cons (.cmp .gt (.bi .len (.var 0)) (.int 1)) .nil)))) (.cons (.ret (.tup (.cons (.str [108, 111, 99, 97, 108]) (.cons (.bi .sum (.comp (.bin .mul (.call .l_figure (.cons (.var 4) (.cons (.int 10) .nil))) (.bin .pow (.int 10) (.var 5))) [5, 4] (.enum (.rev (.slice (.var 0) .none (.some (.neg 1))))) .none)) .nil)))) .nil) .nil) (.cons (.ret .none) .nil)))))
noncomputable def pM : List String := ["text", "at", "worth", "here", "code", "end"]
noncomputable def hZ : ME := (.cmp .ne (.slice (.var 0) (.some (.var 3)) (.some (.bin .add (.var 3) (.int 1)))) (.str [34]))
noncomputable def fM : bq := (.cons (.ifS (.cmp .ge (.var 3) (.bi .len (.var 0))) (.cons (.ret (.tup (.cons .none (.cons (.var 1) (.cons (.int 0) .nil))))) .nil) .nil) (.cons (.asgT [4, 5] (.tup (.cons (.bi .ord (.idx (.var 0) (.var 3))) (.cons (.bin .add (.var 3) (.int 1)) .nil)))) (.cons (.ifS (.cmp .eq (.idx (.var 0) (.var 3)) (.str [92])) (.cons (.asgT [4, 5] (.call .l_escape (.cons (.var 0) (.cons (.var 3) .nil)))) .nil) (.cons (.ifS (.andE (.cons (.cmp .ne (.var 4) (.int 9)) (.cons (.orE (.cons (.cmp .lt (.var 4) (.int 32)) (.cons (.cmp .gt (.var 4) (.int 126)) .nil))) .nil))) (.cons (.asg 4 (.neg 1)) .nil) .nil) .nil)) (.cons (.ifS (.cmp .lt (.var 4) (.int 0)) (.cons (.ret (.tup (.cons .none (.cons (.var 3) (.cons (.int 0) .nil))))) .nil) .nil) (.cons (.asgT [2, 3] (.tup (.cons (.bin .add (.var 2) (.bi .chr (.var 4))) (.cons (.var 5) .nil)))) .nil)))))
noncomputable def kU : bq := (.cons (.asgT [2, 3] (.tup (.cons (.str []) (.cons (.bin .add (.var 1) (.int 1)) .nil)))) (.cons (.while hZ fM) (.cons (.ret (.tup (.cons (.str [116, 101, 120, 116]) (.cons (.var 2) (.cons (.bin .add (.var 3) (.int 1)) .nil))))) .nil)))
noncomputable def pO : List String := ["text", "at", "sign", "end", "told", "code"]
noncomputable def ie : ME := (.andE (.cons (.cmp .lt (.var 3) (.bi .len (.var 0))) (.cons (.orE (.cons (.sm0 .isalpha (.idx (.var 0) (.var 3))) (.cons (.sm0 .isdigit (.idx (.var 0) (.var 3))) .nil))) .nil)))
noncomputable def iQ : bq := (.cons (.asg 3 (.bin .add (.var 3) (.int 1))) .nil)
noncomputable def ig : ME := (.andE (.cons (.cmp .lt (.var 3) (.bi .len (.var 0))) (.cons (.orE (.cons (.sm0 .isalpha (.idx (.var 0) (.var 3))) (.cons (.sm0 .isdigit (.idx (.var 0) (.var 3))) (.cons (.cmp .in_ (.idx (.var 0) (.var 3)) (.tup (.cons (.str [95]) (.cons (.str [46]) (.cons (.str [36]) .nil))))) .nil)))) .nil)))
noncomputable def iR : bq := (.cons (.asg 3 (.bin .add (.var 3) (.int 1))) .nil)
noncomputable def f4 : bq := (.cons (.asg 2 (.idx (.var 0) (.var 1))) (.cons (.asg 3 (.bin .add (.var 1) (.int 1))) (.cons (.ifS (.orE (.cons (.sm0 .isalpha (.var 2)) (.cons (.cmp .in_ (.var 2) (.tup (.cons (.str [95]) (.cons (.str [46]) .nil)))) (.cons (.sm0 .isdigit (.var 2)) .nil)))) (.cons (.while ig iR) (.cons (.ifS (.notE (.sm0 .isdigit (.var 2))) (.cons (.ret (.tup (.cons (.str [110, 97, 109, 101]) (.cons (.slice (.var 0) (.some (.var 1)) (.some (.var 3))) (.cons (.var 3) .nil))))) .nil) .nil) (.cons (.asg 4 (.call .l_number (.cons (.slice (.var 0) (.some (.var 1)) (.some (.var 3))) .nil))) (.cons (.ret (.ite (.cmp .is_ (.var 4) .none) (.tup (.cons .none (.cons (.var 1) (.cons (.int 0) .nil)))) (.tup (.cons (.idx (.var 4) (.int 0)) (.cons (.idx (.var 4) (.int 1)) (.cons (.var 3) .nil)))))) .nil)))) .nil) (.cons (.ifS (.cmp .eq (.var 2) (.str [39])) (.cons (.asgT [5, 3] (.call .l_constant (.cons (.var 0) (.cons (.var 1) .nil)))) (.cons (.ret (.ite (.cmp .ge (.var 5) (.int 0)) (.tup (.cons (.str [110, 117, 109, 98, 101, 114]) (.cons (.var 5) (.cons (.var 3) .nil)))) (.tup (.cons .none (.cons (.var 1) (.cons (.int 0) .nil)))))) .nil)) .nil) (.cons (.ifS (.cmp .eq (.var 2) (.str [34])) (.cons (.ret (.call .l_quote (.cons (.var 0) (.cons (.var 1) .nil)))) .nil) .nil) (.cons (.ifS (.andE (.cons (.cmp .eq (.var 2) (.str [37])) (.cons (.sm0 .isalpha (.slice (.var 0) (.some (.var 3)) (.some (.bin .add (.var 3) (.int 1))))) .nil))) (.cons (.while ie iQ) (.cons (.ret (.tup (.cons (.str [114, 101, 103, 105, 115, 116, 101, 114]) (.cons (.sm0 .lower (.slice (.var 0) (.some (.bin .add (.var 1) (.int 1))) (.some (.var 3)))) (.cons (.var 3) .nil))))) .nil)) .nil) (.cons (.ifS (.cmp .in_ (.slice (.var 0) (.some (.var 1)) (.some (.bin .add (.var 1) (.int 2)))) (.tup (.cons (.str [60, 60]) (.cons (.str [62, 62]) .nil)))) (.cons (.ret (.tup (.cons (.str [115, 105, 103, 110]) (.cons (.slice (.var 0) (.some (.var 1)) (.some (.bin .add (.var 1) (.int 2)))) (.cons (.bin .add (.var 1) (.int 2)) .nil))))) .nil) .nil) (.cons (.ret (.ite (.cmp .in_ (.var 2) (.str [43, 45, 42, 47, 37, 38, 124, 94, 126, 33, 40, 41, 91, 93, 44, 58, 36, 61, 60, 62])) (.tup (.cons (.str [115, 105, 103, 110]) (.cons (.var 2) (.cons (.var 3) .nil)))) (.tup (.cons .none (.cons (.var 1) (.cons (.int 0) .nil)))))) .nil))))))))
noncomputable def nM : List String := ["text", "line", "found", "at", "kind", "worth", "end"]
noncomputable def jW : ME := (.cmp .in_ (.slice (.var 0) (.some (.var 3)) (.some (.bin .add (.var 3) (.int 1)))) (.tup (.cons (.str [32]) (.cons (.str [9]) (.cons (.str [13]) .nil)))))
noncomputable def kO : bq := (.cons (.asg 3 (.bin .add (.var 3) (.int 1))) .nil)
noncomputable def eJ : ME := (.bool true)
noncomputable def eR : bq := (.cons (.while jW kO) (.cons (.ifS (.orE (.cons (.cmp .ge (.var 3) (.bi .len (.var 0))) (.cons (.cmp .eq (.idx (.var 0) (.var 3)) (.str [35])) .nil))) (.cons (.ret (.bin .add (.var 2) (.lst (.cons (.tup (.cons (.str [101, 110, 100]) (.cons (.str []) (.cons (.tup (.cons (.var 1) (.cons (.bin .add (.var 3) (.int 1)) .nil))) (.cons (.bool false) .nil))))) .nil)))) .nil) .nil) (.cons (.asgT [4, 5, 6] (.call .l_token (.cons (.var 0) (.cons (.var 3) .nil)))) (.cons (.ifS (.cmp .is_ (.var 4) .none) (.cons (.ret (.tup (.cons (.var 1) (.cons (.bin .add (.var 5) (.int 1)) .nil)))) .nil) .nil) (.cons (.exprS (.app (.var 2) (.tup (.cons (.var 4) (.cons (.var 5) (.cons (.tup (.cons (.var 1) (.cons (.bin .add (.var 3) (.int 1)) .nil))) (.cons (.andE (.cons (.cmp .eq (.var 4) (.str [108, 111, 99, 97, 108])) (.cons (.cmp .eq (.idx (.var 0) (.bin .sub (.var 6) (.int 1))) (.str [98])) .nil))) .nil))))))) (.cons (.asg 3 (.var 6)) .nil))))))
noncomputable def jy : bq := (.cons (.asgT [2, 3] (.tup (.cons (.lst .nil) (.cons (.int 0) .nil)))) (.cons (.while eJ eR) .nil))
noncomputable def pL : List String := ["text", "line", "token"]
noncomputable def lh : ME := (.comp (.tup (.cons (.attr .kind (.var 2)) (.cons (.attr .worth (.var 2)) (.cons (.meth .told (.attr .pat (.var 2)) .nil) (.cons (.meth .is_backward (.var 2) .nil) .nil))))) [2] (.plain (.call .line_tokens (.cons (.var 0) (.cons (.var 1) .nil)))) .none)
noncomputable def nN : List String := ["tokens", "due", "cursor", "row", "is_a"]
noncomputable def gP : bq := (.cons (.asg 4 (.cmp .eq (.slice (.var 3) .none (.some (.int 2))) (.tup (.cons (.str [110, 97, 109, 101]) (.cons (.str [97]) .nil))))) (.cons (.ifS (.orE (.cons (.cmp .ne (.attr .kind (.meth .peek (.var 2) .nil)) (.idx (.var 3) (.int 0))) (.cons (.cmp .ne (.meth .skip_name (.var 2) (.cons (.str [97]) .nil)) (.var 4)) .nil))) (.cons (.ret (.bool false)) .nil) .nil) (.cons (.ifS (.notE (.var 4)) (.cons (.exprS (.meth .take (.var 2) .nil)) .nil) .nil) .nil)))
noncomputable def jz : bq := (.cons (.asg 2 (.new .cursor (.cons (.var 0) .nil))) (.cons (.forS [3] (.plain (.var 1)) gP) (.cons (.ret (.andE (.cons (.meth .is_end (.var 2) .nil) (.cons (.cmp .eq (.attr .kind (.meth .take (.var 2) .nil)) (.str [101, 110, 100])) .nil)))) .nil)))
noncomputable def pP : List String := ["script", "cells", "text", "pieces", "worth", "line", "piece", "due", "cell", "tokens", "again", "token", "row"]
noncomputable def rN : bq := (.cons (.asg 7 (.call .l_tokens (.cons (.var 6) (.cons (.var 5) .nil)))) (.cons (.ifHeard (.cons (.var 6) (.cons (.var 5) .nil)) .ne (.var 7) (.cons (.ret (.bool false)) .nil) .nil) (.cons (.ifS (.isList (.var 7)) (.cons (.asg 9 (.call .line_tokens (.cons (.var 6) (.cons (.var 5) .nil)))) (.cons (.asg 10 (.call .line_tokens (.cons (.call .show_tokens (.cons (.var 9) .nil)) (.cons (.int 1) .nil)))) (.cons (.ifS (.cmp .ne (.comp (.meth .told (.var 11) .nil) [11] (.plain (.var 10)) .none) (.comp (.slice (.var 12) .none (.some (.int 2))) [12] (.plain (.var 7)) .none)) (.cons (.ret (.bool false)) .nil) .nil) (.cons (.ifS (.notE (.call .l_walked (.cons (.var 9) (.cons (.var 7) .nil)))) (.cons (.ret (.bool false)) .nil) .nil) .nil)))) .nil) .nil)))
noncomputable def mT : bq := (.cons (.asg 1 (.comp (.bi .int (.var 8)) [8] (.plain (.slice (.var 0) .none (.some (.int 44)))) .none)) (.cons (.asg 2 (.sm1 .join (.str []) (.comp (.idx (.gtup "_law_MENU" [[97], [49], [48], [120], [34], [39], [92], [35], [37], [60], [62], [32], [98], [102], [46], [95], [36], [59], [10], [45], [55], [57], [110], [40], [64], [9], [33], [1], [122], [114]]) (.bin .mod (.var 8) (.int 30))) [8] (.plain (.var 1)) .none))) (.cons (.asg 3 (.call .l_pieces (.cons (.var 2) .nil))) (.cons (.ifS (.cmp .ne (.call .split_lines (.cons (.var 2) .nil)) (.var 3)) (.cons (.ret (.bool false)) .nil) .nil) (.cons (.forS [5, 6] (.plain (.var 3)) rN) (.cons (.asg 4 (.sm1 .join (.str []) (.comp (.bi .chr (.bin .mod (.bin .fdiv (.var 8) (.int 30)) (.int 256))) [8] (.plain (.slice (.var 1) .none (.some (.int 12)))) .none))) (.cons (.retHeard (.cons (.call .quoted (.cons (.var 4) .nil)) (.cons (.int 1) .nil)) .eq (.lst (.cons (.tup (.cons (.str [116, 101, 120, 116]) (.cons (.var 4) (.cons (.tup (.cons (.int 1) (.cons (.int 1) .nil))) (.cons (.bool false) .nil))))) (.cons (.tup (.cons (.str [101, 110, 100]) (.cons (.str []) (.cons (.tup (.cons (.int 1) (.cons (.bin .add (.bi .len (.call .quoted (.cons (.var 4) .nil))) (.int 1)) .nil))) (.cons (.bool false) .nil))))) .nil)))) .nil)))))))
noncomputable def bH (l : List String) : List Str := l.map Str.ofString
noncomputable def AD {α : Type} (o : Option α) (f : α -> Prop) : Prop := match o with | some a => f a | none => False
theorem aI {α : Type} {o : Option α} {f : α -> Prop} (h : AD o f) : ∃ a, o = some a ∧ f a := match o, h with | some a, h => ⟨a, rfl, h⟩
theorem Ee {α : Type} {o : Option α} {f : α -> Prop} {a : α} (e : o = some a) (h : f a) : AD o f := e ▸ h
noncomputable def G0 {α : Type} (o : Option α) (f : α -> Prop) : Prop := match o with | some a => f a | none => False
theorem Gt {α : Type} {o : Option α} {f : α -> Prop} (h : G0 o f) : ∃ a, o = some a ∧ f a := aI h
theorem ay {α : Type} {o : Option α} {f : α -> Prop} {a : α} (e : o = some a) (h : f a) : G0 o f := e ▸ h
noncomputable def FO {α : Type} (o : Option α) (f : α -> Prop) : Prop := match o with | some a => f a | none => False
theorem Gw {α : Type} {o : Option α} {f : α -> Prop} (h : FO o f) : ∃ a, o = some a ∧ f a := aI h
theorem bh {α : Type} {o : Option α} {f : α -> Prop} {a : α} (e : o = some a) (h : f a) : FO o f := e ▸ h
noncomputable def GY {α : Type} (o : Option α) (f : α -> Prop) : Prop := match o with | some a => f a | none => False
theorem Gr {α : Type} {o : Option α} {f : α -> Prop} (h : GY o f) : ∃ a, o = some a ∧ f a := aI h
theorem aq {α : Type} {o : Option α} {f : α -> Prop} {a : α} (e : o = some a) (h : f a) : GY o f := e ▸ h
noncomputable def GZ {α : Type} (o : Option α) (f : α -> Prop) : Prop := match o with | some a => f a | none => False
theorem Gs {α : Type} {o : Option α} {f : α -> Prop} (h : GZ o f) : ∃ a, o = some a ∧ f a := aI h
theorem aZ {α : Type} {o : Option α} {f : α -> Prop} {a : α} (e : o = some a) (h : f a) : GZ o f := e ▸ h
noncomputable def Gu {α : Type} (o : Option α) (f : α -> Prop) : Prop := match o with | some a => f a | none => False
theorem Gv {α : Type} {o : Option α} {f : α -> Prop} (h : Gu o f) : ∃ a, o = some a ∧ f a := aI h
theorem zI {α : Type} {o : Option α} {f : α -> Prop} {a : α} (e : o = some a) (h : f a) : Gu o f := e ▸ h
noncomputable def FP {α : Type} (o : Option α) (f : α -> Prop) : Prop := match o with | some a => f a | none => False
theorem Gy {α : Type} {o : Option α} {f : α -> Prop} (h : FP o f) : ∃ a, o = some a ∧ f a := aI h
theorem bF {α : Type} {o : Option α} {f : α -> Prop} {a : α} (e : o = some a) (h : f a) : FP o f := e ▸ h
noncomputable def G1 {α : Type} (o : Option α) (f : α -> Prop) : Prop := match o with | some a => f a | none => False
theorem Gz {α : Type} {o : Option α} {f : α -> Prop} (h : G1 o f) : ∃ a, o = some a ∧ f a := aI h
theorem dh {α : Type} {o : Option α} {f : α -> Prop} {a : α} (e : o = some a) (h : f a) : G1 o f := e ▸ h
noncomputable def BM {α : Type} (o : Option α) (f : α -> Prop) : Prop := match o with | some a => f a | none => False
theorem Gx {α : Type} {o : Option α} {f : α -> Prop} (h : BM o f) : ∃ a, o = some a ∧ f a := aI h
theorem ew {α : Type} {o : Option α} {f : α -> Prop} {a : α} (e : o = some a) (h : f a) : BM o f := e ▸ h
noncomputable def EL {α : Type} (o : Option α) (f : α -> Prop) : Prop := match o with | some a => f a | none => False
theorem qY {α : Type} {o : Option α} {f : α -> Prop} (h : EL o f) : ∃ a, o = some a ∧ f a := aI h
theorem dS {α : Type} {o : Option α} {f : α -> Prop} {a : α} (e : o = some a) (h : f a) : EL o f := e ▸ h
noncomputable def G2 {α : Type} (o : Option α) (f : α -> Prop) : Prop := match o with | some a => f a | none => False
theorem GA {α : Type} {o : Option α} {f : α -> Prop} (h : G2 o f) : ∃ a, o = some a ∧ f a := aI h
theorem gK {α : Type} {o : Option α} {f : α -> Prop} {a : α} (e : o = some a) (h : f a) : G2 o f := e ▸ h
noncomputable def nth : aj -> Nat -> Option AV
 | [], _ => none
 | a :: _, 0 => a
 | _ :: l, n + 1 => nth l n
theorem wJ : ∀ {ρ : aj} {i : Nat} {v : AV}, nth ρ i = some v -> ρ[i]? = some (some v)
 | [], _, _, h => nomatch h
 | a :: _, 0, _, h => congrArg some h
 | _ :: l, n + 1, _, h => wJ (ρ := l) h
noncomputable def te (v : AV) (a b : Prop) : Prop := match v with | .bool r => (r = true -> a) ∧ (r = false -> b) | _ => False
theorem qT {v : AV} {a b : Prop} (h : te v a b) : ∃ r, v = .bool r ∧ if r = true then a else b := match v, h with
 | .bool true, h => ⟨true, rfl, h.1 rfl⟩
 | .bool false, h => ⟨false, rfl, h.2 rfl⟩
noncomputable def BL (v : AV) (f : Bool -> Prop) : Prop := match v with | .bool r => f r | _ => False
theorem iF {v : AV} {f : Bool -> Prop} (h : BL v f) : ∃ r, v = .bool r ∧ f r := match v, h with | .bool r, h => ⟨r, rfl, h⟩
noncomputable def qJ (c : Option aG) : Option (List AV) := match c with | some (.list l) => some l | _ => none
theorem uE {c : Option aG} {l : List AV} (h : qJ c = some l) : c = some (.list l) := by
 rcases c with _ | (l' | _) <;> first | cases h | skip
 rfl
noncomputable def p0 (v : AV) (σ : aa) : Option (Nat × List AV) := match v with
 | .loc n => (qJ σ[n]?).map λ l => (n, l)
 | _ => none
theorem lu {n : Nat} {σ : aa} {l : List AV} (e : σ[n]? = some (.list l)) : p0 (.loc n) σ = some (n, l) := congrArg (λ c => (qJ c).map λ l => (n, l)) e
theorem eU {v : AV} {σ : aa} {p : Nat × List AV} (h : p0 v σ = some p) : v = .loc p.1 ∧ σ[p.1]? = some (.list p.2) := by
 cases v <;> first | cases (show none = some p from h) | skip
 obtain ⟨l, e, rfl⟩ := Option.map_eq_some_iff.mp (show (qJ _).map _ = _ from h)
 exact ⟨rfl, uE e⟩
noncomputable def CB (v : AV) (f : List AV -> Prop) : Prop := match v with | .tup l => f l | _ => False
theorem xL {v : AV} {f : List AV -> Prop} (h : CB v f) : ∃ l, v = .tup l ∧ f l := match v, h with | .tup l, h => ⟨l, rfl, h⟩
noncomputable def CA (v : AV) (f : List Nat -> Prop) : Prop := match v with | .str l => f l | _ => False
theorem xK {v : AV} {f : List Nat -> Prop} (h : CA v f) : ∃ l, v = .str l ∧ f l := match v, h with | .str l, h => ⟨l, rfl, h⟩
noncomputable def Ed (v : AV) (f : AV -> AV -> Prop) : Prop := match v with | .inst .place [l, c] => f l c | _ => False
theorem tq {v : AV} {f : AV -> AV -> Prop} (h : Ed v f) : ∃ l c, v = .inst .place [l, c] ∧ f l c := by
 cases v <;> first | exact h.elim | skip
 rename_i c vs
 cases c <;> first | exact h.elim | skip
 rcases vs with _ | ⟨l, _ | ⟨c, _ | _⟩⟩ <;> first | exact h.elim | exact ⟨l, c, rfl, h⟩
noncomputable def aT (c : ac) (vs : List AV) (σ : aa) (Q X : AV -> aa -> Prop) : Prop := ∀ Q' X' : AV -> aa -> Prop, (∀ v σ', Q v σ' -> Q' v σ') -> (∀ v σ', X v σ' -> X' v σ') -> c vs σ Q' X'
noncomputable def Cr (e : ME) : Option AV := match e with | .int i => some (.int i) | _ => none
theorem xD {e : ME} {v : AV} (h : Cr e = some v) : ∃ i, e = .int i ∧ v = .int i := by
 cases e <;> first | cases h | skip
 exact ⟨_, rfl, rfl⟩
noncomputable def sh (ev : AV -> (Option AV -> Prop) -> Prop) : List AV -> List AV -> (List AV -> Prop) -> Prop
 | [], acc, Q => Q acc
 | v :: vs, acc, Q => ev v λ r => sh ev vs (match r with | some x => acc ++ [x] | none => acc) Q
noncomputable def Ca (test : aj -> aa -> (AV -> aa -> Prop) -> Prop) (body : aj -> aa -> (aA -> aj -> aa -> Prop) -> Prop) :
  Nat -> aj -> aa -> (aA -> aj -> aa -> Prop) -> Prop
 | 0, _, _, _ => False
 | n + 1, ρ, σ, Q => test ρ σ λ v σ' => te v (body ρ σ' λ fl ρ' σ'' => match fl with
   | .next => Ca test body n ρ' σ'' Q
   | .brk => Q .next ρ' σ''
   | .ret v => Q (.ret v) ρ' σ'') (Q .next ρ σ')
noncomputable def xu (tg : List Nat) (same : aa -> Prop) (body : aj -> aa -> (aA -> aj -> aa -> Prop) -> Prop) :
  List AV -> aj -> aa -> (aA -> aj -> aa -> Prop) -> Prop
 | [], ρ, σ, Q => same σ ∧ Q .next ρ σ
 | v :: vs, ρ, σ, Q => same σ ∧ AD (f6 tg v ρ) λ ρ' => body ρ' σ λ fl ρ'' σ' => match fl with
   | .next => xu tg same body vs ρ'' σ' Q
   | .brk => Q .next ρ'' σ'
   | .ret v => Q (.ret v) ρ'' σ'
section
variable (T : Fn -> ac)
mutual
noncomputable def eT : ME -> aj -> aa -> (AV -> aa -> Prop) -> (AV -> aa -> Prop) -> Prop
 | .var i, ρ, σ, Q, _ => AD (nth ρ i) λ v => Q v σ
 | .none, _, σ, Q, _ => Q .none σ
 | .bool b, _, σ, Q, _ => Q (.bool b) σ
 | .int i, _, σ, Q, _ => Q (.int i) σ
 | .str s, _, σ, Q, _ => Q (.str s) σ
 | .neg i, _, σ, Q, _ => Q (.int (-i)) σ
 | .gstr _ s, _, σ, Q, _ => Q (.str s) σ
 | .gint _ i, _, σ, Q, _ => Q (.int i) σ
 | .gtup _ l, _, σ, Q, _ => Q (.tup (l.map .str)) σ
 | .bin op a b, ρ, σ, Q, X => eT a ρ σ (λ va σ₁ => eT b ρ σ₁ (λ vb σ₂ => FO (f5 op va vb σ₂) λ r => Q r.1 r.2) X) X
 | .cmp op a b, ρ, σ, Q, X => eT a ρ σ (λ va σ₁ => eT b ρ σ₁ (λ vb σ₂ => BM (dl op σ₂ va vb) λ r => Q (.bool r) σ₂) X) X
 | .cmp2 o₁ o₂ a b c, ρ, σ, Q, X => eT a ρ σ (λ va σ₁ => eT b ρ σ₁ (λ vb σ₂ => BM (dl o₁ σ₂ va vb) λ r => AD (Cr c) λ vc => BM (dl o₂ σ₂ vb vc) λ r' => Q (.bool (r && r')) σ₂) X) X
 | .andE es, ρ, σ, Q, X => GP es ρ σ Q X
 | .orE es, ρ, σ, Q, X => GR es ρ σ Q X
 | .notE a, ρ, σ, Q, X => eT a ρ σ (λ v σ₁ => BL v λ b => Q (.bool (!b)) σ₁) X
 | .ite t a b, ρ, σ, Q, X => eT t ρ σ (λ v σ₁ => te v (eT a ρ σ₁ Q X) (eT b ρ σ₁ Q X)) X
 | .call f es, ρ, σ, Q, X => Bb es ρ σ (λ vs σ₁ => aT (T f) vs σ₁ Q X) X
 | .new c es, ρ, σ, Q, X => Bb es ρ σ (λ vs σ₁ => AD (om c vs σ₁) λ r => Q r.1 r.2) X
 | .bi b e, ρ, σ, Q, X => eT e ρ σ (λ v σ₁ => FP (l9 b σ₁ v) λ r => Q r σ₁) X
 | .sm0 m o, ρ, σ, Q, X => eT o ρ σ (λ v σ₁ => FP (jo m v) λ r => Q r σ₁) X
 | .sm1 m o a, ρ, σ, Q, X => eT o ρ σ (λ v σ₁ => CA v λ _ => eT a ρ σ₁ (λ va σ₂ => FP (qg m σ₂ v va) λ r => Q r σ₂) X) X
 | .app o e, ρ, σ, Q, X => eT o ρ σ (λ v σ₁ => EL (p0 v σ₁) λ _ => eT e ρ σ₁ (λ x σ₂ => EL (p0 v σ₂) λ p => p.2.length < fD ∧ Q .none (σ₂.set p.1 (.list (p.2 ++ [x])))) X) X
 | .meth m o es, ρ, σ, Q, X => eT o ρ σ (λ v σ₁ => GZ (sf σ₁ v) λ c => AD (zB c m) λ f => Bb es ρ σ₁ (λ vs σ₂ => aT (T f) (v :: vs) σ₂ Q X) X) X
 | .attr f o, ρ, σ, Q, X => eT o ρ σ (λ v σ₁ => GY (cI σ₁ v f) λ r => Q r σ₁) X
 | .idx o i, ρ, σ, Q, X => eT o ρ σ (λ v σ₁ => eT i ρ σ₁ (λ k σ₂ => G0 (jn σ₂ v k) λ r => Q r σ₂) X) X
 | .slice o lo hi, ρ, σ, Q, X => eT o ρ σ (λ v σ₁ => Gk lo ρ σ₁ (λ l σ₂ => Gk hi ρ σ₂ (λ h σ₃ => AD (oP l) λ l' => AD (oP h) λ h' => Gu (mN σ₃ v l' h') λ r => Q r.1 r.2) X) X) X
 | .rev o, ρ, σ, Q, X => eT o ρ σ (λ v σ₁ => Gu (wU σ₁ v) λ r => Q r.1 r.2) X
 | .tup es, ρ, σ, Q, X => Bb es ρ σ (λ vs σ₁ => Q (.tup vs) σ₁) X
 | .lst es, ρ, σ, Q, X => Bb es ρ σ (λ vs σ₁ => Q (.loc σ₁.length) (σ₁ ++ [.list vs])) X
 | .escD, _, σ, Q, _ => Q .esc σ
 | .comp elt tg it test, ρ, σ, Q, X => GQ it ρ σ (λ items same σ₁ => same σ₁ ∧ items.length ≤ fD ∧
   sh (λ v K => AD (f6 tg v ρ) λ ρ' => Gk test ρ' σ₁ (λ b σ₂ => σ₂ = σ₁ ∧ match b with
    | none => eT elt ρ' σ₁ (λ r σ₂ => σ₂ = σ₁ ∧ K (some r)) (λ _ _ => False)
    | some b => te b (eT elt ρ' σ₁ (λ r σ₂ => σ₂ = σ₁ ∧ K (some r)) (λ _ _ => False)) (K none)) (λ _ _ => False)) items []
    (λ acc => Q (.loc σ₁.length) (σ₁ ++ [.list acc]))) X
 | .isList o, ρ, σ, Q, X => eT o ρ σ (λ v σ₁ => match v with
   | .loc n => EL (p0 v σ₁) λ _ => Q (.bool true) σ₁
   | .tup _ => Q (.bool false) σ₁
   | _ => False) X
noncomputable def Bb : fC -> aj -> aa -> (List AV -> aa -> Prop) -> (AV -> aa -> Prop) -> Prop
 | .nil, _, σ, Q, _ => Q [] σ
 | .cons e es, ρ, σ, Q, X => eT e ρ σ (λ v σ₁ => Bb es ρ σ₁ (λ vs σ₂ => Q (v :: vs) σ₂) X) X
noncomputable def GP : fC -> aj -> aa -> (AV -> aa -> Prop) -> (AV -> aa -> Prop) -> Prop
 | .nil, _, _, _, _ => False
 | .cons e es, ρ, σ, Q, X => eT e ρ σ (λ v σ₁ => BL v λ b => match es with
   | .nil => Q (.bool b) σ₁
   | .cons _ _ => (b = true -> GP es ρ σ₁ Q X) ∧ (b = false -> Q (.bool false) σ₁)) X
noncomputable def GR : fC -> aj -> aa -> (AV -> aa -> Prop) -> (AV -> aa -> Prop) -> Prop
 | .nil, _, _, _, _ => False
 | .cons e es, ρ, σ, Q, X => eT e ρ σ (λ v σ₁ => BL v λ b => match es with
   | .nil => Q (.bool b) σ₁
   | .cons _ _ => (b = true -> Q (.bool true) σ₁) ∧ (b = false -> GR es ρ σ₁ Q X)) X
noncomputable def Gk : MO -> aj -> aa -> (Option AV -> aa -> Prop) -> (AV -> aa -> Prop) -> Prop
 | .none, _, σ, Q, _ => Q none σ
 | .some e, ρ, σ, Q, X => eT e ρ σ (λ v σ₁ => Q (some v) σ₁) X
noncomputable def GQ : MI -> aj -> aa -> (List AV -> (aa -> Prop) -> aa -> Prop) -> (AV -> aa -> Prop) -> Prop
 | .plain e, ρ, σ, Q, X => eT e ρ σ (λ v σ₁ => G2 (my σ₁ v) λ l => Q l (λ σ₂ => ch σ₂ v = ch σ₁ v) σ₁) X
 | .range e, ρ, σ, Q, X => eT e ρ σ (λ v σ₁ => v = .int 8 ∧ Q (oX 8) (λ _ => True) σ₁) X
 | .enum e, ρ, σ, Q, X => eT e ρ σ (λ v σ₁ => match v with
   | .str s => Q (cz 0 (s.map λ c => .str [c])) (λ _ => True) σ₁
   | _ => ∃ l is, v = .loc σ.length ∧ σ₁ = σ ++ [.list l] ∧ iz l = some is ∧ Q (cz 0 l) (λ _ => True) σ) X
end
mutual
noncomputable def evS : MS -> aj -> aa -> (aA -> aj -> aa -> Prop) -> (AV -> aa -> Prop) -> Prop
 | .asg i e, ρ, σ, Q, X => eT T e ρ σ (λ v σ₁ => Q .next (ρ.set i (some v)) σ₁) X
 | .asgT is e, ρ, σ, Q, X => eT T e ρ σ (λ v σ₁ => CB v λ l => is.length = l.length ∧ Q .next (cV ρ is l) σ₁) X
 | .asgA f o e, ρ, σ, Q, X => eT T e ρ σ (λ v σ₁ => eT T o ρ σ₁ (λ vo σ₂ => match vo with | .loc n => G1 (setField σ₂ n f v) λ σ₃ => Q .next ρ σ₃ | _ => False) X) X
 | .exprS e, ρ, σ, Q, X => eT T e ρ σ (λ _ σ₁ => Q .next ρ σ₁) X
 | .ifS t a b, ρ, σ, Q, X => eT T t ρ σ (λ v σ₁ => te v (bB a ρ σ₁ Q X) (bB b ρ σ₁ Q X)) X
 | .while t b, ρ, σ, Q, X => ∃ n, Ca (λ ρ σ K => eT T t ρ σ K X) (λ ρ σ K => bB b ρ σ K X) n ρ σ Q
 | .forS tg it b, ρ, σ, Q, X => GQ T it ρ σ (λ items same σ₁ => xu tg same (λ ρ σ K => bB b ρ σ K X) items ρ σ₁ Q) X
 | .ret e, ρ, σ, Q, X => eT T e ρ σ (λ v σ₁ => Q (.ret v) ρ σ₁) X
 | .raise w a, ρ, σ, _, X => eT T w ρ σ (λ _ σ₁ => eT T a ρ σ₁ (λ v σ₂ => Ed v λ _ _ => X v σ₂) X) X
 | .brk, ρ, σ, Q, _ => Q .brk ρ σ
 | .tryTold e, ρ, σ, Q, _ => eT T e ρ σ (λ v σ₁ => Q (.ret v) ρ σ₁) (λ v σ₁ => Ed v λ l c => Q (.ret (.tup [l, c])) [] σ₁)
 | .ifHeard es op b x y, ρ, σ, Q, X => Bb T es ρ σ (λ vs σ₁ => aT (T .l_heard) vs σ₁ (λ v σ₂ => eT T b ρ σ₂ (λ w σ₃ => BM (dl op σ₃ v w) λ r => (r = true -> bB x ρ σ₃ Q X) ∧ (r = false -> bB y ρ σ₃ Q X)) (λ _ _ => False)) (λ _ _ => False)) X
 | .retHeard es op b, ρ, σ, Q, X => Bb T es ρ σ (λ vs σ₁ => aT (T .l_heard) vs σ₁ (λ v σ₂ => eT T b ρ σ₂ (λ w σ₃ => BM (dl op σ₃ v w) λ r => Q (.ret (.bool r)) ρ σ₃) (λ _ _ => False)) (λ _ _ => False)) X
noncomputable def bB : bq -> aj -> aa -> (aA -> aj -> aa -> Prop) -> (AV -> aa -> Prop) -> Prop
 | .nil, ρ, σ, Q, _ => Q .next ρ σ
 | .cons s ss, ρ, σ, Q, X => evS s ρ σ (λ fl ρ' σ' => match fl with
   | .next => bB ss ρ' σ' Q X
   | .brk => Q .brk ρ' σ'
   | .ret v => Q (.ret v) ρ' σ') X
end
end
theorem uA {r : Bool} {a b a' b' : Prop} (ha : a -> a') (hb : b -> b') (h : (r = true -> a) ∧ (r = false -> b)) : if r = true then a' else b' := by
 cases r
 ·exact hb (h.2 rfl)
 ·exact ha (h.1 rfl)
theorem nY {r : Bool} {a b a' b' : Prop} (ha : a -> a') (hb : b -> b') (h : if r = true then a else b) : if r = true then a' else b' := by
 cases r
 ·exact hb h
 ·exact ha h
theorem sk {ev ev' : AV -> (Option AV -> Prop) -> Prop} (he : ∀ v K K', (∀ r, K r -> K' r) -> ev v K -> ev' v K') {Q Q' : List AV -> Prop} (hq : ∀ l, Q l -> Q' l) : ∀ {vs acc : List AV}, sh ev vs acc Q -> m9 ev' vs acc Q'
 | [], acc, h => hq acc h
 | v :: vs, acc, h => he v _ _ (λ r h => sk he hq h) h
theorem Az {test : aj -> aa -> (AV -> aa -> Prop) -> Prop} {test' : aj -> aa -> (Bool -> aa -> Prop) -> Prop} {body body' : aj -> aa -> (aA -> aj -> aa -> Prop) -> Prop}
  (ht : ∀ ρ σ K K', (∀ v σ', K v σ' -> ∃ r, v = .bool r ∧ K' r σ') -> test ρ σ K -> test' ρ σ K') (hb : ∀ ρ σ K K', (∀ f ρ' σ', K f ρ' σ' -> K' f ρ' σ') -> body ρ σ K -> body' ρ σ K') {Q Q' : aA -> aj -> aa -> Prop} (hq : ∀ f ρ σ, Q f ρ σ -> Q' f ρ σ) :
  ∀ {n : Nat} {ρ : aj} {σ : aa}, Ca test body n ρ σ Q -> GD test' body' n ρ σ Q'
 | 0, _, _, h => h.elim
 | n + 1, ρ, σ, h => ht ρ σ _ _ (λ v σ' h => let ⟨r, e, h⟩ := qT h; ⟨r, e, nY (λ h => hb ρ σ' _ _ (λ f ρ' σ'' h => match f, h with | .next, h => Az ht hb hq h | .brk, h => hq _ _ _ h | .ret v, h => hq _ _ _ h) h) (λ h => hq _ _ _ h) h⟩) h
theorem wx {tg : List Nat} {same : aa -> Prop} {body body' : aj -> aa -> (aA -> aj -> aa -> Prop) -> Prop}
  (hb : ∀ ρ σ K K', (∀ f ρ' σ', K f ρ' σ' -> K' f ρ' σ') -> body ρ σ K -> body' ρ σ K') {Q Q' : aA -> aj -> aa -> Prop} (hq : ∀ f ρ σ, Q f ρ σ -> Q' f ρ σ) :
  ∀ {vs : List AV} {ρ : aj} {σ : aa}, xu tg same body vs ρ σ Q -> y0 tg same body' vs ρ σ Q'
 | [], _, _, h => ⟨h.1, hq _ _ _ h.2⟩
 | v :: vs, ρ, σ, h => let ⟨ρ', e, h2⟩ := aI h.2; ⟨h.1, ρ', e, hb _ _ _ _ (λ f ρ' σ'' h => match f, h with | .next, h => wx hb hq h | .brk, h => hq _ _ _ h | .ret v, h => hq _ _ _ h) h2⟩
noncomputable abbrev Le (Q Q' : AV -> aa -> Prop) : Prop := ∀ v σ, Q v σ -> Q' v σ
noncomputable abbrev LeF (Q Q' : aA -> aj -> aa -> Prop) : Prop := ∀ f ρ σ, Q f ρ σ -> Q' f ρ σ
section
variable {T : Fn -> ac}
mutual
theorem fq : ∀ (e : ME) {ρ : aj} {σ : aa} {Q Q' X X' : AV -> aa -> Prop}, Le Q Q' -> Le X X' -> eT T e ρ σ Q X -> br T e ρ σ Q' X'
 | .var i, _, _, _, _, _, _, q, _, h => let ⟨v, e, h⟩ := aI h; ⟨v, wJ e, q _ _ h⟩
 | .none, _, _, _, _, _, _, q, _, h => q _ _ h
 | .bool _, _, _, _, _, _, _, q, _, h => q _ _ h
 | .int _, _, _, _, _, _, _, q, _, h => q _ _ h
 | .str _, _, _, _, _, _, _, q, _, h => q _ _ h
 | .neg _, _, _, _, _, _, _, q, _, h => q _ _ h
 | .gstr .., _, _, _, _, _, _, q, _, h => q _ _ h
 | .gint .., _, _, _, _, _, _, q, _, h => q _ _ h
 | .gtup .., _, _, _, _, _, _, q, _, h => q _ _ h
 | .bin op a b, _, _, _, _, _, _, q, x, h => fq a (λ _ _ h => fq b (λ _ _ h => let ⟨r, e, h⟩ := aI h; ⟨r, e, q _ _ h⟩) x h) x h
 | .cmp op a b, _, _, _, _, _, _, q, x, h => fq a (λ _ _ h => fq b (λ _ _ h => let ⟨r, e, h⟩ := aI h; ⟨r, e, q _ _ h⟩) x h) x h
 | .cmp2 o₁ o₂ a b c, _, _, _, _, _, _, q, x, h => fq a (λ _ _ h => fq b (λ _ _ h => let ⟨r, e, h⟩ := aI h; let ⟨vc, e2, h⟩ := aI h; let ⟨r', e3, h4⟩ := aI h; ⟨r, e, by
   obtain ⟨i, rfl, rfl⟩ := xD e2
   cases r
   ·exact q _ _ h4
   ·exact ⟨r', e3, q _ _ h4⟩⟩) x h) x h
 | .andE es, _, _, _, _, _, _, q, x, h => goA es q x h
 | .orE es, _, _, _, _, _, _, q, x, h => goR es q x h
 | .notE a, _, _, _, _, _, _, q, x, h => fq a (λ _ _ h => let ⟨r, e, h⟩ := iF h; ⟨r, e, q _ _ h⟩) x h
 | .ite t a b, _, _, _, _, _, _, q, x, h => fq t (λ _ _ h => let ⟨r, e, h⟩ := qT h; ⟨r, e, nY (fq a q x) (fq b q x) h⟩) x h
 | .call f es, _, _, _, _, _, _, q, x, h => goL es (λ _ _ h => h _ _ q x) x h
 | .new c es, _, _, _, _, _, _, q, x, h => goL es (λ _ _ h => let ⟨r, e, h⟩ := aI h; ⟨r, e, q _ _ h⟩) x h
 | .bi b e, _, _, _, _, _, _, q, x, h => fq e (λ _ _ h => let ⟨r, e, h⟩ := aI h; ⟨r, e, q _ _ h⟩) x h
 | .sm0 m o, _, _, _, _, _, _, q, x, h => fq o (λ _ _ h => let ⟨r, e, h⟩ := aI h; ⟨r, e, q _ _ h⟩) x h
 | .sm1 m o a, _, _, _, _, _, _, q, x, h => fq o (λ _ _ h => let ⟨s, e, h⟩ := xK h; ⟨⟨s, e⟩, fq a (λ _ _ h => let ⟨r, e, h⟩ := aI h; ⟨r, e, q _ _ h⟩) x h⟩) x h
 | .app o e, _, _, _, _, _, _, q, x, h => fq o (λ _ _ h => let ⟨p, e1, h⟩ := qY h; ⟨⟨p.1, p.2, (eU e1).1, (eU e1).2⟩, fq e (λ _ _ h => let ⟨p, e1, h⟩ := qY h; ⟨p.1, p.2, (eU e1).1, (eU e1).2, h.1, q _ _ h.2⟩) x h⟩) x h
 | .meth m o es, _, _, _, _, _, _, q, x, h => fq o (λ _ _ h => let ⟨c, e, h⟩ := aI h; let ⟨f, e2, h⟩ := aI h; ⟨c, e, f, e2, goL es (λ _ _ h => h _ _ q x) x h⟩) x h
 | .attr f o, _, _, _, _, _, _, q, x, h => fq o (λ _ _ h => let ⟨r, e, h⟩ := aI h; ⟨r, e, q _ _ h⟩) x h
 | .idx o i, _, _, _, _, _, _, q, x, h => fq o (λ _ _ h => fq i (λ _ _ h => let ⟨r, e, h⟩ := aI h; ⟨r, e, q _ _ h⟩) x h) x h
 | .slice o lo hi, _, _, _, _, _, _, q, x, h => fq o (λ _ _ h => GV lo (λ _ _ h => GV hi (λ _ _ h => let ⟨l, e1, h⟩ := aI h; let ⟨k, e2, h⟩ := aI h; let ⟨r, e, h⟩ := aI h; ⟨l, e1, k, e2, r, e, q _ _ h⟩) x h) x h) x h
 | .rev o, _, _, _, _, _, _, q, x, h => fq o (λ _ _ h => let ⟨r, e, h⟩ := aI h; ⟨r, e, q _ _ h⟩) x h
 | .tup es, _, _, _, _, _, _, q, x, h => goL es (λ _ _ h => q _ _ h) x h
 | .lst es, _, _, _, _, _, _, q, x, h => goL es (λ _ _ h => q _ _ h) x h
 | .escD, _, _, _, _, _, _, q, _, h => q _ _ h
 | .comp elt tg it test, _, _, _, _, _, _, q, x, h => goI it (λ _ _ _ h => ⟨h.1, h.2.1, sk (λ v K K' k h => let ⟨ρ', e, h⟩ := aI h; ⟨ρ', e, GV test (λ b _ h => ⟨h.1, match b, h.2 with
   | none, h => .inl ⟨.inl rfl, fq elt (λ _ _ h => ⟨h.1, k _ h.2⟩) (λ _ _ h => h) h⟩
   | some (.bool true), h => .inl ⟨.inr rfl, fq elt (λ _ _ h => ⟨h.1, k _ h.2⟩) (λ _ _ h => h) (h.1 rfl)⟩
   | some (.bool false), h => .inr ⟨rfl, k _ (h.2 rfl)⟩⟩) (λ _ _ h => h) h⟩) (λ _ h => q _ _ h) h.2.2⟩) x h
 | .isList o, _, _, _, _, _, _, q, x, h => fq o (λ v _ h => match v, h with
   | .loc n, h => let ⟨p, e1, h⟩ := qY h; .inl ⟨p.1, p.2, (eU e1).1, (eU e1).2, q _ _ h⟩
   | .tup l, h => .inr ⟨l, rfl, q _ _ h⟩) x h
theorem goL : ∀ (es : fC) {ρ : aj} {σ : aa} {Q Q' : List AV -> aa -> Prop} {X X' : AV -> aa -> Prop}, (∀ v σ, Q v σ -> Q' v σ) -> Le X X' -> Bb T es ρ σ Q X -> mQ T es ρ σ Q' X'
 | .nil, _, _, _, _, _, _, q, _, h => q _ _ h
 | .cons e es, _, _, _, _, _, _, q, x, h => fq e (λ _ _ h => goL es (λ _ _ h => q _ _ h) x h) x h
theorem goA : ∀ (es : fC) {ρ : aj} {σ : aa} {Q Q' X X' : AV -> aa -> Prop}, Le Q Q' -> Le X X' -> GP T es ρ σ Q X -> yx T es ρ σ Q' X'
 | .nil, _, _, _, _, _, _, _, _, h => h.elim
 | .cons e .nil, _, _, _, _, _, _, q, x, h => fq e (λ _ _ h => let ⟨r, e, h⟩ := iF h; ⟨r, e, q _ _ h⟩) x h
 | .cons e (.cons e2 es), _, _, _, _, _, _, q, x, h => fq e (λ _ _ h => let ⟨r, e, h⟩ := iF h; ⟨r, e, uA (goA (.cons e2 es) q x) (q _ _) h⟩) x h
theorem goR : ∀ (es : fC) {ρ : aj} {σ : aa} {Q Q' X X' : AV -> aa -> Prop}, Le Q Q' -> Le X X' -> GR T es ρ σ Q X -> yz T es ρ σ Q' X'
 | .nil, _, _, _, _, _, _, _, _, h => h.elim
 | .cons e .nil, _, _, _, _, _, _, q, x, h => fq e (λ _ _ h => let ⟨r, e, h⟩ := iF h; ⟨r, e, q _ _ h⟩) x h
 | .cons e (.cons e2 es), _, _, _, _, _, _, q, x, h => fq e (λ _ _ h => let ⟨r, e, h⟩ := iF h; ⟨r, e, uA (q _ _) (goR (.cons e2 es) q x) h⟩) x h
theorem GV : ∀ (o : MO) {ρ : aj} {σ : aa} {Q Q' : Option AV -> aa -> Prop} {X X' : AV -> aa -> Prop}, (∀ v σ, Q v σ -> Q' v σ) -> Le X X' -> Gk T o ρ σ Q X -> t3 T o ρ σ Q' X'
 | .none, _, _, _, _, _, _, q, _, h => q _ _ h
 | .some e, _, _, _, _, _, _, q, x, h => fq e (λ _ _ h => q _ _ h) x h
theorem goI : ∀ (i : MI) {ρ : aj} {σ : aa} {Q Q' : List AV -> (aa -> Prop) -> aa -> Prop} {X X' : AV -> aa -> Prop}, (∀ v s σ, Q v s σ -> Q' v s σ) -> Le X X' -> GQ T i ρ σ Q X -> AK T i ρ σ Q' X'
 | .plain e, _, _, _, _, _, _, q, x, h => fq e (λ _ _ h => let ⟨r, e, h⟩ := aI h; ⟨r, e, q _ _ _ h⟩) x h
 | .range e, _, _, _, _, _, _, q, x, h => fq e (λ _ _ h => ⟨h.1, q _ _ _ h.2⟩) x h
 | .enum e, _, _, _, _, _, _, q, x, h => fq e (λ v _ h => match v, h with
   | .str s, h => .inl ⟨s, rfl, q _ _ _ h⟩
   | .loc n, h => let ⟨l, is, e1, e2, e3, h⟩ := h; .inr ⟨l, is, e1, e2, e3, q _ _ _ h⟩) x h
end
mutual
theorem goS : ∀ (s : MS) {ρ : aj} {σ : aa} {Q Q' : aA -> aj -> aa -> Prop} {X X' : AV -> aa -> Prop}, LeF Q Q' -> Le X X' -> evS T s ρ σ Q X -> AL T s ρ σ Q' X'
 | .asg i e, _, _, _, _, _, _, q, x, h => fq e (λ _ _ h => q _ _ _ h) x h
 | .asgT is e, _, _, _, _, _, _, q, x, h => fq e (λ _ _ h => let ⟨l, e, h⟩ := xL h; ⟨l, e, h.1, q _ _ _ h.2⟩) x h
 | .asgA f o e, _, _, _, _, _, _, q, x, h => fq e (λ _ _ h => fq o (λ vo _ h => match vo, h with | .loc n, h => let ⟨r, e, h⟩ := aI h; ⟨n, rfl, r, e, q _ _ _ h⟩) x h) x h
 | .exprS e, _, _, _, _, _, _, q, x, h => fq e (λ _ _ h => q _ _ _ h) x h
 | .ifS t a b, _, _, _, _, _, _, q, x, h => fq t (λ _ _ h => let ⟨r, e, h⟩ := qT h; ⟨r, e, nY (sK a q x) (sK b q x) h⟩) x h
 | .while t b, _, _, _, _, X, X', q, x, h => let ⟨n, h⟩ := h; ⟨n, Az (test := λ ρ σ K => eT T t ρ σ K X) (body := λ ρ σ K => bB T b ρ σ K X) (test' := λ ρ σ K => br T t ρ σ (λ v σ₁ => ∃ r, v = .bool r ∧ K r σ₁) X') (body' := λ ρ σ K => fE T b ρ σ K X') (λ _ _ _ _ k h => fq t k x h) (λ _ _ _ _ k h => sK b k x h) q h⟩
 | .forS tg it b, ρ, _, Q, _, X, _, q, x, h => goI it (Q := λ items same σ₁ => xu tg same (λ ρ σ K => bB T b ρ σ K X) items ρ σ₁ Q) (λ _ _ _ h => wx (body := λ ρ σ K => bB T b ρ σ K X) (λ _ _ _ _ k h => sK b k x h) q h) x h
 | .ret e, _, _, _, _, _, _, q, x, h => fq e (λ _ _ h => q _ _ _ h) x h
 | .raise w a, _, _, _, _, _, _, _, x, h => fq w (λ _ _ h => fq a (λ _ _ h => let ⟨l, c, e, h⟩ := tq h; ⟨l, c, e, x _ _ h⟩) x h) x h
 | .brk, _, _, _, _, _, _, q, _, h => q _ _ _ h
 | .tryTold e, _, _, _, _, _, _, q, _, h => fq e (λ _ _ h => q _ _ _ h) (λ _ _ h => let ⟨l, c, e, h⟩ := tq h; ⟨l, c, e, q _ _ _ h⟩) h
 | .ifHeard es op b x y, _, _, _, _, _, _, q, xx, h => goL es (λ _ _ h => h _ _ (λ _ _ h => fq b (λ _ _ h => let ⟨r, e, h⟩ := aI h; ⟨r, e, uA (sK x q xx) (sK y q xx) h⟩) (λ _ _ h => h) h) (λ _ _ h => h)) xx h
 | .retHeard es op b, _, _, _, _, _, _, q, xx, h => goL es (λ _ _ h => h _ _ (λ _ _ h => fq b (λ _ _ h => let ⟨r, e, h⟩ := aI h; ⟨r, e, q _ _ _ h⟩) (λ _ _ h => h) h) (λ _ _ h => h)) xx h
theorem sK : ∀ (ss : bq) {ρ : aj} {σ : aa} {Q Q' : aA -> aj -> aa -> Prop} {X X' : AV -> aa -> Prop}, LeF Q Q' -> Le X X' -> bB T ss ρ σ Q X -> fE T ss ρ σ Q' X'
 | .nil, _, _, _, _, _, _, q, _, h => q _ _ _ h
 | .cons s ss, _, _, _, _, _, _, q, x, h => goS s (λ f _ _ h => match f, h with | .next, h => sK ss q x h | .brk, h => q _ _ _ h | .ret _, h => q _ _ _ h) x h
end
end
end Mine
end
section
open PySem PySem.W PyProof.Rows
namespace Mine.Q
theorem jI {α : Type} (l : List α) (n : Nat) : fu l (n : Int) = l[n]? := by
 unfold fu; rw [if_pos (Int.natCast_nonneg n)]; rfl
theorem Bn (σ : aa) (s : List Nat) (n : Nat) : jn σ (.str s) (.int (n : Int)) = (s[n]?).map λ c => .str [c] := by
 show (fu s (n : Int)).map _ = _
 rw [jI]
theorem cb {σ : aa} {s : List Nat} {n c : Nat} (h : s[n]? = some c) : jn σ (.str s) (.int (n : Int)) = some (.str [c]) := by rw [Bn, h]; rfl
theorem bT {α : Type} {s : List α} {n : Nat} {c : α} (h : s[n]? = some c) : s.drop n = c :: s.drop (n + 1) := by
 obtain ⟨h1, h2⟩ := List.getElem?_eq_some_iff.mp h
 rw [List.drop_eq_getElem_cons h1, h2]
theorem eS {α : Type} {s : List α} {n : Nat} (h : s[n]? = none) : s.drop n = [] := List.drop_eq_nil_iff.mpr (List.getElem?_eq_none_iff.mp h)
theorem ag {α : Type} {s : List α} {n : Nat} {c : α} (h : s[n]? = some c) : n < s.length := (List.getElem?_eq_some_iff.mp h).1
theorem ca {α : Type} {s : List α} {n : Nat} (h : s[n]? = none) : s.length ≤ n := List.getElem?_eq_none_iff.mp h
theorem q_int {Q : AV -> aa -> Prop} {σ : aa} {i j : Int} (h : Q (.int i) σ) (e : i = j) : Q (.int j) σ := e ▸ h
theorem oV {Q : AV -> aa -> Prop} {σ : aa} {i j : Bool} (h : Q (.bool i) σ) (e : i = j) : Q (.bool j) σ := e ▸ h
theorem q_eq {Q : AV -> aa -> Prop} {σ : aa} {i j : AV} (h : Q i σ) (e : i = j) : Q j σ := e ▸ h
theorem ar {T : Fn -> ac} {m n : Nat} {ms : bq} {args : List AV} {σ : aa} {Q X : AV -> aa -> Prop} {ρ : aj} (hn : args.length = n) (hρ : args.map some ++ List.replicate (m - n) none = ρ)
  (h : bB T ms ρ σ (λ fl _ σ' => match fl with | .ret V => Q V σ' | .next => Q .none σ' | .brk => False) X) : aJ T m n ms args σ Q X :=
 ⟨hn, by subst hρ; exact sK ms (λ _ _ _ h => h) (λ _ _ h => h) h⟩
noncomputable def WE (T : Fn -> ac) (c : ME) (w : bq) (X : AV -> aa -> Prop) (n : Nat) (ρ : aj) (σ : aa) (Q : aA -> aj -> aa -> Prop) : Prop :=
 Ca (λ ρ σ K => eT T c ρ σ K X) (λ ρ σ K => bB T w ρ σ K X) n ρ σ Q
section
variable {a b : Prop} {p : Prop} [Decidable p]
theorem ah (ha : p -> a) (hb : ¬ p -> b) : te (.bool (decide p)) a b := ⟨λ h => ha (of_decide_eq_true h), λ h => hb (of_decide_eq_false h)⟩
theorem eu (ha : ¬ p -> a) (hb : p -> b) : te (.bool (!decide p)) a b := ⟨λ h => ha (of_decide_eq_false ((Bool.not_eq_true' _).mp h)), λ h => hb (of_decide_eq_true ((Bool.not_eq_false' _).mp h))⟩
theorem eI {r : Bool} (ha : r = true -> a) (hb : r = false -> b) : te (.bool r) a b := ⟨ha, hb⟩
theorem az (ha : p -> a) (hb : ¬ p -> b) : (decide p = true -> a) ∧ (decide p = false -> b) := ah ha hb
theorem iU (ha : ¬ p -> a) (hb : p -> b) : ((!decide p) = true -> a) ∧ ((!decide p) = false -> b) := eu ha hb
theorem dI (h : a) : te (.bool true) a b := ⟨λ _ => h, λ h => nomatch h⟩
theorem bC (h : b) : te (.bool false) a b := ⟨(λ h => nomatch h), λ _ => h⟩
end
theorem iL {Q : AV -> aa -> Prop} {σ : aa} {b b' : Bool} {R : Prop} (h : Q (.bool (b || b')) σ) (k : Q (.bool b') σ -> R) : (b = true -> Q (.bool true) σ) ∧ (b = false -> R) := by
 cases b
 ·exact ⟨(λ h => nomatch h), λ _ => k h⟩
 ·exact ⟨λ _ => h, λ h => nomatch h⟩
noncomputable def af (c : Nat) : Nat := if 48 ≤ c ∧ c ≤ 57 then c - 48 else if 97 ≤ c ∧ c ≤ 102 then c - 87 else if 65 ≤ c ∧ c ≤ 70 then c - 55 else 16
noncomputable def de (c : Nat) : Bool := isAl c || c == 95 || c == 46
noncomputable def aY (c : Nat) : Bool := isDi c || isAl c || c == 95 || c == 46 || c == 36
noncomputable def k_digit_of : ac := λ args σ Q _ => ∃ c : Nat, args = [.str [c]] ∧ Q (.int (af c : Int)) σ
noncomputable def k_is_letter : ac := λ args σ Q _ => ∃ c : Nat, args = [.str [c]] ∧ Q (.bool (isAl c)) σ
noncomputable def k_begins_name : ac := λ args σ Q _ => ∃ c : Nat, args = [.str [c]] ∧ Q (.bool (de c)) σ
noncomputable def k_is_name_sign : ac := λ args σ Q _ => ∃ c : Nat, args = [.str [c]] ∧ Q (.bool (aY c)) σ
section
variable {T : Fn -> ac} {σ : aa} {Q X : AV -> aa -> Prop} {args : List AV}
theorem bm (e : T .digit_of = k_digit_of) {c : Nat} (h : Q (.int (af c : Int)) σ) : aT (T .digit_of) [.str [c]] σ Q X := λ _ _ q _ => e ▸ ⟨c, rfl, q _ _ h⟩
theorem fj (e : T .is_letter = k_is_letter) {c : Nat} (h : Q (.bool (isAl c)) σ) : aT (T .is_letter) [.str [c]] σ Q X := λ _ _ q _ => e ▸ ⟨c, rfl, q _ _ h⟩
theorem kY (e : T .begins_name = k_begins_name) {c : Nat} (h : Q (.bool (de c)) σ) : aT (T .begins_name) [.str [c]] σ Q X := λ _ _ q _ => e ▸ ⟨c, rfl, q _ _ h⟩
theorem jZ (e : T .is_name_sign = k_is_name_sign) {c : Nat} (h : Q (.bool (aY c)) σ) : aT (T .is_name_sign) [.str [c]] σ Q X := λ _ _ q _ => e ▸ ⟨c, rfl, q _ _ h⟩
theorem mL {a b c : Nat} : (decide ((a : Int) ≤ (c : Int)) && decide ((c : Int) ≤ (b : Int))) = (decide (a ≤ c) && decide (c ≤ b)) := by simp only [Int.ofNat_le]
theorem rA {a b c : Nat} {A B : Prop} (ha : a ≤ c ∧ c ≤ b -> A) (hb : ¬ (a ≤ c ∧ c ≤ b) -> B) : te (.bool (decide ((a : Int) ≤ (c : Int)) && decide ((c : Int) ≤ (b : Int)))) A B := by
 rw [mL, ← Bool.decide_and]; exact ah ha hb
theorem o8 {c k : Nat} (h : k ≤ c) : ((c - k : Nat) : Int) = (c : Int) - (k : Int) := Int.ofNat_sub h
theorem vc_digit_of (h : k_digit_of args σ Q X) : aJ T 2 1 jv args σ Q X := by
 obtain ⟨c, rfl, h⟩ := h
 refine ar rfl rfl ?_
 unfold af at h
 refine rA (a := 48) (b := 57) (λ e => ?_) (λ e => ?_)
 ·rw [if_pos e, o8 e.1] at h; exact h
 rw [if_neg e] at h
 refine rA (a := 97) (b := 102) (λ e => ?_) (λ e => ?_)
 ·rw [if_pos e, o8 (Nat.le_trans (by decide) e.1)] at h; exact h
 rw [if_neg e] at h
 refine rA (a := 65) (b := 70) (λ e => ?_) (λ e => ?_)
 ·rw [if_pos e, o8 (Nat.le_trans (by decide) e.1)] at h; exact h
 rw [if_neg e] at h
 exact h
theorem FS (c : Nat) : (decide ((97 : Int) ≤ (c : Int)) && decide ((c : Int) ≤ 122)) = (decide (97 ≤ c) && decide (c ≤ 122)) := mL
theorem FT (c : Nat) : (decide ((65 : Int) ≤ (c : Int)) && decide ((c : Int) ≤ 90)) = (decide (65 ≤ c) && decide (c ≤ 90)) := mL
theorem G6 (c : Nat) : (decide ((48 : Int) ≤ (c : Int)) && decide ((c : Int) ≤ 57)) = (decide (48 ≤ c) && decide (c ≤ 57)) := mL
theorem eg {a b : Bool} (h : a = true ↔ b = true) : a = b := Bool.eq_iff_iff.mpr h
theorem vc_is_letter (h : k_is_letter args σ Q X) : aJ T 2 1 hN args σ Q X := by
 obtain ⟨c, rfl, h⟩ := h
 refine ar rfl rfl ?_
 refine iL (b := decide ((97 : Int) ≤ (c : Int)) && decide ((c : Int) ≤ 122)) (b' := decide ((65 : Int) ≤ (c : Int)) && decide ((c : Int) ≤ 90)) (Q := Q) (oV h ?_) λ h => h
 unfold isAl
 rw [FS, FT]
 exact Bool.or_comm _ _
theorem vc_begins_name (h1 : T .is_letter = k_is_letter) (h : k_begins_name args σ Q X) : aJ T 1 1 fN args σ Q X := by
 obtain ⟨c, rfl, h⟩ := h
 refine ar rfl rfl ?_
 refine fj h1 ?_
 refine iL (b := isAl c) (b' := decide ([c] = [95]) || decide ([c] = [46])) (Q := Q) (oV h ?_) λ h => iL (b := decide ([c] = [95])) (b' := decide ([c] = [46])) (Q := Q) h λ h => h
 unfold de
 rw [← Bool.or_assoc]
 congr 2 <;> (refine eg ?_; simp)
theorem vc_is_name_sign (h : k_is_name_sign args σ Q X) : aJ T 2 1 eZ args σ Q X := by
 obtain ⟨c, rfl, h⟩ := h
 refine ar rfl rfl ?_
 have e : ∀ d, decide ([c] = [d]) = (c == d) := λ d => eg (by simp)
 have h : Q (.bool (((decide ((48 : Int) ≤ (c : Int)) && decide ((c : Int) ≤ 57))) || ((decide ((97 : Int) ≤ (c : Int)) && decide ((c : Int) ≤ 122)) || ((decide ((65 : Int) ≤ (c : Int)) && decide ((c : Int) ≤ 90)) || (decide ([c] = [95]) || (decide ([c] = [46]) || decide ([c] = [36]))))))) σ := oV h (by
  unfold aY isDi isAl
  rw [FS, FT, G6, e, e, e, Bool.or_comm (decide (65 ≤ c) && decide (c ≤ 90))]
  simp only [Bool.or_assoc])
 refine iL (Q := Q) h λ h => ?_
 refine iL (Q := Q) h λ h => ?_
 refine iL (Q := Q) h λ h => ?_
 refine iL (Q := Q) h λ h => ?_
 refine iL (Q := Q) h λ h => ?_
 exact h
end
noncomputable def gY (p : Nat -> Bool) (l : List Nat) : Nat := (l.takeWhile p).length
theorem F1 (p : Nat -> Bool) : gY p [] = 0 := rfl
theorem tL {p : Nat -> Bool} {c : Nat} (l : List Nat) (h : p c = true) : gY p (c :: l) = gY p l + 1 := by
 unfold gY; rw [List.takeWhile_cons_of_pos h, List.length_cons]
theorem wY {p : Nat -> Bool} {c : Nat} (l : List Nat) (h : p c = false) : gY p (c :: l) = 0 := by
 unfold gY; rw [List.takeWhile_cons_of_neg (by rw [h]; exact Bool.false_ne_true), List.length_nil]
noncomputable def ai (p : Nat -> Bool) (s : List Nat) (i : Nat) : Nat := i + gY p (s.drop i)
theorem bv {p : Nat -> Bool} {s : List Nat} {i : Nat} (h : s[i]? = none) : ai p s i = i := by unfold ai; rw [eS h]; rfl
theorem cZ {p : Nat -> Bool} {s : List Nat} {i c : Nat} (h : s[i]? = some c) (hp : p c = false) : ai p s i = i := by unfold ai; rw [bT h, wY _ hp]; rfl
theorem bP {p : Nat -> Bool} {s : List Nat} {i c : Nat} (h : s[i]? = some c) (hp : p c = true) : ai p s i = ai p s (i + 1) := by unfold ai; rw [bT h, tL _ hp]; exact (lnr [_,_] [] 0x11609916190922)
noncomputable def dC (s : List Nat) (i : Nat) : Nat := ai (λ c => c != 10) s i
noncomputable def cq : Nat -> List Nat -> Nat -> Nat × Nat
 | 0, _, w => (w, 0)
 | _ + 1, [], w => (w, 0)
 | b + 1, c :: l, w => if af c < 8 then ((cq b l (w * 8 + af c)).1, (cq b l (w * 8 + af c)).2 + 1) else (w, 0)
noncomputable def cL : List Nat -> Nat -> Nat × Nat
 | [], w => (w, 0)
 | c :: l, w => if af c < 16 then ((cL l ((w * 16 + af c) % 256)).1, (cL l ((w * 16 + af c) % 256)).2 + 1) else (w, 0)
noncomputable def cA : List Nat -> Int × Nat
 | [] => (-1, 0)
 | c :: t => if af c < 8 then (((cq 3 (c :: t) 0).1 % 256 : Nat), (cq 3 (c :: t) 0).2)
  else if c = 120 then (if (cL t 0).2 = 0 then (-1, 0) else ((cL t 0).1, (cL t 0).2 + 1))
  else match bR.lookup c with | some j => (j, 1) | none => (-1, 0)
noncomputable def be (s : List Nat) (i : Nat) : Int × Nat := ((cA (s.drop (i + 1))).1, i + 1 + (cA (s.drop (i + 1))).2)
noncomputable def ae (s : List Nat) (i c : Nat) : Int × Nat := if c = 92 then be s (i + 1) else if c < 32 ∨ 126 < c then (-1, i + 2) else (c, i + 2)
noncomputable def au (s : List Nat) (i : Nat) : Int × Nat := match s[i + 1]? with
 | none => (-1, i + 1)
 | some c => if c = 10 then (-1, i + 1) else if 0 ≤ (ae s i c).1 ∧ s[(ae s i c).2]? = some 39 then ((ae s i c).1, (ae s i c).2 + 1) else ae s i c
noncomputable def k_line_end : ac := λ args σ Q _ => ∃ (s : List Nat) (i : Nat), args = [.str s, .int (i : Int)] ∧ Q (.int (dC s i : Int)) σ
noncomputable def k_read_escape : ac := λ args σ Q _ => ∃ (s : List Nat) (i : Nat), args = [.str s, .int (i : Int)] ∧ Q (.tup [.int (be s i).1, .int ((be s i).2 : Int)]) σ
noncomputable def k_read_char : ac := λ args σ Q _ => ∃ (s : List Nat) (i : Nat), args = [.str s, .int (i : Int)] ∧ Q (.tup [.int (au s i).1, .int ((au s i).2 : Int)]) σ
theorem xr {s : List Nat} {i c : Nat} (h : s[i + 1]? = some c) : be s i = ((cA (c :: s.drop (i + 2))).1, i + 1 + (cA (c :: s.drop (i + 2))).2) := by
 unfold be; rw [bT h]
theorem xq {s : List Nat} {i : Nat} (h : s[i + 1]? = none) : be s i = (-1, i + 1) := by
 unfold be; rw [eS h]; rfl
section
variable {T : Fn -> ac} {σ : aa} {Q X : AV -> aa -> Prop} {args : List AV}
theorem D9 {α : Type} {x : α} {P : Prop} (h : none = some x) : P := nomatch h
theorem pf {a b : Nat} (h : (a : Int) < (b : Int)) : a < b := Int.ofNat_lt.mp h
theorem Cq {a b : Nat} (h : (a : Int) ≤ (b : Int)) : a ≤ b := Int.ofNat_le.mp h
theorem BH {a b : Nat} (h : ¬ (a : Int) < (b : Int)) : b ≤ a := Nat.not_lt.mp λ q => h (Int.ofNat_lt.mpr q)
theorem FL {a b : Nat} (h : ¬ (a : Int) ≤ (b : Int)) : b < a := Nat.not_le.mp λ q => h (Int.ofNat_le.mpr q)
theorem xH {s : List Nat} {i : Nat} {P : Prop} (h : s[i]? = none) (e : (i : Int) < (s.length : Int)) : P := absurd (pf e) (Nat.not_lt.mpr (ca h))
theorem lG {s : List Nat} {i c : Nat} {P : Prop} (h : s[i]? = some c) (e : ¬ (i : Int) < (s.length : Int)) : P := absurd (Int.ofNat_lt.mpr (ag h)) e
theorem one {c d : Nat} (h : [c] = [d]) : c = d := (List.cons.inj h).1
theorem fY {c d : Nat} (h : ¬ [c] = [d]) : c ≠ d := λ e => h (congrArg (λ x => [x]) e)
theorem pp (e : T .line_end = k_line_end) {s : List Nat} {i : Nat} (h : Q (.int (dC s i : Int)) σ) : aT (T .line_end) [.str s, .int (i : Int)] σ Q X := λ _ _ q _ => e ▸ ⟨s, i, rfl, q _ _ h⟩
theorem dQ (e : T .read_escape = k_read_escape) {s : List Nat} {i : Nat} (h : Q (.tup [.int (be s i).1, .int ((be s i).2 : Int)]) σ) : aT (T .read_escape) [.str s, .int (i : Int)] σ Q X := λ _ _ q _ => e ▸ ⟨s, i, rfl, q _ _ h⟩
theorem im (e : T .read_char = k_read_char) {s : List Nat} {i : Nat} (h : Q (.tup [.int (au s i).1, .int ((au s i).2 : Int)]) σ) : aT (T .read_char) [.str s, .int (i : Int)] σ Q X := λ _ _ q _ => e ▸ ⟨s, i, rfl, q _ _ h⟩
theorem sZ {s : List Nat} {a : Option AV} {Q : aA -> aj -> aa -> Prop} : ∀ (n here : Nat), s.length - here < n -> Q .next [some (.str s), a, some (.int (dC s here : Int))] σ -> WE T jX kP X n [some (.str s), a, some (.int (here : Int))] σ Q := by
 intro n
 induction n with
 | zero => intro here hn; exact absurd hn (Nat.not_lt_zero _)
 | succ n ih =>
  intro here hn h
  unfold dC at h
  cases hc : s[here]? with
  | none =>
   rw [bv hc] at h
   exact az (λ e => xH hc e) λ _ => bC h
  | some c =>
   refine az (λ _ => ay (cb hc) (eu (λ e => ?_) λ e => ?_)) λ e => lG hc e
   ·rw [bP (p := λ c => c != 10) hc (bne_iff_ne.mpr (fY e))] at h
    have := ag hc
    exact ih (here + 1) (by exact (lnr [_,_,_] [] 0x216190A10119162910A193) hn this) h
   ·rw [cZ hc (by rw [one e]; rfl)] at h
    exact h
theorem vc_line_end (h : k_line_end args σ Q X) : aJ T 3 2 jA args σ Q X := by
 obtain ⟨s, i, rfl, h⟩ := h
 exact ar rfl rfl ⟨_, sZ _ i (Nat.lt_succ_self _) h⟩
theorem BE {σ : aa} {x : Int} {k : Nat} (h : k < 1000000) : f5 .mul (.int x) (.int (k : Int)) σ = some (.int (x * k), σ) := if_pos (.inr h)
theorem zv {s : List Nat} {i : Nat} {a c : Option AV} {Q : aA -> aj -> aa -> Prop} (hd : T .digit_of = k_digit_of) : ∀ (n here b w : Nat), here + b = i + 4 -> b < n ->
  Q .next [some (.str s), some (.int (i : Int)), a, some (.int ((cq b (s.drop here) w).1 : Int)), some (.int ((here + (cq b (s.drop here) w).2 : Nat) : Int)), c] σ ->
  WE T gS g6 X n [some (.str s), some (.int (i : Int)), a, some (.int (w : Int)), some (.int (here : Int)), c] σ Q := by
 intro n
 induction n with
 | zero => intro here b w _ hn; exact absurd hn (Nat.not_lt_zero _)
 | succ n ih =>
  intro here b w hb hn h
  cases hc : s[here]? with
  | none =>
   rw [eS hc] at h
   refine az (λ e => xH hc e) λ _ => bC ?_
   cases b <;> exact h
  | some x =>
   rw [bT hc] at h
   refine az (λ _ => az (λ e => ?_) λ e => ?_) λ e => lG hc e
   ·obtain ⟨b, rfl⟩ : ∃ k, b = k + 1 := ⟨b - 1, by exact (lnr [_,_,_] [] 0x16160A902462B91B494629019293) hb e⟩
    refine ay (cb hc) (bm hd (ah (λ e => ?_) λ e => ?_))
    ·refine bh (BE (k := 8) (by decide)) (ay (cb hc) (bm hd ?_))
     unfold cq at h
     rw [if_pos (pf (b := 8) e)] at h
     refine ih (here + 1) b (w * 8 + af x) (by exact (lnr [_,_,_] [] 0x462911609924629161909293) hb) (by exact (lnr [_,_] [] 0x10116191609192) hn) ?_
     rw [Nat.succ_add_eq_add_succ]
     exact h
    ·unfold cq at h
     rw [if_neg λ q => e (Int.ofNat_lt (m := 8).mpr q)] at h
     exact h
   ·obtain rfl : b = 0 := by exact (lnr [_,_,_] [] 0x0602462B91B4694629019293) hb e
    exact bC h
theorem D2 {s : List Nat} {i a c : Option AV} {Q : aA -> aj -> aa -> Prop} (hd : T .digit_of = k_digit_of) : ∀ (n here w : Nat), s.length - here < n ->
  Q .next [some (.str s), i, a, some (.int ((cL (s.drop here) w).1 : Int)), some (.int ((here + (cL (s.drop here) w).2 : Nat) : Int)), c] σ ->
  WE T gR g5 X n [some (.str s), i, a, some (.int (w : Int)), some (.int (here : Int)), c] σ Q := by
 intro n
 induction n with
 | zero => intro here w hn; exact absurd hn (Nat.not_lt_zero _)
 | succ n ih =>
  intro here w hn h
  cases hc : s[here]? with
  | none =>
   rw [eS hc] at h
   exact az (λ e => xH hc e) λ _ => bC h
  | some x =>
   rw [bT hc] at h
   unfold cL at h
   refine az (λ _ => ay (cb hc) (bm hd (ah (λ e => ?_) λ e => ?_))) λ e => lG hc e
   ·refine bh (BE (k := 16) (by decide)) (ay (cb hc) (bm hd ?_))
    rw [if_pos (pf (b := 16) e)] at h
    have := ag hc
    refine ih (here + 1) ((w * 16 + af x) % 256) (by exact (lnr [_,_,_] [] 0x216190A10119162910A193) hn this) ?_
    rw [Nat.succ_add_eq_add_succ]
    exact h
   ·rw [if_neg λ q => e (Int.ofNat_lt (m := 16).mpr q)] at h
    exact h
theorem bM {α : Type} {p : Prop} [Decidable p] {a b r : α} (e : p) (h : (if p then a else b) = r) : a = r := (if_pos e).symm.trans h
theorem bN {α : Type} {p : Prop} [Decidable p] {a b r : α} (e : ¬ p) (h : (if p then a else b) = r) : b = r := (if_neg e).symm.trans h
theorem GX {c k : Nat} (e : ¬ (c : Int) < (k : Int)) : ¬ c < k := λ q => e (Int.ofNat_lt.mpr q)
noncomputable def ESC : List Nat := [98, 116, 110, 102, 114, 34, 39, 92]
noncomputable def COD : List Nat := [8, 9, 10, 12, 13, 34, 39, 92]
noncomputable def ER (T : Fn -> ac) (s : List Nat) (i c : Nat) (σ : aa) (Q X : AV -> aa -> Prop) (items : List AV) (a : Option AV) : Prop :=
 xu [5] (λ _ => True) (λ ρ σ K => bB T gZ ρ σ K X) items [some (.str s), some (.int (i : Int)), some (.str [c]), some (.int 0), some (.int ((i : Int) + 1)), a] σ (λ fl ρ σ => match fl with
  | .next => bB T (.cons (.ret (.tup (.cons (.neg 1) (.cons (.bin .add (.var 1) (.int 1)) .nil)))) .nil) ρ σ (λ fl _ σ' => match fl with | .ret V => Q V σ' | .next => Q .none σ' | .brk => False) X
  | .brk => False
  | .ret v => Q v σ)
theorem vc_read_escape (hd : T .digit_of = k_digit_of) (h : k_read_escape args σ Q X) : aJ T 6 2 fS args σ Q X := by
 obtain ⟨s, i, rfl, h⟩ := h
 refine ar rfl rfl ?_
 cases hc : s[i + 1]? with
 | none =>
  rw [xq hc] at h
  exact ah (λ _ => h) λ e => absurd (Int.ofNat_le.mpr (ca hc)) e
 | some c =>
  rw [xr hc] at h
  generalize hr : cA (c :: s.drop (i + 2)) = r at h
  refine ah (λ e => absurd (Cq e) (Nat.not_le.mpr (ag hc))) λ _ => ?_
  refine ay (cb (n := i + 1) hc) (bm hd (ah (λ e => ?_) λ e => ?_))
  ·refine ⟨4, zv hd 4 (i + 1) 3 0 (Nat.succ_add i 3) (by decide) ?_⟩
   rw [bT hc]
   obtain rfl := bM (pf (b := 8) e) hr
   exact h
  replace hr := bN (GX (k := 8) e) hr
  refine ah (λ e => ?_) λ e2 => ?_
  ·refine ⟨_, D2 hd _ (i + 1 + 1) 0 (Nat.lt_succ_self _) ?_⟩
   replace hr := bM (one e) hr
   generalize cL (s.drop (i + 2)) 0 = p at hr ⊢
   refine ah (λ e => ?_) λ e => ?_
   ·obtain rfl := bM (show p.2 = 0 by have : i + 2 + p.2 = i + 2 := Int.ofNat_inj.mp e; exact (lnr [_,_] [] 0x06022619026199292) this) hr
    exact h
   ·obtain rfl := bN (show ¬ p.2 = 0 from λ q => e (by rw [q]; rfl)) hr
    rw [show i + 1 + (p.2 + 1) = i + 2 + p.2 by exact (lnr [_,_] [] 0x12609916191609922)] at h
    exact h
  ·replace hr := bN (fY e2) hr
   have key : ∀ (k j : Nat) (w : Int) (items : List AV) (a : Option AV), (ESC : List Nat)[k]? = some j -> bR.lookup j = some w -> (COD : List Nat)[k]? = some w.toNat -> w = w.toNat -> (j ≠ c -> ER T s i c σ Q X items (some (.int (k : Int)))) -> ER T s i c σ Q X (.int (k : Int) :: items) a := by
    intro k j w items a h1 h2 h3 h4 h5
    refine ⟨trivial, ay (cb h1) (ah (λ e => ?_) λ e => h5 (fY e))⟩
    refine ay (cb h3) ?_
    rw [← one e, h2] at hr
    subst hr
    rw [h4] at h
    exact h
   refine ⟨rfl, ?_⟩
   refine key 0 98 8 _ _ rfl rfl rfl rfl λ n0 => ?_
   refine key 1 116 9 _ _ rfl rfl rfl rfl λ n1 => ?_
   refine key 2 110 10 _ _ rfl rfl rfl rfl λ n2 => ?_
   refine key 3 102 12 _ _ rfl rfl rfl rfl λ n3 => ?_
   refine key 4 114 13 _ _ rfl rfl rfl rfl λ n4 => ?_
   refine key 5 34 34 _ _ rfl rfl rfl rfl λ n5 => ?_
   refine key 6 39 39 _ _ rfl rfl rfl rfl λ n6 => ?_
   refine key 7 92 92 _ _ rfl rfl rfl rfl λ n7 => ⟨trivial, ?_⟩
   have hn : bR.lookup c = none := by
    unfold bR
    rw [List.lookup_cons, beq_false_of_ne (Ne.symm n0), List.lookup_cons, beq_false_of_ne (Ne.symm n1), List.lookup_cons, beq_false_of_ne (Ne.symm n2), List.lookup_cons, beq_false_of_ne (Ne.symm n3), List.lookup_cons, beq_false_of_ne (Ne.symm n4),
     List.lookup_cons, beq_false_of_ne (Ne.symm n5), List.lookup_cons, beq_false_of_ne (Ne.symm n6), List.lookup_cons, beq_false_of_ne (Ne.symm n7)]
    rfl
   rw [hn] at hr
   subst hr
   exact h
theorem cH (s : List Nat) (i : Nat) : i < (be s i).2 := by unfold be; dsimp only; exact (lnr [_,_] [] 0x116099012)
theorem sm {s : List Nat} {i c : Nat} (h : s[i + 1]? = some c) : au s i = if c = 10 then (-1, i + 1) else if 0 ≤ (ae s i c).1 ∧ s[(ae s i c).2]? = some 39 then ((ae s i c).1, (ae s i c).2 + 1) else ae s i c := by
 unfold au; rw [h]
theorem vc_read_char (he : T .read_escape = k_read_escape) (h : k_read_char args σ Q X) : aJ T 4 2 hY args σ Q X := by
 obtain ⟨s, i, rfl, h⟩ := h
 refine ar rfl rfl ?_
 cases hc : s[i + 1]? with
 | none =>
  rw [show au s i = (-1, i + 1) by unfold au; rw [hc]] at h
  exact ⟨λ _ => dI h, λ e => absurd (Int.ofNat_le.mpr (ca hc)) (of_decide_eq_false e)⟩
 | some c =>
  have hr := sm hc
  generalize au s i = r at h hr
  replace hr := hr.symm
  refine ⟨λ e => absurd (Cq (of_decide_eq_true e)) (Nat.not_le.mpr (ag hc)), λ _ => ay (cb (n := i + 1) hc) (ah (λ e => ?_) λ e1 => ?_)⟩
  ·obtain rfl := bM (one e) hr
   exact h
  replace hr := bN (fY e1) hr
  have tail : ∀ (k : Int) (e : Nat) (b : Option AV), ae s i c = (k, e) -> bB T (.cons (.ifS (.andE (.cons (.cmp .ge (.var 2) (.int 0)) (.cons (.cmp .lt (.var 3) (.bi .len (.var 0))) (.cons (.cmp .eq (.idx (.var 0) (.var 3)) (.str [39])) .nil)))) (.cons (.asg 3 (.bin .add (.var 3) (.int 1))) .nil) .nil) (.cons (.ret (.tup (.cons (.var 2) (.cons (.var 3) .nil)))) .nil))
    [some (.str s), b, some (.int k), some (.int (e : Int))] σ (λ fl _ σ' => match fl with | .ret V => Q V σ' | .next => Q .none σ' | .brk => False) X := by
   intro k e b hk
   rw [hk] at hr
   refine az (λ h0 => ?_) λ h0 => bC ?_
   ·cases hs : s[e]? with
    | none =>
     refine az (λ q => xH hs q) λ _ => bC ?_
     obtain rfl := bN (λ q => D9 (hs.symm.trans q.2)) hr
     exact h
    | some x =>
     refine az (λ _ => ay (cb hs) (ah (λ q => ?_) λ q => ?_)) λ q => lG hs q
     ·obtain rfl := bM ⟨h0, hs.trans (congrArg some (one q))⟩ hr
      exact h
     ·obtain rfl := bN (λ z => fY q (Option.some.inj (hs.symm.trans z.2))) hr
      exact h
   ·obtain rfl := bN (λ q => h0 q.1) hr
    exact h
  refine ay (cb (n := i + 1) hc) (ay (cb (n := i + 1) hc) (ah (λ e => ?_) λ e2 => ?_))
  ·exact dQ he (i := i + 1) ⟨rfl, tail _ _ _ (if_pos (one e))⟩
  ·have e3 : ae s i c = if c < 32 ∨ 126 < c then (-1, i + 2) else ((c : Int), i + 2) := if_neg (fY e2)
   refine ⟨λ q => dI ?_, λ q => ah (λ q2 => ?_) λ q2 => ?_⟩
   ·exact tail (-1) (i + 2) _ (e3.trans (if_pos (.inl (pf (b := 32) (of_decide_eq_true q)))))
   ·exact tail (-1) (i + 2) _ (e3.trans (if_pos (.inr (pf (a := 126) q2))))
   ·exact tail c (i + 2) _ (e3.trans (if_neg λ z => z.elim (λ z => absurd (Int.ofNat_lt.mpr z) (of_decide_eq_false q)) λ z => q2 (Int.ofNat_lt.mpr z)))
noncomputable def cw (s : List Nat) (i : Nat) : Nat := match h : s[i]? with
 | none => i
 | some c => if c = 10 then i else if c = 34 then i + 1 else if c = 92 then cw s (be s i).2 else cw s (i + 1)
termination_by s.length - i
decreasing_by
 ·have := ag h; have := cH s i; exact (lnr [_,_,_] [] 0x20A10A1121902193) ‹_› this
 ·have := ag h; exact (lnr [_,_] [] 0x10A16190A101192) this
inductive kR where | plain | text | remark
 deriving DecidableEq
theorem iY (s : List Nat) (i : Nat) : i < (au s i).2 := by
 have hc : ∀ c, i < (ae s i c).2 := λ c => by
  unfold ae
  have := cH s (i + 1)
  repeat' split
  all_goals omega
 unfold au
 split
 ·exact Nat.lt_succ_self i
 ·rename_i c _
  have := hc c
  repeat' split
  all_goals omega
noncomputable def fG (m : kR) (c : Nat) : kR := match m with
 | .remark => .remark
 | .text => if c = 34 then .plain else .text
 | .plain => if c = 34 then .text else if c = 35 then .remark else .plain
noncomputable def fv (s : List Nat) (i : Nat) (m : kR) (c : Nat) : Nat := match m with
 | .remark => i + 1
 | .text => if c = 92 then (be s i).2 else i + 1
 | .plain => if c = 39 then (au s i).2 else i + 1
theorem on (s : List Nat) (i : Nat) (m : kR) (c : Nat) : i < fv s i m c := by
 have := cH s i
 have := iY s i
 unfold fv
 repeat' split
 all_goals (first | exact (lnr [_] [] 0x1609011) | exact (lnr [_,_] [] 0x10110192) ‹_› | exact (lnr [_,_] [] 0x10110192) this)
noncomputable def cQ (s : List Nat) (i : Nat) (m : kR) : Nat := match h : s[i]? with
 | none => i
 | some c => if c = 10 ∨ (c = 59 ∧ m = .plain) then i else cQ s (fv s i m c) (fG m c)
termination_by s.length - i
decreasing_by have := ag h; have := on s i m c; exact (lnr [_,_,_] [] 0x20A10A1121902193) ‹_› this
theorem dU {s : List Nat} {i : Nat} {m : kR} (h : s[i]? = none) : cQ s i m = i := by rw [cQ]; split <;> simp_all
theorem dW {s : List Nat} {i c : Nat} {m : kR} (h : s[i]? = some c) : cQ s i m = if c = 10 ∨ (c = 59 ∧ m = .plain) then i else cQ s (fv s i m c) (fG m c) := by rw [cQ]; split <;> simp_all
theorem gM {s : List Nat} {i : Nat} (h : s[i]? = none) : cw s i = i := by rw [cw]; split <;> simp_all
theorem gN {s : List Nat} {i c : Nat} (h : s[i]? = some c) : cw s i = if c = 10 then i else if c = 34 then i + 1 else if c = 92 then cw s (be s i).2 else cw s (i + 1) := by rw [cw]; split <;> simp_all
theorem tG (s : List Nat) : ∀ (n i : Nat), s.length - i < n -> cQ s i .remark = cQ s (dC s i) .plain := by
 intro n
 induction n with
 | zero => intro i h; exact (((lnr [_,_] [] 0xA0610A192) h : False).elim)
 | succ n ih =>
  intro i h
  cases hc : s[i]? with
  | none => rw [dU hc, dC, bv hc, dU hc]
  | some c =>
   have := ag hc
   rw [dW hc]
   by_cases e : c = 10
   ·rw [if_pos (.inl e), dC, cZ hc (by simp [e]), dW hc, if_pos (.inl e)]
   ·rw [if_neg (by simp [e]), dC, bP hc (by simpa using e)]
    exact ih (i + 1) (by exact (lnr [_,_,_] [] 0x216190A10119162910A193) h this)
theorem ya (s : List Nat) : ∀ (n i : Nat), s.length - i < n -> cQ s i .text = cQ s (cw s i) .plain := by
 intro n
 induction n with
 | zero => intro i h; exact (((lnr [_,_] [] 0xA0610A192) h : False).elim)
 | succ n ih =>
  intro i h
  cases hc : s[i]? with
  | none => rw [dU hc, gM hc, dU hc]
  | some c =>
   have := ag hc
   have := cH s i
   rw [dW hc, gN hc]
   by_cases e : c = 10
   ·rw [if_pos (.inl e), if_pos e, dW hc, if_pos (.inl e)]
   ·rw [if_neg (by simp [e]), if_neg e]
    by_cases e2 : c = 34
    ·simp only [e2, if_true, fv, fG]; rfl
    ·by_cases e3 : c = 92
     ·simp only [e3, fv, fG, if_true, if_false, Nat.reduceEqDiff]
      exact ih _ (by exact (lnr [_,_,_,_] [] 0x210A113190319162930A194) h ‹_› this)
     ·simp only [e2, e3, fv, fG, if_false]
      exact ih _ (by exact (lnr [_,_,_] [] 0x216190A10119162910A193) h ‹_›)
end
theorem io (n i : Nat) : eL n (i : Int) = min i n := by unfold eL; rw [if_neg (by exact (lnr [_] [] 0x060B461))]; exact (lnr [_,_] [] 0x10D1B0BD06EB22)
theorem fF (s : List Nat) (i e : Nat) : iq s (some (i : Int)) (some (e : Int)) = (s.take e).drop i := by
 show (s.take (eL s.length e)).drop (eL s.length i) = _
 rw [io, io]
 rw [List.take_eq_take_min (i := e)]
 by_cases h : i ≤ s.length
 ·rw [Nat.min_eq_left h]
 ·rw [Nat.min_eq_right (by exact (lnr [_,_] [] 0x100010692) h), List.drop_eq_nil_of_le (by rw [List.length_take]; exact (lnr [_,_] [] 0x1110DD02)), List.drop_eq_nil_of_le (by rw [List.length_take]; exact (lnr [_,_,_] [] 0x2110DD0120693) h)]
theorem ee (s : List Nat) (i : Nat) : iq s (some (i : Int)) none = s.drop i := by
 show (s.take s.length).drop (eL s.length i) = _
 rw [io, List.take_length]
 by_cases h : i ≤ s.length
 ·rw [Nat.min_eq_left h]
 ·rw [Nat.min_eq_right (by exact (lnr [_,_] [] 0x100010692) h), List.drop_eq_nil_of_le (Nat.le_refl _), List.drop_eq_nil_of_le (by exact (lnr [_,_] [] 0x100010692) h)]
theorem qz (s : List Nat) (e : Nat) : iq s none (some (e : Int)) = s.take e := by
 show s.take (eL s.length e) = _
 rw [io]
 rw [← List.take_eq_take_min]
theorem d6 {β : Type} {σ : aa} {n : Nat} {c : dL} {vs : List AV} {f : List AV -> Option β} {g : dL -> List AV -> Option β} (h : σ[n]? = some (.inst c vs)) : cF σ n f g = g c vs := by unfold cF; rw [h]
theorem dE {β : Type} {σ : aa} {n : Nat} {l : List AV} {f : List AV -> Option β} {g : dL -> List AV -> Option β} (h : σ[n]? = some (.list l)) : cF σ n f g = f l := by unfold cF; rw [h]
theorem aL (σ : aa) (c : aG) : (σ ++ [c])[σ.length]? = some c := by simp
theorem mM (σ : aa) (c d : aG) : (σ ++ [c]).set σ.length d = σ ++ [d] := by simp
theorem eH {σ : aa} {s u : List Nat} (h : s.length + u.length ≤ fD) : f5 .add (.str s) (.str u) σ = some (.str (s ++ u), σ) := if_pos h
noncomputable def k_text_end : ac := λ args σ Q _ => ∃ (s : List Nat) (i : Nat), args = [.str s, .int (i : Int)] ∧ Q (.int (cw s (i + 1) : Int)) σ
noncomputable def k_piece_end : ac := λ args σ Q _ => ∃ (s : List Nat) (i : Nat), args = [.str s, .int (i : Int)] ∧ Q (.int (cQ s i .plain : Int)) σ
theorem vg (s : List Nat) : ∀ (n i : Nat), s.length - i < n -> i ≤ cw s i := by
 intro n
 induction n with
 | zero => intro i h; exact (((lnr [_,_] [] 0xA0610A192) h : False).elim)
 | succ n ih =>
  intro i h
  cases hc : s[i]? with
  | none => rw [gM hc]; exact (lnr [_] [] 0x0001)
  | some c =>
   have := ag hc
   have := cH s i
   rw [gN hc]
   repeat' split
   ·exact (lnr [_] [] 0x0001)
   ·exact (lnr [_] [] 0x1609001)
   ·have := ih (be s i).2 (by exact (lnr [_,_,_,_] [] 0x210A113190319162930A194) h ‹_› this); exact (lnr [_,_,_] [] 0x100120920193) ‹_› this
   ·have := ih (i + 1) (by exact (lnr [_,_,_] [] 0x216190A10119162910A193) h ‹_›); exact (lnr [_,_] [] 0x10011609092) this
theorem rB (s : List Nat) : ∀ (n i : Nat) (m : kR), s.length - i < n -> i ≤ cQ s i m := by
 intro n
 induction n with
 | zero => intro i m h; exact (((lnr [_,_] [] 0xA0610A192) h : False).elim)
 | succ n ih =>
  intro i m h
  cases hc : s[i]? with
  | none => rw [dU hc]; exact (lnr [_] [] 0x0001)
  | some c =>
   have := ag hc
   have := on s i m c
   rw [dW hc]
   split
   ·exact (lnr [_] [] 0x0001)
   ·have := ih (fv s i m c) (fG m c) (by exact (lnr [_,_,_,_] [] 0x210A113190319162930A194) h ‹_› this); exact (lnr [_,_,_] [] 0x100120920193) ‹_› this
section
variable {T : Fn -> ac} {σ : aa} {Q X : AV -> aa -> Prop} {args : List AV}
theorem pr (e : T .text_end = k_text_end) {s : List Nat} {i : Nat} (h : Q (.int (cw s (i + 1) : Int)) σ) : aT (T .text_end) [.str s, .int (i : Int)] σ Q X := λ _ _ q _ => e ▸ ⟨s, i, rfl, q _ _ h⟩
theorem m5 (e : T .piece_end = k_piece_end) {s : List Nat} {i : Nat} (h : Q (.int (cQ s i .plain : Int)) σ) : aT (T .piece_end) [.str s, .int (i : Int)] σ Q X := λ _ _ q _ => e ▸ ⟨s, i, rfl, q _ _ h⟩
theorem s7 (he : T .read_escape = k_read_escape) {s : List Nat} {a : Option AV} {Q : aA -> aj -> aa -> Prop} : ∀ (n here : Nat), s.length - here < n -> Q .next [some (.str s), a, some (.int (cw s here : Int))] σ ->
  (∀ ρ, Q (.ret (.int (cw s here : Int))) ρ σ) -> WE T jY kQ X n [some (.str s), a, some (.int (here : Int))] σ Q := by
 intro n
 induction n with
 | zero => intro here hn; exact absurd hn (Nat.not_lt_zero _)
 | succ n ih =>
  intro here hn h h'
  cases hc : s[here]? with
  | none =>
   rw [gM hc] at h
   exact az (λ e => xH hc e) λ _ => bC h
  | some c =>
   have hl := ag hc
   have hr := (gN hc).symm
   generalize cw s here = r at h h' hr
   refine az (λ _ => ay (cb hc) (eu (λ e => ?_) λ e => ?_)) λ e => lG hc e
   ·replace hr := bN (fY e) hr
    refine ay (cb hc) (ah (λ e2 => ?_) λ e2 => ?_)
    ·obtain rfl := bM (one e2) hr
     exact h' _
    replace hr := bN (fY e2) hr
    refine ay (cb hc) (ah (λ e3 => ?_) λ e3 => ?_)
    ·obtain rfl := bM (one e3) hr
     have hg := cH s here
     exact dQ he (ih _ (by exact (lnr [_,_,_,_] [] 0x210A113190B3B49162930A194) hn ‹_› hg) h h')
    ·obtain rfl := bN (fY e3) hr
     exact ih (here + 1) (by exact (lnr [_,_,_] [] 0x216190A10B1B49162910A193) hn ‹_›) h h'
   ·obtain rfl := bM (one e) hr
    exact h
theorem vc_text_end (he : T .read_escape = k_read_escape) (h : k_text_end args σ Q X) : aJ T 3 2 jD args σ Q X := by
 obtain ⟨s, i, rfl, h⟩ := h
 exact ar rfl rfl ⟨_, s7 he _ (i + 1) (Nat.lt_succ_self _) h λ ρ => h⟩
theorem qL (h1 : T .line_end = k_line_end) (h2 : T .text_end = k_text_end) (h3 : T .read_char = k_read_char) {s : List Nat} {a : Option AV} {Q : aA -> aj -> aa -> Prop} : ∀ (n here : Nat), s.length - here < n ->
  Q .next [some (.str s), a, some (.int (cQ s here .plain : Int))] σ -> WE T jb jp X n [some (.str s), a, some (.int (here : Int))] σ Q := by
 intro n
 induction n with
 | zero => intro here hn; exact absurd hn (Nat.not_lt_zero _)
 | succ n ih =>
  intro here hn h
  cases hc : s[here]? with
  | none =>
   rw [dU hc] at h
   exact az (λ e => xH hc e) λ _ => bC h
  | some c =>
   have hl := ag hc
   have hr := (dW (m := .plain) hc).symm
   generalize cQ s here .plain = r at h hr
   refine az (λ _ => ay (cb hc) (iU (λ e => ?_) λ e => ?_)) λ e => lG hc e
   ·refine ay (cb hc) (eu (λ e2 => ?_) λ e2 => ?_)
    ·replace hr := bN (λ q => q.elim (fY e) λ q => fY e2 q.1) hr
     refine ay (cb hc) (ah (λ e3 => ?_) λ e3 => ?_)
     ·obtain rfl := one e3
      rw [show fG .plain 35 = .remark from rfl, show fv s here .plain 35 = here + 1 from rfl, tG s _ _ (Nat.lt_succ_self _)] at hr
      have he : dC s here = dC s (here + 1) := bP hc rfl
      have hg : here < dC s (here + 1) := Nat.lt_of_lt_of_le (Nat.lt_succ_self _) (Nat.le_add_right _ _)
      subst hr
      rw [← he] at h hg
      exact pp h1 (ih _ (by exact (lnr [_,_,_,_] [] 0x210A113190B3B49162930A194) hn ‹_› hg) h)
     refine ay (cb hc) (ah (λ e4 => ?_) λ e4 => ?_)
     ·obtain rfl := one e4
      rw [show fG .plain 34 = .text from rfl, show fv s here .plain 34 = here + 1 from rfl, ya s _ _ (Nat.lt_succ_self _)] at hr
      have hg := vg s _ (here + 1) (Nat.lt_succ_self _)
      subst hr
      exact pr h2 (ih _ (by exact (lnr [_,_,_,_] [] 0x210A111639090B3B49162930A194) hn ‹_› hg) h)
     have hm : fG .plain c = .plain := (if_neg (fY e4)).trans (if_neg (fY e3))
     rw [hm] at hr
     refine ay (cb hc) (ah (λ e5 => ?_) λ e5 => ?_)
     ·rw [show fv s here .plain c = _ from if_pos (one e5)] at hr
      have hg := iY s here
      subst hr
      exact im h3 (ih _ (by exact (lnr [_,_,_,_] [] 0x210A113190B3B49162930A194) hn ‹_› hg) h)
     ·rw [show fv s here .plain c = _ from if_neg (fY e5)] at hr
      subst hr
      exact ih (here + 1) (by exact (lnr [_,_,_] [] 0x216190A10B1B49162910A193) hn ‹_›) h
    ·obtain rfl := bM (.inr ⟨one e2, rfl⟩) hr
     exact h
   ·obtain rfl := bM (.inl (one e)) hr
    exact bC h
theorem vc_piece_end (h1 : T .line_end = k_line_end) (h2 : T .text_end = k_text_end) (h3 : T .read_char = k_read_char) (h : k_piece_end args σ Q X) : aJ T 3 2 hU args σ Q X := by
 obtain ⟨s, i, rfl, h⟩ := h
 exact ar rfl rfl ⟨_, qL h1 h2 h3 _ i (Nat.lt_succ_self _) h⟩
noncomputable def eP (s : List Nat) (line : Int) (begin i e : Nat) : AV := .tup [.int line, .str (List.replicate (i - begin) 32 ++ (s.take e).drop i)]
noncomputable def bX (s : List Nat) (line : Int) (begin i : Nat) : List AV :=
 if h : s.length ≤ cQ s i .plain then [eP s line begin i (cQ s i .plain)]
 else eP s line begin i (cQ s i .plain) :: (if s[cQ s i .plain]? = some 10 then bX s (line + 1) (cQ s i .plain + 1) (cQ s i .plain + 1) else bX s line begin (cQ s i .plain + 1))
termination_by s.length - i
decreasing_by all_goals (have := rB s _ i .plain (Nat.lt_succ_self _); exact (lnr [_,_,_] [] 0x20A16190A11209100693) h this)
noncomputable def k_split_lines : ac := λ args σ Q _ => ∃ (s : List Nat), args = [.str s] ∧ s.length ≤ 1000 ∧ ∀ τ n, (σ ++ τ)[n]? = some (.list (bX s 1 0 0)) -> Q (.loc n) (σ ++ τ)
theorem t8 (σ : aa) {b e : Nat} (hb : b ≤ e) (he : e ≤ 2000) : f5 .mul (.str [32]) (.int ((e : Int) - (b : Int))) σ = some (.str (List.replicate (e - b) 32), σ) := by
 show (if _ then _ else _) = _
 rw [if_pos (by
  refine ⟨?_, by exact (lnr [_,_] [] 0x1B0BA3EC99886C301092) hb, by exact (lnr [_,_] [] 0x3EC998861B0BA33FA860092) he⟩
  have : ((e : Int) - (b : Int)).toNat = e - b := by exact (lnr [_,_] [] 0x10A1B0BAB22)
  rw [this, List.length_singleton]
  have : fD = 1048576 := rfl
  exact (lnr [_,_,_] [] 0x210A170488888862293FA860093) he this)]
 have : ((e : Int) - (b : Int)).toNat = e - b := by exact (lnr [_,_] [] 0x10A1B0BAB22)
 rw [this]
 congr 3
 generalize e - b = k
 clear this
 induction k with
 | zero => rfl
 | succ k ih => rw [List.replicate_succ, List.replicate_succ, List.flatten_cons, ih]; rfl
theorem zx {s : List Nat} (hs : s.length ≤ 1000) (h1 : T .piece_end = k_piece_end) {Q : aA -> aj -> aa -> Prop} : ∀ (n here begin : Nat) (line : Int) (L : List AV), s.length + 1 - here < n -> here ≤ s.length -> begin ≤ here -> L.length ≤ here -> ∀ a,
  (∀ ρ, Q (.ret (.loc σ.length)) ρ (σ ++ [.list (L ++ bX s line begin here)])) -> WE T gT g7 X n [some (.str s), some (.loc σ.length), some (.int line), some (.int (begin : Int)), some (.int (here : Int)), a] (σ ++ [.list L]) Q := by
 intro n
 induction n with
 | zero => intro here _ _ _ hn; exact absurd hn (Nat.not_lt_zero _)
 | succ n ih =>
  intro here begin line L hn hle hb hL a h
  have hL0 : fD = 1048576 := rfl
  have hg := rB s _ here .plain (Nat.lt_succ_self _)
  have hadd : (List.replicate (here - begin) 32).length + (iq s (some (here : Int)) (some (cQ s here .plain : Int))).length ≤ fD := by rw [fF, List.length_replicate, List.length_drop, List.length_take]; exact (lnr [_,_,_,_,_] [] 0x4032DA10A904888888642930091FD863095) hs hle hL0
  rw [bX] at h
  have hin := aL σ (.list L)
  refine dI (m5 h1 ?_)
  refine dS (lu hin) ?_
  refine bh (t8 _ hb (show here ≤ 2000 by exact (lnr [_,_] [] 0x3FA860010091FD861092) hs hle)) ?_
  refine bh (eH hadd) ?_
  refine dS (lu hin) ⟨show L.length < fD by exact (lnr [_,_,_,_] [] 0x10148888886129200932091FD863094) hs hle hL hL0, ?_⟩
  rw [mM, fF]
  refine ah (λ e => ?_) λ e => ?_
  ·rw [dif_pos (Cq e)] at h
   exact h _
  ·have e := FL e
   rw [dif_neg (Nat.not_le.mpr e)] at h
   cases hc : s[cQ s here .plain]? with
   | none => exact absurd (ca hc) (Nat.not_le.mpr e)
   | some c =>
    refine ay (cb hc) (ah (λ e2 => ?_) λ e2 => ?_)
    ·rw [if_pos (hc.trans (congrArg some (one e2)))] at h
     refine ih (cQ s here .plain + 1) (cQ s here .plain + 1) (line + 1) _ (by exact (lnr [_,_,_,_] [] 0x216191609A101191309162931609A194) hn hg e) (by exact (lnr [_,_] [] 0x11609010192) e) (Nat.le_refl _) (by rw [List.length_append]; exact Nat.succ_le_succ (Nat.le_trans hL hg)) _ λ ρ => ?_
     rw [List.append_assoc]
     exact h ρ
    ·rw [if_neg (λ q => fY e2 (Option.some.inj (hc.symm.trans q)))] at h
     refine ih (cQ s here .plain + 1) begin line _ (by exact (lnr [_,_,_,_] [] 0x216191609A101191309162931609A194) hn hg e) (by exact (lnr [_,_] [] 0x11609010192) e) (by exact (lnr [_,_,_] [] 0x161900120920093) hb hg) (by rw [List.length_append]; exact Nat.succ_le_succ (Nat.le_trans hL hg)) _ λ ρ => ?_
     rw [List.append_assoc]
     exact h ρ
theorem vc_split_lines (h1 : T .piece_end = k_piece_end) (h : k_split_lines args σ Q X) : aJ T 6 1 fV args σ Q X := by
 obtain ⟨s, rfl, hs, h⟩ := h
 exact ar rfl rfl ⟨_, zx hs h1 _ 0 0 1 [] (Nat.lt_succ_self _) (Nat.zero_le _) (Nat.le_refl _) (Nat.le_refl _) none λ ρ => h _ _ (aL _ _)⟩
end
noncomputable def pc (b : Nat) (l : List Nat) (v : Nat) : Nat := l.foldl (λ a c => a * b + af c) v
noncomputable def p6 (b : Nat) (l : List Nat) : Bool := l.all λ c => decide (af c < b)
noncomputable def dO (w : List Nat) : Nat := match w with
 | 48 :: c :: _ => if c = 120 ∨ c = 88 then 16 else if c = 98 ∨ c = 66 then 2 else 8
 | _ => 10
noncomputable def dg (w : List Nat) : List Nat := match w with
 | 48 :: c :: r => if c = 120 ∨ c = 88 then r else if c = 98 ∨ c = 66 then r else c :: r
 | w => w
noncomputable def qS (w : List Nat) : Int := if dg w = [] then -1 else if p6 (dO w) (dg w) = true then (pc (dO w) (dg w) 0 : Int) else -1
noncomputable def lv (w : List Nat) : Int := if w.length < 2 ∨ (w.getLast? ≠ some 98 ∧ w.getLast? ≠ some 102) then -1 else if p6 10 w.dropLast = true then (pc 10 w.dropLast 0 : Int) else -1
noncomputable def k_number_worth : ac := λ args σ Q _ => ∃ (w : List Nat), args = [.str w] ∧ Q (.int (qS w)) σ
noncomputable def k_local_worth : ac := λ args σ Q _ => ∃ (w : List Nat), args = [.str w] ∧ Q (.int (lv w)) σ
theorem zd (σ : aa) (s : List Nat) : jn σ (.str s) (.int (-1)) = (s.getLast?).map λ c => .str [c] := by
 show (fu s (-1)).map _ = _
 unfold fu
 rw [if_neg (by decide), List.getLast?_eq_getElem?]
 by_cases h : s = []
 ·subst h; rfl
 ·have := List.length_pos_iff.mpr h
  rw [if_pos (by exact (lnr [_] [] 0x0B16C9063006191) this)]
  congr 2
  exact (lnr [_] [] 0x160A0B16C9B21)
theorem mw {σ : aa} {s : List Nat} {c : Nat} (h : s.getLast? = some c) : jn σ (.str s) (.int (-1)) = some (.str [c]) := by rw [zd, h]; rfl
theorem lP (s : List Nat) : iq s none (some (-1)) = s.dropLast := by
 have : eL s.length (-1) = s.length - 1 := by unfold eL; rw [if_pos (by decide)]; exact (lnr [_] [] 0x160A0B0B16C9D06EB21)
 show s.take (eL s.length (-1)) = _
 rw [this, List.dropLast_eq_take]
theorem mB {b c : Nat} {l : List Nat} (e : af c < b) : p6 b (c :: l) = p6 b l := by unfold p6; rw [List.all_cons, decide_eq_true e]; rfl
theorem zH {b c : Nat} {l : List Nat} (e : ¬ af c < b) : p6 b (c :: l) = false := by unfold p6; rw [List.all_cons, decide_eq_false e]; rfl
noncomputable def u4 (b : Nat) (l : List Nat) : Int := if p6 b l = true then (pc b l 0 : Int) else -1
noncomputable def FE (T : Fn -> ac) (tg : List Nat) (same : aa -> Prop) (w : bq) (X : AV -> aa -> Prop) (items : List AV) (ρ : aj) (σ : aa) (Q : aA -> aj -> aa -> Prop) : Prop :=
 xu tg same (λ ρ σ K => bB T w ρ σ K X) items ρ σ Q
noncomputable abbrev eE (l : List Nat) : List AV := l.map λ c => .str [c]
noncomputable abbrev fk (Q : AV -> aa -> Prop) : aA -> aj -> aa -> Prop := λ fl _ σ' => match fl with | .ret V => Q V σ' | .next => Q .none σ' | .brk => False
section
variable {T : Fn -> ac} {σ : aa} {Q X : AV -> aa -> Prop} {args : List AV}
theorem j0 (e : T .number_worth = k_number_worth) {s : List Nat} (h : Q (.int (qS s)) σ) : aT (T .number_worth) [.str s] σ Q X := λ _ _ q _ => e ▸ ⟨s, rfl, q _ _ h⟩
theorem lb (e : T .local_worth = k_local_worth) {s : List Nat} (h : Q (.int (lv s)) σ) : aT (T .local_worth) [.str s] σ Q X := λ _ _ q _ => e ▸ ⟨s, rfl, q _ _ h⟩
theorem xF (hd : T .digit_of = k_digit_of) {same : aa -> Prop} (hs : same σ) {a0 a2 : Option AV} {b : Nat} (hb : b ≤ 16) {Q : aA -> aj -> aa -> Prop} : ∀ (l : List Nat) (v : Nat) (x y : Option AV),
  (p6 b l = true -> ∀ x y, Q .next [a0, some (.int (b : Int)), a2, some (.int (pc b l v : Int)), x, y] σ) -> (p6 b l = false -> ∀ ρ, Q (.ret (.int (-1))) ρ σ) ->
  FE T [4] same gh X (eE l) [a0, some (.int (b : Int)), a2, some (.int (v : Int)), x, y] σ Q := by
 intro l
 induction l with
 | nil => intro v x y h _; exact ⟨hs, h rfl _ _⟩
 | cons c l ih =>
  intro v x y h h'
  refine ⟨hs, bm hd (ah (λ e => ?_) λ e => ?_)⟩
  ·exact h' (zH (Nat.not_lt.mpr (Cq e))) _
  ·refine bh (BE (Nat.lt_of_le_of_lt hb (by decide))) ?_
   have e := FL e
   exact ih (v * b + af c) _ _ (λ q => h ((mB e).trans q)) λ q => h' ((mB e).trans q)
noncomputable def qR : bq := match dy with | .cons _ (.cons _ (.cons _ t)) => t | _ => .nil
theorem ky (hd : T .digit_of = k_digit_of) {w : List Nat} {b k : Nat} (hb : b ≤ 16) (hk : k ≤ w.length) {f : List Nat} (hf : w.drop k = f) (h : Q (.int (if f = [] then -1 else u4 b f)) σ) :
  bB T qR [some (.str w), some (.int (b : Int)), some (.int (k : Int)), none, none, none] σ (fk Q) X := by
 subst hf
 refine ah (λ e => ?_) λ e => ?_
 ·rw [if_pos (List.drop_eq_nil_of_le (Nat.le_of_eq (Int.ofNat_inj.mp e).symm))] at h
  exact h
 ·rw [if_neg (λ q => e (congrArg _ (Nat.le_antisymm hk (List.drop_eq_nil_iff.mp q))))] at h
  have key := xF (X := X) (same := λ σ₂ => ch σ₂ (.str (w.drop k)) = ch σ (.str (w.drop k))) (Q := λ fl ρ' σ' => match fl with | .next => bB T (.cons (.ret (.var 3)) .nil) ρ' σ' (fk Q) X | .brk => False | .ret v => Q v σ') hd rfl hb (a0 := some (.str w)) (a2 := some (.int (k : Int))) (w.drop k) 0 none none
   (λ q x y => by unfold u4 at h; rw [if_pos q] at h; exact h) λ q ρ => by unfold u4 at h; rw [if_neg (by rw [q]; decide)] at h; exact h
  rw [← ee] at key
  exact key
theorem vc_number_worth (hd : T .digit_of = k_digit_of) (h : k_number_worth args σ Q X) : aJ T 6 1 dy args σ Q X := by
 obtain ⟨w, rfl, h⟩ := h
 refine ar rfl rfl ?_
 change Q (.int (if dg w = [] then -1 else u4 (dO w) (dg w))) σ at h
 rcases w with _ | ⟨x, _ | ⟨c, r⟩⟩
 ·exact az (λ e => absurd e (by decide)) λ _ => bC (ky hd (w := []) (k := 0) (b := 10) (by decide) (by decide) rfl h)
 ·refine az (λ e => absurd (pf (a := 1) (b := 1) e) (Nat.lt_irrefl 1)) λ _ => bC (ky hd (w := [x]) (k := 0) (b := 10) (by decide) (Nat.zero_le _) rfl ?_)
  have hf : dg [x] = [x] := by unfold dg; split <;> simp_all
  have hb : dO [x] = 10 := by unfold dO; split <;> simp_all
  rw [hf, hb] at h
  exact h
 ·have i0 : (x :: c :: r)[0]? = some x := rfl
  have i1 : (x :: c :: r)[1]? = some c := rfl
  have l2 : 2 ≤ (x :: c :: r).length := Nat.succ_le_succ (Nat.succ_le_succ (Nat.zero_le _))
  refine az (λ _ => ?_) λ e => absurd (Int.ofNat_lt (n := 1).mpr l2) e
  refine ah (λ e => ?_) λ e => ?_
  ·obtain rfl := one e
   have tail := λ (b k : Nat) (hb : b ≤ 16) (hk : k ≤ (48 :: c :: r).length) {f} hf h => ky (T := T) (σ := σ) (Q := Q) (X := X) hd (w := 48 :: c :: r) (b := b) (k := k) (f := f) hb hk hf h
   have x16 : (c = 120 ∨ c = 88) -> bB T qR [some (.str (48 :: c :: r)), some (.int (16 : Nat)), some (.int (2 : Nat)), none, none, none] σ (fk Q) X := λ e1 => tail 16 2 (by decide) l2 rfl (by
    rw [show dg (48 :: c :: r) = r from if_pos e1, show dO (48 :: c :: r) = 16 from if_pos e1] at h; exact h)
   have x2 : ¬ (c = 120 ∨ c = 88) -> (c = 98 ∨ c = 66) -> bB T qR [some (.str (48 :: c :: r)), some (.int (2 : Nat)), some (.int (2 : Nat)), none, none, none] σ (fk Q) X := λ e1 e2 => tail 2 2 (by decide) l2 rfl (by
    rw [show dg (48 :: c :: r) = r from (if_neg e1).trans (if_pos e2), show dO (48 :: c :: r) = 2 from (if_neg e1).trans (if_pos e2)] at h; exact h)
   refine ⟨λ q => dI (x16 (.inl (one (of_decide_eq_true q)))), λ q1 => ah (λ q => x16 (.inr (one q))) λ q2 => ?_⟩
   have e1 : ¬ (c = 120 ∨ c = 88) := λ q => q.elim (fY (of_decide_eq_false q1)) (fY q2)
   refine ⟨λ q => dI (x2 e1 (.inl (one (of_decide_eq_true q)))), λ q3 => ah (λ q => x2 e1 (.inr (one q))) λ q4 => ?_⟩
   have e2 : ¬ (c = 98 ∨ c = 66) := λ q => q.elim (fY (of_decide_eq_false q3)) (fY q4)
   refine tail 8 1 (by decide) (Nat.le_of_succ_le l2) rfl ?_
   rw [show dg (48 :: c :: r) = c :: r from (if_neg e1).trans (if_neg e2), show dO (48 :: c :: r) = 8 from (if_neg e1).trans (if_neg e2)] at h
   exact h
  ·refine ky hd (w := x :: c :: r) (k := 0) (b := 10) (by decide) (Nat.zero_le _) rfl ?_
   have hf : dg (x :: c :: r) = x :: c :: r := by unfold dg; split <;> simp_all
   have hb : dO (x :: c :: r) = 10 := by unfold dO; split <;> simp_all
   rw [hf, hb] at h
   exact h
theorem zu (hd : T .digit_of = k_digit_of) {same : aa -> Prop} (hs : same σ) {a0 : Option AV} {Q : aA -> aj -> aa -> Prop} : ∀ (l : List Nat) (v : Nat) (x : Option AV),
  (p6 10 l = true -> ∀ x, Q .next [a0, some (.int (pc 10 l v : Int)), x] σ) -> (p6 10 l = false -> ∀ ρ, Q (.ret (.int (-1))) ρ σ) ->
  FE T [2] same eB X (eE l) [a0, some (.int (v : Int)), x] σ Q := by
 intro l
 induction l with
 | nil => intro v x h _; exact ⟨hs, h rfl _⟩
 | cons c l ih =>
  intro v x h h'
  refine ⟨hs, bm hd (ah (λ e => ?_) λ e => ?_)⟩
  ·exact h' (zH (Nat.not_lt.mpr (pf (a := 9) e))) _
  ·refine bh (BE (k := 10) (by decide)) (bm hd ?_)
   have e : af c < 10 := Nat.lt_succ_of_le (BH (a := 9) e)
   exact ih (v * 10 + af c) _ (λ q => h ((mB e).trans q)) λ q => h' ((mB e).trans q)
theorem vc_local_worth (hd : T .digit_of = k_digit_of) (h : k_local_worth args σ Q X) : aJ T 3 1 fR args σ Q X := by
 obtain ⟨w, rfl, h⟩ := h
 refine ar rfl rfl ?_
 have hr : (if w.length < 2 ∨ (w.getLast? ≠ some 98 ∧ w.getLast? ≠ some 102) then -1 else u4 10 w.dropLast) = lv w := rfl
 generalize lv w = r at h hr
 refine ⟨λ e => dI ?_, λ e => ?_⟩
 ·obtain rfl := bM (.inl (pf (b := 2) (of_decide_eq_true e))) hr
  exact h
 have e : ¬ w.length < 2 := λ q => of_decide_eq_false e (Int.ofNat_lt (m := 2).mpr q)
 cases hc : w.getLast? with
 | none => rw [List.getLast?_eq_none_iff] at hc; subst hc; exact absurd (by decide) e
 | some c =>
  rw [hc] at hr
  have go : (c = 98 ∨ c = 102) -> bB T (.cons (.asg 1 (.int 0)) (.cons (.forS [2] (.plain (.slice (.var 0) .none (.some (.neg 1)))) eB) (.cons (.ret (.var 1)) .nil))) [some (.str w), none, none] σ (fk Q) X := by
   intro q
   obtain rfl := bN (λ z => z.elim e λ z => q.elim (λ q => z.1 (congrArg some q)) λ q => z.2 (congrArg some q)) hr
   have key := zu (X := X) (same := λ σ₂ => ch σ₂ (.str w.dropLast) = ch σ (.str w.dropLast)) (Q := λ fl ρ' σ' => match fl with | .next => bB T (.cons (.ret (.var 1)) .nil) ρ' σ' (fk Q) X | .brk => False | .ret v => Q v σ') hd rfl (a0 := some (.str w)) w.dropLast 0 none
    (λ q x => by unfold u4 at h; rw [if_pos q] at h; exact h) λ q ρ => by unfold u4 at h; rw [if_neg (by rw [q]; decide)] at h; exact h
   rw [← lP] at key
   exact key
  refine ay (mw hc) (iU (λ q1 => ay (mw hc) (eu (λ q2 => ?_) λ q2 => ?_)) λ q1 => ?_)
  ·obtain rfl := bM (.inr ⟨λ z => fY q1 (Option.some.inj z), λ z => fY q2 (Option.some.inj z)⟩) hr
   exact h
  ·exact go (.inr (one q2))
  ·exact bC (go (.inl (one q1)))
end
noncomputable def RD (s : List Nat) (line : Int) (i : Nat) : aG := .inst .reader [.str s, .int line, .int (i : Int)]
noncomputable def PL (line : Int) (i : Nat) : AV := .inst .place [.int line, .int ((i : Int) + 1)]
noncomputable def TK (k w : List Nat) (v p : AV) : AV := .inst .token [.str k, .str w, v, p]
theorem tJ {σ : aa} {n : Nat} {c : aG} (h : σ[n]? = some c) : σ.set n c = σ := by
 obtain ⟨h1, h2⟩ := List.getElem?_eq_some_iff.mp h
 rw [← h2, List.set_getElem_self]
theorem d1 {σ : aa} {n : Nat} {c : aG} (h : σ[n]? = some c) (d : aG) : (σ.set n d)[n]? = some d := List.getElem?_set_self (ag h)
theorem bj {σ : aa} {n : Nat} {s : List Nat} {l : Int} {i : Nat} (h : σ[n]? = some (RD s l i)) : cI σ (.loc n) .text = some (.str s) := d6 h
theorem Bj {σ : aa} {n : Nat} {s : List Nat} {l : Int} {i : Nat} (h : σ[n]? = some (RD s l i)) : cI σ (.loc n) .line = some (.int l) := d6 h
theorem bt {σ : aa} {n : Nat} {s : List Nat} {l : Int} {i : Nat} (h : σ[n]? = some (RD s l i)) : cI σ (.loc n) .pat = some (.int (i : Int)) := d6 h
theorem ci {σ : aa} {n : Nat} {s : List Nat} {l : Int} {i : Nat} (h : σ[n]? = some (RD s l i)) : sf σ (.loc n) = some .reader := d6 h
theorem z7 {σ : aa} {n : Nat} {s : List Nat} {l : Int} {i : Nat} (h : σ[n]? = some (RD s l i)) (e : Nat) : setField σ n .pat (.int (e : Int)) = some (σ.set n (RD s l e)) := d6 h
theorem Gl (a b : AV) (σ : aa) : cI σ (.inst .place [a, b]) .line = some a := rfl
theorem EH (a b : AV) (σ : aa) : cI σ (.inst .place [a, b]) .column = some b := rfl
theorem Gm (a b c d : AV) (σ : aa) : cI σ (.inst .token [a, b, c, d]) .kind = some a := rfl
theorem Gn (a b c d : AV) (σ : aa) : cI σ (.inst .token [a, b, c, d]) .text = some b := rfl
theorem FG (a b c d : AV) (σ : aa) : cI σ (.inst .token [a, b, c, d]) .worth = some c := rfl
theorem GU (a b c d : AV) (σ : aa) : cI σ (.inst .token [a, b, c, d]) .pat = some d := rfl
theorem EJ (a b : AV) (σ : aa) : om .place [a, b] σ = some (.inst .place [a, b], σ) := rfl
theorem EK (a b c d : AV) (σ : aa) : om .token [a, b, c, d] σ = some (.inst .token [a, b, c, d], σ) := rfl
noncomputable def bl (c : Nat) : Bool := c == 32 || c == 9 || c == 13
noncomputable def gG (s : List Nat) (i : Nat) : Bool := match s[i]? with | none => true | some c => c == 35
noncomputable def k_place_told : ac := λ args σ Q _ => ∃ a b, args = [.inst .place [a, b]] ∧ Q (.tup [a, b]) σ
noncomputable def k_token_told : ac := λ args σ Q _ => ∃ a b c d, args = [.inst .token [a, b, c, d]] ∧ Q (.tup [a, c]) σ
noncomputable def k_token_back : ac := λ args σ Q _ => ∃ (k w : List Nat) (c d : AV), args = [.inst .token [.str k, .str w, c, d]] ∧ (k = [108, 111, 99, 97, 108] -> w ≠ []) ∧ Q (.bool (decide (k = [108, 111, 99, 97, 108]) && w.getLast? == some 98)) σ
noncomputable def k_r_place : ac := λ args σ Q _ => ∃ (n : Nat) (s : List Nat) (line : Int) (i : Nat) (a : Int), args = [.loc n, .int a] ∧ σ[n]? = some (RD s line i) ∧ Q (.inst .place [.int line, .int (a + 1)]) σ
noncomputable def k_r_is_done : ac := λ args σ Q _ => ∃ (n : Nat) (s : List Nat) (line : Int) (i : Nat), args = [.loc n] ∧ σ[n]? = some (RD s line i) ∧ Q (.bool (gG s (ai bl s i))) (σ.set n (RD s line (ai bl s i)))
noncomputable def k_r_passed : ac := λ args σ Q _ => ∃ (n : Nat) (s : List Nat) (line : Int) (i : Nat) (e : Nat), args = [.loc n, .int (e : Int)] ∧ σ[n]? = some (RD s line i) ∧ Q (.str ((s.take e).drop i)) (σ.set n (RD s line e))
noncomputable def k_r_name_end : ac := λ args σ Q _ => ∃ (n : Nat) (s : List Nat) (line : Int) (i : Nat) (e : Nat), args = [.loc n, .int (e : Int)] ∧ σ[n]? = some (RD s line i) ∧ Q (.int (ai aY s e : Int)) σ
section
variable {T : Fn -> ac} {σ : aa} {Q X : AV -> aa -> Prop} {args : List AV}
section
variable {n : Nat} {s : List Nat} {line : Int} {i : Nat}
theorem bx (e : T .r_place = k_r_place) (hn : σ[n]? = some (RD s line i)) {a : Int} (h : Q (.inst .place [.int line, .int (a + 1)]) σ) : aT (T .r_place) [.loc n, .int a] σ Q X := λ _ _ q _ => e ▸ ⟨n, s, line, i, a, rfl, hn, q _ _ h⟩
theorem m6 (e : T .r_is_done = k_r_is_done) (hn : σ[n]? = some (RD s line i)) (h : Q (.bool (gG s (ai bl s i))) (σ.set n (RD s line (ai bl s i)))) : aT (T .r_is_done) [.loc n] σ Q X := λ _ _ q _ => e ▸ ⟨n, s, line, i, rfl, hn, q _ _ h⟩
theorem bL (e : T .r_passed = k_r_passed) (hn : σ[n]? = some (RD s line i)) {k : Nat} (h : Q (.str ((s.take k).drop i)) (σ.set n (RD s line k))) : aT (T .r_passed) [.loc n, .int (k : Int)] σ Q X := λ _ _ q _ => e ▸ ⟨n, s, line, i, k, rfl, hn, q _ _ h⟩
theorem gW (e : T .r_name_end = k_r_name_end) (hn : σ[n]? = some (RD s line i)) {k : Nat} (h : Q (.int (ai aY s k : Int)) σ) : aT (T .r_name_end) [.loc n, .int (k : Int)] σ Q X := λ _ _ q _ => e ▸ ⟨n, s, line, i, k, rfl, hn, q _ _ h⟩
end
theorem ma (e : T .place_told = k_place_told) {a b : AV} (h : Q (.tup [a, b]) σ) : aT (T .place_told) [.inst .place [a, b]] σ Q X := λ _ _ q _ => e ▸ ⟨a, b, rfl, q _ _ h⟩
theorem md (e : T .token_told = k_token_told) {a b c d : AV} (h : Q (.tup [a, c]) σ) : aT (T .token_told) [.inst .token [a, b, c, d]] σ Q X := λ _ _ q _ => e ▸ ⟨a, b, c, d, rfl, q _ _ h⟩
theorem mc (e : T .token_back = k_token_back) {k w : List Nat} {c d : AV} (hw : k = [108, 111, 99, 97, 108] -> w ≠ []) (h : Q (.bool (decide (k = [108, 111, 99, 97, 108]) && w.getLast? == some 98)) σ) : aT (T .token_back) [.inst .token [.str k, .str w, c, d]] σ Q X := λ _ _ q _ => e ▸ ⟨k, w, c, d, rfl, hw, q _ _ h⟩
theorem vc_place_told (h : k_place_told args σ Q X) : aJ T 1 1 gm args σ Q X := by
 obtain ⟨a, b, rfl, h⟩ := h
 exact ar rfl rfl h
theorem vc_token_told (h : k_token_told args σ Q X) : aJ T 1 1 gv args σ Q X := by
 obtain ⟨a, b, c, d, rfl, h⟩ := h
 exact ar rfl rfl h
theorem vJ {c d : Nat} : decide ([c] = [d]) = (c == d) := eg (by rw [decide_eq_true_eq, beq_iff_eq]; exact ⟨one, congrArg λ x => [x]⟩)
theorem F0 {c d : Nat} : (some c == some d) = (c == d) := rfl
theorem vc_token_back (h : k_token_back args σ Q X) : aJ T 1 1 gr args σ Q X := by
 obtain ⟨k, w, c, d, rfl, hw, h⟩ := h
 refine ar rfl rfl ?_
 refine az (λ e => ?_) λ e => ?_
 ·rw [decide_eq_true e] at h
  cases hl : w.getLast? with
  | none => exact absurd (List.getLast?_eq_none_iff.mp hl) (hw e)
  | some x =>
   rw [hl] at h
   refine ay (mw hl) (oV h ?_)
   rw [vJ]; rfl
 ·rw [decide_eq_false e] at h
  exact h
theorem vc_r_place (h : k_r_place args σ Q X) : aJ T 2 2 kW args σ Q X := by
 obtain ⟨n, s, line, i, a, rfl, hn, h⟩ := h
 exact ar rfl rfl (aq (Bj hn) h)
theorem AB (c : Nat) : [[32], [9], [13]].contains [c] = bl c := by
 rw [List.contains_eq_any_beq, List.any_cons, List.any_cons, List.any_cons, List.any_nil, Bool.or_false]
 have e : ∀ d, ([c] == [d]) = (c == d) := λ d => by rw [List.cons_beq_cons]; exact Bool.and_true _
 rw [e, e, e, ← Bool.or_assoc]
 rfl
theorem Gc {c : Nat} {a b : Prop} (ha : bl c = true -> a) (hb : bl c = false -> b) : te (.bool ([[32], [9], [13]].contains [c])) a b := by rw [AB]; exact ⟨ha, hb⟩
theorem uG {n : Nat} {s : List Nat} {line : Int} {j : Nat} (hn : σ[n]? = some (RD s line j)) {Q : aA -> aj -> aa -> Prop} : ∀ (m i : Nat), s.length - i < m ->
  Q .next [some (.loc n)] (σ.set n (RD s line (ai bl s i))) -> WE T jc jq X m [some (.loc n)] (σ.set n (RD s line i)) Q := by
 intro m
 induction m with
 | zero => intro i hm; exact absurd hm (Nat.not_lt_zero _)
 | succ m ih =>
  intro i hm h
  have hg := d1 hn (RD s line i)
  refine aq (bt hg) (aq (bj hg) ?_)
  cases hc : s[i]? with
  | none =>
   rw [bv hc] at h
   exact az (λ e => xH hc e) λ _ => bC h
  | some c =>
   refine az (λ _ => aq (bj hg) (aq (bt hg) (ay (cb hc) (Gc (λ e => ?_) λ e => ?_)))) λ e => lG hc e
   ·rw [bP hc e] at h
    refine aq (bt hg) (dh (z7 hg (i + 1)) ?_)
    rw [List.set_set]
    have := ag hc
    exact ih (i + 1) (by exact (lnr [_,_,_] [] 0x216190A10119162910A193) hm this) h
   ·rw [cZ hc e] at h
    exact h
theorem vc_r_is_done (h : k_r_is_done args σ Q X) : aJ T 1 1 hW args σ Q X := by
 obtain ⟨n, s, line, i, rfl, hn, h⟩ := h
 refine ar rfl rfl ?_
 rw [← tJ hn]
 have hg := d1 hn (RD s line (ai bl s i))
 refine ⟨_, uG hn _ i (Nat.lt_succ_self _) ?_⟩
 refine aq (bt hg) (aq (bj hg) ?_)
 unfold gG at h
 cases hc : s[ai bl s i]? with
 | none =>
  rw [hc] at h
  exact ⟨λ _ => h, λ e => absurd (Int.ofNat_le.mpr (ca hc)) (of_decide_eq_false e)⟩
 | some c =>
  rw [hc] at h
  exact ⟨λ e => absurd (Cq (of_decide_eq_true e)) (Nat.not_le.mpr (ag hc)), λ _ => aq (bj hg) (aq (bt hg) (ay (cb hc) (oV h vJ.symm)))⟩
theorem vc_r_passed (h : k_r_passed args σ Q X) : aJ T 3 2 jC args σ Q X := by
 obtain ⟨n, s, line, i, e, rfl, hn, h⟩ := h
 refine ar rfl rfl (aq (bt hn) (dh (z7 hn e) (aq (bj (d1 hn _)) ?_)))
 rw [← fF] at h
 exact h
theorem s5 (hd : T .is_name_sign = k_is_name_sign) {n : Nat} {s : List Nat} {line : Int} {j : Nat} (hn : σ[n]? = some (RD s line j)) {a : Option AV} {Q : aA -> aj -> aa -> Prop} : ∀ (m i : Nat), s.length - i < m ->
  Q .next [some (.loc n), a, some (.int (ai aY s i : Int))] σ -> WE T ii iS X m [some (.loc n), a, some (.int (i : Int))] σ Q := by
 intro m
 induction m with
 | zero => intro i hm; exact absurd hm (Nat.not_lt_zero _)
 | succ m ih =>
  intro i hm h
  refine aq (bj hn) ?_
  cases hc : s[i]? with
  | none =>
   rw [bv hc] at h
   exact az (λ e => xH hc e) λ _ => bC h
  | some c =>
   refine az (λ _ => aq (bj hn) (ay (cb hc) (jZ hd (eI (λ e => ?_) λ e => ?_)))) λ e => lG hc e
   ·rw [bP hc e] at h
    have := ag hc
    exact ih (i + 1) (by exact (lnr [_,_,_] [] 0x216190A10119162910A193) hm this) h
   ·rw [cZ hc e] at h
    exact h
theorem vc_r_name_end (hd : T .is_name_sign = k_is_name_sign) (h : k_r_name_end args σ Q X) : aJ T 3 2 gp args σ Q X := by
 obtain ⟨n, s, line, i, e, rfl, hn, h⟩ := h
 exact ar rfl rfl ⟨_, s5 hd hn _ e (Nat.lt_succ_self _) h⟩
end
noncomputable def AI : Int := 18446744073709551615
noncomputable def fX (w : List Nat) : Option (List Nat × Int) := if AI < qS w then none else if 0 ≤ qS w then some ([110, 117, 109, 98, 101, 114], qS w) else if 0 ≤ lv w then some ([108, 111, 99, 97, 108], lv w) else none
noncomputable def sub (s : List Nat) (i e : Nat) : List Nat := (s.take e).drop i
noncomputable def k_r_number : ac := λ args σ Q X => ∃ (n : Nat) (s : List Nat) (line : Int) (i : Nat), args = [.loc n] ∧ σ[n]? = some (RD s line i) ∧ s.length ≤ 1000 ∧
 match fX (sub s i (ai aY s i)) with
 | none => X (PL line i) (σ.set n (RD s line (ai aY s i)))
 | some (k, v) => Q (TK k (sub s i (ai aY s i)) (.int v) (PL line i)) (σ.set n (RD s line (ai aY s i)))
noncomputable def k_r_constant : ac := λ args σ Q X => ∃ (n : Nat) (s : List Nat) (line : Int) (i : Nat), args = [.loc n] ∧ σ[n]? = some (RD s line i) ∧
 if (au s i).1 < 0 then X (PL line i) σ else Q (TK [110, 117, 109, 98, 101, 114] (sub s i (au s i).2) (.int (au s i).1) (PL line i)) (σ.set n (RD s line (au s i).2))
theorem rF (s : List Nat) (i e : Nat) : (sub s i e).length ≤ s.length := by unfold sub; rw [List.length_drop, List.length_take]; exact (lnr [_,_,_] [] 0x1210DA03)
section
variable {T : Fn -> ac} {σ : aa} {Q X : AV -> aa -> Prop} {args : List AV}
theorem vc_r_number (h1 : T .r_place = k_r_place) (h2 : T .r_passed = k_r_passed) (h3 : T .r_name_end = k_r_name_end) (h4 : T .number_worth = k_number_worth) (h5 : T .local_worth = k_local_worth) (h : k_r_number args σ Q X) :
  aJ T 4 1 jB args σ Q X := by
 obtain ⟨n, s, line, i, rfl, hn, hs, h⟩ := h
 refine ar rfl rfl ?_
 have hw : [98, 97, 100, 32, 110, 117, 109, 98, 101, 114, 32].length + (sub s i (ai aY s i)).length ≤ fD := Nat.le_trans (Nat.add_le_add_left (Nat.le_trans (rF s i _) hs) 11) (by decide)
 refine aZ (ci hn) (aq (bt hn) (bx h1 hn ?_))
 refine aZ (ci hn) (aZ (ci hn) (aq (bt hn) (gW h3 hn (bL h2 hn ?_))))
 refine j0 h4 ?_
 have hr : (if AI < qS (sub s i (ai aY s i)) then none else if 0 ≤ qS (sub s i (ai aY s i)) then some ([110, 117, 109, 98, 101, 114], qS (sub s i (ai aY s i))) else if 0 ≤ lv (sub s i (ai aY s i)) then some ([108, 111, 99, 97, 108], lv (sub s i (ai aY s i))) else none) = fX (sub s i (ai aY s i)) := rfl
 generalize fX (sub s i (ai aY s i)) = r at h hr
 refine ah (λ e1 => ?_) λ e1 => ?_
 ·obtain rfl := bM e1 hr
  exact h
 replace hr := bN e1 hr
 refine ah (λ e2 => ?_) λ e2 => ?_
 ·obtain rfl := bM e2 hr
  exact h
 replace hr := bN e2 hr
 refine lb h5 (ah (λ e3 => ?_) λ e3 => ?_)
 ·obtain rfl := bM e3 hr
  exact h
 ·obtain rfl := bN e3 hr
  exact bh (eH hw) h
theorem vc_r_constant (h1 : T .r_place = k_r_place) (h2 : T .r_passed = k_r_passed) (h3 : T .read_char = k_read_char) (h : k_r_constant args σ Q X) : aJ T 4 1 gn args σ Q X := by
 obtain ⟨n, s, line, i, rfl, hn, h⟩ := h
 refine ar rfl rfl ?_
 refine aZ (ci hn) (aq (bt hn) (bx h1 hn ?_))
 refine aq (bj hn) (aq (bt hn) (im h3 ⟨rfl, ah (λ e => ?_) λ e => ?_⟩))
 ·rw [if_pos e] at h
  exact h
 ·rw [if_neg e] at h
  exact aZ (ci hn) (bL h2 hn h)
end
inductive QR where | bad (p : Nat) | ok (w : List Nat) (e : Nat)
noncomputable def bc (s : List Nat) (a i : Nat) (w : List Nat) : QR := match h : s[i]? with
 | none => .bad a
 | some c => if c = 34 then .ok w (i + 1) else if c = 92 then (if (be s i).1 < 0 then .bad i else bc s a (be s i).2 (w ++ [(be s i).1.toNat])) else if c ≠ 9 ∧ (c < 32 ∨ 126 < c) then .bad i else bc s a (i + 1) (w ++ [c])
termination_by s.length - i
decreasing_by
 ·have := ag h; have := cH s i; exact (lnr [_,_,_] [] 0x20A10A1121902193) ‹_› this
 ·have := ag h; exact (lnr [_,_] [] 0x10A16190A101192) this
theorem cO {s : List Nat} {a i : Nat} {w : List Nat} (h : s[i]? = none) : bc s a i w = .bad a := by rw [bc]; split <;> simp_all
theorem bO {s : List Nat} {a i c : Nat} {w : List Nat} (h : s[i]? = some c) : bc s a i w = if c = 34 then .ok w (i + 1) else if c = 92 then (if (be s i).1 < 0 then .bad i else bc s a (be s i).2 (w ++ [(be s i).1.toNat])) else if c ≠ 9 ∧ (c < 32 ∨ 126 < c) then .bad i else bc s a (i + 1) (w ++ [c]) := by
 rw [bc]; split
 ·simp_all
 ·rename_i c' h'; rw [h] at h'; cases h'; rfl
theorem sv : ∀ p ∈ bR, 0 ≤ p.2 ∧ p.2 < 256 := by decide
theorem wB : ∀ (l : List Nat) (w : Nat), w < 256 -> (cL l w).1 < 256
 | [], w, h => h
 | c :: l, w, h => by
  unfold cL
  split
  ·exact wB l _ (Nat.mod_lt _ (by decide))
  ·exact h
theorem Ba (l : List Nat) : (cA l).1 < 256 := by
 unfold cA
 split
 ·decide
 ·split
  ·dsimp only; omega
  ·split
   ·split
    ·decide
    ·have := wB (by assumption) 0 (by decide); dsimp only; exact (lnr [_] [] 0x48860B448860191) this
   ·split
    ·rename_i j hj
     obtain ⟨l1, l2, h⟩ := List.lookup_eq_some_iff.mp hj
     exact (sv (_, j) (by rw [h.1]; exact List.mem_append_right _ List.mem_cons_self)).2
    ·decide
theorem qC (s : List Nat) (i : Nat) : (be s i).1 < 256 := Ba _
theorem wK : ∀ (b : Nat) (l : List Nat) (w : Nat), (cq b l w).2 ≤ l.length
 | 0, _, _ => Nat.zero_le _
 | _ + 1, [], _ => Nat.zero_le _
 | b + 1, c :: l, w => by
  unfold cq
  split
  ·have := wK b l (w * 8 + af c); simp only [List.length_cons]; exact (lnr [_,_] [] 0x16191609010092) this
  ·exact Nat.zero_le _
theorem wA : ∀ (l : List Nat) (w : Nat), (cL l w).2 ≤ l.length
 | [], _ => Nat.zero_le _
 | c :: l, w => by
  unfold cL
  split
  ·have := wA l ((w * 16 + af c) % 256); simp only [List.length_cons]; exact (lnr [_,_] [] 0x16191609010092) this
  ·exact Nat.zero_le _
theorem A9 (l : List Nat) : (cA l).2 ≤ l.length := by
 unfold cA
 split
 ·exact Nat.zero_le _
 ·rename_i c t
  split
  ·exact wK 3 (c :: t) 0
  ·split
   ·split
    ·exact Nat.zero_le _
    ·have := wA t 0; simp only [List.length_cons]; exact (lnr [_,_] [] 0x16191609010092) this
   ·split
    ·simp only [List.length_cons]; exact (lnr [_] [] 0x16091601)
    ·exact Nat.zero_le _
theorem qB {s : List Nat} {i c : Nat} (h : s[i]? = some c) : (be s i).2 ≤ s.length := by
 have := ag h
 have := A9 (s.drop (i + 1))
 rw [List.length_drop] at this
 unfold be
 dsimp only
 exact (lnr [_,_,_] [] 0x2116099016092A10920193) ‹_› this
theorem mY {σ : aa} {i : Int} (h0 : 0 ≤ i) (h1 : i < 1114112) : l9 .chr σ (.int i) = some (.str [i.toNat]) := if_pos ⟨h0, h1⟩
noncomputable def k_r_quote : ac := λ args σ Q X => ∃ (n : Nat) (s : List Nat) (line : Int) (i : Nat), args = [.loc n] ∧ σ[n]? = some (RD s line i) ∧ s.length ≤ 1000 ∧
 match bc s i (i + 1) [] with
 | .bad p => X (PL line p) σ
 | .ok w e => Q (TK [116, 101, 120, 116] (sub s i e) (.str w) (PL line i)) (σ.set n (RD s line e))
noncomputable def cT (c : Nat) : Bool := isAl c || isDi c
noncomputable def k_r_register : ac := λ args σ Q X => ∃ (n : Nat) (s : List Nat) (line : Int) (i : Nat), args = [.loc n] ∧ σ[n]? = some (RD s line i) ∧ s.all (· < 128) = true ∧
 Q (TK [114, 101, 103, 105, 115, 116, 101, 114] (sub s i (ai cT s (i + 1))) (.str ((sub s i (ai cT s (i + 1))).drop 1 |>.map oh)) (PL line i)) (σ.set n (RD s line (ai cT s (i + 1))))
noncomputable def gj : List Nat := [43, 45, 42, 47, 37, 38, 124, 94, 126, 33, 40, 41, 91, 93, 44, 58, 36, 61, 60, 62]
noncomputable def dm (s : List Nat) (i : Nat) : Nat := if sub s i (i + 2) = [60, 60] ∨ sub s i (i + 2) = [62, 62] then i + 2 else i + 1
noncomputable def k_r_mark : ac := λ args σ Q X => ∃ (n : Nat) (s : List Nat) (line : Int) (i c : Nat), args = [.loc n] ∧ σ[n]? = some (RD s line i) ∧ s[i]? = some c ∧
 if gj.contains c = true then Q (TK [115, 105, 103, 110] (sub s i (dm s i)) (.str (sub s i (dm s i))) (PL line i)) (σ.set n (RD s line (dm s i))) else X (PL line i) σ
theorem mr (c : Nat) : isDi c = decide (af c < 10) := by
 unfold isDi af
 rw [Bool.eq_iff_iff]
 simp only [Bool.and_eq_true, decide_eq_true_eq]
 repeat' split
 all_goals omega
section
variable {T : Fn -> ac} {σ : aa} {Q X : AV -> aa -> Prop} {args : List AV}
theorem aK {ρ : aj} {Q : aA -> aj -> aa -> Prop} (h : Q .next ρ σ) : bB T .nil ρ σ Q X := h
theorem sb {n p e : Option AV} {y' : AV} {w : List Nat} {C : Int} {c : Nat} {K : aA -> aj -> aa -> Prop} (f1 : l9 .chr σ (.int C) = some (.str [c])) (hadd : w.length + [c].length ≤ fD)
  (h : K .next [n, p, some (.str (w ++ [c])), some y', some (.int C), some y'] σ) : bB T (.cons (.asg 2 (.bin .add (.var 2) (.bi .chr (.var 4)))) (.cons (.asg 3 (.var 5)) .nil)) [n, p, some (.str w), e, some (.int C), some y'] σ K X :=
 bF f1 (bh (eH hadd) h)
theorem zw (h1 : T .r_place = k_r_place) (he : T .read_escape = k_read_escape) {n : Nat} {s : List Nat} {line : Int} {i : Nat} (hn : σ[n]? = some (RD s line i)) (hs : s.length ≤ 1000) {p : Option AV} {Q : aA -> aj -> aa -> Prop} : ∀ (m e : Nat) (w : List Nat) (x y : Option AV), s.length - e < m -> w.length ≤ e -> e ≤ 1010 ->
  (bc s i e w = .bad i -> ∀ e' w' x y, s.length ≤ e' -> Q .next [some (.loc n), p, some (.str w'), some (.int (e' : Nat)), x, y] σ) ->
  (∀ w' e' x y, bc s i e w = .ok w' (e' + 1) -> e' < s.length -> Q .next [some (.loc n), p, some (.str w'), some (.int (e' : Nat)), x, y] σ) ->
  (∀ q, bc s i e w = .bad q -> X (PL line q) σ) ->
  WE T ij iT X m [some (.loc n), p, some (.str w), some (.int (e : Int)), x, y] σ Q := by
 intro m
 induction m with
 | zero => intro e _ _ _ hm; exact absurd hm (Nat.not_lt_zero _)
 | succ m ih =>
  intro e w x y hm hwl hle q1 q2 q3
  refine aq (bj hn) ?_
  cases hc : s[e]? with
  | none => exact az (λ q => xH hc q) λ _ => bC (q1 (cO hc) e w x y (ca hc))
  | some c =>
   have hl := ag hc
   have hr := (bO (a := i) (w := w) hc).symm
   generalize bc s i e w = r at q1 q2 q3 hr
   have hadd : ∀ {k : Nat}, w.length + [k].length ≤ fD := Nat.le_trans (Nat.add_le_add_right (Nat.le_trans hwl hle) 1) (by decide)
   refine az (λ _ => aq (bj hn) (ay (cb hc) (eu (λ e1 => ?_) λ e1 => ?_))) λ q => lG hc q
   ·replace hr := bN (fY e1) hr
    refine aq (bj hn) (ay (cb hc) (aq (bj hn) (ay (cb hc) (ah (λ e2 => ?_) λ e2 => ?_))))
    ·replace hr := bM (one e2) hr
     refine aq (bj hn) (dQ he ⟨rfl, ah (λ e3 => ?_) λ e3 => ?_⟩)
     ·exact aZ (ci hn) (bx h1 hn (q3 _ (bM e3 hr).symm))
     ·obtain rfl := bN e3 hr
      have hgt := cH s e
      have hlt := qC s e
      have hb : (be s e).2 ≤ s.length := qB hc
      refine bF (mY (Int.not_lt.mp e3) (Int.lt_trans hlt (by decide))) (bh (eH hadd) ?_)
      exact ih (be s e).2 _ _ _ (by exact (lnr [_,_,_,_] [] 0x210A101091319162930A194) hm hgt hb) (by rw [List.length_append]; exact Nat.le_trans (Nat.succ_le_succ hwl) hgt) (Nat.le_trans hb (Nat.le_trans hs (by decide))) q1 q2 q3
    ·replace hr := bN (fY e2) hr
     have bad : (c ≠ 9 ∧ (c < 32 ∨ 126 < c)) -> X (PL line e) σ := λ q => q3 _ (bM q hr).symm
     generalize hC : (c : Int) = C
     have fin : ¬ (c ≠ 9 ∧ (c < 32 ∨ 126 < c)) -> l9 .chr σ (.int C) = some (.str [c]) ∧ WE T ij iT X m [some (.loc n), p, some (.str (w ++ [c])), some (.int ((e + 1 : Nat) : Int)), some (.int C), some (.int ((e + 1 : Nat) : Int))] σ Q := by
      intro q
      obtain rfl := bN q hr
      subst hC
      refine ⟨mY (Int.natCast_nonneg c) (by exact (lnr [_] [] 0x4A8888860B401FE614860181960267691) q), ?_⟩
      exact ih (e + 1) _ _ _ (by exact (lnr [_,_,_] [] 0x216190A10B1B49162910A193) hm ‹_›) (by rw [List.length_append]; exact Nat.succ_le_succ hwl) (by exact (lnr [_,_] [] 0x1FEA6160901B0B491FD861092) hs ‹_›) q1 q2 q3
     refine iU (λ e9 => ?_) λ e9 => bC ?_
     ·have n9 : c ≠ 9 := λ q => e9 (by rw [← hC, q]; rfl)
      refine ⟨λ q => dI (aZ (ci hn) (bx h1 hn (bad ⟨n9, .inl (pf (b := 32) (hC ▸ of_decide_eq_true q))⟩))), λ q => ah (λ q2 => aZ (ci hn) (bx h1 hn (bad ⟨n9, .inr (pf (a := 126) (hC ▸ q2))⟩))) λ q2 => ?_⟩
      obtain ⟨f1, f2⟩ := fin λ z => z.2.elim (λ z => of_decide_eq_false q (hC ▸ Int.ofNat_lt.mpr z)) λ z => q2 (hC ▸ Int.ofNat_lt.mpr z)
      exact aK (sb f1 hadd f2)
     ·obtain ⟨f1, f2⟩ := fin λ q => q.1 (Int.ofNat_inj (n := 9).mp (hC.trans e9))
      exact aK (sb f1 hadd f2)
   ·exact q2 _ _ _ _ (bM (one e1) hr).symm hl
noncomputable def xU : bq := match iV with | .cons _ (.cons _ (.cons _ (.cons _ t))) => t | _ => .nil
theorem vc_r_quote (h1 : T .r_place = k_r_place) (h2 : T .r_passed = k_r_passed) (he : T .read_escape = k_read_escape) (h : k_r_quote args σ Q X) : aJ T 6 1 iV args σ Q X := by
 obtain ⟨n, s, line, i, rfl, hn, hs, h⟩ := h
 refine ar rfl rfl ?_
 have short : ∀ (e' : Nat) (w' : List Nat) (x y : Option AV), s.length ≤ e' -> X (PL line i) σ -> bB T xU [some (.loc n), some (PL line i), some (.str w'), some (.int (e' : Nat)), x, y] σ (fk Q) X := λ e' w' x y hl hx =>
  aq (bj hn) (ah (λ _ => hx) λ q => absurd (Int.ofNat_le.mpr hl) q)
 refine aZ (ci hn) (aq (bt hn) (bx h1 hn (aq (bt hn) ?_)))
 by_cases hi : s.length ≤ i
 ·rw [cO (List.getElem?_eq_none_iff.mpr (Nat.le_succ_of_le hi))] at h
  refine ⟨1, aq (bj hn) (az (λ q => absurd (pf (a := i + 1) q) (Nat.not_lt.mpr (Nat.le_succ_of_le hi))) λ _ => bC ?_)⟩
  exact short (i + 1) _ _ _ (Nat.le_succ_of_le hi) h
 refine ⟨_, zw h1 he hn hs _ (i + 1) [] _ _ (Nat.lt_succ_self _) (Nat.zero_le _) (by exact (lnr [_,_] [] 0x1FEA616090010691FD861092) hs hi) (λ hq e' w' x y hl => ?_) (λ w' e' x y hq hl => ?_) (λ q hq => ?_)⟩
 ·rw [hq] at h
  exact short e' w' x y hl h
 ·rw [hq] at h
  exact aq (bj hn) (ah (λ q => absurd (Cq q) (Nat.not_le.mpr hl)) λ _ => aZ (ci hn) (bL (k := e' + 1) h2 hn h))
 ·rw [hq] at h
  exact h
theorem s6 (h1 : T .is_letter = k_is_letter) (h2 : T .digit_of = k_digit_of) {n : Nat} {s : List Nat} {line : Int} {j : Nat} (hn : σ[n]? = some (RD s line j)) {a b : Option AV} {Q : aA -> aj -> aa -> Prop} : ∀ (m i : Nat), s.length - i < m ->
  Q .next [some (.loc n), a, some (.int (ai cT s i : Int)), b] σ -> WE T fh fB X m [some (.loc n), a, some (.int (i : Int)), b] σ Q := by
 intro m
 induction m with
 | zero => intro i hm; exact absurd hm (Nat.not_lt_zero _)
 | succ m ih =>
  intro i hm h
  refine aq (bj hn) ?_
  cases hc : s[i]? with
  | none =>
   rw [bv hc] at h
   exact az (λ q => xH hc q) λ _ => bC h
  | some c =>
   have hl := ag hc
   have go : cT c = true -> WE T fh fB X m [some (.loc n), a, some (.int ((i + 1 : Nat) : Int)), b] σ Q := λ e => ih (i + 1) (by exact (lnr [_,_,_] [] 0x216190A10119162910A193) hm hl) (by rw [bP hc e] at h; exact h)
   refine az (λ _ => aq (bj hn) (ay (cb hc) (fj h1 ⟨λ e => dI (go ?_), λ e => aq (bj hn) (ay (cb hc) (bm h2 (ah (λ e2 => go ?_) λ e2 => ?_)))⟩))) λ q => lG hc q
   ·unfold cT; rw [e]; rfl
   ·unfold cT; rw [mr, decide_eq_true (pf (b := 10) e2), Bool.or_true]
   ·rw [cZ hc (show cT c = false by unfold cT; rw [mr, e, decide_eq_false (GX (k := 10) e2)]; rfl)] at h
    exact h
theorem B3 {s : List Nat} {i e k : Nat} {p : Nat -> Bool} (hs : s.all p = true) : ((sub s i e).drop k).all p = true := by
 rw [List.all_eq_true] at hs ⊢
 exact λ x hx => hs x (List.mem_of_mem_take (List.mem_of_mem_drop (List.mem_of_mem_drop hx)))
theorem sW {s : List Nat} (h : s.all (· < 128) = true) : jo .lower (.str s) = some (.str (s.map oh)) := if_pos h
theorem vc_r_register (h1 : T .r_place = k_r_place) (h2 : T .r_passed = k_r_passed) (h3 : T .is_letter = k_is_letter) (h4 : T .digit_of = k_digit_of) (h : k_r_register args σ Q X) : aJ T 4 1 gq args σ Q X := by
 obtain ⟨n, s, line, i, rfl, hn, hs, h⟩ := h
 refine ar rfl rfl (aZ (ci hn) (aq (bt hn) (bx h1 hn (aq (bt hn) ?_))))
 refine ⟨_, s6 h3 h4 hn _ (i + 1) (Nat.lt_succ_self _) ?_⟩
 refine aZ (ci hn) (bL h2 hn ?_)
 have e : iq (sub s i (ai cT s (i + 1))) (some (1 : Int)) none = (sub s i (ai cT s (i + 1))).drop 1 := ee _ 1
 refine bF (a := .str (((sub s i (ai cT s (i + 1))).drop 1).map oh)) ?_ h
 exact (congrArg (λ l => jo .lower (.str l)) e).trans (sW (B3 hs))
theorem rG {s : List Nat} {i c : Nat} (h : s[i]? = some c) : sub s i (i + 2) = c :: (match s[i + 1]? with | some d => [d] | none => []) := by
 unfold sub
 rw [List.drop_take, show i + 2 - i = 2 by exact (lnr [_] [] 0x2602609A21), bT h]
 cases h' : s[i + 1]? with
 | none => rw [eS h']; rfl
 | some d => rw [bT h']; rfl
theorem vc_r_mark (h1 : T .r_place = k_r_place) (h2 : T .r_passed = k_r_passed) (h : k_r_mark args σ Q X) : aJ T 4 1 mV args σ Q X := by
 obtain ⟨n, s, line, i, c, rfl, hn, hc, h⟩ := h
 refine ar rfl rfl (aZ (ci hn) (aq (bt hn) (bx h1 hn (aq (bj hn) (aq (bt hn) (ay (cb hc) ?_))))))
 refine eI (r := !gj.contains c) (λ e => ?_) λ e => ?_
 ·rw [if_neg (λ q => by rw [q] at e; cases e)] at h
  exact h
 ·rw [if_pos ((Bool.not_eq_false' _).mp e)] at h
  refine aq (bj hn) (aq (bt hn) (aq (bt hn) (aZ (ci hn) ?_)))
  have hk : (if sub s i (i + 2) = [60, 60] ∨ sub s i (i + 2) = [62, 62] then i + 2 else i + 1) = dm s i := rfl
  rw [← show iq s (some (i : Int)) (some ((i + 2 : Nat) : Int)) = sub s i (i + 2) from fF s i (i + 2)] at hk
  generalize dm s i = k at h hk
  refine ⟨λ e1 => dI (aq (bt hn) ?_), λ e1 => ah (λ e2 => aq (bt hn) ?_) λ e2 => aq (bt hn) ?_⟩
  ·obtain rfl := bM (.inl (of_decide_eq_true e1)) hk
   exact bL (k := i + 2) h2 hn h
  ·obtain rfl := bM (.inr e2) hk
   exact bL (k := i + 2) h2 hn h
  ·obtain rfl := bN (λ q => q.elim (of_decide_eq_false e1) e2) hk
   exact bL (k := i + 1) h2 hn h
end
inductive TR | bad (p : Nat) | ok (k : List Nat) (v : AV) (e : Nat)
noncomputable def cj : List Nat := [110, 97, 109, 101]
noncomputable def oo : List Nat := [110, 117, 109, 98, 101, 114]
noncomputable def iC : List Nat := [116, 101, 120, 116]
noncomputable def jL : List Nat := [114, 101, 103, 105, 115, 116, 101, 114]
noncomputable def uI : List Nat := [115, 105, 103, 110]
noncomputable def eM : List Nat := [108, 111, 99, 97, 108]
noncomputable def cM : List Nat := [101, 110, 100]
noncomputable def bE (s : List Nat) (i : Nat) : Bool := match s[i]? with | some d => isAl d | none => false
noncomputable def dJ (s : List Nat) (i c : Nat) : TR :=
 if de c = true then .ok cj (.str (sub s i (ai aY s i))) (ai aY s i)
 else if isDi c = true then (match fX (sub s i (ai aY s i)) with | none => .bad i | some (k, v) => .ok k (.int v) (ai aY s i))
 else if c = 39 then (if (au s i).1 < 0 then .bad i else .ok oo (.int (au s i).1) (au s i).2)
 else if c = 34 then (match bc s i (i + 1) [] with | .bad p => .bad p | .ok w e => .ok iC (.str w) e)
 else if c = 37 ∧ bE s (i + 1) = true then .ok jL (.str ((sub s i (ai cT s (i + 1))).drop 1 |>.map oh)) (ai cT s (i + 1))
 else if gj.contains c = true then .ok uI (.str (sub s i (dm s i))) (dm s i) else .bad i
noncomputable def k_r_token : ac := λ args σ Q X => ∃ (n : Nat) (s : List Nat) (line : Int) (i c : Nat), args = [.loc n] ∧ σ[n]? = some (RD s line i) ∧ s[i]? = some c ∧ s.length ≤ 1000 ∧ s.all (· < 128) = true ∧
 match dJ s i c with
 | .bad p => ∀ a, X (PL line p) (σ.set n (RD s line a))
 | .ok k v e => Q (TK k (sub s i e) v (PL line i)) (σ.set n (RD s line e))
section
variable {T : Fn -> ac} {σ : aa} {Q X : AV -> aa -> Prop} {args : List AV}
theorem vc_r_token (h1 : T .r_place = k_r_place) (h2 : T .r_passed = k_r_passed) (h3 : T .r_name_end = k_r_name_end) (h4 : T .begins_name = k_begins_name) (h5 : T .digit_of = k_digit_of) (h6 : T .r_number = k_r_number) (h7 : T .r_constant = k_r_constant)
  (h8 : T .r_quote = k_r_quote) (h9 : T .is_letter = k_is_letter) (h10 : T .r_register = k_r_register) (h11 : T .r_mark = k_r_mark) (h : k_r_token args σ Q X) : aJ T 4 1 kX args σ Q X := by
 obtain ⟨n, s, line, i, c, rfl, hn, hc, hs, hall, h⟩ := h
 refine ar rfl rfl (aq (bj hn) (aq (bt hn) (ay (cb hc) (kY h4 ?_))))
 have hr : (if de c = true then _ else if isDi c = true then _ else if c = 39 then _ else if c = 34 then _ else if c = 37 ∧ bE s (i + 1) = true then _ else if gj.contains c = true then _ else _) = dJ s i c := rfl
 generalize dJ s i c = r at h hr
 refine eI (λ e => ?_) λ e => ?_
 ·obtain rfl := bM e hr
  exact aZ (ci hn) (aq (bt hn) (bx h1 hn (aZ (ci hn) (aZ (ci hn) (aq (bt hn) (gW h3 hn (bL h2 hn h)))))))
 replace hr := bN (λ q => by rw [q] at e; cases e) hr
 refine bm h5 (ah (λ e => ?_) λ e => ?_)
 ·replace hr := bM (show isDi c = true by rw [mr]; exact decide_eq_true (pf (b := 10) e)) hr
  refine aZ (ci hn) λ Q' X' q x => ?_
  rw [h6]
  refine ⟨n, s, line, i, rfl, hn, hs, ?_⟩
  cases hq : fX (sub s i (ai aY s i)) with
  | none => rw [hq] at hr; subst hr; exact x _ _ (h _)
  | some p => rw [hq] at hr; subst hr; exact q _ _ h
 replace hr := bN (show ¬ isDi c = true by rw [mr]; exact λ q => GX (k := 10) e (of_decide_eq_true q)) hr
 have self := tJ hn
 refine ah (λ e => ?_) λ e => ?_
 ·replace hr := bM (one e) hr
  refine aZ (ci hn) λ Q' X' q x => ?_
  rw [h7]
  refine ⟨n, s, line, i, rfl, hn, ?_⟩
  split
  ·rename_i e
   obtain rfl := bM e hr
   exact x _ _ (by have := h i; rwa [self] at this)
  ·rename_i e
   obtain rfl := bN e hr
   exact q _ _ h
 replace hr := bN (fY e) hr
 refine ah (λ e => ?_) λ e => ?_
 ·replace hr := bM (one e) hr
  refine aZ (ci hn) λ Q' X' q x => ?_
  rw [h8]
  refine ⟨n, s, line, i, rfl, hn, hs, ?_⟩
  cases hq : bc s i (i + 1) [] with
  | bad p => rw [hq] at hr; subst hr; exact x _ _ (by have := h i; rwa [self] at this)
  | ok w e => rw [hq] at hr; subst hr; exact q _ _ h
 replace hr := bN (fY e) hr
 have mk : ¬ (c = 37 ∧ bE s (i + 1) = true) -> aT (T .r_mark) [.loc n] σ Q X := λ e Q' X' q x => by
  replace hr := bN e hr
  rw [h11]
  refine ⟨n, s, line, i, c, rfl, hn, hc, ?_⟩
  split
  ·rename_i e; obtain rfl := bM e hr; exact q _ _ h
  ·rename_i e; obtain rfl := bN e hr; exact x _ _ (by have := h i; rwa [self] at this)
 refine az (λ e => aq (bt hn) (aq (bj hn) ?_)) λ e => bC (aZ (ci hn) (mk λ q => fY e q.1))
 cases hd : s[i + 1]? with
 | none => exact az (λ q => xH hd q) λ _ => bC (aZ (ci hn) (mk λ q => by unfold bE at q; rw [hd] at q; exact nomatch q.2))
 | some d =>
  refine az (λ _ => aq (bj hn) (aq (bt hn) (ay (cb (n := i + 1) hd) (fj h9 (eI (λ e6 => ?_) λ e6 => ?_))))) λ q => lG hd q
  ·obtain rfl := bM ⟨one e, show bE s (i + 1) = true by unfold bE; rw [hd]; exact e6⟩ hr
   exact aZ (ci hn) λ Q' X' q x => by rw [h10]; exact ⟨n, s, line, i, rfl, hn, hall, q _ _ h⟩
  ·exact aZ (ci hn) (mk λ q => by unfold bE at q; rw [hd] at q; exact nomatch e6.symm.trans q.2)
end
theorem cY (p : Nat -> Bool) (s : List Nat) (i : Nat) : i ≤ ai p s i := Nat.le_add_right _ _
theorem eX {s : List Nat} {a : Nat} : ∀ (n i : Nat) (w w' : List Nat) (e : Nat), s.length - i < n -> bc s a i w = .ok w' e -> i < e ∧ e ≤ s.length := by
 intro n
 induction n with
 | zero => intro i _ _ _ h; exact (((lnr [_,_] [] 0xA0610A192) h : False).elim)
 | succ n ih =>
  intro i w w' e hn h
  cases hc : s[i]? with
  | none => rw [cO hc] at h; cases h
  | some c =>
   have := ag hc
   have := cH s i
   rw [bO hc] at h
   split at h
   ·cases h; exact (lnr [_,_] [] 0x116090160901710192) ‹_›
   ·split at h
    ·split at h
     ·cases h
     ·have := ih _ _ _ _ (by exact (lnr [_,_,_,_] [] 0x210A113190319162930A194) hn ‹_› this) h; exact (lnr [_,_,_,_] [] 0x21010172101317930194) ‹_› this
    ·split at h
     ·cases h
     ·have := ih _ _ _ _ (by exact (lnr [_,_,_] [] 0x216190A10119162910A193) hn ‹_›) h; exact (lnr [_,_,_] [] 0x2101017210116091793) this
theorem qN {s : List Nat} {i c : Nat} (hc : s[i]? = some c) (h : aY c = true) : i < ai aY s i := by
 rw [bP hc h]; exact cY _ _ _
theorem mX {c : Nat} (h : de c = true) : aY c = true := by
 unfold de at h; unfold aY
 rw [Bool.or_eq_true, Bool.or_eq_true] at h
 rcases h with (h | h) | h <;> simp [h]
theorem d7 {s : List Nat} {i c e : Nat} {k : List Nat} {v : AV} (hc : s[i]? = some c) (h : dJ s i c = .ok k v e) : i < e := by
 unfold dJ at h
 split at h
 ·rename_i hb; cases h; exact qN hc (mX hb)
 split at h
 ·rename_i hd
  split at h
  ·cases h
  ·cases h; exact qN hc (by unfold aY; rw [hd]; rfl)
 split at h
 ·split at h
  ·cases h
  ·cases h; exact iY s i
 split at h
 ·split at h
  ·cases h
  ·rename_i hq; cases h; have := eX _ _ _ _ _ (Nat.lt_succ_self _) hq; exact (lnr [_,_,_] [] 0x101210116091793) this
 split at h
 ·cases h; have := cY cT s (i + 1); exact (lnr [_,_] [] 0x10111609092) this
 split at h
 ·cases h; unfold dm; split <;> (first | exact (lnr [_] [] 0x2609011) | exact (lnr [_] [] 0x1609011))
 ·cases h
theorem kI {p : Nat -> Bool} {s : List Nat} {i : Nat} (h : i ≤ s.length) : ai p s i ≤ s.length := by
 unfold ai gY
 have : ((s.drop i).takeWhile p).length ≤ (s.drop i).length := (List.takeWhile_sublist p).length_le
 rw [List.length_drop] at this
 exact (lnr [_,_,_] [] 0x2109002A10920093) h this
theorem pH {s : List Nat} {i c : Nat} (h : s[i]? = some c) : (au s i).2 ≤ s.length := by
 have h0 := ag h
 unfold au
 split
 ·dsimp only; exact (lnr [_,_] [] 0x11609010192) h0
 ·rename_i d hd
  have h1 := ag hd
  have hk : (ae s i d).2 ≤ s.length := by
   unfold ae
   split
   ·exact qB hd
   ·split <;> (dsimp only; exact (lnr [_,_] [] 0x12609011609192) h1)
  split
  ·dsimp only; exact (lnr [_,_] [] 0x11609011609192) h1
  ·split
   ·rename_i q; have := ag q.2; dsimp only; exact (lnr [_,_] [] 0x11609010192) this
   ·exact hk
theorem fK {s : List Nat} {i c e : Nat} {k : List Nat} {v : AV} (hc : s[i]? = some c) (h : dJ s i c = .ok k v e) : e ≤ s.length := by
 have h0 := ag hc
 unfold dJ at h
 split at h
 ·cases h; exact kI (by exact (lnr [_,_] [] 0x10010192) h0)
 split at h
 ·split at h
  ·cases h
  ·cases h; exact kI (by exact (lnr [_,_] [] 0x10010192) h0)
 split at h
 ·split at h
  ·cases h
  ·cases h; exact pH hc
 split at h
 ·split at h
  ·cases h
  ·rename_i hq; cases h; exact (eX _ _ _ _ _ (Nat.lt_succ_self _) hq).2
 split at h
 ·cases h; exact kI (by exact (lnr [_,_] [] 0x11609010192) h0)
 split at h
 ·cases h
  unfold dm
  split
  ·rename_i q
   rw [rG hc] at q
   cases hd : s[i + 1]? with
   | none => rw [hd] at q; simp at q
   | some d => have := ag hd; exact (lnr [_,_] [] 0x12609011609192) this
  ·exact (lnr [_,_] [] 0x11609010192) h0
 ·cases h
structure Tk where
 k : List Nat
 v : AV
 i : Nat
 e : Nat
inductive TS | bad (p : Nat) | done (l : List Tk) (e : Nat)
noncomputable def TS.cons (t : Tk) : TS -> TS
 | .bad p => .bad p
 | .done l e => .done (t :: l) e
noncomputable def toks (s : List Nat) (i : Nat) : TS := match h : s[ai bl s i]? with
 | none => .done [] (ai bl s i)
 | some c => if c = 35 then .done [] (ai bl s i) else match h' : dJ s (ai bl s i) c with
  | .bad p => .bad p
  | .ok k v e => (toks s e).cons ⟨k, v, ai bl s i, e⟩
termination_by s.length - i
decreasing_by have := d7 h h'; have := ag h; have := cY bl s i; exact (lnr [_,_,_,_] [] 0x20A10A13209031913194) ‹_› ‹_› this
theorem cE {s : List Nat} {i : Nat} (h : s[ai bl s i]? = none) : toks s i = .done [] (ai bl s i) := by rw [toks]; split <;> simp_all
theorem dX {s : List Nat} {i : Nat} (h : s[ai bl s i]? = some 35) : toks s i = .done [] (ai bl s i) := by
 rw [toks]; split
 ·rfl
 ·rename_i c h'; rw [h] at h'; cases h'; rfl
theorem cU {s : List Nat} {i c : Nat} (h : s[ai bl s i]? = some c) (hn : c ≠ 35) : toks s i = match dJ s (ai bl s i) c with
  | .bad p => .bad p
  | .ok k v e => (toks s e).cons ⟨k, v, ai bl s i, e⟩ := by
 rw [toks]; split
 ·rename_i h'; rw [h] at h'; cases h'
 ·rename_i c' h'
  rw [h] at h'; cases h'
  rw [if_neg hn]
  split <;> rename_i h2 <;> rw [h2]
theorem kL {s : List Nat} : ∀ {i : Nat} {l : List Tk} {e : Nat}, i ≤ s.length -> toks s i = .done l e -> l.length ≤ s.length - i := by
 have key : ∀ (n i : Nat) (l : List Tk) (e : Nat), s.length - i < n -> i ≤ s.length -> toks s i = .done l e -> l.length ≤ s.length - i := by
  intro n
  induction n with
  | zero => intro i _ _ h; exact (((lnr [_,_] [] 0xA0610A192) h : False).elim)
  | succ n ih =>
   intro i l e hn hi h
   have hge := cY bl s i
   cases hc : s[ai bl s i]? with
   | none => rw [cE hc] at h; cases h; exact Nat.zero_le _
   | some c =>
    by_cases e35 : c = 35
    ·subst e35; rw [dX hc] at h; cases h; exact Nat.zero_le _
    ·rw [cU hc e35] at h
     have hl := ag hc
     split at h
     ·cases h
     ·rename_i k v e' ht
      have hgt := d7 hc ht
      have hle := fK hc ht
      cases hq : toks s e' with
      | bad p => rw [hq] at h; cases h
      | done l' e2 =>
       rw [hq] at h
       cases h
       have := ih e' l' _ (by exact (lnr [_,_,_,_,_] [] 0x210A1010913193409162940A195) hn hge hgt hle) hle hq
       simp only [List.length_cons]
       exact (lnr [_,_,_,_,_] [] 0x21A1609031A0091309341942095) hge hgt hle this
 exact λ {i} {l} {e} hi h => key _ i l e (Nat.lt_succ_self _) hi h
noncomputable def eA (s : List Nat) (line : Int) (t : Tk) : AV := TK t.k (sub s t.i t.e) t.v (PL line t.i)
noncomputable def dA (line : Int) (e : Nat) : AV := TK cM [] (.str []) (PL line e)
noncomputable def k_line_tokens : ac := λ args σ Q X => ∃ (s : List Nat) (line : Int), args = [.str s, .int line] ∧ s.length ≤ 1000 ∧ s.all (· < 128) = true ∧
 match toks s 0 with
 | .bad p => ∀ τ, X (PL line p) (σ ++ τ)
 | .done l e => ∀ τ n, (σ ++ τ)[n]? = some (.list (l.map (eA s line) ++ [dA line e])) -> Q (.loc n) (σ ++ τ)
theorem D8 (s : List Nat) (line : Int) (σ : aa) : om .reader [.str s, .int line] σ = some (.loc σ.length, σ ++ [RD s line 0]) := rfl
theorem Bv (σ : aa) (a : aG) : (σ ++ [a]).length = σ.length + 1 := by simp
theorem w9 (σ : aa) (a b : aG) : σ ++ [a] ++ [b] = σ ++ [a, b] := by simp
theorem jm (σ : aa) (a b : aG) : (σ ++ [a, b])[σ.length]? = some a := by simp
theorem kq (σ : aa) (a b : aG) : (σ ++ [a, b])[σ.length + 1]? = some b := by simp
theorem zZ (σ : aa) (a b c : aG) : (σ ++ [a, b]).set σ.length c = σ ++ [c, b] := by simp
theorem CD (σ : aa) (a b c : aG) : (σ ++ [a, b]).set (σ.length + 1) c = σ ++ [a, c] := by simp
section
variable {T : Fn -> ac} {σ : aa} {Q X : AV -> aa -> Prop} {args : List AV}
theorem dP (e : T .line_tokens = k_line_tokens) {s : List Nat} {line : Int} (hs : s.length ≤ 1000) (hall : s.all (· < 128) = true) (h : match toks s 0 with
 | .bad p => ∀ τ, X (PL line p) (σ ++ τ)
 | .done l e => ∀ τ n, (σ ++ τ)[n]? = some (.list (l.map (eA s line) ++ [dA line e])) -> Q (.loc n) (σ ++ τ)) : aT (T .line_tokens) [.str s, .int line] σ Q X := λ Q' X' q x => by
 rw [e]
 refine ⟨s, line, rfl, hs, hall, ?_⟩
 cases hq : toks s 0 with
 | bad p => rw [hq] at h; exact λ τ => x _ _ (h τ)
 | done l e => rw [hq] at h; exact λ τ n z => q _ _ (h τ n z)
theorem oi (h1 : T .r_is_done = k_r_is_done) (h2 : T .r_token = k_r_token) {s : List Nat} {line : Int} (hs : s.length ≤ 1000) (hall : s.all (· < 128) = true) {a b : Option AV} {Q : aA -> aj -> aa -> Prop} : ∀ (m i : Nat) (L : List AV), s.length - i < m -> L.length ≤ i -> i ≤ s.length ->
  (match toks s i with | .bad p => ∀ τ, X (PL line p) (σ ++ τ) | .done l e => Q .next [a, b, some (.loc σ.length), some (.loc (σ.length + 1))] (σ ++ [RD s line e, .list (L ++ l.map (eA s line))])) ->
  WE T cy bU X m [a, b, some (.loc σ.length), some (.loc (σ.length + 1))] (σ ++ [RD s line i, .list L]) Q := by
 intro m
 induction m with
 | zero => intro i L hm; exact absurd hm (Nat.not_lt_zero _)
 | succ m ih =>
  intro i L hm hL hi h
  have hlim : L.length < fD := Nat.lt_of_le_of_lt (Nat.le_trans hL (Nat.le_trans hi hs)) (by decide)
  have hge := cY bl s i
  refine aZ (ci (jm σ _ _)) (m6 h1 (jm σ _ _) ?_)
  rw [zZ]
  have done : gG s (ai bl s i) = true -> toks s i = .done [] (ai bl s i) -> te (.bool (!gG s (ai bl s i))) (bB T bU [a, b, some (.loc σ.length), some (.loc (σ.length + 1))] (σ ++ [RD s line (ai bl s i), .list L]) (λ fl ρ' σ'' => match fl with | .next => WE T cy bU X m ρ' σ'' Q | .brk => Q .next ρ' σ'' | .ret v => Q (.ret v) ρ' σ'') X)
    (Q .next [a, b, some (.loc σ.length), some (.loc (σ.length + 1))] (σ ++ [RD s line (ai bl s i), .list L])) := λ e1 e2 => by
   rw [e2] at h
   rw [e1]
   refine bC ?_
   have h : Q .next _ (σ ++ [_, .list (L ++ [])]) := h
   rw [List.append_nil] at h
   exact h
  cases hc : s[ai bl s i]? with
  | none => exact done (by unfold gG; rw [hc]) (cE hc)
  | some c =>
   by_cases e : c = 35
   ·subst e
    exact done (by unfold gG; rw [hc]; rfl) (dX hc)
   ·rw [cU hc e] at h
    have hl := ag hc
    refine eI (λ _ => ?_) λ q => ?_
    ·refine dS (lu (kq σ _ _)) (aZ (ci (jm σ _ _)) λ Q' X' q x => ?_)
     rw [h2]
     refine ⟨_, s, line, _, c, rfl, jm _ _ _, hc, hs, hall, ?_⟩
     cases ht : dJ s (ai bl s i) c with
     | bad p => rw [ht] at h; intro a'; rw [zZ]; exact x _ _ (h _)
     | ok k v e' =>
      rw [ht] at h
      have hgt := d7 hc ht
      have hle := fK hc ht
      dsimp only
      rw [zZ]
      refine q _ _ (dS (lu (kq σ _ _)) ⟨hlim, ?_⟩)
      rw [CD]
      refine ih e' _ (by exact (lnr [_,_,_,_,_] [] 0x210A1010913193409162940A195) hm hge hgt hle) (by rw [List.length_append]; exact Nat.le_trans (Nat.succ_le_succ (Nat.le_trans hL hge)) hgt) hle ?_
      dsimp only at h
      cases hq : toks s e' with
      | bad p => rw [hq] at h; exact h
      | done l e2 =>
       rw [hq] at h
       dsimp only
       rw [List.append_assoc]
       exact h
    ·rw [show gG s (ai bl s i) = false by unfold gG; rw [hc]; exact beq_false_of_ne e] at q
     exact nomatch q
theorem vc_line_tokens (h1 : T .r_is_done = k_r_is_done) (h2 : T .r_token = k_r_token) (h3 : T .r_place = k_r_place) (h : k_line_tokens args σ Q X) : aJ T 4 2 fQ args σ Q X := by
 obtain ⟨s, line, rfl, hs, hall, h⟩ := h
 refine ar rfl rfl ?_
 have start : ∀ {K}, bB T (.cons (.while cy bU) K) [some (.str s), some (.int line), some (.loc σ.length), some (.loc (σ.length + 1))] (σ ++ [RD s line 0, .list []]) (fk Q) X ->
   bB T (.cons (.asg 3 (.lst .nil)) (.cons (.while cy bU) K)) [some (.str s), some (.int line), some (.loc σ.length), none] (σ ++ [RD s line 0]) (fk Q) X := λ z => by
  rw [← w9, ← Bv σ (RD s line 0)] at z; exact z
 refine start ⟨_, oi h1 h2 hs hall _ 0 [] (Nat.lt_succ_self _) (Nat.le_refl _) (Nat.zero_le _) ?_⟩
 cases hq : toks s 0 with
 | bad p => rw [hq] at h; exact h
 | done l e =>
  rw [hq] at h
  have hlim : l.length < fD := Nat.lt_of_le_of_lt (Nat.le_trans (kL (Nat.zero_le _) hq) hs) (by decide)
  refine dS (lu (kq σ _ _)) (aZ (ci (jm σ _ _)) (aq (bt (jm σ _ _)) (bx h3 (jm σ _ _) (dS (lu (kq σ _ _)) ⟨by rw [List.nil_append, List.length_map]; exact hlim, ?_⟩))))
  show Q (.loc (σ.length + 1)) ((σ ++ [RD s line e, .list (l.map (eA s line))]).set (σ.length + 1) (.list (l.map (eA s line) ++ [dA line e])))
  rw [CD]
  exact h _ _ (kq _ _ _)
end
theorem aD {ev : AV -> (Option AV -> Prop) -> Prop} (f : AV -> Option AV) {Q : List AV -> Prop} : ∀ (items acc : List AV), (∀ v ∈ items, ∀ K, K (f v) -> ev v K) -> Q (acc ++ items.filterMap f) -> sh ev items acc Q
 | [], acc, _, h => by rw [List.filterMap_nil, List.append_nil] at h; exact h
 | v :: vs, acc, he, h => by
  unfold sh
  refine he v List.mem_cons_self _ ?_
  cases hv : f v with
  | none =>
   rw [List.filterMap_cons_none hv] at h
   exact aD f vs _ (λ w hw => he w (List.mem_cons_of_mem _ hw)) h
  | some x =>
   rw [List.filterMap_cons_some hv] at h
   exact aD f vs _ (λ w hw => he w (List.mem_cons_of_mem _ hw)) (by rw [List.append_assoc]; exact h)
theorem jP : ∀ l : List (List Nat), o7 (l.map .str) = some l
 | [] => rfl
 | x :: l => congrArg (Option.map (x :: ·)) (jP l)
theorem cu {σ : aa} {n : Nat} {l : List AV} (h : σ[n]? = some (.list l)) : my σ (.loc n) = some l := dE h
theorem tH {α : Type} (v : α) : ∀ l : List α, setL l l.length v = l ++ [v]
 | [] => rfl
 | a :: l => congrArg (a :: ·) (tH v l)
theorem z6 {σ : aa} {n : Nat} {c : dL} {vs : List AV} {f : hJ} {v : AV} (h : σ[n]? = some (.inst c vs)) (hf : j4 c f = some vs.length) : setField σ n f v = some (σ.set n (.inst c (vs ++ [v]))) := by
 refine (d6 h).trans ?_
 show Option.bind (j4 c f) _ = _
 rw [hf]
 exact (if_pos (Nat.le_refl _)).trans (by rw [tH])
noncomputable def aW (s : List Nat) (l : List Tk) : List (List Nat) := l.map λ t => sub s t.i t.e
noncomputable def k_show_tokens : ac := λ args σ Q _ => ∃ (n : Nat) (s : List Nat) (line : Int) (l : List Tk) (e : Nat), args = [.loc n] ∧ σ[n]? = some (.list (l.map (eA s line) ++ [dA line e])) ∧ s.length ≤ 1000 ∧ l.length ≤ 1000 ∧ (∀ t ∈ l, t.k ≠ cM) ∧
 ∀ τ, Q (.str (bV [32] (aW s l))) (σ ++ τ)
noncomputable def qe : AV -> Option AV
 | .inst .token [.str k, w, _, _] => if k = cM then none else some w
 | _ => none
theorem o5 (k w : List Nat) (a b : AV) : qe (TK k w a b) = if k = cM then none else some (.str w) := rfl
noncomputable def qc (c : Nat) : List Nat := if c = 34 ∨ c = 92 then [92, c] else if 32 ≤ c ∧ c ≤ 126 then [c] else [92, 48 + c / 64, 48 + c / 8 % 8, 48 + c % 8]
noncomputable def aV (w : List Nat) : List Nat := [34] ++ w.flatMap qc ++ [34]
noncomputable def k_quoted : ac := λ args σ Q _ => ∃ (w : List Nat), args = [.str w] ∧ w.length ≤ 100 ∧ (∀ c ∈ w, c < 256) ∧ Q (.str (aV w)) σ
noncomputable def CU (m i : Nat) : aG := .inst .cursor [.loc m, .int (i : Int)]
noncomputable def k_c_peek : ac := λ args σ Q _ => ∃ (n m i : Nat) (L : List AV) (t : AV), args = [.loc n] ∧ σ[n]? = some (CU m i) ∧ σ[m]? = some (.list L) ∧ L[i]? = some t ∧ Q t σ
noncomputable def k_c_take : ac := λ args σ Q _ => ∃ (n m i : Nat) (L : List AV) (k w : List Nat) (v p : AV), args = [.loc n] ∧ σ[n]? = some (CU m i) ∧ σ[m]? = some (.list L) ∧ L[i]? = some (TK k w v p) ∧
 (k = cM -> Q (TK k w v p) σ) ∧ (k ≠ cM -> Q (TK k w v p) (σ.set n (CU m (i + 1))))
noncomputable def k_c_is_end : ac := λ args σ Q _ => ∃ (n m i : Nat) (L : List AV) (k w : List Nat) (v p : AV), args = [.loc n] ∧ σ[n]? = some (CU m i) ∧ σ[m]? = some (.list L) ∧ L[i]? = some (TK k w v p) ∧ Q (.bool (decide (k = cM))) σ
noncomputable def k_c_skip_name : ac := λ args σ Q _ => ∃ (n m i : Nat) (L : List AV) (k w x : List Nat) (v p : AV), args = [.loc n, .str x] ∧ σ[n]? = some (CU m i) ∧ σ[m]? = some (.list L) ∧ L[i]? = some (TK k w v p) ∧
 (k = cj ∧ w = x -> Q (.bool true) (σ.set n (CU m (i + 1)))) ∧ (¬ (k = cj ∧ w = x) -> Q (.bool false) σ)
theorem iZ {σ : aa} {n m i : Nat} (h : σ[n]? = some (CU m i)) : cI σ (.loc n) .tokens = some (.loc m) := d6 h
theorem ll {σ : aa} {n m i : Nat} (h : σ[n]? = some (CU m i)) : cI σ (.loc n) .pat = some (.int (i : Int)) := d6 h
theorem se {σ : aa} {n m i : Nat} (h : σ[n]? = some (CU m i)) : sf σ (.loc n) = some .cursor := d6 h
theorem CE {σ : aa} {n m i : Nat} (h : σ[n]? = some (CU m i)) (e : Nat) : setField σ n .pat (.int (e : Int)) = some (σ.set n (CU m e)) := d6 h
theorem kr {σ : aa} {m : Nat} {L : List AV} (h : σ[m]? = some (.list L)) (i : Nat) : jn σ (.loc m) (.int (i : Int)) = L[i]? := (dE h).trans (jI L i)
theorem Gp : ([110, 97, 109, 101] : List Nat) = cj := rfl
theorem GW : ([101, 110, 100] : List Nat) = cM := rfl
section
variable {T : Fn -> ac} {σ : aa} {Q X : AV -> aa -> Prop} {args : List AV}
theorem lM (e : T .quoted = k_quoted) {w : List Nat} (hl : w.length ≤ 100) (hc : ∀ c ∈ w, c < 256) (h : Q (.str (aV w)) σ) : aT (T .quoted) [.str w] σ Q X := λ _ _ q _ => e ▸ ⟨w, rfl, hl, hc, q _ _ h⟩
theorem lf (e : T .show_tokens = k_show_tokens) {n : Nat} {s : List Nat} {line : Int} {l : List Tk} {e' : Nat} (hn : σ[n]? = some (.list (l.map (eA s line) ++ [dA line e']))) (hs : s.length ≤ 1000) (hl : l.length ≤ 1000) (hk : ∀ t ∈ l, t.k ≠ cM)
  (h : ∀ τ, Q (.str (bV [32] (aW s l))) (σ ++ τ)) : aT (T .show_tokens) [.loc n] σ Q X := λ _ _ q _ => e ▸ ⟨n, s, line, l, e', rfl, hn, hs, hl, hk, λ τ => q _ _ (h τ)⟩
section
variable {n m i : Nat} {L : List AV}
theorem rZ (e : T .c_peek = k_c_peek) (hn : σ[n]? = some (CU m i)) (hm : σ[m]? = some (.list L)) {t : AV} (hi : L[i]? = some t) (h : Q t σ) : aT (T .c_peek) [.loc n] σ Q X := λ _ _ q _ => e ▸ ⟨n, m, i, L, t, rfl, hn, hm, hi, q _ _ h⟩
variable {k w : List Nat} {v p : AV}
theorem lL (e : T .c_take = k_c_take) (hn : σ[n]? = some (CU m i)) (hm : σ[m]? = some (.list L)) (hi : L[i]? = some (TK k w v p)) (h : k = cM -> Q (TK k w v p) σ) (h' : k ≠ cM -> Q (TK k w v p) (σ.set n (CU m (i + 1)))) : aT (T .c_take) [.loc n] σ Q X :=
 λ _ _ q _ => e ▸ ⟨n, m, i, L, k, w, v, p, rfl, hn, hm, hi, λ z => q _ _ (h z), λ z => q _ _ (h' z)⟩
theorem pg (e : T .c_is_end = k_c_is_end) (hn : σ[n]? = some (CU m i)) (hm : σ[m]? = some (.list L)) (hi : L[i]? = some (TK k w v p)) (h : Q (.bool (decide (k = cM))) σ) : aT (T .c_is_end) [.loc n] σ Q X := λ _ _ q _ => e ▸ ⟨n, m, i, L, k, w, v, p, rfl, hn, hm, hi, q _ _ h⟩
theorem kZ (e : T .c_skip_name = k_c_skip_name) (hn : σ[n]? = some (CU m i)) (hm : σ[m]? = some (.list L)) {x : List Nat} (hi : L[i]? = some (TK k w v p)) (h : k = cj ∧ w = x -> Q (.bool true) (σ.set n (CU m (i + 1)))) (h' : ¬ (k = cj ∧ w = x) -> Q (.bool false) σ) :
  aT (T .c_skip_name) [.loc n, .str x] σ Q X := λ _ _ q _ => e ▸ ⟨n, m, i, L, k, w, x, v, p, rfl, hn, hm, hi, λ z => q _ _ (h z), λ z => q _ _ (h' z)⟩
end
theorem vc_place_init (h : iy .place args σ Q X) : aJ T 3 3 gk args σ Q X := by
 obtain ⟨n, rest, vs, rfl, hn, hv, h⟩ := h
 rcases rest with _ | ⟨a, _ | ⟨b, _ | ⟨c, r⟩⟩⟩ <;> first | cases hv | skip
 refine ar rfl rfl (dh (z6 hn rfl) (dh (z6 (d1 hn _) rfl) ?_))
 rw [List.set_set]
 exact h
theorem vc_token_init (h : iy .token args σ Q X) : aJ T 5 5 gu args σ Q X := by
 obtain ⟨n, rest, vs, rfl, hn, hv, h⟩ := h
 rcases rest with _ | ⟨a, _ | ⟨b, _ | ⟨c, _ | ⟨d, _ | ⟨e, r⟩⟩⟩⟩⟩ <;> first | cases hv | skip
 refine ar rfl rfl (dh (z6 hn rfl) (dh (z6 (d1 hn _) rfl) ?_))
 rw [List.set_set]
 refine dh (z6 (d1 hn _) rfl) ?_
 rw [List.set_set]
 refine dh (z6 (d1 hn _) rfl) ?_
 rw [List.set_set]
 exact h
theorem vc_reader_init (h : iy .reader args σ Q X) : aJ T 3 3 fT args σ Q X := by
 obtain ⟨n, rest, vs, rfl, hn, hv, h⟩ := h
 rcases rest with _ | ⟨a, _ | ⟨b, _ | ⟨c, r⟩⟩⟩ <;> first | cases hv | skip
 refine ar rfl rfl (dh (z6 hn rfl) (dh (z6 (d1 hn _) rfl) ?_))
 rw [List.set_set]
 refine dh (z6 (d1 hn _) rfl) ?_
 rw [List.set_set]
 exact h
theorem vc_cursor_init (h : iy .cursor args σ Q X) : aJ T 2 2 fP args σ Q X := by
 obtain ⟨n, rest, vs, rfl, hn, hv, h⟩ := h
 rcases rest with _ | ⟨a, _ | ⟨b, r⟩⟩ <;> first | cases hv | skip
 refine ar rfl rfl (dh (z6 hn rfl) (dh (z6 (d1 hn _) rfl) ?_))
 rw [List.set_set]
 exact h
theorem vc_c_peek (h : k_c_peek args σ Q X) : aJ T 1 1 mR args σ Q X := by
 obtain ⟨n, m, i, L, t, rfl, hn, hm, hi, h⟩ := h
 exact ar rfl rfl (aq (iZ hn) (aq (ll hn) (ay ((kr hm i).trans hi) h)))
theorem vc_c_take (h : k_c_take args σ Q X) : aJ T 2 1 mS args σ Q X := by
 obtain ⟨n, m, i, L, k, w, v, p, rfl, hn, hm, hi, h, h'⟩ := h
 refine ar rfl rfl (aq (iZ hn) (aq (ll hn) (ay ((kr hm i).trans hi) (eu (λ e => ?_) λ e => ?_))))
 ·exact aq (ll hn) (dh (CE hn (i + 1)) (h' e))
 ·exact h e
theorem vc_c_is_end (h : k_c_is_end args σ Q X) : aJ T 1 1 ju args σ Q X := by
 obtain ⟨n, m, i, L, k, w, v, p, rfl, hn, hm, hi, h⟩ := h
 exact ar rfl rfl (aq (iZ hn) (aq (ll hn) (ay ((kr hm i).trans hi) h)))
theorem vc_c_skip_name (h : k_c_skip_name args σ Q X) : aJ T 3 2 fO args σ Q X := by
 obtain ⟨n, m, i, L, k, w, x, v, p, rfl, hn, hm, hi, h, h'⟩ := h
 refine ar rfl rfl (aq (iZ hn) (aq (ll hn) (ay ((kr hm i).trans hi) (az (λ e => ah (λ e2 => ?_) λ e2 => ?_) λ e => bC ?_))))
 ·exact aq (ll hn) (dh (CE hn (i + 1)) (h ⟨e, e2⟩))
 ·exact h' λ q => e2 q.2
 ·exact h' λ q => e q.1
theorem B4 (l : List (List Nat)) (b : Nat) (h : ∀ x ∈ l, x.length ≤ b) : (l.map List.length).sum ≤ l.length * b := by
 induction l with
 | nil => simp
 | cons x l ih =>
  have h1 := h x List.mem_cons_self
  have h2 := ih λ y hy => h y (List.mem_cons_of_mem _ hy)
  rw [List.map_cons, List.sum_cons, List.length_cons, Nat.add_mul]
  exact (lnr [_,_,_,_] [] 0x317291090210930094) h1 h2
theorem sA {s : List Nat} {line : Int} : ∀ {l : List Tk}, (∀ t ∈ l, t.k ≠ cM) -> (l.map (eA s line)).filterMap qe = (aW s l).map .str := by
 intro l hk
 induction l with
 | nil => rfl
 | cons t l ih =>
  rw [List.map_cons, List.filterMap_cons_some (b := AV.str (sub s t.i t.e)) (show qe (eA s line t) = _ from (o5 _ _ _ _).trans (if_neg (hk t List.mem_cons_self))), ih λ u hu => hk u (List.mem_cons_of_mem _ hu)]
  rfl
theorem vc_show_tokens (h : k_show_tokens args σ Q X) : aJ T 2 1 fU args σ Q X := by
 obtain ⟨n, s, line, l, e, rfl, hn, hs, hl, hk, h⟩ := h
 have lim : fD = 1048576 := rfl
 refine ar rfl rfl (gK (cu hn) ⟨rfl, by rw [List.length_append, List.length_map]; exact Nat.le_trans (Nat.succ_le_succ hl) (by decide), ?_⟩)
 refine aD qe _ _ (λ v hv K hK => ?_) ?_
 ·have : ∃ k w a b, v = TK k w a b := by
   rcases List.mem_append.mp hv with hv | hv
   ·obtain ⟨t, _, rfl⟩ := List.mem_map.mp hv; exact ⟨_, _, _, _, rfl⟩
   ·rw [List.mem_singleton.mp hv]; exact ⟨_, _, _, _, rfl⟩
  obtain ⟨k, w, a, b, rfl⟩ := this
  rw [o5] at hK
  exact ⟨rfl, eu (λ ek => ⟨rfl, by rw [if_neg (show ¬ k = cM from ek)] at hK; exact hK⟩) λ ek => by rw [if_pos (show k = cM from ek)] at hK; exact hK⟩
 ·have e1 : (l.map (eA s line) ++ [dA line e]).filterMap qe = (aW s l).map .str := by
   rw [List.filterMap_append, sA hk, List.filterMap_cons_none (show qe (dA line e) = none from (o5 _ _ _ _).trans (if_pos rfl)), List.filterMap_nil, List.append_nil]
  rw [List.nil_append, e1]
  have hsz : ((aW s l).map List.length).sum + (aW s l).length * 1 ≤ fD := by
   have h1 := B4 (aW s l) 1000 (λ x hx => by
    obtain ⟨t, _, rfl⟩ := List.mem_map.mp hx
    exact Nat.le_trans (rF _ _ _) hs)
   have h2 : (aW s l).length = l.length := List.length_map _
   rw [h2] at h1 ⊢
   have : l.length * 1000 ≤ 1000 * 1000 := Nat.mul_le_mul_right _ hl
   exact (lnr [_,_,_] [] 0x21180901FD861FD871FD818091FD818009488888862293) lim h1 this
  have hj : qg .join (σ ++ [.list ((aW s l).map .str)]) (.str [32]) (.loc σ.length) = some (.str (bV [32] (aW s l))) := by
   refine (dE (aL σ _)).trans ?_
   rw [jP]
   exact if_pos hsz
  exact bF hj (h _)
theorem t6 {σ : aa} {i : Int} {n : Nat} (hi : i = n) (h : n ≤ 9) : l9 .str σ (.int i) = some (.str [48 + n]) := by
 subst hi; exact if_pos ⟨by exact (lnr [_] [] 0x0B0631), by exact (lnr [_] [] 0x1960B31960091) h⟩
theorem u1 (c : Nat) : (qc c).length ≤ 4 := by
 unfold qc
 split
 ·simp
 ·split <;> simp
theorem xG {same : aa -> Prop} (hs : same σ) {a : Option AV} {Q : aA -> aj -> aa -> Prop} : ∀ (l f : List Nat) (x y : Option AV), (∀ c ∈ l, c < 256) -> f.length + 4 * l.length ≤ 10000 ->
  (∀ x y, Q .next [a, some (.str (f ++ l.flatMap qc)), x, y] σ) -> FE T [2] same gQ X (eE l) [a, some (.str f), x, y] σ Q := by
 have lim : fD = 1048576 := rfl
 intro l
 induction l with
 | nil => intro f x y _ _ h; refine ⟨hs, ?_⟩; have := h x y; rwa [List.flatMap_nil, List.append_nil] at this
 | cons c l ih =>
  intro f x y hc hf h
  have hlt := hc c List.mem_cons_self
  have hcl : ∀ c ∈ l, c < 256 := λ d hd => hc d (List.mem_cons_of_mem _ hd)
  rw [List.length_cons] at hf
  have nx : ∀ (u : List Nat), qc c = u -> ∀ x y, FE T [2] same gQ X (eE l) [a, some (.str (f ++ u)), x, y] σ Q := λ u e x y =>
   ih _ x y hcl (by have := u1 c; rw [e] at this; rw [List.length_append]; exact (lnr [_,_,_] [] 0x2BCA8624710990461092BCA8616294709093) hf this) (λ x y => by have := h x y; rwa [List.flatMap_cons, e, ← List.append_assoc] at this)
  have ad : ∀ {σ : aa} {u v : List Nat}, u.length ≤ f.length + 4 -> v.length ≤ 1 -> f5 .add (.str u) (.str v) σ = some (.str (u ++ v), σ) := λ h1 h2 => eH (by exact (lnr [_,_,_,_,_] [] 0x210901610946390092BCA861649473909488888862295) lim hf h1 h2)
  have f1 : ∀ {k : List Nat}, k.length ≤ 4 -> (f ++ k).length ≤ f.length + 4 := λ h => by rw [List.length_append]; exact (lnr [_,_] [] 0x46091090461092) h
  refine ⟨hs, ?_⟩
  have two : c = 34 ∨ c = 92 -> ∀ x y, FE T [2] same gQ X (eE l) [a, some (.str (f ++ [92] ++ [c])), x, y] σ Q := λ e x y => by
   rw [List.append_assoc]; exact nx _ (if_pos e) x y
  have ad1 := ad (σ := σ) (u := f) (v := [92]) (Nat.le_add_right _ _) (Nat.le_refl _)
  refine ⟨λ e1 => dI (bh ad1 (bh (ad (f1 (by decide : [92].length ≤ 4)) (Nat.le_refl 1)) (two (.inl (one (of_decide_eq_true e1))) _ _))), λ e1 => ah (λ e2 => bh ad1 (bh (ad (f1 (by decide : [92].length ≤ 4)) (Nat.le_refl 1)) (two (.inr (one e2)) _ _))) λ e2 => ?_⟩
  have n2 : ¬ (c = 34 ∨ c = 92) := λ q => q.elim (fY (of_decide_eq_false e1)) (fY e2)
  refine rA (a := 32) (b := 126) (λ e3 => ?_) λ e3 => ?_
  ·exact bh (ad (u := f) (v := [c]) (Nat.le_add_right _ _) (Nat.le_refl _)) (nx _ ((if_neg n2).trans (if_pos e3)) _ _)
  ·have w1 : (c : Int) / 64 = ((c / 64 : Nat) : Int) := rfl
   have fin := nx _ ((if_neg n2).trans (if_neg e3)) (some (.str [c])) (some (.int (c : Int)))
   have e : f ++ [92, 48 + c / 64, 48 + c / 8 % 8, 48 + c % 8] = f ++ [92] ++ [48 + c / 64] ++ [48 + c / 8 % 8] ++ [48 + c % 8] := by simp only [List.append_assoc]; rfl
   rw [e] at fin
   have k1 := t6 (σ := σ) (i := (c : Int) / 64) (n := c / 64) rfl (by omega)
   have k2 := t6 (σ := σ) (i := (c : Int) / 8 % 8) (n := c / 8 % 8) rfl (by omega)
   have k3 := t6 (σ := σ) (i := (c : Int) % 8) (n := c % 8) rfl (by omega)
   have l1 : (f ++ [92] ++ [48 + c / 64]).length ≤ f.length + 4 := by rw [List.append_assoc]; exact f1 (show 2 ≤ 4 by decide)
   have l2 : (f ++ [92] ++ [48 + c / 64] ++ [48 + c / 8 % 8]).length ≤ f.length + 4 := by rw [List.append_assoc, List.append_assoc]; exact f1 (show 3 ≤ 4 by decide)
   refine bh ad1 (bF k1 (bh (ad (f1 (by decide : [92].length ≤ 4)) (Nat.le_refl 1)) ?_))
   refine bF k2 (bh (ad l1 (Nat.le_refl 1)) ?_)
   exact bF k3 (bh (ad l2 (Nat.le_refl 1)) fin)
theorem vc_quoted (h : k_quoted args σ Q X) : aJ T 4 1 mU args σ Q X := by
 obtain ⟨w, rfl, hl, hc, h⟩ := h
 have lim : fD = 1048576 := rfl
 have : (w.flatMap qc).length ≤ 4 * w.length := by
  clear h hl hc
  induction w with
  | nil => exact Nat.le_refl _
  | cons c w ih => rw [List.flatMap_cons, List.length_append, List.length_cons]; have := u1 c; exact (lnr [_,_,_] [] 0x1629471090460092471093) ih this
 refine ar rfl rfl (xG (same := λ σ₂ => ch σ₂ (.str w) = ch σ (.str w)) rfl w [34] _ _ hc (by have : [34].length = 1 := rfl; exact (lnr [_,_] [] 0x2BCA86147090160291CC61092) hl this) λ x y => ?_)
 exact bh (eH (s := [34] ++ w.flatMap qc) (u := [34]) (by rw [List.length_append]; have : [34].length = 1 := rfl; exact (lnr [_,_,_,_] [] 0x201099016029347109488888862291CC63094) hl lim ‹_› this)) h
end
noncomputable def sz (b c : Nat) : Int := if af c < b then (af c : Int) else -1
noncomputable def k_l_ESCAPES : ac := λ args σ Q _ => args = [] ∧ Q .esc σ
noncomputable def k_l_figure : ac := λ args σ Q _ => ∃ (c b : Nat), args = [.str [c], .int (b : Int)] ∧ c < 128 ∧ b ≤ 16 ∧ Q (.int (sz b c)) σ
noncomputable def aE (s : List Nat) : Prop := s.all (· < 128) = true
theorem cg {s : List Nat} (h : aE s) {c : Nat} (hc : c ∈ s) : c < 128 := by
 unfold aE at h; rw [List.all_eq_true] at h; simpa using h c hc
theorem hM {s : List Nat} (h : aE s) {i c : Nat} (hc : s[i]? = some c) : c < 128 := cg h (List.mem_of_getElem? hc)
theorem dj {s t : List Nat} (h : aE s) (ht : ∀ c ∈ t, c ∈ s) : aE t := by
 unfold aE; rw [List.all_eq_true]; intro c hc; simpa using cg h (ht c hc)
theorem yW : ∀ c, c < 128 -> (if nB [48, 49, 50, 51, 52, 53, 54, 55, 56, 57, 97, 98, 99, 100, 101, 102] c < 0 then nB [48, 49, 50, 51, 52, 53, 54, 55, 56, 57, 65, 66, 67, 68, 69, 70] c else nB [48, 49, 50, 51, 52, 53, 54, 55, 56, 57, 97, 98, 99, 100, 101, 102] c) = if af c < 16 then (af c : Int) else -1 := by decide +kernel
theorem GC (σ : aa) (s : List Nat) (c : Nat) : qg .find σ (.str s) (.str [c]) = some (.int (nB s c)) := rfl
section
variable {T : Fn -> ac} {σ : aa} {Q X : AV -> aa -> Prop} {args : List AV}
theorem ik (e : T .l_ESCAPES = k_l_ESCAPES) (h : Q .esc σ) : aT (T .l_ESCAPES) [] σ Q X := λ _ _ q _ => e ▸ ⟨rfl, q _ _ h⟩
theorem dY (e : T .l_figure = k_l_figure) {c b : Nat} (hc : c < 128) (hb : b ≤ 16) (h : Q (.int (sz b c)) σ) : aT (T .l_figure) [.str [c], .int (b : Int)] σ Q X := λ _ _ q _ => e ▸ ⟨c, b, rfl, hc, hb, q _ _ h⟩
theorem vc_l_ESCAPES (h : k_l_ESCAPES args σ Q X) : aJ T 0 0 hO args σ Q X := by
 obtain ⟨rfl, h⟩ := h
 exact ar rfl rfl h
theorem vc_l_figure (h : k_l_figure args σ Q X) : aJ T 3 2 jw args σ Q X := by
 obtain ⟨c, b, rfl, hc, hb, h⟩ := h
 refine ar rfl rfl ?_
 have hf := yW c hc
 unfold sz at h
 have go : ∀ k : Int, k = (if af c < 16 then (af c : Int) else -1) -> te (.bool (decide (k < (b : Int)))) (Q (.int k) σ) (Q (.int (-1)) σ) := by
  intro k hk
  by_cases e : af c < 16
  ·rw [if_pos e] at hk
   subst hk
   refine ah (λ q => ?_) λ q => ?_
   ·rw [if_pos (pf q)] at h; exact h
   ·rw [if_neg (Nat.not_lt.mpr (BH q))] at h; exact h
  ·rw [if_neg e] at hk
   subst hk
   rw [if_neg (λ q => e (Nat.lt_of_lt_of_le q hb))] at h
   exact ah (λ _ => h) λ _ => h
 refine ah (λ e => ?_) λ e => ?_
 ·exact go _ ((if_pos e).symm.trans hf)
 ·exact go _ ((if_neg e).symm.trans hf)
end
noncomputable def mm (b : Nat) (l : List Nat) (v : Nat) : Nat := l.foldl (λ a d => a * b + d) v
noncomputable def i9 (b : Nat) : Nat -> List Nat -> List Nat
 | _, [] => []
 | k, d :: l => d * b ^ k :: i9 b (k + 1) l
theorem wR (b : Nat) : ∀ (l : List Nat) (k : Nat), (i9 b (k + 1) l).sum = b * (i9 b k l).sum
 | [], k => by simp [i9]
 | d :: l, k => by
  rw [i9, i9, List.sum_cons, List.sum_cons, wR b l (k + 1), Nat.mul_add]
  congr 1
  rw [Nat.pow_succ, ← Nat.mul_assoc, Nat.mul_comm]
theorem Av (b : Nat) (l : List Nat) (d v : Nat) : mm b (l ++ [d]) v = mm b l v * b + d := by unfold mm; rw [List.foldl_append]; rfl
theorem oS (b : Nat) : ∀ (l : List Nat), (i9 b 0 l).sum = mm b l.reverse 0
 | [] => rfl
 | d :: l => by
  rw [i9, List.sum_cons, wR, oS b l, List.reverse_cons, Av, Nat.pow_zero, Nat.mul_one, Nat.mul_comm, Nat.add_comm]
theorem ze : ∀ l : List Int, iz (l.map .int) = some l
 | [] => rfl
 | i :: l => congrArg (Option.map (i :: ·)) (ze l)
noncomputable def bw (d : Nat) : AV := .int (d : Int)
theorem nW : ∀ l : List Nat, iz (l.map bw) = some (l.map λ (d : Nat) => (d : Int))
 | [] => rfl
 | i :: l => congrArg (Option.map ((i : Int) :: ·)) (nW l)
theorem w2 : ∀ l : List Nat, (l.map λ (d : Nat) => (d : Int)).sum = ((l.sum : Nat) : Int)
 | [] => rfl
 | d :: l => by rw [List.map_cons, List.sum_cons, List.sum_cons, w2 l]; rfl
theorem yB {σ : aa} {b k : Nat} (hk : k ≤ 1000) (h0 : 0 < b) (h1 : b ≤ 100) : f5 .pow (.int (b : Int)) (.int (k : Int)) σ = some (.int ((b ^ k : Nat) : Int), σ) := by
 show (if _ then _ else _) = _
 rw [if_pos ⟨by exact (lnr [_] [] 0x0B0631), by exact (lnr [_] [] 0x1FD860B31FD860091) hk, by exact (lnr [_] [] 0x0B064006191) h0, by exact (lnr [_] [] 0x1CC60B31CC60091) h1⟩, Int.toNat_natCast, Int.natCast_pow]
theorem vB {σ : aa} {d n : Nat} (h : d < 1000000) : f5 .mul (.int (d : Int)) (.int (n : Int)) σ = some (.int ((d * n : Nat) : Int), σ) := by
 show (if _ then _ else _) = _
 rw [if_pos (.inl (by omega)), Int.natCast_mul]
noncomputable def uZ (b : Nat) (df : AV -> Nat) : AV -> Option AV
 | .tup [.int k, v] => some (bw (df v * b ^ k.toNat))
 | _ => none
theorem nq (b : Nat) (df : AV -> Nat) : ∀ (l : List AV) (k : Nat), (cz k l).filterMap (uZ b df) = (i9 b k (l.map df)).map bw
 | [], k => rfl
 | v :: l, k => by
  rw [cz, List.filterMap_cons_some (b := bw (df v * b ^ k)) (by simp [uZ]), nq b df l (k + 1)]
  rfl
theorem nj : ∀ (l : List AV) (k : Nat) (v : AV), v ∈ cz k l -> ∃ (j : Nat) (x : AV), v = .tup [.int (j : Int), x] ∧ x ∈ l ∧ j < k + l.length
 | [], _, _, h => by simp [cz] at h
 | a :: l, k, v, h => by
  rw [cz] at h
  rcases List.mem_cons.mp h with rfl | h
  ·exact ⟨k, a, rfl, List.mem_cons_self, by simp⟩
  ·obtain ⟨j, x, h1, h2, h3⟩ := nj l (k + 1) v h
   exact ⟨j, x, h1, List.mem_cons_of_mem _ h2, by simp only [List.length_cons]; exact (lnr [_,_,_] [] 0x162919012161990193) h3⟩
theorem t7 {σ : aa} {n : Nat} {l : List Nat} (h : σ[n]? = some (.list (l.map bw))) : l9 .sum σ (.loc n) = some (.int ((l.sum : Nat) : Int)) := by
 refine (dE h).trans ?_
 rw [nW, ← w2]; rfl
noncomputable def g8 (v : AV) (k : Nat) : Prop := ∃ d, v.py = some d ∧ d.canLay0 = true ∧ d.depth ≤ k
theorem u0 (k : Nat) : ∀ l : List AV, (∀ v ∈ l, g8 v k) -> ∃ ds, AV.pyL l = some ds ∧ PyData.canLayAll0 ds = true ∧ PyData.depthAll ds ≤ k ∧ (ds = [] ↔ l = [])
 | [], _ => ⟨[], rfl, rfl, Nat.zero_le _, by simp⟩
 | v :: l, h => by
  obtain ⟨d, h1, h2, h3⟩ := h v List.mem_cons_self
  obtain ⟨ds, g1, g2, g3, _⟩ := u0 k l λ w hw => h w (List.mem_cons_of_mem _ hw)
  refine ⟨d :: ds, by show (AV.py v).bind (λ x => (AV.pyL l).map (x :: ·)) = _; rw [h1, g1]; rfl, ?_, ?_, by simp⟩
  ·simp only [PyData.canLayAll0, h2, g2, Bool.and_self]
  ·simp only [PyData.depthAll]; exact (lnr [_,_,_] [] 0x210E0210920093) h3 g3
theorem Gq (k : Nat) : g8 .none (k + 1) := ⟨_, rfl, rfl, by simp [PyData.depth]⟩
theorem wM (b : Bool) (k : Nat) : g8 (.bool b) (k + 1) := ⟨_, rfl, rfl, by simp [PyData.depth]⟩
theorem lz (i : Int) (k : Nat) : g8 (.int i) (k + 1) := ⟨_, rfl, rfl, by simp [PyData.depth]⟩
theorem jM {s : List Nat} (h : ∀ c ∈ s, c < 1114112) (k : Nat) : g8 (.str s) (k + 1) :=
 ⟨_, rfl, by simpa [PyData.canLay0, PyData.strOk] using h, by simp [PyData.depth]⟩
theorem iE {l : List AV} {k : Nat} (h : ∀ v ∈ l, g8 v k) : g8 (.tup l) (k + 1) := by
 obtain ⟨ds, g1, g2, g3, _⟩ := u0 k l h
 refine ⟨.tuple ds, congrArg (Option.map PyData.tuple) g1, g2, ?_⟩
 simp only [PyData.depth]; exact (lnr [_,_] [] 0x16191609010092) g3
theorem l6 {l : List AV} {k : Nat} (hk : k ≤ 60) (h : ∀ v ∈ l, g8 v k) : ∃ ds, AV.pyL l = some ds ∧ SeqAt.shaped (.list ds) = true ∧ (ds = [] ↔ l = []) := by
 obtain ⟨ds, g1, g2, g3, g4⟩ := u0 k l h
 refine ⟨ds, g1, ?_, g4⟩
 unfold SeqAt.shaped
 rw [Bool.and_eq_true]
 exact ⟨g2, decide_eq_true (by rw [PyData.depth]; exact (lnr [_,_] [] 0x18861609010097C61092) hk g3)⟩
theorem A8 (ds : List PyData) : PyData.eqv (.list ds) (.list []) = decide (ds = []) := by
 cases ds with
 | nil => rfl
 | cons a l => rfl
theorem wr {σ : aa} {a b : AV} {x y : PyData} (h : nt a b = none) (hx : ml σ a = some x) (hy : ml σ b = some y) (sx : SeqAt.shaped x = true) (sy : SeqAt.shaped y = true) : ir σ a b = some (PyData.eqv x y) := by
 unfold ir Fz
 rw [h, hx, hy]
 exact if_pos (by rw [sx, sy]; rfl)
theorem mK {σ : aa} {n : Nat} {l : List AV} {ds : List PyData} (h : σ[n]? = some (.list l)) (g : AV.pyL l = some ds) : ml σ (.loc n) = some (.list ds) := (dE h).trans (congrArg (Option.map PyData.list) g)
theorem yO {σ : aa} {n m : Nat} {l : List AV} {k : Nat} (hk : k ≤ 60) (hn : σ[n]? = some (.list l)) (hm : σ[m]? = some (.list [])) (h : ∀ v ∈ l, g8 v k) : ir σ (.loc n) (.loc m) = some (decide (l = [])) := by
 obtain ⟨ds, g1, g2, g3⟩ := l6 hk h
 exact (wr rfl (mK hn g1) (mK (ds := []) hm rfl) g2 rfl).trans (congrArg some ((A8 ds).trans (decide_eq_decide.mpr g3)))
theorem mu {σ : aa} {n m : Nat} {l : List AV} {k : Nat} (hk : k ≤ 60) (hn : σ[n]? = some (.list l)) (hm : σ[m]? = some (.list l)) (h : ∀ v ∈ l, g8 v k) : ir σ (.loc n) (.loc m) = some true := by
 obtain ⟨ds, g1, g2, g3⟩ := l6 hk h
 exact (wr rfl (mK hn g1) (mK hm g1) g2 g2).trans (congrArg some (SeqAt.eqv_refl _ (SeqAt.canLay_of_shaped g2)))
theorem DO {σ : aa} {l : List AV} {k : Nat} (hk : k ≤ 60) (h : ∀ v ∈ l, g8 v k) : ir σ (.tup l) (.tup l) = some true := by
 obtain ⟨d, g1, g2, g3⟩ := iE h
 have hs : SeqAt.shaped d = true := by
  unfold SeqAt.shaped
  rw [Bool.and_eq_true]
  exact ⟨g2, by simp only [decide_eq_true_eq]; exact (lnr [_,_] [] 0x18860016190097C61092) hk g3⟩
 exact (wr (x := d) (y := d) rfl (show ml σ (.tup l) = _ from g1) (show ml σ (.tup l) = _ from g1) hs hs).trans (congrArg some (SeqAt.eqv_refl _ g2))
theorem vz {σ : aa} {n : Nat} {l : List AV} (h : σ[n]? = some (.list l)) : l9 .len σ (.loc n) = some (.int (l.length : Int)) := dE h
theorem BR {σ : aa} {n : Nat} {l : List AV} (h : σ[n]? = some (.list l)) : wU σ (.loc n) = some (.loc σ.length, σ ++ [.list l.reverse]) := dE h
noncomputable def dK (b : Nat) : List Nat -> List Nat -> List Nat
 | [], L => L
 | c :: l, L => if b ≤ af c ∨ (b = 8 ∧ L.length = 3) then L else dK b l (L ++ [af c])
theorem lq : ∀ (l L : List Nat) (w : Nat), L.length ≤ 3 -> ∃ F, dK 8 l L = L ++ F ∧ cq (3 - L.length) l w = (mm 8 F w, F.length)
 | [], L, w, _ => ⟨[], by simp [dK], by cases 3 - L.length <;> rfl⟩
 | c :: l, L, w, h => by
  unfold dK
  by_cases e : 8 ≤ af c ∨ (8 = 8 ∧ L.length = 3)
  ·rw [if_pos e]
   refine ⟨[], by simp, ?_⟩
   rcases e with e | e
   ·cases hb : 3 - L.length with
    | zero => rfl
    | succ b => unfold cq; rw [if_neg (by exact (lnr [_] [] 0x1860160186091) e)]; rfl
   ·rw [show 3 - L.length = 0 by exact (lnr [_] [] 0x06036A236021861862791) e]; rfl
  ·rw [if_neg e]
   obtain ⟨F, h1, h2⟩ := lq l (L ++ [af c]) (w * 8 + af c) (by simp only [List.length_append, List.length_cons, List.length_nil]; exact (lnr [_,_] [] 0x361606909036021861862711860869360092) h e)
   refine ⟨af c :: F, by rw [h1, List.append_assoc]; rfl, ?_⟩
   rw [show 3 - L.length = (3 - (L ++ [af c]).length) + 1 by simp only [List.length_append, List.length_cons, List.length_nil]; exact (lnr [_,_] [] 0x16160690936A9036A236021861862711860869360092) h e]
   unfold cq
   rw [if_pos (by exact (lnr [_,_] [] 0x18601361218618627018608692) e), h2]
   rfl
theorem pJ : ∀ (l L : List Nat) (w : Nat), ∃ F, dK 16 l L = L ++ F ∧ cL l (w % 256) = (mm 16 F w % 256, F.length)
 | [], L, w => ⟨[], by simp [dK], rfl⟩
 | c :: l, L, w => by
  unfold dK
  by_cases e : 16 ≤ af c
  ·rw [if_pos (.inl e)]
   exact ⟨[], by simp, by unfold cL; rw [if_neg (by exact (lnr [_] [] 0x2860160286091) e)]; rfl⟩
  ·rw [if_neg (by simp; exact (lnr [_] [] 0x2860102860691) e)]
   obtain ⟨F, h1, h2⟩ := pJ l (L ++ [af c]) (w * 16 + af c)
   refine ⟨af c :: F, by rw [h1, List.append_assoc]; rfl, ?_⟩
   unfold cL
   rw [if_pos (by exact (lnr [_] [] 0x2860102860691) e), show (w % 256 * 16 + af c) % 256 = (w * 16 + af c) % 256 by omega, h2]
   rfl
theorem lm (b : Nat) : ∀ (l L : List Nat), (dK b l L).length ≤ L.length + l.length
 | [], L => by simp [dK]
 | c :: l, L => by
  unfold dK
  split
  ·simp only [List.length_cons]; exact (lnr [_,_] [] 0x161909002)
  ·have := lm b l (L ++ [af c]); simp only [List.length_append, List.length_cons, List.length_nil] at this ⊢; exact (lnr [_,_,_] [] 0x162919002160691990093) this
theorem nA {b : Nat} : ∀ (l L : List Nat), (∀ d ∈ L, d < 16) -> b ≤ 16 -> ∀ d ∈ dK b l L, d < 16
 | [], L, h, _ => by simpa [dK] using h
 | c :: l, L, h, hb => by
  unfold dK
  split
  ·exact h
  ·rename_i e
   refine nA l _ (λ d hd => ?_) hb
   rcases List.mem_append.mp hd with hd | hd
   ·exact h d hd
   ·rw [List.mem_singleton.mp hd]; exact (lnr [_,_,_] [] 0x2860136221861270108692861093) hb e
noncomputable def k_l_escape : ac := λ args σ Q _ => ∃ (s : List Nat) (i : Nat), args = [.str s, .int (i : Int)] ∧ aE s ∧ s.length ≤ 900 ∧ ∀ τ, Q (.tup [.int (be s i).1, .int ((be s i).2 : Int)]) (σ ++ τ)
theorem gH : ∀ (l : List AV) (k : Nat), (cz k l).length = l.length
 | [], _ => rfl
 | _ :: l, k => by rw [cz, List.length_cons, List.length_cons, gH l (k + 1)]
noncomputable def rH : bq := (.cons (.ifS (.cmp .ne (.var 3) (.lst .nil)) (.cons (.asg 6 (.bi .sum (.comp (.bin .mul (.var 8) (.bin .pow (.var 4) (.var 7))) [7, 8] (.enum (.rev (.var 3))) .none))) (.cons (.ret (.tup (.cons (.bin .mod (.var 6) (.int 256)) (.cons (.bin .add (.bin .add (.bin .add (.var 1) (.int 1)) (.bi .len (.var 3))) (.bin .fdiv (.var 4) (.int 16))) .nil)))) .nil)) .nil) (.cons (.ifS (.andE (.cons (.cmp .eq (.var 4) (.int 8)) (.cons (.cmp .in_ (.slice (.var 2) .none (.some (.int 1))) (.call .l_ESCAPES .nil)) .nil))) (.cons (.ret (.tup (.cons (.idx (.call .l_ESCAPES .nil) (.idx (.var 2) (.int 0))) (.cons (.bin .add (.var 1) (.int 2)) .nil)))) .nil) .nil) (.cons (.ret (.tup (.cons (.neg 1) (.cons (.bin .add (.var 1) (.int 1)) .nil)))) .nil)))
noncomputable def F9 : bq := match dH with | .cons _ t => t | _ => .nil
noncomputable def yQ : bq := match fb with | .cons _ t => t | _ => .nil
section
variable {T : Fn -> ac} {σ : aa} {Q X : AV -> aa -> Prop} {args : List AV}
theorem fW (e : T .l_escape = k_l_escape) {s : List Nat} {i : Nat} (ha : aE s) (hs : s.length ≤ 900) (h : ∀ τ, Q (.tup [.int (be s i).1, .int ((be s i).2 : Int)]) (σ ++ τ)) : aT (T .l_escape) [.str s, .int (i : Int)] σ Q X := λ _ _ q _ => e ▸ ⟨s, i, rfl, ha, hs, λ τ => q _ _ (h τ)⟩
theorem D1 (hf : T .l_figure = k_l_figure) {l' : List Nat} {σ₀ : aa} {a0 a1 a2 a6 a7 a8 : Option AV} {b : Nat} (hb : b ≤ 16) {Q : aA -> aj -> aa -> Prop} : ∀ (l L : List Nat) (x : Option AV), aE l -> l.length + L.length ≤ 2000 ->
  (∀ x, Q .next [a0, a1, a2, some (.loc σ.length), some (.int (b : Int)), x, a6, a7, a8] (σ ++ [.list ((dK b l L).map bw)])) ->
  FE T [5] (λ σ₂ => ch σ₂ (.str l') = ch σ₀ (.str l')) dH X (eE l) [a0, a1, a2, some (.loc σ.length), some (.int (b : Int)), x, a6, a7, a8] (σ ++ [.list (L.map bw)]) Q := by
 have lim : fD = 1048576 := rfl
 intro l
 induction l with
 | nil => intro L x _ _ h; exact ⟨rfl, h x⟩
 | cons c l ih =>
  intro L x ha hl h
  have hc := cg ha List.mem_cons_self
  have hal : aE l := dj ha λ d hd => List.mem_cons_of_mem _ hd
  rw [List.length_cons] at hl
  unfold dK at h
  have out : (b ≤ af c ∨ (b = 8 ∧ L.length = 3)) -> Q .next [a0, a1, a2, some (.loc σ.length), some (.int (b : Int)), some (.str [c]), a6, a7, a8] (σ ++ [.list (L.map bw)]) := λ e => by
   rw [if_pos e] at h; exact h _
  have ap : ¬ (b ≤ af c ∨ (b = 8 ∧ L.length = 3)) -> bB T F9 [a0, a1, a2, some (.loc σ.length), some (.int (b : Int)), some (.str [c]), a6, a7, a8] (σ ++ [.list (L.map bw)])
    (λ fl ρ'' σ' => match fl with | .next => FE T [5] (λ σ₂ => ch σ₂ (.str l') = ch σ₀ (.str l')) dH X (eE l) ρ'' σ' Q | .brk => Q .next ρ'' σ' | .ret v => Q (.ret v) ρ'' σ') X := λ e => by
   rw [if_neg e] at h
   have z := ih (L ++ [af c]) (some (.str [c])) hal (by rw [List.length_append]; exact Nat.le_trans (by rw [List.length_cons, List.length_nil]; exact (lnr [_,_] [] 0x11609916069190902)) hl) h
   rw [List.map_append] at z
   refine dS (lu (aL _ _)) (dY hf hc hb (dS (lu (aL _ _)) ⟨by rw [List.length_map]; exact (lnr [_,_,_] [] 0x1013FA8601629909488888861293) lim hl, ?_⟩))
   rw [mM, show sz b c = (af c : Int) from if_pos (Nat.not_le.mp λ q => e (.inl q))]
   exact z
  refine ⟨rfl, dY hf hc hb (az (λ e => dI (out (.inl ?_))) λ e => ?_)⟩
  ·exact Nat.not_lt.mp λ q => by rw [show sz b c = (af c : Int) from if_pos q] at e; exact absurd e (Int.not_lt.mpr (Int.natCast_nonneg _))
  ·have n1 : ¬ b ≤ af c := λ q => e (by rw [show sz b c = -1 from if_neg (Nat.not_lt.mpr q)]; decide)
   refine az (λ e8 => bF (vz (aL _ _)) (ah (λ e3 => out (.inr ⟨Int.ofNat_inj (n := 8).mp e8, ?_⟩)) λ e3 => aK (ap λ q => ?_))) λ e8 => bC (aK (ap λ q => ?_))
   ·rw [List.length_map] at e3; exact Int.ofNat_inj (n := 3).mp e3
   ·rw [List.length_map] at e3; exact q.elim n1 λ q => e3 (congrArg _ q.2)
   ·exact q.elim n1 λ q => e8 (congrArg _ q.1)
theorem yR (hE : T .l_ESCAPES = k_l_ESCAPES) {s r : List Nat} {i : Nat} (h : ∀ τ, Q (.tup [.int (cA r).1, .int ((i + 1 + (cA r).2 : Nat) : Int)]) (σ ++ τ)) (r' : List Nat) (b : Nat) (F : List Nat) (x : Option AV) (hb : b = 8 ∨ b = 16) (hF : F.length ≤ 1000) (hd : ∀ d ∈ F, d < 16)
   (h1 : F ≠ [] -> cA r = (((mm b F 0 % 256 : Nat) : Int), F.length + b / 16)) (h2 : F = [] -> b = 16 -> cA r = (-1, 0)) (h3 : F = [] -> b = 8 -> r' = r ∧ (r = [] -> cA r = (-1, 0)) ∧ ∀ c t, r = c :: t -> cA r = match bR.lookup c with | some j => (j, 1) | none => (-1, 0)) :
   bB T rH [some (.str s), some (.int (i : Int)), some (.str r'), some (.loc σ.length), some (.int (b : Int)), x, none, none, none] (σ ++ [.list (F.map bw)]) (fk Q) X := by
 have hne : dl .ne (σ ++ [aG.list (F.map bw)] ++ [aG.list []]) (.loc σ.length) (.loc (σ ++ [aG.list (F.map bw)]).length) = some (!decide (F = [])) := by
  show (ir _ _ _).map (!·) = _
  rw [w9, Bv, yO (k := 1) (by decide) (jm _ _ _) (kq _ _ _) (λ v hv => by obtain ⟨d, _, rfl⟩ := List.mem_map.mp hv; exact lz _ _)]
  rw [Option.map_some]
  congr 2
  exact decide_eq_decide.mpr List.map_eq_nil_iff
 have ap2 : σ ++ [aG.list (F.map bw)] ++ [aG.list []] = σ ++ [aG.list (F.map bw), aG.list []] := w9 _ _ _
 have two := h [aG.list (F.map bw), aG.list []]
 refine ew hne (eu (λ eF => ?_) λ eF => ?_)
 ·have hget : (σ ++ [aG.list (F.map bw), aG.list []])[σ.length]? = some (aG.list (F.map bw)) := jm _ _ _
  have hget' : (σ ++ [aG.list (F.map bw), aG.list [], aG.list ((i9 b 0 F.reverse).map bw)])[σ.length]? = some (aG.list (F.map bw)) := by rw [List.getElem?_append_right (Nat.le_refl _), Nat.sub_self]; rfl
  have hints : iz (F.map bw).reverse = some (F.reverse.map λ (d : Nat) => (d : Int)) := by rw [← List.map_reverse]; exact nW _
  rw [ap2]
  refine zI (BR hget) ⟨_, _, rfl, rfl, hints, trivial, ?_, ?_⟩
  ·rw [gH, List.length_reverse, List.length_map]; exact Nat.le_trans hF (by decide)
  ·refine aD (uZ b λ v => match v with | .int d => d.toNat | _ => 0) _ _ (λ v hv K hK => ?_) ?_
   ·obtain ⟨j, y, rfl, hy, hj⟩ := nj _ _ _ hv
    rw [← List.map_reverse] at hy
    obtain ⟨d, hdm, rfl⟩ := List.mem_map.mp hy
    have hd16 := hd d (List.mem_reverse.mp hdm)
    rw [List.length_reverse, List.length_map] at hj
    exact ⟨rfl, bh (yB (by exact (lnr [_,_] [] 0x1FD860010690191FD861092) hF hj) (by exact (lnr [_] [] 0x00612860218602891) hb) (by exact (lnr [_] [] 0x1CC6002860218602891) hb)) (bh (vB (d := d) (by exact (lnr [_] [] 0x3EC99886012860191) hd16)) ⟨rfl, hK⟩)⟩
   ·rw [List.nil_append, ← List.map_reverse, nq, List.map_map, show ((λ v => match v with | AV.int d => d.toNat | _ => 0) ∘ bw) = id from rfl, List.map_id]
    have z := h [aG.list (F.map bw), aG.list [], aG.list ((i9 b 0 F.reverse).map bw)]
    rw [h1 eF] at z
    have e3 : σ ++ [aG.list (F.map bw), aG.list []] ++ [aG.list ((i9 b 0 F.reverse).map bw)] = σ ++ [aG.list (F.map bw), aG.list [], aG.list ((i9 b 0 F.reverse).map bw)] := List.append_assoc _ _ _
    rw [e3]
    have g3 : (σ ++ [aG.list (F.map bw), aG.list [], aG.list ((i9 b 0 F.reverse).map bw)])[(σ ++ [aG.list (F.map bw), aG.list []]).length]? = some (aG.list ((i9 b 0 F.reverse).map bw)) := by rw [← e3]; exact aL _ _
    refine bF (t7 g3) (bF (vz hget') ?_)
    rw [oS, List.reverse_reverse, List.length_map]
    rw [← Nat.add_assoc] at z
    exact z
 ·rw [ap2]
  rcases hb with rfl | rfl
  ·obtain ⟨rfl, g1, g2⟩ := h3 eF rfl
   refine az (λ _ => ik hE ?_) λ q => absurd rfl q
   have e1 := qz r' 1
   cases r' with
   | nil =>
    rw [g1 rfl] at two
    exact ew (a := false) (congrArg (λ l => dl .in_ _ (.str l) .esc) e1) (bC two)
   | cons c t =>
    rw [g2 c t rfl] at two
    cases hl : bR.lookup c with
    | none =>
     rw [hl] at two
     exact ew (a := false) ((congrArg (λ l => dl .in_ _ (.str l) .esc) e1).trans (congrArg (λ o : Option Int => some o.isSome) hl)) (bC two)
    | some j =>
     rw [hl] at two
     refine ew (a := true) ((congrArg (λ l => dl .in_ _ (.str l) .esc) e1).trans (congrArg (λ o : Option Int => some o.isSome) hl)) (dI (ik hE ?_))
     exact ay (congrArg (Option.map AV.int) hl) two
  ·rw [h2 eF rfl] at two
   exact az (λ q => absurd (Int.ofNat_inj (m := 16) (n := 8).mp q) (by decide)) λ _ => bC two
theorem qK (hf : T .l_figure = k_l_figure) {v0 v1 : AV} {b : Nat} (hb : b ≤ 16) (l : List Nat) {l' : List Nat} (el : l' = l) (ha : aE l) (hl : l.length ≤ 2000)
  (h : ∀ x, bB T rH [some v0, some v1, some (.str l), some (.loc σ.length), some (.int (b : Int)), x, none, none, none] (σ ++ [.list ((dK b l []).map bw)]) (fk Q) X) :
  bB T (.cons (.forS [5] (.plain (.var 2)) dH) rH) [some v0, some v1, some (.str l'), some (.loc σ.length), some (.int (b : Int)), none, none, none, none] (σ ++ [.list []]) (fk Q) X := by
 subst el
 have z := D1 (T := T) (σ := σ) (X := X) hf (l' := l') (σ₀ := σ ++ [.list []]) (a0 := some v0) (a1 := some v1) (a2 := some (.str l')) (a6 := none) (a7 := none) (a8 := none) (b := b) hb (Q := λ fl ρ' σ' => match fl with | .next => bB T rH ρ' σ' (fk Q) X | .brk => False | .ret v => Q v σ') l' [] none ha hl h
 exact z
theorem vc_l_escape (hf : T .l_figure = k_l_figure) (hE : T .l_ESCAPES = k_l_ESCAPES) (h : k_l_escape args σ Q X) : aJ T 9 2 fb args σ Q X := by
 obtain ⟨s, i, rfl, ha, hs, h⟩ := h
 refine ar rfl rfl ?_
 have har : aE (s.drop (i + 1)) := dj ha λ c hc => List.mem_of_mem_drop hc
 have hlr : (s.drop (i + 1)).length ≤ 900 := by rw [List.length_drop]; exact (lnr [_,_] [] 0x1E8C616190A01E8C60092) hs
 unfold be at h
 have er : iq s (some ((i + 1 : Nat) : Int)) none = s.drop (i + 1) := ee s (i + 1)
 generalize hr : s.drop (i + 1) = r at h har hlr er
 have go : bB T yQ [some (.str s), some (.int (i : Int)), some (.str r), none, none, none, none, none, none] σ (fk Q) X -> bB T fb [some (.str s), some (.int (i : Int)), none, none, none, none, none, none, none] σ (fk Q) X := λ z => by
  rw [← er] at z; exact z
 refine go ?_
 clear go er
 have tail := λ r' b F x hb hF hd h1 h2 h3 => yR (s := s) (X := X) hE h r' b F x hb hF hd h1 h2 h3
 cases r with
 | nil =>
  refine ah (λ q => absurd ((qz [] 1).symm.trans q) (by decide)) λ _ => ?_
  refine aK (qK hf (b := 8) (by decide) [] rfl har (by decide) λ x => ?_)
  exact tail [] 8 [] x (.inl rfl) (by decide) (λ _ q => by cases q) (λ q => absurd rfl q) (λ _ q => by cases q) (λ _ _ => ⟨rfl, λ _ => rfl, λ c t q => by cases q⟩)
 | cons c t =>
  have hat : aE t := dj har λ d hd => List.mem_cons_of_mem _ hd
  rw [List.length_cons] at hlr
  refine ah (λ q => ?_) λ q => ?_
  ·obtain rfl : c = 120 := one ((qz _ 1).symm.trans q)
   have et : iq (120 :: t) (some ((1 : Nat) : Int)) none = t := ee (120 :: t) 1
   refine qK hf (b := 16) (by decide) t et hat (Nat.le_trans (Nat.le_of_succ_le hlr) (by decide)) λ x => ?_
   obtain ⟨F, h1, h2⟩ := pJ t [] 0
   have hlen := lm 16 t []
   have hlt := nA (b := 16) t [] (by simp) (Nat.le_refl _)
   rw [List.nil_append] at h1
   rw [h1] at hlen hlt ⊢
   have h2 : cL t 0 = (mm 16 F 0 % 256, F.length) := h2
   have hE : cA (120 :: t) = if F.length = 0 then (-1, 0) else (((mm 16 F 0 % 256 : Nat) : Int), F.length + 1) := by
    unfold cA
    dsimp only
    rw [if_neg (by decide), if_pos rfl, h2]
   refine tail _ 16 F x (.inr rfl) (by simp only [List.length_nil] at hlen; exact (lnr [_,_] [] 0x1FD860010690091E8C61619092) hlr hlen) hlt (λ q => ?_) (λ q _ => ?_) (λ _ q => absurd q (by decide))
   ·rw [hE, if_neg (λ z => q (List.eq_nil_of_length_eq_zero z))]
   ·rw [hE, if_pos (by rw [q]; rfl)]
  ·have e : ¬ c = 120 := λ z => q ((qz _ 1).trans (congrArg (λ x => [x]) z))
   refine aK (qK hf (b := 8) (by decide) (c :: t) rfl har (by rw [List.length_cons]; exact (lnr [_] [] 0x3FA86160901E8C61609091) hlr) λ x => ?_)
   obtain ⟨F, h1, h2⟩ := lq (c :: t) [] 0 (by decide)
   have hlen := lm 8 (c :: t) []
   have hlt := nA (b := 8) (c :: t) [] (by simp) (by decide)
   rw [List.nil_append] at h1
   rw [h1] at hlen hlt ⊢
   have h2 : cq 3 (c :: t) 0 = (mm 8 F 0, F.length) := h2
   have hE : cA (c :: t) = if af c < 8 then (((mm 8 F 0 % 256 : Nat) : Int), F.length) else match bR.lookup c with | some j => (j, 1) | none => (-1, 0) := by
    unfold cA
    dsimp only
    rw [if_neg e, h2]
    try rfl
   have hF : F = [] ↔ ¬ af c < 8 := by
    have : dK 8 (c :: t) [] = if 8 ≤ af c ∨ (8 = 8 ∧ ([] : List Nat).length = 3) then [] else dK 8 t ([] ++ [af c]) := rfl
    rw [h1] at this
    constructor
    ·intro q d
     rw [if_neg (by simp; exact (lnr [_] [] 0x186011860191) d)] at this
     obtain ⟨G, g1, _⟩ := lq t ([] ++ [af c]) 0 (by simp)
     rw [g1] at this
     rw [q] at this
     simp at this
    ·intro q
     rw [if_pos (.inl (by exact (lnr [_] [] 0x0186018601691) q))] at this
     exact this
   refine tail (c :: t) 8 F x (.inl rfl) (by simp only [List.length_nil, List.length_cons] at hlen; exact (lnr [_,_] [] 0x1FD860016190690091E8C61619092) hlr hlen) hlt (λ q => ?_) (λ _ q => absurd q (by decide)) (λ q _ => ⟨rfl, λ z => (by cases z), λ c' t' z => ?_⟩)
   ·rw [hE, if_pos (Decidable.byContradiction λ z => q (hF.mpr z))]; rfl
   ·cases z
    rw [hE, if_neg (hF.mp q)]
end
noncomputable def xM : Option Nat -> List Nat
 | none => []
 | some c => [c]
theorem zJ (s : List Nat) (i : Nat) : List.drop i (List.take (i + 1) s) = xM s[i]? := by
 rw [List.drop_take, show i + 1 - i = 1 by exact (lnr [_] [] 0x1601609A21)]
 cases h : s[i]? with
 | none => rw [eS h]; rfl
 | some c => rw [bT h]; rfl
theorem gF (s : List Nat) (i : Nat) : iq s (some (i : Int)) (some ((i + 1 : Nat) : Int)) = xM s[i]? := (fF s i (i + 1)).trans (zJ s i)
theorem xN {o : Option Nat} {c : Nat} (h : xM o = [c]) : o = some c := by
 cases o with
 | none => cases h
 | some d => rw [one h]
noncomputable def k_l_constant : ac := λ args σ Q _ => ∃ (s : List Nat) (i : Nat), args = [.str s, .int (i : Int)] ∧ aE s ∧ s.length ≤ 900 ∧ ∀ τ, Q (.tup [.int (au s i).1, .int ((au s i).2 : Int)]) (σ ++ τ)
noncomputable def Aq : bq := match cS with | .cons _ (.cons _ (.cons _ (.cons _ t))) => t | _ => .nil
noncomputable def yd : bq := match cS with | .cons _ t => t | _ => .nil
section
variable {T : Fn -> ac} {σ : aa} {Q X : AV -> aa -> Prop} {args : List AV}
theorem gU (e : T .l_constant = k_l_constant) {s : List Nat} {i : Nat} (ha : aE s) (hs : s.length ≤ 900) (h : ∀ τ, Q (.tup [.int (au s i).1, .int ((au s i).2 : Int)]) (σ ++ τ)) : aT (T .l_constant) [.str s, .int (i : Int)] σ Q X := λ _ _ q _ => e ▸ ⟨s, i, rfl, ha, hs, λ τ => q _ _ (h τ)⟩
noncomputable def sB (s : List Nat) (p : Int × Nat) : Int × Nat := if 0 ≤ p.1 ∧ s[p.2]? = some 39 then (p.1, p.2 + 1) else p
theorem na {s : List Nat} {a1 x2 : Option AV} {p : Int × Nat} (h : Q (.tup [.int (sB s p).1, .int ((sB s p).2 : Int)]) σ) :
  bB T Aq [some (.str s), a1, x2, some (.int p.1), some (.int (p.2 : Int))] σ (fk Q) X := by
 obtain ⟨k, e⟩ := p
 unfold sB at h
 refine az (λ h0 => ah (λ q => ?_) λ q => aK ?_) λ h0 => bC (aK ?_)
 ·rw [if_pos ⟨h0, xN ((gF s e).symm.trans q)⟩] at h; exact h
 ·rw [if_neg (λ z => q ((gF s e).trans (congrArg xM z.2)))] at h; exact h
 ·rw [if_neg (λ z => h0 z.1)] at h; exact h
theorem vc_l_constant (he : T .l_escape = k_l_escape) (h : k_l_constant args σ Q X) : aJ T 5 2 cS args σ Q X := by
 obtain ⟨s, i, rfl, ha, hs, h⟩ := h
 refine ar rfl rfl ?_
 have go : bB T yd [some (.str s), some (.int (i : Int)), some (.str (xM s[i + 1]?)), none, none] σ (fk Q) X -> bB T cS [some (.str s), some (.int (i : Int)), none, none, none] σ (fk Q) X := λ z => by
  rw [← gF] at z; exact z
 refine go ?_
 clear go
 have hr : au s i = match s[i + 1]? with | none => (-1, i + 1) | some c => if c = 10 then (-1, i + 1) else sB s (ae s i c) := rfl
 have h0 := h []
 rw [List.append_nil] at h0
 cases hc : s[i + 1]? with
 | none =>
  rw [hc] at hr
  rw [hr] at h0
  exact ⟨λ _ => dI h0, λ q => absurd q (by decide)⟩
 | some c =>
  rw [hc] at hr
  refine ⟨λ q => absurd (of_decide_eq_true q) (by exact λ z => nomatch z), λ _ => ah (λ q => ?_) λ q => ?_⟩
  ·rw [hr] at h0
   obtain rfl := one q
   exact h0
  replace hr : au s i = sB s (ae s i c) := hr.trans (if_neg (fY q))
  rw [hr] at h h0
  refine ⟨rfl, ah (λ e => ?_) λ e => ?_⟩
  ·obtain rfl := one e
   exact fW he (i := i + 1) ha hs λ τ => ⟨rfl, na (p := be s (i + 1)) (h τ)⟩
  ·have hk : ae s i c = _ := if_neg (fY e)
   have bad : c < 32 ∨ 126 < c -> Q (.tup [.int (-1), .int ((i + 2 : Nat) : Int)]) σ := λ z => by
    rw [hk, if_pos z] at h0; exact h0
   refine ⟨λ q => dI (bad (.inl (pf (b := 32) (of_decide_eq_true q)))), λ q1 => ah (λ q => bad (.inr (pf (a := 126) q))) λ q2 => aK (aK ?_)⟩
   refine na (p := (c, i + 2)) ?_
   rw [hk, if_neg (λ z => z.elim (λ z => absurd (Int.ofNat_lt.mpr z) (of_decide_eq_false q1)) λ z => q2 (Int.ofNat_lt.mpr z))] at h0
   exact h0
end
noncomputable def kv : kR -> List Nat
 | .plain => [112, 108, 97, 105, 110]
 | .text => [116, 101, 120, 116]
 | .remark => [114, 101, 109, 97, 114, 107]
theorem D4 {m : kR} (h : kv m = [112, 108, 97, 105, 110]) : m = .plain := by cases m <;> first | rfl | cases h
noncomputable def qa (s : List Nat) (line : Int) (begin start i : Nat) (m : kR) : List AV :=
 if s.length ≤ cQ s i m then [eP s line begin start (cQ s i m)]
 else eP s line begin start (cQ s i m) :: (if s[cQ s i m]? = some 10 then bX s (line + 1) (cQ s i m + 1) (cQ s i m + 1) else bX s line begin (cQ s i m + 1))
theorem kA (s : List Nat) (line : Int) (begin i : Nat) : bX s line begin i = qa s line begin i i .plain := by
 rw [bX]; unfold qa; split <;> rfl
noncomputable def k_l_pieces : ac := λ args σ Q _ => ∃ (s : List Nat), args = [.str s] ∧ aE s ∧ s.length ≤ 900 ∧ ∀ τ n, (σ ++ τ)[n]? = some (.list (bX s 1 0 0)) -> Q (.loc n) (σ ++ τ)
theorem xw (σ τ : aa) (c : aG) : (σ ++ c :: τ)[σ.length]? = some c := by rw [List.getElem?_append_right (Nat.le_refl _), Nat.sub_self]; rfl
theorem FY (σ τ : aa) (c d : aG) : (σ ++ c :: τ).set σ.length d = σ ++ d :: τ := by rw [List.set_append_right _ _ (Nat.le_refl _), Nat.sub_self]; rfl
theorem xa (σ τ υ : aa) (c : aG) : (σ ++ c :: τ) ++ υ = σ ++ c :: (τ ++ υ) := List.append_assoc _ _ _
theorem rY {σ : aa} {n m : Nat} {xs ys : List AV} (hn : σ[n]? = some (.list xs)) (hm : σ[m]? = some (.list ys)) (hl : xs.length + ys.length ≤ fD) : f5 .add (.loc n) (.loc m) σ = some (.loc σ.length, σ ++ [.list (xs ++ ys)]) := (dE hn).trans ((dE hm).trans (if_pos hl))
noncomputable def CI : bq := match bK with | .cons _ (.cons (.ifS _ a _) _) => a | _ => .nil
noncomputable def EA : bq := match bK with | .cons _ (.cons (.ifS _ _ (.cons (.ifS _ _ (.cons (.ifS _ _ (.cons (.ifS _ _ a) _)) _)) _)) _) => a | _ => .nil
section
variable {T : Fn -> ac} {σ : aa} {Q X : AV -> aa -> Prop} {args : List AV}
theorem En {s : List Nat} {begin start i c : Nat} {line : Int} {L : List AV} {τ : aa} {m : AV} {K : aA -> aj -> aa -> Prop} (hs : s.length ≤ 900) (hb : begin ≤ start) (hst : start ≤ 1000) (hL : L.length ≤ 1000)
  (h : K .next [some (.str s), some (.loc σ.length), some (.int (if c = 10 then line + 1 else line)), some (.int ((if c = 10 then i + 1 else begin : Nat) : Int)), some (.int ((i + 1 : Nat) : Int)), some (.int ((i + 1 : Nat) : Int)), some (.str (kv .plain)), some (.str [c])] (σ ++ .list (L ++ [eP s line begin start i]) :: τ)) :
  bB T CI [some (.str s), some (.loc σ.length), some (.int line), some (.int (begin : Int)), some (.int (start : Int)), some (.int (i : Int)), some m, some (.str [c])] (σ ++ .list L :: τ) K X := by
 have hL0 : fD = 1048576 := rfl
 have hadd : (List.replicate (start - begin) 32).length + (iq s (some (start : Int)) (some (i : Int))).length ≤ fD := by rw [fF, List.length_replicate, List.length_drop, List.length_take]; exact (lnr [_,_,_,_,_] [] 0x4032DA10A90488888864291FD860091E8C63095) hs hst hL0
 refine dS (lu (xw _ _ _)) (bh (t8 _ hb (by exact (lnr [_] [] 0x3FA86001FD860091) hst)) (bh (eH hadd) (dS (lu (xw _ _ _)) ⟨show L.length < fD by exact (lnr [_,_] [] 0x101488888861291FD860092) hL hL0, ?_⟩)))
 rw [FY, fF]
 refine ⟨rfl, ah (λ e => ?_) λ e => ?_⟩
 ·rw [if_pos (one e), if_pos (one e)] at h
  exact ⟨rfl, h⟩
 ·rw [if_neg (fY e), if_neg (fY e)] at h
  exact h
theorem rz {m : kR} (hm : m ≠ .remark) {c i : Nat} {x0 x1 x2 x3 x4 : Option AV} {K : aA -> aj -> aa -> Prop} (h : K .next [x0, x1, x2, x3, x4, some (.int ((i + 1 : Nat) : Int)), some (.str (kv (fG m c))), some (.str [c])] σ) :
  bB T EA [x0, x1, x2, x3, x4, some (.int (i : Int)), some (.str (kv m)), some (.str [c])] σ K X := by
 refine ah (λ e => ?_) λ e => ?_
 ·obtain rfl := one e
  cases m with
  | remark => exact absurd rfl hm
  | plain => exact ah (λ q => nomatch q) λ _ => h
  | text => exact ah (λ _ => h) λ q => absurd rfl q
 ·have e := fY e
  cases m with
  | remark => exact absurd rfl hm
  | text =>
   rw [show fG .text c = .text from if_neg e] at h
   exact az (λ _ => ah (λ q => nomatch q) λ _ => aK h) λ _ => bC (aK h)
  | plain =>
   refine az (λ q => ah (λ _ => ?_) λ q => absurd rfl q) λ q => bC (aK ?_)
   ·rw [show fG .plain c = .remark from (if_neg e).trans (if_pos (one q))] at h
    exact h
   ·rw [show fG .plain c = .plain from (if_neg e).trans (if_neg (fY q))] at h
    exact h
theorem sX (he : T .l_escape = k_l_escape) (hk : T .l_constant = k_l_constant) {s : List Nat} (ha : aE s) (hs : s.length ≤ 900) {RES : List AV} {Q : aA -> aj -> aa -> Prop}
  (hq : ∀ line (begin start i : Nat) L τ m sg, s.length ≤ i -> begin ≤ start -> start ≤ s.length -> L.length ≤ start -> L ++ [eP s line begin start i] = RES -> Q .next [some (.str s), some (.loc σ.length), some (.int line), some (.int (begin : Int)), some (.int (start : Int)), some (.int (i : Int)), some (.str m), sg] (σ ++ .list L :: τ)) :
  ∀ (n i begin start : Nat) (line : Int) (L : List AV) (τ : aa) (m : kR) (sg : Option AV), s.length - i < n -> begin ≤ start -> start ≤ i -> start ≤ s.length -> L.length ≤ start -> L ++ qa s line begin start i m = RES ->
  WE T dz bK X n [some (.str s), some (.loc σ.length), some (.int line), some (.int (begin : Int)), some (.int (start : Int)), some (.int (i : Int)), some (.str (kv m)), sg] (σ ++ .list L :: τ) Q := by
 have lim : fD = 1048576 := rfl
 intro n
 induction n with
 | zero => intro i _ _ _ _ _ _ _ hn; exact absurd hn (Nat.not_lt_zero _)
 | succ n ih =>
  intro i begin start line L τ m sg hn hb hsi hsl hL h
  refine ah (λ e => ?_) λ e => ?_
  ·have hl := pf e
   cases hc : s[i]? with
   | none => exact absurd (ca hc) (Nat.not_le.mpr hl)
   | some c =>
    have hsc := dW (m := m) hc
    have nx : ∀ (τ' : aa), ¬ (c = 10 ∨ c = 59 ∧ m = .plain) -> WE T dz bK X n [some (.str s), some (.loc σ.length), some (.int line), some (.int (begin : Int)), some (.int (start : Int)), some (.int ((fv s i m c : Nat) : Int)), some (.str (kv (fG m c))), some (.str [c])] (σ ++ .list L :: τ') Q := by
     intro τ' e
     have hgt := on s i m c
     rw [if_neg e] at hsc
     refine ih _ begin start line L τ' _ _ (by exact (lnr [_,_,_,_] [] 0x210A113190319162930A194) hn hl hgt) hb (by exact (lnr [_,_,_] [] 0x100121920093) hsi hgt) hsl hL ?_
     unfold qa at h ⊢
     rw [hsc] at h
     exact h
    have sep : (c = 10 ∨ c = 59 ∧ m = .plain) -> ∀ {K : aA -> aj -> aa -> Prop}, (∀ ρ σ, WE T dz bK X n ρ σ Q -> K .next ρ σ) -> bB T CI [some (.str s), some (.loc σ.length), some (.int line), some (.int (begin : Int)), some (.int (start : Int)), some (.int (i : Int)), some (.str (kv m)), some (.str [c])] (σ ++ .list L :: τ) K X := by
     intro e K hK
     refine En hs hb (by exact (lnr [_,_] [] 0x1FD860010091E8C61092) hs hsl) (by exact (lnr [_,_,_] [] 0x1FD8600100921091E8C62093) hs hsl hL) (hK _ _ ?_)
     rw [if_pos e] at hsc
     unfold qa at h
     rw [hsc, if_neg (Nat.not_le.mpr hl), hc] at h
     refine ih (i + 1) _ (i + 1) _ _ τ .plain _ (by exact (lnr [_,_,_] [] 0x216190A10119162910A193) hn hl) (by split <;> (first | exact (lnr [_] [] 0x1609160901) | exact (lnr [_,_,_] [] 0x161900120920093) hb hsi)) (Nat.le_refl _) hl (by rw [List.length_append]; exact Nat.succ_le_succ (Nat.le_trans hL hsi)) ?_
     rw [← kA, List.append_assoc]
     by_cases e1 : c = 10
     ·rw [if_pos (congrArg some e1)] at h
      rw [if_pos e1, if_pos e1]
      exact h
     ·rw [if_neg (λ z => e1 (Option.some.inj z))] at h
      rw [if_neg e1, if_neg e1]
      exact h
    refine ay (cb hc) ⟨λ q => dI (sep (.inl (one (of_decide_eq_true q))) λ _ _ h => h), λ q1 => ?_⟩
    have q1 := fY (of_decide_eq_false q1)
    have main : ¬ (c = 59 ∧ m = .plain) -> ∀ {K : aA -> aj -> aa -> Prop}, (∀ ρ σ, WE T dz bK X n ρ σ Q -> K .next ρ σ) -> bB T (match bK with | .cons _ (.cons (.ifS _ _ a) _) => a | _ => .nil) [some (.str s), some (.loc σ.length), some (.int line), some (.int (begin : Int)), some (.int (start : Int)), some (.int (i : Int)), some (.str (kv m)), some (.str [c])] (σ ++ .list L :: τ) K X := by
     intro e2 K hK
     have nx := λ τ' => nx τ' λ z => z.elim q1 e2
     cases m with
     | remark => exact ah (λ _ => hK _ _ (nx τ)) λ q => absurd rfl q
     | text =>
      refine ah (λ q => nomatch q) λ _ => az (λ q => ah (λ _ => ?_) λ q => absurd rfl q) λ q => bC ?_
      ·obtain rfl := one q
       refine fW he ha hs λ τ' => ?_
       rw [xa]
       exact hK _ _ (nx _)
      ·have nx := nx τ
       rw [show fv s i .text c = i + 1 from if_neg (fY q)] at nx
       exact az (λ _ => ah (λ q => nomatch q) λ _ => rz (by decide) (hK _ _ nx)) λ _ => bC (rz (by decide) (hK _ _ nx))
     | plain =>
      have go : bB T (match bK with | .cons _ (.cons (.ifS _ _ (.cons (.ifS _ _ (.cons (.ifS _ _ a) _)) _)) _) => a | _ => .nil) [some (.str s), some (.loc σ.length), some (.int line), some (.int (begin : Int)), some (.int (start : Int)), some (.int (i : Int)), some (.str (kv .plain)), some (.str [c])] (σ ++ .list L :: τ) K X := by
       refine az (λ q => ah (λ _ => ?_) λ q => absurd rfl q) λ q => bC ?_
       ·obtain rfl := one q
        refine gU hk ha hs λ τ' => ?_
        rw [xa]
        exact hK _ _ (nx _)
       ·have nx := nx τ
        rw [show fv s i .plain c = i + 1 from if_neg (fY q)] at nx
        exact rz (by decide) (hK _ _ nx)
      exact ah (λ q => nomatch q) λ _ => az (λ _ => ah (λ q => nomatch q) λ _ => go) λ _ => bC go
    refine az (λ q2 => ah (λ q3 => sep (.inr ⟨one q2, D4 q3⟩) λ _ _ h => h) λ q3 => main (λ z => q3 (by rw [z.2]; rfl)) λ _ _ h => h) λ q2 => bC (main (λ z => fY q2 z.1) λ _ _ h => h)
  ·have hl := BH e
   unfold qa at h
   cases hc : s[i]? with
   | some c => exact absurd (ag hc) (Nat.not_lt.mpr hl)
   | none =>
    rw [dU hc, if_pos hl] at h
    exact hq _ _ _ _ _ _ _ _ hl hb hsl hL h
theorem vc_l_pieces (he : T .l_escape = k_l_escape) (hk : T .l_constant = k_l_constant) (h : k_l_pieces args σ Q X) : aJ T 8 1 jx args σ Q X := by
 obtain ⟨s, rfl, ha, hs, h⟩ := h
 refine ar rfl rfl ?_
 have lim : fD = 1048576 := rfl
 refine ⟨rfl, _, sX he hk ha hs (RES := bX s 1 0 0) (λ line begin start i L τ m sg hi hb hst hL hres => ?_) _ 0 0 0 1 [] [] .plain none (Nat.lt_succ_self _) (Nat.le_refl _) (Nat.le_refl _) (Nat.zero_le _) (Nat.le_refl _) (by rw [List.nil_append, kA])⟩
 have hadd : (List.replicate (start - begin) 32).length + (iq s (some (start : Int)) none).length ≤ fD := by rw [ee, List.length_replicate, List.length_drop]; exact (lnr [_,_,_,_] [] 0x302A10A902009488888863291E8C62094) hs lim hst
 refine bh (t8 _ hb (by exact (lnr [_,_] [] 0x3FA860010091E8C61092) hs hst)) (bh (eH hadd) ?_)
 have hp : eP s line begin start i = .tup [.int line, .str (List.replicate (start - begin) 32 ++ s.drop start)] := by unfold eP; rw [List.take_of_length_le hi]
 rw [hp] at hres
 rw [ee]
 refine bh (rY (xs := L) (ys := [.tup [.int line, .str (List.replicate (start - begin) 32 ++ s.drop start)]]) (by rw [xa]; exact xw _ _ _) (aL _ _) (by simp only [List.length_cons, List.length_nil]; exact (lnr [_,_,_,_] [] 0x11606909020093209488888861291E8C63094) hs lim hst hL)) ?_
 rw [hres]
 have := h (.list L :: τ ++ [.list [.tup [.int line, .str (List.replicate (start - begin) 32 ++ s.drop start)]]] ++ [.list (bX s 1 0 0)])
 rw [← List.append_assoc, ← List.append_assoc] at this
 exact this _ (aL _ _)
end
noncomputable def vj : bq := match fg with | .cons _ (.cons _ t) => t | _ => .nil
noncomputable def Ar : bq := match vj with | .cons _ t => t | _ => .nil
noncomputable def p5 (w : List Nat) : AV := match fX w with | none => .none | some (k, v) => .tup [.str k, .int v]
noncomputable def k_l_number : ac := λ args σ Q _ => ∃ (w : List Nat), args = [.str w] ∧ w ≠ [] ∧ aE w ∧ w.length ≤ 900 ∧ ∀ τ, Q (p5 w) (σ ++ τ)
noncomputable def qr (b : Nat) : AV -> Option AV
 | .str [c] => if af c < b then none else some (.str [c])
 | _ => none
noncomputable def dM (b : Nat) (f : List Nat) : List AV := (f.filter λ c => !decide (af c < b)).map λ c => .str [c]
theorem mW (b : Nat) : ∀ f : List Nat, (eE f).filterMap (qr b) = dM b f
 | [] => rfl
 | c :: f => by
  have ih := mW b f
  unfold dM at ih ⊢
  change (AV.str [c] :: eE f).filterMap (qr b) = _
  by_cases e : af c < b
  ·rw [List.filterMap_cons_none (show qr b (.str [c]) = none from if_pos e), List.filter_cons_of_neg (by rw [decide_eq_true e]; decide), ih]
  ·rw [List.filterMap_cons_some (show qr b (.str [c]) = some (.str [c]) from if_neg e), List.filter_cons_of_pos (by rw [decide_eq_false e]; decide), ih]; rfl
theorem AM (b : Nat) (f : List Nat) : dM b f = [] ↔ p6 b f = true := by
 unfold p6 dM
 rw [List.map_eq_nil_iff, List.filter_eq_nil_iff, List.all_eq_true]
 simp
theorem qj (b : Nat) : ∀ (l : List Nat) (v : Nat), pc b l v = mm b (l.map af) v
 | [], _ => rfl
 | c :: l, v => qj b l (v * b + af c)
noncomputable def Gj : AV -> Nat
 | .str [c] => af c
 | _ => 0
theorem wL {b : Nat} {f : List Nat} (h : p6 b f = true) {c : Nat} (hc : c ∈ f) : af c < b := of_decide_eq_true (List.all_eq_true.mp h c hc)
noncomputable def oU (b : Nat) (f : List Nat) : List Nat := i9 b 0 (f.reverse.map af)
theorem w0 (b : Nat) (f : List Nat) : (cz 0 (eE f.reverse)).filterMap (uZ b Gj) = (oU b f).map bw := by
 rw [nq, List.map_map]; rfl
theorem w3 (b : Nat) (f : List Nat) : (oU b f).sum = pc b f 0 := by
 unfold oU
 rw [oS, qj, List.map_reverse, List.reverse_reverse]
theorem AN {b : Nat} {f : List Nat} (hc : aE f) : ∀ v ∈ dM b f, g8 v 1 := by
 intro v hv
 obtain ⟨c, hcm, rfl⟩ := List.mem_map.mp hv
 refine jM (λ x hx => ?_) _
 rw [List.mem_singleton.mp hx]
 exact Nat.lt_trans (cg hc (List.mem_filter.mp hcm).1) (by decide)
theorem in2 (c a b : Nat) : List.contains [[a], [b]] [c] = decide (c = a ∨ c = b) := by
 refine eg ?_
 rw [List.contains_iff_mem, List.mem_cons, List.mem_singleton, decide_eq_true_iff]
 exact ⟨λ h => h.elim (λ h => .inl (one h)) λ h => .inr (one h), λ h => h.elim (λ h => .inl (congrArg (λ x => [x]) h)) λ h => .inr (congrArg (λ x => [x]) h)⟩
theorem nU {c a b : Nat} {A B : Prop} (ha : c = a ∨ c = b -> A) (hb : ¬ (c = a ∨ c = b) -> B) : (List.contains [[a], [b]] [c] = true -> A) ∧ (List.contains [[a], [b]] [c] = false -> B) := by rw [in2]; exact ah ha hb
theorem y9 (σ : aa) (a b : aG) : (σ ++ [a] ++ [b])[σ.length]? = some a := by rw [w9]; exact jm _ _ _
theorem vx {f : List Nat} (ha : aE f) {v : AV} (hv : v ∈ eE f) : ∃ c, v = .str [c] ∧ c < 128 := by
 obtain ⟨c, hcm, rfl⟩ := List.mem_map.mp hv
 exact ⟨c, rfl, cg ha hcm⟩
section
variable {T : Fn -> ac} {σ : aa} {Q X : AV -> aa -> Prop} {args : List AV}
theorem rW (hf : T .l_figure = k_l_figure) {b c : Nat} (hlt : c < 128) (hb : b ≤ 16) {K : Option AV -> Prop} (hK : K (qr b (.str [c]))) :
  aT (T .l_figure) [.str [c], .int (b : Int)] σ (λ x σ₂ => BM (dl .lt σ₂ x (.int 0)) λ r => σ₂ = σ ∧ te (.bool r) (σ = σ ∧ K (some (.str [c]))) (K none)) X := by
 refine dY hf hlt hb ⟨rfl, ?_⟩
 unfold sz
 by_cases e : af c < b
 ·rw [show qr b (.str [c]) = none from if_pos e] at hK
  rw [if_pos e]
  exact ah (λ q => absurd q (Int.not_lt.mpr (Int.natCast_nonneg _))) λ _ => hK
 ·rw [show qr b (.str [c]) = some (.str [c]) from if_neg e] at hK
  rw [if_neg e]
  exact ah (λ _ => ⟨rfl, hK⟩) λ q => absurd (by decide) q
theorem tN (hf : T .l_figure = k_l_figure) {b : Nat} (h0 : 0 < b) (hb : b ≤ 16) {f : List Nat} (ha : aE f) (hok : p6 b f = true) (hl : f.length ≤ 900) {v : AV} (hv : v ∈ cz 0 (eE f.reverse)) :
  ∃ (j c : Nat), v = .tup [.int (j : Int), .str [c]] ∧ ∀ {K : AV -> aa -> Prop}, (∀ u, uZ b Gj v = some u -> K u σ) -> aT (T .l_figure) [.str [c], .int (b : Int)] σ (λ x σ₂ => FO (f5 .pow (.int (b : Int)) (.int (j : Int)) σ₂) λ r => FO (f5 .mul x r.1 r.2) λ r => K r.1 r.2) X := by
 obtain ⟨j, y, rfl, hy, hj⟩ := nj _ _ _ hv
 obtain ⟨c, hcm, rfl⟩ := List.mem_map.mp hy
 rw [List.mem_reverse] at hcm
 rw [List.length_map, List.length_reverse] at hj
 refine ⟨j, c, rfl, λ {K} hK => ?_⟩
 refine dY hf (cg ha hcm) hb ?_
 rw [show sz b c = (af c : Int) from if_pos (wL hok hcm)]
 have := wL hok hcm
 exact bh (yB (by exact (lnr [_,_] [] 0x1FD860010690191E8C61092) hl hj) h0 (by exact (lnr [_] [] 0x1CC6002860091) hb)) (bh (vB (d := af c) (by exact (lnr [_,_] [] 0x3EC998860110192861092) hb this)) (hK _ rfl))
theorem vG {n m b : Nat} {f : List Nat} (hc : aE f) (hn : σ[n]? = some (.list (dM b f))) (hm : σ[m]? = some (.list [])) : dl .eq σ (.loc n) (.loc m) = some (p6 b f) := by
 refine (yO (k := 1) (by decide) hn hm (AN hc)).trans ?_
 congr 1
 exact eg (decide_eq_true_iff.trans (AM b f))
theorem F7 (hf : T .l_figure = k_l_figure) {w : List Nat} (hw : w ≠ []) (ha : aE w) (hl : w.length ≤ 900) {x1 x2 x3 x4 x5 : Option AV}
  (h : ∀ τ, Q (if 0 ≤ lv w then .tup [.str [108, 111, 99, 97, 108], .int (lv w)] else .none) (σ ++ τ)) : bB T Ar [some (.str w), x1, x2, x3, x4, x5] σ (fk Q) X := by
 have lw : lv w = if w.length < 2 ∨ (w.getLast? ≠ some 98 ∧ w.getLast? ≠ some 102) then -1 else if p6 10 w.dropLast = true then (pc 10 w.dropLast 0 : Int) else -1 := rfl
 generalize lv w = r at h lw
 replace lw := lw.symm
 have no : r = -1 -> ∀ τ, Q .none (σ ++ τ) := λ e τ => by subst e; exact h τ
 cases hc : w.getLast? with
 | none => exact absurd (List.getLast?_eq_none_iff.mp hc) hw
 | some c =>
  rw [hc] at lw
  refine ay (mw hc) ?_
  refine nU (a := 98) (b := 102) (λ e => ?_) λ e => bC ?_
  ·have e0 := lP w
   have hcd : aE (iq w none (some (-1))) := by rw [e0]; exact dj ha λ d hd => List.dropLast_subset _ hd
   have hld : (iq w none (some (-1))).length ≤ 900 := by rw [e0, List.length_dropLast]; exact Nat.le_trans (Nat.sub_le _ _) hl
   refine ⟨rfl, by rw [List.length_map]; exact Nat.le_trans hld (by decide), aD (qr 10) (eE (iq w none (some (-1)))) _ (λ v hv K hK => ?_) ?_⟩
   ·obtain ⟨c, rfl, hc⟩ := vx hcd hv
    have z := rW (σ := σ) (X := λ _ _ => False) hf (b := 10) hc (by decide) hK
    exact z
   rw [List.nil_append, mW, e0]
   refine ew (vG (b := 10) (f := w.dropLast) (dj ha λ d hd => List.dropLast_subset _ hd) (y9 _ _ _) (aL _ _)) ?_
   refine ⟨λ e2 => ah (λ e3 => ?_) λ e3 => ?_, λ e2 => bC ?_⟩
   ·rw [← e0] at e2
    refine ⟨trivial, by rw [gH, List.length_map, List.length_reverse]; exact Nat.le_trans hld (by decide), aD (uZ 10 Gj) (cz 0 (eE (iq w none (some (-1))).reverse)) _ (λ v hv K hK => ?_) ?_⟩
    ·obtain ⟨j, c, rfl, go⟩ := tN (σ := σ ++ [.list (dM 10 w.dropLast)] ++ [.list []]) (X := λ _ _ => False) hf (b := 10) (by decide) (by decide) hcd e2 hld hv
     exact ⟨rfl, go (K := λ u σ₂ => σ₂ = _ ∧ K (some u)) λ u hu => ⟨rfl, hu ▸ hK⟩⟩
    rw [List.nil_append, w0]
    refine bF (t7 (aL _ _)) ?_
    rw [e0] at e2 ⊢
    rw [w3]
    rw [if_neg (λ z => z.elim (λ z => absurd (pf (a := 1) e3) (Nat.not_lt.mpr (Nat.le_of_lt_succ z))) λ z => e.elim (λ q => z.1 (congrArg some q)) λ q => z.2 (congrArg some q)), if_pos e2] at lw
    subst lw
    have := h ([.list (dM 10 w.dropLast)] ++ [.list []] ++ [.list ((oU 10 w.dropLast).map bw)])
    rw [if_pos (Int.natCast_nonneg _)] at this
    rw [← List.append_assoc, ← List.append_assoc] at this
    exact this
   ·have := no (((if_pos (.inl (Nat.lt_succ_of_le (BH (a := 1) e3)))).symm.trans lw).symm) ([.list (dM 10 w.dropLast)] ++ [.list []])
    rw [← List.append_assoc] at this
    exact this
   ·have := no (by rw [← lw, e2]; split <;> rfl) ([.list (dM 10 w.dropLast)] ++ [.list []])
    rw [← List.append_assoc] at this
    exact this
  ·have := no (lw.symm.trans (if_pos (.inr ⟨λ z => e (.inl (Option.some.inj z)), λ z => e (.inr (Option.some.inj z))⟩))) []
   rw [List.append_nil] at this
   exact this
theorem CG (hf : T .l_figure = k_l_figure) {w f : List Nat} {b : Nat} (hb0 : 0 < b) (hb : b ≤ 16) (hfg : dg w = f) (hbs : dO w = b) (hfw : ∀ c ∈ f, c ∈ w) (hfl : f.length ≤ w.length) (hw : w ≠ []) (ha : aE w) (hl : w.length ≤ 900) {x3 x4 x5 : Option AV}
  (h : ∀ τ, Q (p5 w) (σ ++ τ)) : bB T vj [some (.str w), some (.int (b : Int)), some (.str f), x3, x4, x5] σ (fk Q) X := by
 have haf : aE f := dj ha hfw
 have hlf := Nat.le_trans hfl hl
 unfold p5 fX qS at h
 rw [hfg, hbs] at h
 have loc : (f = [] ∨ p6 b f = false) -> ∀ τ, bB T Ar [some (.str w), some (.int (b : Int)), some (.str f), x3, x4, x5] (σ ++ τ) (fk Q) X := λ e τ => by
  refine F7 hf hw ha hl λ υ => ?_
  have := h (τ ++ υ)
  rw [List.append_assoc]
  have hm : (if f = [] then (-1 : Int) else if p6 b f = true then (pc b f 0 : Int) else -1) = -1 := by
   by_cases ef : f = []
   ·rw [if_pos ef]
   ·rw [if_neg ef, if_neg (by rw [e.resolve_left ef]; decide)]
  rw [hm, if_neg (by decide), if_neg (by decide)] at this
  by_cases e0 : 0 ≤ lv w
  ·rw [if_pos e0] at this ⊢; exact this
  ·rw [if_neg e0] at this ⊢; exact this
 refine iU (λ ef => ?_) λ ef => ?_
 ·refine ⟨rfl, by rw [List.length_map]; exact Nat.le_trans hlf (by decide), aD (qr b) (eE f) _ (λ v hv K hK => ?_) ?_⟩
  ·obtain ⟨c, rfl, hc⟩ := vx haf hv
   have z := rW (σ := σ) (X := λ _ _ => False) hf hc hb hK
   exact z
  rw [List.nil_append, mW]
  refine ew (vG (b := b) (f := f) haf (y9 _ _ _) (aL _ _)) ?_
  refine eI (λ e2 => ?_) λ e2 => aK ?_
  ·refine ⟨trivial, by rw [gH, List.length_map, List.length_reverse]; exact Nat.le_trans hlf (by decide), aD (uZ b Gj) (cz 0 (eE f.reverse)) _ (λ v hv K hK => ?_) ?_⟩
   ·obtain ⟨j, c, rfl, go⟩ := tN (σ := σ ++ [.list (dM b f)] ++ [.list []]) (X := λ _ _ => False) hf hb0 hb haf e2 hlf hv
    exact ⟨rfl, go (K := λ u σ₂ => σ₂ = _ ∧ K (some u)) λ u hu => ⟨rfl, hu ▸ hK⟩⟩
   rw [List.nil_append, w0]
   refine bF (t7 (aL _ _)) ?_
   rw [w3]
   have := h ([.list (dM b f)] ++ [.list []] ++ [.list ((oU b f).map bw)])
   rw [if_neg ef, if_pos e2] at this
   rw [← List.append_assoc, ← List.append_assoc] at this
   have hv0 : (0 : Int) ≤ (pc b f 0 : Int) := Int.natCast_nonneg _
   generalize (pc b f 0 : Int) = v at this hv0 ⊢
   have lt : AI < v ↔ ¬ v < 18446744073709551616 := by unfold AI; omega
   refine ah (p := v < 18446744073709551616) (λ q => ?_) λ q => ?_
   ·rw [if_neg (λ z => lt.mp z q), if_pos hv0] at this
    exact this
   ·rw [if_pos (lt.mpr q)] at this
    exact this
  ·have := loc (.inr e2) ([.list (dM b f)] ++ [.list []])
   rw [← List.append_assoc] at this
   exact this
 ·have := loc (.inl ef) []
  rw [List.append_nil] at this
  exact bC (aK this)
noncomputable def Gb : MS := match fg with | .cons _ (.cons s _) => s | _ => .brk
theorem Ec (hf : T .l_figure = k_l_figure) {c : Nat} {r : List Nat} (ha : aE (48 :: c :: r)) (hl : (48 :: c :: r).length ≤ 900) (h : ∀ τ, Q (p5 (48 :: c :: r)) (σ ++ τ)) :
  bB T (.cons Gb vj) [some (.str (48 :: c :: r)), some (.int 10), some (.str (48 :: c :: r)), none, none, none] σ (fk Q) X := by
 have two := λ (f : List Nat) {f'} (ef : f' = f) (b : Nat) hb0 hb hfg hbs hfw hfl => ef ▸ CG (T := T) (σ := σ) (Q := Q) (X := X) (w := 48 :: c :: r) (f := f) (b := b) (x3 := none) (x4 := none) (x5 := none) hf hb0 hb hfg hbs hfw hfl (by exact λ z => nomatch z) ha hl h
 have er := ee (48 :: c :: r) 2
 have er1 := ee (48 :: c :: r) 1
 rw [show (48 :: c :: r).drop 2 = r from rfl] at er
 rw [show (48 :: c :: r).drop 1 = c :: r from rfl] at er1
 refine az (λ _ => ah (λ _ => ⟨rfl, ?_⟩) λ q => absurd (Int.ofNat_lt (n := 1).mpr (Nat.succ_lt_succ (Nat.succ_pos _))) q) λ q => absurd rfl q
 refine nU (c := c) (a := 120) (b := 88) (λ e1 => ⟨rfl, ?_⟩) λ e1 => aK (nU (c := c) (a := 98) (b := 66) (λ e2 => ⟨rfl, ?_⟩) λ e2 => aK ?_)
 ·have z := two r er 16 (by decide) (by decide) (if_pos e1) (if_pos e1) (λ d hd => List.mem_cons_of_mem _ (List.mem_cons_of_mem _ hd)) (Nat.le_succ_of_le (Nat.le_succ _))
  exact nU (c := c) (a := 98) (b := 66) (λ e2 => absurd e2 (by exact (lnr [_] [] 0x18A6021CA602861B86021F8602891) e1)) λ _ => aK z
 ·have z := two r er 2 (by decide) (by decide) ((if_neg e1).trans (if_pos e2)) ((if_neg e1).trans (if_pos e2)) (λ d hd => List.mem_cons_of_mem _ (List.mem_cons_of_mem _ hd)) (Nat.le_succ_of_le (Nat.le_succ _))
  exact z
 ·have z := two (c :: r) er1 8 (by decide) (by decide) ((if_neg e1).trans (if_neg e2)) ((if_neg e1).trans (if_neg e2)) (λ d hd => List.mem_cons_of_mem _ hd) (Nat.le_succ _)
  exact z
theorem vc_l_number (hf : T .l_figure = k_l_figure) (h : k_l_number args σ Q X) : aJ T 6 1 fg args σ Q X := by
 obtain ⟨w, rfl, hw, ha, hl, h⟩ := h
 refine ar rfl rfl ?_
 rcases w with _ | ⟨x, w⟩
 ·exact absurd rfl hw
 by_cases e : ∃ c r, x :: w = 48 :: c :: r
 ·obtain ⟨c, r, e⟩ := e
  rw [e] at ha hl h ⊢
  exact ⟨rfl, Ec hf ha hl h⟩
 ·have hfg : dg (x :: w) = x :: w := by
   unfold dg; split
   ·rename_i q; exact absurd ⟨_, _, q⟩ e
   ·rfl
  have hbs : dO (x :: w) = 10 := by
   unfold dO; split
   ·rename_i q; exact absurd ⟨_, _, q⟩ e
   ·rfl
  have z := CG (T := T) (σ := σ) (Q := Q) (X := X) (b := 10) (x3 := none) (x4 := none) (x5 := none) hf (by decide) (by decide) hfg hbs (λ c hc => hc) (Nat.le_refl _) hw ha hl h
  refine ⟨rfl, az (λ q => ah (λ q2 => ?_) λ _ => aK z) λ q => bC (aK z)⟩
  obtain rfl := one q
  cases w with
  | nil => exact absurd (pf (a := 1) (b := 1) q2) (Nat.lt_irrefl 1)
  | cons c r => exact absurd ⟨c, r, rfl⟩ e
end
noncomputable def lI (p : Nat) : AV := .tup [.none, .int (p : Int), .int 0]
noncomputable def k_l_quote : ac := λ args σ Q _ => ∃ (s : List Nat) (i : Nat), args = [.str s, .int (i : Int)] ∧ aE s ∧ s.length ≤ 900 ∧
 match bc s i (i + 1) [] with
 | .bad p => ∀ τ, Q (lI p) (σ ++ τ)
 | .ok w e => ∀ τ, Q (.tup [.str iC, .str w, .int (e : Int)]) (σ ++ τ)
noncomputable def Ga : bq := match fM with | .cons _ (.cons _ (.cons _ t)) => t | _ => .nil
section
variable {T : Fn -> ac} {σ : aa} {Q X : AV -> aa -> Prop} {args : List AV}
theorem qs (e : T .l_quote = k_l_quote) {s : List Nat} {i : Nat} (ha : aE s) (hs : s.length ≤ 900) (h : match bc s i (i + 1) [] with
 | .bad p => ∀ τ, Q (lI p) (σ ++ τ)
 | .ok w e => ∀ τ, Q (.tup [.str iC, .str w, .int (e : Int)]) (σ ++ τ)) : aT (T .l_quote) [.str s, .int (i : Int)] σ Q X := λ _ _ q _ => e ▸ ⟨s, i, rfl, ha, hs, by
 generalize bc s i (i + 1) [] = r at h ⊢
 cases r with
 | bad p => exact λ τ => q _ _ (h τ)
 | ok w e => exact λ τ => q _ _ (h τ)⟩
theorem zD {a b : Prop} (h : a) : te (.bool (decide ((-1 : Int) < 0))) a b := ah (λ _ => h) λ q => absurd (by decide) q
theorem lE {x0 x1 x3 : Option AV} {e' : AV} {w : List Nat} {k : Int} {c : Nat} {K : aA -> aj -> aa -> Prop} (h0 : ¬ k < 0) (hk : l9 .chr σ (.int k) = some (.str [c])) (hadd : w.length + [c].length ≤ fD)
  (h : K .next [x0, x1, some (.str (w ++ [c])), some e', some (.int k), some e'] σ) : bB T Ga [x0, x1, some (.str w), x3, some (.int k), some e'] σ K X :=
 ah (λ q => absurd q h0) λ _ => aK (bF hk (bh (eH hadd) ⟨rfl, h⟩))
theorem uH (he : T .l_escape = k_l_escape) {s : List Nat} {i : Nat} (ha : aE s) (hs : s.length ≤ 900) {Q : aA -> aj -> aa -> Prop} : ∀ (m e : Nat) (w : List Nat) (x y : Option AV) (σ : aa), s.length + 1 - e < m -> w.length ≤ e -> e ≤ 1010 ->
  (∀ p, bc s i e w = .bad p -> ∀ τ ρ, Q (.ret (lI p)) ρ (σ ++ τ)) ->
  (∀ w' e', bc s i e w = .ok w' (e' + 1) -> ∀ τ x y, Q .next [some (.str s), some (.int (i : Int)), some (.str w'), some (.int (e' : Int)), x, y] (σ ++ τ)) ->
  WE T hZ fM X m [some (.str s), some (.int (i : Int)), some (.str w), some (.int (e : Int)), x, y] σ Q := by
 intro m
 induction m with
 | zero => intro e _ _ _ _ hm; exact absurd hm (Nat.not_lt_zero _)
 | succ m ih =>
  intro e w x y σ hm hwl hle q1 q2
  have q10 : ∀ p, bc s i e w = .bad p -> ∀ ρ, Q (.ret (lI p)) ρ σ := λ p hp ρ => by have := q1 p hp [] ρ; rwa [List.append_nil] at this
  have hone := gF s e
  cases hc : s[e]? with
  | none =>
   rw [hc] at hone
   exact eu (λ _ => ah (λ _ => q10 i (cO hc) _) λ q => absurd (Int.ofNat_le.mpr (ca hc)) q) λ q => nomatch hone.symm.trans q
  | some c =>
   rw [hc] at hone
   have hl := ag hc
   have hr := (bO (a := i) (w := w) hc).symm
   have q2' : ∀ w' e', bc s i e w = .ok w' (e' + 1) -> ∀ x y, Q .next [some (.str s), some (.int (i : Int)), some (.str w'), some (.int (e' : Int)), x, y] σ := λ w' e' h x y => by have := q2 w' e' h [] x y; rwa [List.append_nil] at this
   generalize bc s i e w = r at q1 q2 q10 q2' hr
   have hadd : ∀ {k : Nat}, w.length + [k].length ≤ fD := Nat.le_trans (Nat.add_le_add_right (Nat.le_trans hwl hle) 1) (by decide)
   refine eu (λ e1 => ah (λ q => absurd (Cq q) (Nat.not_le.mpr hl)) λ _ => aK (ay (cb hc) ⟨rfl, ay (cb hc) (ah (λ e2 => ?_) λ e2 => ?_)⟩)) λ e1 => ?_
   ·replace hr := bN (λ z => e1 (hone.trans (congrArg (λ x => [x]) z))) hr
    replace hr := bM (one e2) hr
    refine fW he ha hs λ τ => ⟨rfl, ?_⟩
    by_cases e3 : (be s e).1 < 0
    ·exact ah (λ _ => q1 _ (bM e3 hr).symm τ _) λ q => absurd e3 q
    ·obtain rfl := bN e3 hr
     have hgt := cH s e
     have hlt := qC s e
     have hb : (be s e).2 ≤ s.length := qB hc
     refine lE e3 (mY (Int.not_lt.mp e3) (Int.lt_trans hlt (by decide))) hadd ?_
     refine ih (be s e).2 _ _ _ (σ ++ τ) (by exact (lnr [_,_,_,_] [] 0x211609A101091319162931609A194) hm hgt hb) (by rw [List.length_append]; exact Nat.le_trans (Nat.succ_le_succ hwl) hgt) (Nat.le_trans hb (Nat.le_trans hs (by decide))) (λ p hp τ' ρ => ?_) (λ w' e' hw τ' x y => ?_)
     ·rw [List.append_assoc]; exact q1 p hp _ _
     ·rw [List.append_assoc]; exact q2 w' e' hw _ _ _
   ·replace hr := bN (λ z => e1 (hone.trans (congrArg (λ x => [x]) z))) hr
    replace hr := bN (fY e2) hr
    have bad : (c ≠ 9 ∧ (c < 32 ∨ 126 < c)) -> Q (.ret (lI e)) [some (.str s), some (.int (i : Int)), some (.str w), some (.int (e : Int)), some (.int (-1)), some (.int ((e + 1 : Nat) : Int))] σ := λ q => q10 _ (bM q hr).symm _
    generalize hC : (c : Int) = C
    have fin : ¬ (c ≠ 9 ∧ (c < 32 ∨ 126 < c)) -> l9 .chr σ (.int C) = some (.str [c]) ∧ ¬ C < 0 ∧ WE T hZ fM X m [some (.str s), some (.int (i : Int)), some (.str (w ++ [c])), some (.int ((e + 1 : Nat) : Int)), some (.int C), some (.int ((e + 1 : Nat) : Int))] σ Q := by
     intro q
     obtain rfl := bN q hr
     subst hC
     refine ⟨mY (Int.natCast_nonneg c) (by exact (lnr [_] [] 0x4A8888860B401FE614860181960267691) q), by exact (lnr [_] [] 0x060B461), ?_⟩
     exact ih (e + 1) _ _ _ σ (by exact (lnr [_,_,_] [] 0x216191609A11B0B369162911609A193) hm ‹_›) (by rw [List.length_append]; exact Nat.succ_le_succ hwl) (by exact (lnr [_,_] [] 0x1FEA6160900B1B3691E8C61092) hs ‹_›) q1 q2
    refine iU (λ e9 => ?_) λ e9 => bC (aK ?_)
    ·have n9 : c ≠ 9 := λ q => e9 (by rw [← hC, q]; rfl)
     refine ⟨λ q => dI (zD (bad ⟨n9, .inl (pf (b := 32) (hC ▸ of_decide_eq_true q))⟩)), λ q => ah (λ q2 => zD (bad ⟨n9, .inr (pf (a := 126) (hC ▸ q2))⟩)) λ q2 => aK ?_⟩
     obtain ⟨f1, f2, f3⟩ := fin λ z => z.2.elim (λ z => of_decide_eq_false q (hC ▸ Int.ofNat_lt.mpr z)) λ z => q2 (hC ▸ Int.ofNat_lt.mpr z)
     exact lE f2 f1 hadd f3
    ·obtain ⟨f1, f2, f3⟩ := fin λ q => q.1 (Int.ofNat_inj (n := 9).mp (hC.trans e9))
     exact lE f2 f1 hadd f3
   ·exact q2' _ _ (bM (one (hone.symm.trans e1)) hr).symm _ _
theorem vc_l_quote (he : T .l_escape = k_l_escape) (h : k_l_quote args σ Q X) : aJ T 6 2 kU args σ Q X := by
 obtain ⟨s, i, rfl, ha, hs, h⟩ := h
 refine ar rfl rfl ⟨rfl, ?_⟩
 by_cases hi : s.length ≤ i
 ·have hc : s[i + 1]? = none := List.getElem?_eq_none_iff.mpr (Nat.le_succ_of_le hi)
  rw [cO hc] at h
  have h0 := h []
  rw [List.append_nil] at h0
  have hone := gF s (i + 1)
  rw [hc] at hone
  exact ⟨1, eu (λ _ => ah (λ _ => h0) λ q => absurd (Int.ofNat_le.mpr (ca hc)) q) λ q => nomatch hone.symm.trans q⟩
 refine ⟨_, uH he ha hs _ (i + 1) [] _ _ σ (Nat.lt_succ_self _) (Nat.zero_le _) (by exact (lnr [_,_] [] 0x1FEA616090010691E8C61092) hs hi) (λ p hq τ ρ => ?_) (λ w' e' hq τ x y => ?_)⟩
 ·rw [hq] at h; exact h τ
 ·rw [hq] at h; exact h τ
end
noncomputable def k_l_token : ac := λ args σ Q _ => ∃ (s : List Nat) (i c : Nat), args = [.str s, .int (i : Int)] ∧ s[i]? = some c ∧ aE s ∧ s.length ≤ 900 ∧
 match dJ s i c with
 | .bad p => ∀ τ, Q (lI p) (σ ++ τ)
 | .ok k v e => ∀ τ, Q (.tup [.str k, v, .int (e : Int)]) (σ ++ τ)
theorem kG {c : Nat} (h : c < 128) : jo .isalpha (.str [c]) = some (.bool (isAl c)) := (if_pos (by simp [h])).trans (congrArg (λ b => some (AV.bool b)) (Bool.and_true _))
theorem kH {c : Nat} (h : c < 128) : jo .isdigit (.str [c]) = some (.bool (isDi c)) := (if_pos (by simp [h])).trans (congrArg (λ b => some (AV.bool b)) (Bool.and_true _))
theorem qy (s : List Nat) (i e : Nat) : iq s (some (i : Int)) (some (e : Int)) = sub s i e := fF s i e
theorem in3 (c a b d : Nat) : List.contains [[a], [b], [d]] [c] = decide (c = a ∨ c = b ∨ c = d) := by
 refine eg ?_
 rw [List.contains_iff_mem, List.mem_cons, List.mem_cons, List.mem_singleton, decide_eq_true_iff]
 exact ⟨λ h => h.imp one λ h => h.imp one one, λ h => h.imp (congrArg λ x => [x]) λ h => h.imp (congrArg λ x => [x]) (congrArg λ x => [x])⟩
theorem DS {c a b d : Nat} {A B : Prop} (ha : c = a ∨ c = b ∨ c = d -> A) (hb : ¬ (c = a ∨ c = b ∨ c = d) -> B) : (List.contains [[a], [b], [d]] [c] = true -> A) ∧ (List.contains [[a], [b], [d]] [c] = false -> B) := by rw [in3]; exact ah ha hb
theorem DT {w a b : List Nat} {A B : Prop} (ha : w = a ∨ w = b -> A) (hb : ¬ (w = a ∨ w = b) -> B) : (List.contains [a, b] w = true -> A) ∧ (List.contains [a, b] w = false -> B) := by
 rw [show List.contains [a, b] w = decide (w = a ∨ w = b) from eg (by rw [List.contains_iff_mem, List.mem_cons, List.mem_singleton, decide_eq_true_iff])]
 exact ah ha hb
theorem td {r : Bool} {a b : Prop} (ha : r = false -> a) (hb : r = true -> b) : te (.bool (!r)) a b := by
 cases r
 ·exact dI (ha rfl)
 ·exact bC (hb rfl)
theorem uv {c : Nat} (h : isDi c = true) : isAl c = false := by
 unfold isDi at h; unfold isAl
 simp only [Bool.and_eq_true, decide_eq_true_eq] at h
 rw [Bool.eq_false_iff]
 simp only [ne_eq, Bool.or_eq_true, Bool.and_eq_true, decide_eq_true_eq]
 exact (lnr [_] [] 0x1FA60001C96071BA6000189607867960006860791) h
theorem iW {c : Nat} : de c = true ↔ isAl c = true ∨ c = 95 ∨ c = 46 := by
 unfold de; rw [Bool.or_eq_true, Bool.or_eq_true, beq_iff_eq, beq_iff_eq, or_assoc]
theorem iB {c : Nat} : aY c = true ↔ isAl c = true ∨ isDi c = true ∨ c = 95 ∨ c = 46 ∨ c = 36 := by
 unfold aY; simp only [Bool.or_eq_true, beq_iff_eq]
 exact ⟨λ h => h.elim (λ h => h.elim (λ h => h.elim (λ h => h.elim (λ h => .inr (.inl h)) .inl) λ h => .inr (.inr (.inl h))) λ h => .inr (.inr (.inr (.inl h)))) λ h => .inr (.inr (.inr (.inr h))),
  λ h => h.elim (λ h => .inl (.inl (.inl (.inr h)))) λ h => h.elim (λ h => .inl (.inl (.inl (.inl h)))) λ h => h.elim (λ h => .inl (.inl (.inr h))) λ h => h.elim (λ h => .inl (.inr h)) .inr⟩
theorem ru {c : Nat} : cT c = true ↔ isAl c = true ∨ isDi c = true := by
 unfold cT; rw [Bool.or_eq_true]
theorem rX {c : Nat} (h : de c = true) : isDi c = false := by
 cases hd : isDi c with
 | false => rfl
 | true =>
  rcases iW.mp h with h | rfl | rfl
  ·rw [uv hd] at h; cases h
  ·cases hd
  ·cases hd
theorem E2 {α : Type} {Q : α -> aa -> Prop} {v : α} {σ : aa} (h : ∀ τ, Q v (σ ++ τ)) : Q v σ := by have := h []; rwa [List.append_nil] at this
noncomputable def Hg : bq := match f4 with | .cons _ (.cons _ (.cons (.ifS _ a _) _)) => a | _ => .nil
noncomputable def Ex : bq := match f4 with | .cons _ (.cons _ (.cons _ t)) => t | _ => .nil
noncomputable def B6 : bq := match Ex with | .cons _ (.cons _ (.cons _ t)) => t | _ => .nil
section
variable {T : Fn -> ac} {σ : aa} {Q X : AV -> aa -> Prop} {args : List AV}
theorem ph (e : T .l_number = k_l_number) {w : List Nat} (hw : w ≠ []) (ha : aE w) (hl : w.length ≤ 900) (h : ∀ τ, Q (p5 w) (σ ++ τ)) : aT (T .l_number) [.str w] σ Q X := λ _ _ q _ => e ▸ ⟨w, rfl, hw, ha, hl, λ τ => q _ _ (h τ)⟩
theorem xE {s : List Nat} (ha : aE s) {a b c d : Option AV} {Q : aA -> aj -> aa -> Prop} : ∀ (m i : Nat), s.length - i < m ->
  Q .next [some (.str s), a, b, some (.int (ai aY s i : Int)), c, d] σ -> WE T ig iR X m [some (.str s), a, b, some (.int (i : Int)), c, d] σ Q := by
 intro m
 induction m with
 | zero => intro i hm; exact absurd hm (Nat.not_lt_zero _)
 | succ m ih =>
  intro i hm h
  cases hc : s[i]? with
  | none =>
   rw [bv hc] at h
   exact az (λ q => xH hc q) λ _ => bC h
  | some x =>
   have hl := ag hc
   have hx := hM ha hc
   have go : aY x = true -> WE T ig iR X m [some (.str s), a, b, some (.int ((i + 1 : Nat) : Int)), c, d] σ Q := λ e => by
    rw [bP hc e] at h
    exact ih _ (by exact (lnr [_,_,_] [] 0x216190A10119162910A193) hm hl) h
   refine az (λ _ => ay (cb hc) (bF (kG hx) ⟨λ e1 => dI (go (iB.mpr (.inl e1))), λ e1 => ay (cb hc) (bF (kH hx) ⟨λ e2 => dI (go (iB.mpr (.inr (.inl e2)))), λ e2 => ay (cb hc) ?_⟩)⟩)) λ q => lG hc q
   refine DS (c := x) (a := 95) (b := 46) (d := 36) (λ e3 => go (iB.mpr (.inr (.inr e3)))) λ e3 => ?_
   have no : aY x = false := Bool.eq_false_iff.mpr λ z => (iB.mp z).elim (λ z => by rw [e1] at z; cases z) λ z => z.elim (λ z => by rw [e2] at z; cases z) e3
   rw [cZ hc no] at h
   exact h
theorem zt {s : List Nat} (ha : aE s) {a b c d : Option AV} {Q : aA -> aj -> aa -> Prop} : ∀ (m i : Nat), s.length - i < m ->
  Q .next [some (.str s), a, b, some (.int (ai cT s i : Int)), c, d] σ -> WE T ie iQ X m [some (.str s), a, b, some (.int (i : Int)), c, d] σ Q := by
 intro m
 induction m with
 | zero => intro i hm; exact absurd hm (Nat.not_lt_zero _)
 | succ m ih =>
  intro i hm h
  cases hc : s[i]? with
  | none =>
   rw [bv hc] at h
   exact az (λ q => xH hc q) λ _ => bC h
  | some x =>
   have hl := ag hc
   have hx := hM ha hc
   have go : cT x = true -> WE T ie iQ X m [some (.str s), a, b, some (.int ((i + 1 : Nat) : Int)), c, d] σ Q := λ e => by
    rw [bP hc e] at h
    exact ih _ (by exact (lnr [_,_,_] [] 0x216190A10119162910A193) hm hl) h
   refine az (λ _ => ay (cb hc) (bF (kG hx) ⟨λ e1 => dI (go (ru.mpr (.inl e1))), λ e1 => ay (cb hc) (bF (kH hx) ⟨λ e2 => go (ru.mpr (.inr e2)), λ e2 => ?_⟩)⟩)) λ q => lG hc q
   have no : cT x = false := Bool.eq_false_iff.mpr λ z => (ru.mp z).elim (λ z => by rw [e1] at z; cases z) λ z => by rw [e2] at z; cases z
   rw [cZ hc no] at h
   exact h
theorem vc_l_token (h1 : T .l_number = k_l_number) (h2 : T .l_constant = k_l_constant) (h3 : T .l_quote = k_l_quote) (h : k_l_token args σ Q X) : aJ T 6 2 f4 args σ Q X := by
 obtain ⟨s, i, c, rfl, hc, ha, hs, h⟩ := h
 refine ar rfl rfl ?_
 have hx := hM ha hc
 have hl := ag hc
 have h : ∀ {t}, dJ s i c = t -> match t with | .bad p => ∀ τ, Q (lI p) (σ ++ τ) | .ok k v e => ∀ τ, Q (.tup [.str k, v, .int (e : Int)]) (σ ++ τ) := λ e => e ▸ h
 have hT : dJ s i c = if de c = true then .ok cj (.str (sub s i (ai aY s i))) (ai aY s i)
  else if isDi c = true then (match fX (sub s i (ai aY s i)) with | none => .bad i | some (k, v) => .ok k (.int v) (ai aY s i))
  else if c = 39 then (if (au s i).1 < 0 then .bad i else .ok oo (.int (au s i).1) (au s i).2)
  else if c = 34 then (match bc s i (i + 1) [] with | .bad p => .bad p | .ok w e => .ok iC (.str w) e)
  else if c = 37 ∧ bE s (i + 1) = true then .ok jL (.str ((sub s i (ai cT s (i + 1))).drop 1 |>.map oh)) (ai cT s (i + 1))
  else if gj.contains c = true then .ok uI (.str (sub s i (dm s i))) (dm s i) else .bad i := rfl
 have nm : (de c = true ∨ isDi c = true) -> ∀ {K : aA -> aj -> aa -> Prop}, (∀ v ρ σ', Q v σ' -> K (.ret v) ρ σ') -> bB T Hg [some (.str s), some (.int (i : Int)), some (.str [c]), some (.int ((i + 1 : Nat) : Int)), none, none] σ K X := by
  intro e K hK
  have hn : aY c = true := e.elim mX λ d => iB.mpr (.inr (.inl d))
  refine ⟨_, xE ha _ (i + 1) (Nat.lt_succ_self _) ?_⟩
  rw [← bP hc hn]
  have hcs := qy s i (ai aY s i)
  refine bF (kH hx) (td (λ q => ?_) λ q => aK ?_)
  ·refine hK _ _ _ ?_
   have hb := e.resolve_right (by rw [q]; decide)
   have z := E2 (Q := Q) (h (hT.trans (if_pos hb)))
   rw [← hcs] at z
   exact z
  ·have hb : ¬ de c = true := λ z => by rw [rX z] at q; cases q
   have hT := (hT.trans (if_neg hb)).trans (if_pos q)
   rw [← hcs] at hT
   have hgt := qN hc hn
   have hw : iq s (some (i : Int)) (some (ai aY s i : Int)) ≠ [] := by
    rw [hcs]; unfold sub
    rw [List.drop_take, bT hc]
    intro q
    rw [List.take_eq_nil_iff] at q
    exact q.elim (λ q => by exact (lnr [_,_] [] 0xA0610A2901192) hgt q) λ q => nomatch q
   refine ph h1 hw (by rw [hcs]; exact dj ha λ d hd => List.mem_of_mem_take (List.mem_of_mem_drop hd)) (by rw [hcs]; exact Nat.le_trans (rF _ _ _) hs) λ τ => ?_
   have z := h hT
   unfold p5
   generalize fX (iq s (some (i : Int)) (some (ai aY s i : Int))) = o at z ⊢
   rcases o with _ | ⟨k, v⟩
   ·exact dI (hK _ _ _ (z τ))
   ·exact bC (hK _ _ _ (z τ))
 refine ay (cb hc) (bF (kG hx) ⟨λ e1 => dI (nm (.inl (iW.mpr (.inl e1))) λ _ _ _ h => h), λ e1 => nU (c := c) (a := 95) (b := 46) (λ e2 => dI (nm (.inl (iW.mpr (.inr e2))) λ _ _ _ h => h)) λ e2 => bF (kH hx) (eI (λ e3 => nm (.inr e3) λ _ _ _ h => h) λ e3 => aK ?_)⟩)
 replace hT := (hT.trans (if_neg (λ z => (iW.mp z).elim (λ z => by rw [e1] at z; cases z) e2))).trans (if_neg (by rw [e3]; decide))
 clear nm
 refine ah (λ q => ?_) λ q1 => ?_
 ·replace hT := hT.trans (if_pos (one q))
  refine gU h2 ha hs λ τ => ⟨rfl, ah (λ q => ?_) λ q => ?_⟩
  ·exact h (hT.trans (if_neg (Int.not_lt.mpr q))) τ
  ·exact h (hT.trans (if_pos (Int.not_le.mp q))) τ
 replace hT := hT.trans (if_neg (fY q1))
 refine ah (λ q => ?_) λ q2 => ?_
 ·replace hT := hT.trans (if_pos (one q))
  refine qs h3 ha hs ?_
  have z := h hT
  generalize bc s i (i + 1) [] = o at z ⊢
  cases o with
  | bad p => exact z
  | ok w e => exact z
 replace hT := hT.trans (if_neg (fY q2))
 have mk : ¬ (c = 37 ∧ bE s (i + 1) = true) -> bB T B6 [some (.str s), some (.int (i : Int)), some (.str [c]), some (.int ((i + 1 : Nat) : Int)), none, none] σ (fk Q) X := by
  intro e
  replace hT := hT.trans (if_neg e)
  have hcs := qy s i (i + 2)
  refine DT (w := iq s (some (i : Int)) (some ((i + 2 : Nat) : Int))) (a := [60, 60]) (b := [62, 62]) (λ e5 => ?_) λ e5 => ?_
  ·rw [hcs] at e5
   have hm : dm s i = i + 2 := if_pos e5
   have hk : gj.contains c = true := by
    rw [rG hc] at e5
    rcases e5 with e5 | e5
    ·rw [(List.cons.inj e5).1]; rfl
    ·rw [(List.cons.inj e5).1]; rfl
   have z := E2 (Q := Q) (h (hT.trans (if_pos hk)))
   rw [hm, ← hcs] at z
   exact z
  ·rw [hcs] at e5
   have hm : dm s i = i + 1 := if_neg e5
   have h1s : sub s i (i + 1) = [c] := by unfold sub; rw [zJ, hc]; rfl
   rw [hm, h1s] at hT
   refine aK (eI (r := gj.contains c) (λ e6 => ?_) λ e6 => ?_)
   ·exact E2 (Q := Q) (h (hT.trans (if_pos e6)))
   ·exact E2 (Q := Q) (h (hT.trans (if_neg (by rw [e6]; decide))))
 refine az (λ q3 => ?_) λ q3 => bC (aK (mk λ z => fY q3 z.1))
 have hone := gF s (i + 1)
 have la : bE s (i + 1) = (match s[i + 1]? with | some d => isAl d | none => false) := rfl
 cases hd2 : s[i + 1]? with
 | none =>
  rw [hd2] at hone la
  refine bF (a := .bool false) (congrArg (λ l => jo .isalpha (.str l)) hone) (bC (aK (mk λ z => ?_)))
  rw [la] at z; cases z.2
 | some d =>
  rw [hd2] at hone la
  refine bF ((congrArg (λ l => jo .isalpha (.str l)) hone).trans (kG (hM ha hd2))) (eI (λ e6 => ?_) λ e6 => aK (mk λ z => ?_))
  ·replace hT := hT.trans (if_pos ⟨one q3, la.trans e6⟩)
   refine ⟨_, zt ha _ (i + 1) (Nat.lt_succ_self _) ?_⟩
   have hcs := qy s (i + 1) (ai cT s (i + 1))
   have hall : aE (iq s (some ((i + 1 : Nat) : Int)) (some (ai cT s (i + 1) : Int))) := by rw [hcs]; exact dj ha λ d hd => List.mem_of_mem_take (List.mem_of_mem_drop hd)
   have z := E2 (Q := Q) (h hT)
   have hd : (sub s i (ai cT s (i + 1))).drop 1 = sub s (i + 1) (ai cT s (i + 1)) := List.drop_drop
   rw [hd, ← hcs] at z
   exact bF (sW hall) z
  ·exact absurd (e6.symm.trans (la.symm.trans z.2)) (by decide)
end
noncomputable def zL (line : Int) (i : Nat) : AV := .tup [.int line, .int ((i : Int) + 1)]
noncomputable def cX (s : List Nat) (line : Int) (t : Tk) : AV := .tup [.str t.k, t.v, zL line t.i, .bool (decide (t.k = eM) && s[t.e - 1]? == some 98)]
noncomputable def bQ (line : Int) (e : Nat) : AV := .tup [.str cM, .str [], zL line e, .bool false]
noncomputable def k_l_tokens : ac := λ args σ Q _ => ∃ (s : List Nat) (line : Int), args = [.str s, .int line] ∧ aE s ∧ s.length ≤ 900 ∧
 match toks s 0 with
 | .bad p => ∀ τ, Q (zL line p) (σ ++ τ)
 | .done l e => ∀ τ n, (σ ++ τ)[n]? = some (.list (l.map (cX s line) ++ [bQ line e])) -> Q (.loc n) (σ ++ τ)
noncomputable def Hh : Option Nat -> Bool
 | none => false
 | some c => bl c
section
variable {T : Fn -> ac} {σ : aa} {Q X : AV -> aa -> Prop} {args : List AV}
theorem qu (e : T .l_token = k_l_token) {s : List Nat} {i c : Nat} (hc : s[i]? = some c) (ha : aE s) (hs : s.length ≤ 900) (h : match dJ s i c with
 | .bad p => ∀ τ, Q (lI p) (σ ++ τ)
 | .ok k v e => ∀ τ, Q (.tup [.str k, v, .int (e : Int)]) (σ ++ τ)) : aT (T .l_token) [.str s, .int (i : Int)] σ Q X := λ _ _ q _ => e ▸ ⟨s, i, c, rfl, hc, ha, hs, by
 generalize dJ s i c = r at h ⊢
 cases r with
 | bad p => exact λ τ => q _ _ (h τ)
 | ok k v e => exact λ τ => q _ _ (h τ)⟩
theorem Cm {w : List Nat} {o : Option Nat} {A B : Prop} (h : w = xM o) (ha : Hh o = true -> A) (hb : Hh o = false -> B) : (List.contains [[32], [9], [13]] w = true -> A) ∧ (List.contains [[32], [9], [13]] w = false -> B) := by
 have e : List.contains [[32], [9], [13]] w = Hh o := by
  subst h
  cases o with
  | none => rfl
  | some c => exact AB c
 rw [e]
 exact ⟨ha, hb⟩
theorem Bz {s : List Nat} {a b k w e : Option AV} {Q : aA -> aj -> aa -> Prop} : ∀ (m i : Nat), s.length - i < m ->
  Q .next [some (.str s), a, b, some (.int (ai bl s i : Int)), k, w, e] σ -> WE T jW kO X m [some (.str s), a, b, some (.int (i : Int)), k, w, e] σ Q := by
 intro m
 induction m with
 | zero => intro i hm; exact absurd hm (Nat.not_lt_zero _)
 | succ m ih =>
  intro i hm h
  have hone := gF s i
  cases hc : s[i]? with
  | none =>
   rw [hc] at hone
   rw [bv hc] at h
   exact Cm (w := iq s (some (i : Int)) (some ((i + 1 : Nat) : Int))) hone (λ e => nomatch e) λ _ => h
  | some x =>
   have hl := ag hc
   rw [hc] at hone
   refine Cm (w := iq s (some (i : Int)) (some ((i + 1 : Nat) : Int))) hone (λ e1 => ?_) λ e1 => ?_
   ·rw [bP hc e1] at h
    exact ih (i + 1) (by exact (lnr [_,_,_] [] 0x216190A10119162910A193) hm hl) h
   ·rw [cZ hc e1] at h
    exact h
theorem sY (hk : T .l_token = k_l_token) {s : List Nat} {line : Int} (ha : aE s) (hs : s.length ≤ 900) {Q : aA -> aj -> aa -> Prop} : ∀ (m i : Nat) (L : List AV) (τ : aa) (k w e : Option AV), s.length + 1 - i < m -> L.length ≤ i -> i ≤ s.length ->
  (match toks s i with
   | .bad p => ∀ τ ρ, Q (.ret (zL line p)) ρ (σ ++ τ)
   | .done l e => ∀ τ n ρ, (σ ++ τ)[n]? = some (.list (L ++ l.map (cX s line) ++ [bQ line e])) -> Q (.ret (.loc n)) ρ (σ ++ τ)) ->
  WE T eJ eR X m [some (.str s), some (.int line), some (.loc σ.length), some (.int (i : Int)), k, w, e] (σ ++ .list L :: τ) Q := by
 have lim : fD = 1048576 := rfl
 intro m
 induction m with
 | zero => intro i _ _ _ _ _ hm; exact absurd hm (Nat.not_lt_zero _)
 | succ m ih =>
  intro i L τ k w e hm hL hi h
  have hge := cY bl s i
  refine dI ⟨_, Bz _ i (Nat.lt_succ_self _) ?_⟩
  have fin : ∀ (ρ : aj), toks s i = .done [] (ai bl s i) -> Q (.ret (.loc ((σ ++ .list L :: τ) ++ [aG.list [bQ line (ai bl s i)]]).length)) ρ ((σ ++ .list L :: τ) ++ [aG.list [bQ line (ai bl s i)]] ++ [aG.list (L ++ [bQ line (ai bl s i)])]) := by
   intro ρ hd
   rw [hd] at h
   have h : ∀ τ n ρ, (σ ++ τ)[n]? = some (.list (L ++ [] ++ [bQ line (ai bl s i)])) -> Q (.ret (.loc n)) ρ (σ ++ τ) := h
   rw [List.append_nil] at h
   have := h (.list L :: τ ++ [aG.list [bQ line (ai bl s i)]] ++ [aG.list (L ++ [bQ line (ai bl s i)])])
   rw [← List.append_assoc, ← List.append_assoc] at this
   exact this _ ρ (aL _ _)
  have hadd : f5 .add (.loc σ.length) (.loc (σ ++ .list L :: τ).length) (σ ++ .list L :: τ ++ [aG.list [bQ line (ai bl s i)]]) = some _ := rY (by rw [xa]; exact xw _ _ _) (aL _ _) (by simp only [List.length_cons, List.length_nil]; exact (lnr [_,_,_,_] [] 0x11606909032092009488888861291E8C63094) hs lim hL hi)
  cases hc : s[ai bl s i]? with
  | none =>
   exact ⟨λ _ => dI (bh hadd (fin _ (cE hc))), λ q => absurd (Int.ofNat_le.mpr (ca hc)) (of_decide_eq_false q)⟩
  | some c =>
   have hl := ag hc
   refine ⟨λ q => absurd (Cq (of_decide_eq_true q)) (Nat.not_le.mpr hl), λ _ => ay (cb hc) (ah (λ e35 => ?_) λ e35 => aK ?_)⟩
   ·obtain rfl := one e35
    exact bh hadd (fin _ (dX hc))
   ·clear fin hadd
    rw [cU hc (fY e35)] at h
    refine qu hk hc ha hs ?_
    cases ht : dJ s (ai bl s i) c with
    | bad p =>
     rw [ht] at h
     intro υ
     refine ⟨rfl, dI ?_⟩
     rw [xa]
     exact h (.list L :: (τ ++ υ)) _
    | ok kk v e' =>
     rw [ht] at h
     dsimp only at h
     have hgt := d7 hc ht
     have hle := fK hc ht
     intro υ
     refine ⟨rfl, bC (aK ?_)⟩
     obtain ⟨d, hd⟩ : ∃ d, s[e' - 1]? = some d := ⟨_, List.getElem?_eq_getElem (by exact (lnr [_,_,_] [] 0x1160A1100902193) hgt hle)⟩
     have hd' : jn (σ ++ .list L :: (τ ++ υ)) (.str s) (.int ((e' : Int) - 1)) = some (.str [d]) := by rw [show (e' : Int) - 1 = ((e' - 1 : Nat) : Int) by exact (lnr [_,_] [] 0x160AB160BA501192) hgt]; exact cb hd
     rw [xa]
     have go : ∀ {bb : Bool}, bb = (decide (kk = eM) && s[e' - 1]? == some 98) -> WE T eJ eR X m [some (.str s), some (.int line), some (.loc σ.length), some (.int (e' : Int)), some (.str kk), some v, some (.int (e' : Int))] (σ ++ .list (L ++ [.tup [.str kk, v, .tup [.int line, .int ((ai bl s i + 1 : Nat) : Int)], .bool bb]]) :: (τ ++ υ)) Q := by
      intro bb hbb
      refine ih e' _ _ _ _ _ (by exact (lnr [_,_,_,_,_] [] 0x211609A1010913193409162941609A195) hm hge hgt hle) (by rw [List.length_append]; exact Nat.le_trans (Nat.succ_le_succ (Nat.le_trans hL hge)) hgt) hle ?_
      generalize toks s e' = o at h ⊢
      cases o with
      | bad p => exact h
      | done l e2 =>
       intro υ' n ρ hh
       refine h υ' n ρ ?_
       rw [hh, hbb]
       rw [List.append_assoc L]
       rfl
     have app : ∀ {bb : Bool}, bb = (decide (kk = eM) && s[e' - 1]? == some 98) -> EL (p0 (.loc σ.length) (σ ++ .list L :: (τ ++ υ))) λ p => p.2.length < fD ∧ WE T eJ eR X m [some (.str s), some (.int line), some (.loc σ.length), some (.int (e' : Int)), some (.str kk), some v, some (.int (e' : Int))] ((σ ++ .list L :: (τ ++ υ)).set p.1 (.list (p.2 ++ [.tup [.str kk, v, .tup [.int line, .int ((ai bl s i + 1 : Nat) : Int)], .bool bb]]))) Q := λ hbb => by
      refine dS (lu (xw _ _ _)) ⟨show L.length < fD by exact (lnr [_,_,_,_,_,_] [] 0x101320924194550955009488888861291E8C63096) hs lim hL hge hgt hle, ?_⟩
      rw [FY]
      exact go hbb
     refine dS (lu (xw _ _ _)) (az (λ ek => ay hd' ?_) λ ek => ?_)
     ·refine app ?_
      rw [hd, decide_eq_true (show kk = eM from ek), Bool.true_and]
      exact eg (decide_eq_true_iff.trans ⟨λ z => by rw [one z]; rfl, λ z => by rw [Option.some.inj (eq_of_beq z)]⟩)
     ·refine app ?_
      rw [decide_eq_false (show ¬ kk = eM from ek)]; rfl
theorem vc_l_tokens (hk : T .l_token = k_l_token) (h : k_l_tokens args σ Q X) : aJ T 7 2 jy args σ Q X := by
 obtain ⟨s, line, rfl, ha, hs, h⟩ := h
 refine ar rfl rfl ⟨rfl, _, sY hk ha hs _ 0 [] [] none none none (Nat.lt_succ_self _) (Nat.le_refl _) (Nat.zero_le _) ?_⟩
 generalize toks s 0 = o at h ⊢
 cases o with
 | bad p => exact λ τ ρ => h τ
 | done l e => exact λ τ n ρ hh => h τ n hh
noncomputable def k_l_heard : ac := λ args σ Q _ => ∃ (s : List Nat) (line : Int), args = [.str s, .int line] ∧ aE s ∧ s.length ≤ 900 ∧
 match toks s 0 with
 | .bad p => ∀ τ, Q (zL line p) (σ ++ τ)
 | .done l e => ∀ τ n, (σ ++ τ)[n]? = some (.list (l.map (cX s line) ++ [bQ line e])) -> Q (.loc n) (σ ++ τ)
theorem kM {s : List Nat} : ∀ {i : Nat} {l : List Tk} {e : Nat}, toks s i = .done l e -> ∀ t ∈ l, ∃ c, s[t.i]? = some c ∧ dJ s t.i c = .ok t.k t.v t.e := by
 have key : ∀ (n i : Nat) (l : List Tk) (e : Nat), s.length - i < n -> toks s i = .done l e -> ∀ t ∈ l, ∃ c, s[t.i]? = some c ∧ dJ s t.i c = .ok t.k t.v t.e := by
  intro n
  induction n with
  | zero => intro i _ _ h; exact (((lnr [_,_] [] 0xA0610A192) h : False).elim)
  | succ n ih =>
   intro i l e hn h t ht
   have hge := cY bl s i
   cases hc : s[ai bl s i]? with
   | none => rw [cE hc] at h; cases h; cases ht
   | some c =>
    by_cases e35 : c = 35
    ·subst e35; rw [dX hc] at h; cases h; cases ht
    ·rw [cU hc e35] at h
     have hl := ag hc
     split at h
     ·cases h
     ·rename_i k v e' htk
      have hgt := d7 hc htk
      cases hq : toks s e' with
      | bad p => rw [hq] at h; cases h
      | done l' e2 =>
       rw [hq] at h
       cases h
       rcases List.mem_cons.mp ht with rfl | ht
       ·exact ⟨c, hc, htk⟩
       ·exact ih e' l' _ (by exact (lnr [_,_,_,_,_] [] 0x210A1131903193409162940A195) hn hge hl hgt) hq t ht
 exact λ {i} {l} {e} h => key _ i l e (Nat.lt_succ_self _) h
theorem Et {s : List Nat} {i e : Nat} (h1 : i < e) (h2 : e ≤ s.length) : sub s i e ≠ [] := by
 intro q
 have := congrArg List.length q
 unfold sub at this
 rw [List.length_drop, List.length_take, List.length_nil] at this
 exact (((lnr [_,_,_] [] 0xA06210DA29100902193) h1 h2 this : False).elim)
theorem Aj {s : List Nat} {i e : Nat} (h1 : i < e) (h2 : e ≤ s.length) : s[e - 1]? = (sub s i e).getLast? := by
 rw [List.getLast?_eq_getElem?]
 unfold sub
 rw [List.length_drop, List.length_take, List.getElem?_drop, List.getElem?_take_of_lt (by exact (lnr [_,_,_] [] 0x116021DAA09110193) h1)]
 congr 1
 exact (lnr [_,_,_] [] 0x16120DAA19160A2200901193) h1 h2
noncomputable def ut : AV -> Option AV
 | .inst .token [.str k, .str w, v, .inst .place [a, b]] => some (.tup [.str k, v, .tup [a, b], .bool (decide (k = eM) && w.getLast? == some 98)])
 | _ => none
theorem uu {s : List Nat} {line : Int} {l : List Tk} {e i : Nat} (hq : toks s i = .done l e) (e2 : Nat) : (l.map (eA s line) ++ [dA line e2]).filterMap ut = l.map (cX s line) ++ [bQ line e2] := by
 rw [List.filterMap_append]
 congr 1
 have : ∀ l' : List Tk, (∀ t ∈ l', t ∈ l) -> (l'.map (eA s line)).filterMap ut = l'.map (cX s line) := by
  intro l' hl'
  induction l' with
  | nil => rfl
  | cons t l' ih =>
   obtain ⟨c, hc, htk⟩ := kM hq t (hl' t List.mem_cons_self)
   rw [List.map_cons, List.filterMap_cons_some (b := cX s line t) ?_, ih λ u hu => hl' u (List.mem_cons_of_mem _ hu)]
   ·rfl
   ·show some _ = some _
    unfold cX
    rw [Aj (d7 hc htk) (fK hc htk)]
    rfl
 exact this l λ t ht => ht
theorem vc_l_heard (h1 : T .line_tokens = k_line_tokens) (h2 : T .place_told = k_place_told) (h3 : T .token_back = k_token_back) (h : k_l_heard args σ Q X) : aJ T 3 2 (.cons (.tryTold lh) .nil) args σ Q X := by
 obtain ⟨s, line, rfl, ha, hs, h⟩ := h
 refine ar rfl rfl (dP h1 (Nat.le_trans hs (by decide)) ha ?_)
 cases hq : toks s 0 with
 | bad p =>
  rw [hq] at h
  exact h
 | done l e =>
  rw [hq] at h
  intro τ n hn
  have hlen := kL (Nat.zero_le _) hq
  refine gK (cu hn) ⟨rfl, ?_, aD ut _ _ (λ v hv K hK => ?_) ?_⟩
  ·have lim : fD = 1048576 := rfl
   simp only [List.length_append, List.length_map, List.length_cons, List.length_nil]; exact (lnr [_,_,_] [] 0x11606909048888886129062A0091E8C62093) hs hlen lim
  ·have : ∃ (k w : List Nat) (x : AV) (j : Nat), v = TK k w x (PL line j) ∧ (k = eM -> w ≠ []) := by
    rcases List.mem_append.mp hv with hv | hv
    ·obtain ⟨t, ht, rfl⟩ := List.mem_map.mp hv
     obtain ⟨c, hc, htk⟩ := kM hq t ht
     exact ⟨_, _, _, _, rfl, λ _ => Et (d7 hc htk) (fK hc htk)⟩
    ·rw [List.mem_singleton.mp hv]; exact ⟨_, _, _, _, rfl, λ q => nomatch q⟩
   obtain ⟨k, w, x, j, rfl, hne⟩ := this
   refine ⟨rfl, ma h2 ?_⟩
   refine mc h3 hne ?_
   exact ⟨rfl, hK⟩
  ·rw [List.nil_append, uu hq]
   have := h (τ ++ [.list (l.map (cX s line) ++ [bQ line e])])
   rw [← List.append_assoc] at this
   exact this _ (aL _ _)
end
structure jU (s : List Nat) (k : List Nat) (v : AV) (i e : Nat) : Prop where
 kind : k ≠ cM
 asc : ∀ c ∈ k, c < 128
 name : k = cj -> v = .str (sub s i e)
 val : (∃ n, v = .int n) ∨ ∃ w, v = .str w ∧ ∀ c ∈ w, c < 256
theorem Bx {c : Nat} (h : c < 128) : oh c < 256 := by unfold oh; split <;> (first | exact (lnr [_] [] 0x488648609128860191) h | exact (lnr [_] [] 0x48860128860191) h)
theorem xT {s : List Nat} (ha : aE s) {a : Nat} : ∀ (n i : Nat) (w w' : List Nat) (e : Nat), s.length - i < n -> (∀ c ∈ w, c < 256) -> bc s a i w = .ok w' e -> ∀ c ∈ w', c < 256 := by
 intro n
 induction n with
 | zero => intro i _ _ _ h; exact (((lnr [_,_] [] 0xA0610A192) h : False).elim)
 | succ n ih =>
  intro i w w' e hn hw h
  cases hc : s[i]? with
  | none => rw [cO hc] at h; cases h
  | some c =>
   have := ag hc
   have := cH s i
   have := qC s i
   rw [bO hc] at h
   split at h
   ·cases h; exact hw
   ·split at h
    ·split at h
     ·cases h
     ·refine ih _ _ _ _ (by exact (lnr [_,_,_,_] [] 0x210A113190319162930A194) hn ‹_› ‹_›) (λ d hd => ?_) h
      rcases List.mem_append.mp hd with hd | hd
      ·exact hw d hd
      ·rw [List.mem_singleton.mp hd]; exact (lnr [] [_] 0x48860B148860491) this
    ·split at h
     ·cases h
     ·refine ih _ _ _ _ (by exact (lnr [_,_,_] [] 0x216190A10119162910A193) hn ‹_›) (λ d hd => ?_) h
      rcases List.mem_append.mp hd with hd | hd
      ·exact hw d hd
      ·rw [List.mem_singleton.mp hd]; have := hM ha hc; exact (lnr [_] [] 0x48860128860191) this
theorem CW : (∀ c ∈ cj, c < 128) ∧ (∀ c ∈ oo, c < 128) ∧ (∀ c ∈ iC, c < 128) ∧ (∀ c ∈ jL, c < 128) ∧ (∀ c ∈ uI, c < 128) ∧ (∀ c ∈ eM, c < 128) ∧ (∀ c ∈ cM, c < 128) := by decide
theorem Ak {s : List Nat} (ha : aE s) {i e : Nat} : ∀ c ∈ sub s i e, c < 256 := λ c hc => by
 have := cg ha (List.mem_of_mem_take (List.mem_of_mem_drop hc)); exact (lnr [_] [] 0x48860128860191) this
theorem B7 {s : List Nat} (ha : aE s) {i c e : Nat} {k : List Nat} {v : AV} (hc : s[i]? = some c) (h : dJ s i c = .ok k v e) : jU s k v i e := by
 obtain ⟨a1, a2, a3, a4, a5, a6, a7⟩ := CW
 unfold dJ at h
 split at h
 ·cases h; exact ⟨by decide, a1, λ _ => rfl, .inr ⟨_, rfl, Ak ha⟩⟩
 split at h
 ·split at h
  ·cases h
  ·rename_i k' n hq
   cases h
   unfold fX at hq
   split at hq
   ·cases hq
   ·split at hq
    ·cases hq; exact ⟨by decide, a2, λ q => (by cases q), .inl ⟨_, rfl⟩⟩
    ·split at hq
     ·cases hq; exact ⟨by decide, a6, λ q => (by cases q), .inl ⟨_, rfl⟩⟩
     ·cases hq
 split at h
 ·split at h
  ·cases h
  ·cases h; exact ⟨by decide, a2, λ q => (by cases q), .inl ⟨_, rfl⟩⟩
 split at h
 ·split at h
  ·cases h
  ·rename_i w e' hq
   cases h
   exact ⟨by decide, a3, λ q => (by cases q), .inr ⟨_, rfl, xT ha _ _ _ _ _ (Nat.lt_succ_self _) (by simp) hq⟩⟩
 split at h
 ·cases h
  refine ⟨by decide, a4, λ q => (by cases q), .inr ⟨_, rfl, λ d hd => ?_⟩⟩
  obtain ⟨x, hx, rfl⟩ := List.mem_map.mp hd
  exact Bx (cg ha (List.mem_of_mem_take (List.mem_of_mem_drop (List.mem_of_mem_drop hx))))
 split at h
 ·cases h
  exact ⟨by decide, a5, λ q => (by cases q), .inr ⟨_, rfl, Ak ha⟩⟩
 ·cases h
theorem w5 {s : List Nat} (ha : aE s) {i : Nat} {l : List Tk} {e : Nat} (h : toks s i = .done l e) : ∀ t ∈ l, jU s t.k t.v t.i t.e := λ t ht =>
 let ⟨c, hc, htk⟩ := kM h t ht
 B7 ha hc htk
theorem jU.py {s k : List Nat} {v : AV} {i e : Nat} (h : jU s k v i e) (j : Nat) : g8 v (j + 1) := by
 rcases h.val with ⟨n, rfl⟩ | ⟨w, rfl, hw⟩
 ·exact lz _ _
 ·exact jM (λ c hc => by have := hw c hc; exact (lnr [_] [] 0x4A8888860148860191) this) _
noncomputable def DU (k : List Nat) : AV -> Bool
 | .str w => decide (k = cj) && decide (w = [97])
 | _ => false
theorem o4 {k : List Nat} (hk : ∀ c ∈ k, c < 128) {x : PyData} (h1 : x.canLay0 = true) (h2 : x.depth ≤ 5) : SeqAt.shaped (.tuple [.str ⟨k.toArray⟩, x]) = true := by
 unfold SeqAt.shaped
 rw [Bool.and_eq_true]
 refine ⟨?_, decide_eq_true (by simp only [PyData.depth, PyData.depthAll]; exact (lnr [_] [] 0x188616060E06E90560091) h2)⟩
 simp only [PyData.canLay0, PyData.canLayAll0, h1, Bool.and_true, PyData.strOk]
 simp only [List.all_toArray, List.all_eq_true, decide_eq_true_eq]
 intro c hc; have := hk c hc; exact (lnr [_] [] 0x4A8888860128860191) this
theorem Ai (x y : List Nat) : (Str.mk x.toArray == Str.mk y.toArray) = decide (x = y) := by
 rw [Bool.eq_iff_iff]; simp
theorem DN (σ : aa) {k : List Nat} {v : AV} (hk : ∀ c ∈ k, c < 128) (hv : (∃ n, v = .int n) ∨ ∃ w, v = .str w ∧ ∀ c ∈ w, c < 256) : ir σ (.tup [.str k, v]) (.tup [.str cj, .str [97]]) = some (DU k v) := by
 have go : ∀ x : PyData, v.py = some x -> x.canLay0 = true -> x.depth ≤ 5 -> ir σ (.tup [.str k, v]) (.tup [.str cj, .str [97]]) = some (PyData.eqv (.tuple [.str ⟨k.toArray⟩, x]) (.tuple [.str ⟨cj.toArray⟩, .str ⟨[97].toArray⟩])) := by
  intro x hx h1 h2
  have p1 : ml σ (.tup [.str k, v]) = some (.tuple [.str ⟨k.toArray⟩, x]) := by
   show Option.map PyData.tuple (Option.map (PyData.str ⟨k.toArray⟩ :: ·) ((AV.py v).bind λ x => some [x])) = _
   rw [hx]; rfl
  have p2 : ml σ (.tup [.str cj, .str [97]]) = some (.tuple [.str ⟨cj.toArray⟩, .str ⟨[97].toArray⟩]) := rfl
  exact wr rfl p1 p2 (o4 hk h1 h2) (o4 (by decide) (x := .str ⟨[97].toArray⟩) (by simp [PyData.canLay0, PyData.strOk]) (by simp [PyData.depth]))
 rcases hv with ⟨n, rfl⟩ | ⟨w, rfl, hw⟩
 ·rw [go (.int n) rfl rfl (by simp [PyData.depth])]
  simp [PyData.eqv, PyData.eqvAll, DU]
 ·obtain ⟨d, g1, g2, g3⟩ := jM (s := w) (λ c hc => by have := hw c hc; exact (lnr [_] [] 0x4A8888860148860191) this) 0
  cases g1
  rw [go _ rfl g2 (by simp [PyData.depth])]
  simp only [PyData.eqv, PyData.eqvAll, DU, Ai, Bool.and_true]
noncomputable def k_l_walked : ac := λ args σ Q _ => ∃ (n m : Nat) (s : List Nat) (line : Int) (l : List Tk) (e : Nat), args = [.loc n, .loc m] ∧ σ[n]? = some (.list (l.map (eA s line) ++ [dA line e])) ∧ σ[m]? = some (.list (l.map (cX s line) ++ [bQ line e])) ∧
 (∀ t ∈ l, jU s t.k t.v t.i t.e) ∧ ∀ τ, Q (.bool true) (σ ++ τ)
theorem D7 (σ : aa) (n : Nat) : om .cursor [.loc n] σ = some (.loc σ.length, σ ++ [CU n 0]) := rfl
section
variable {T : Fn -> ac} {σ : aa} {Q X : AV -> aa -> Prop} {args : List AV}
theorem Bo {k w : List Nat} {v : AV} (hw : k = cj -> v = .str w) : (k = cj ∧ w = [97]) ↔ DU k v = true := by
 constructor
 ·rintro ⟨e1, e2⟩
  rw [hw e1, e1, e2]; rfl
 ·intro q
  unfold DU at q
  split at q
  ·rename_i w'
   rw [Bool.and_eq_true, decide_eq_true_iff, decide_eq_true_iff] at q
   have := hw q.1
   cases this
   exact q
  ·cases q
theorem qk (h1 : T .c_peek = k_c_peek) (h2 : T .c_take = k_c_take) (h3 : T .c_skip_name = k_c_skip_name) {n j : Nat} {L : List AV} {k w : List Nat} {v p a b : AV} {a0 a1 x4 : Option AV} {Qf : aA -> aj -> aa -> Prop}
  (hn : σ[n]? = some (.list L)) (hj : L[j]? = some (TK k w v p)) (hk : ∀ c ∈ k, c < 128) (hv : (∃ n, v = .int n) ∨ ∃ w, v = .str w ∧ ∀ c ∈ w, c < 256) (hw : k = cj -> v = .str w)
  (h : ∀ x, Qf .next [a0, a1, some (.loc σ.length), some (.tup [.str k, v, a, b]), x] (σ ++ [CU n (if k = cM then j else j + 1)])) :
  bB T gP [a0, a1, some (.loc σ.length), some (.tup [.str k, v, a, b]), x4] (σ ++ [CU n j]) Qf X := by
 have hnC : ∀ c, (σ ++ [c])[n]? = some (.list L) := λ c => by
  rw [List.getElem?_append_left (ag hn)]; exact hn
 have hcmp : dl .eq (σ ++ [CU n j]) (.tup [.str k, v]) (.tup [.str cj, .str [97]]) = some (DU k v) := DN _ hk hv
 have hia := Bo hw
 generalize DU k v = r at hcmp hia
 show BM (dl .eq (σ ++ [CU n j]) (.tup [.str k, v]) (.tup [.str cj, .str [97]])) _
 refine ew hcmp ?_
 refine aZ (se (aL _ _)) (rZ h1 (aL _ _) (hnC _) hj ?_)
 refine iU (p := k = k) (λ q => absurd rfl q) λ _ => ?_
 refine aZ (se (aL _ _)) (kZ h3 (aL _ _) (hnC _) hj (λ e => ?_) λ e => ?_)
 ·obtain rfl := hia.mp e
  rw [mM]
  rw [if_neg (by rw [e.1]; decide)] at h
  exact bC (aK (bC (aK (h _))))
 ·obtain rfl : r = false := Bool.eq_false_iff.mpr λ q => e (hia.mpr q)
  refine bC (aK (dI (aZ (se (aL _ _)) (lL h2 (aL _ _) (hnC _) hj (λ e2 => ?_) λ e2 => ?_))))
  ·rw [if_pos e2] at h; exact h _
  ·rw [if_neg e2] at h; rw [mM]; exact h _
theorem Ax (h1 : T .c_peek = k_c_peek) (h2 : T .c_take = k_c_take) (h3 : T .c_skip_name = k_c_skip_name) {n : Nat} {same : aa -> Prop} (hsame : ∀ j, same (σ ++ [CU n j])) {s : List Nat} {line : Int} {l : List Tk} {e : Nat}
  (hn : σ[n]? = some (.list (l.map (eA s line) ++ [dA line e]))) (hok : ∀ t ∈ l, jU s t.k t.v t.i t.e) {a0 a1 : Option AV} {Qf : aA -> aj -> aa -> Prop}
  (hend : (l.map (eA s line) ++ [dA line e])[l.length]? = some (TK cM [] (.str []) (PL line e)))
  (h : ∀ x y, Qf .next [a0, a1, some (.loc σ.length), x, y] (σ ++ [CU n l.length])) : ∀ (l1 l2 : List Tk), l = l1 ++ l2 -> ∀ x y,
  FE T [3] same gP X (l2.map (cX s line) ++ [bQ line e]) [a0, a1, some (.loc σ.length), x, y] (σ ++ [CU n l1.length]) Qf := by
 intro l1 l2
 induction l2 generalizing l1 with
 | nil =>
  intro hl x y
  rw [List.append_nil] at hl
  subst hl
  refine ⟨hsame _, qk (k := cM) (w := []) (v := .str []) (p := PL line e) (L := l.map (eA s line) ++ [dA line e]) (j := l.length) h1 h2 h3 hn hend (by decide) (.inr ⟨_, rfl, λ _ q => nomatch q⟩) (λ q => nomatch q) λ z => ?_⟩
  rw [if_pos rfl]
  exact ⟨hsame _, h _ _⟩
 | cons t l2 ih =>
  intro hl x y
  have tok := hok t (by rw [hl]; exact List.mem_append_right _ List.mem_cons_self)
  have hj : (l.map (eA s line) ++ [dA line e])[l1.length]? = some (TK t.k (sub s t.i t.e) t.v (PL line t.i)) := by
   rw [hl, List.map_append, List.append_assoc, List.getElem?_append_right (by rw [List.length_map]; exact Nat.le_refl _), List.length_map, Nat.sub_self]
   rfl
  refine ⟨hsame _, qk (k := t.k) (w := sub s t.i t.e) (v := t.v) (p := PL line t.i) h1 h2 h3 hn hj tok.asc tok.val tok.name λ z => ?_⟩
  rw [if_neg tok.kind]
  have := ih (l1 ++ [t]) (by rw [hl, List.append_assoc]; rfl) (some (.tup [.str t.k, t.v, zL line t.i, .bool (decide (t.k = eM) && s[t.e - 1]? == some 98)])) z
  rw [List.length_append] at this
  exact this
theorem vc_l_walked (h1 : T .c_peek = k_c_peek) (h2 : T .c_take = k_c_take) (h3 : T .c_skip_name = k_c_skip_name) (h4 : T .c_is_end = k_c_is_end) (h : k_l_walked args σ Q X) : aJ T 5 2 jz args σ Q X := by
 obtain ⟨n, m, s, line, l, e, rfl, hn, hm, hok, h⟩ := h
 refine ar rfl rfl ?_
 have hmC : ∀ c, (σ ++ [c])[m]? = some (.list (l.map (cX s line) ++ [bQ line e])) := λ c => by
  rw [List.getElem?_append_left (ag hm)]; exact hm
 have hnC : ∀ c, (σ ++ [c])[n]? = some (.list (l.map (eA s line) ++ [dA line e])) := λ c => by
  rw [List.getElem?_append_left (ag hn)]; exact hn
 have hend : (l.map (eA s line) ++ [dA line e])[l.length]? = some (TK cM [] (.str []) (PL line e)) := by
  rw [List.getElem?_append_right (by rw [List.length_map]; exact Nat.le_refl _), List.length_map, Nat.sub_self]; rfl
 refine gK (cu (hmC _)) ?_
 refine Ax h1 h2 h3 (same := λ σ₂ => ch σ₂ (.loc m) = ch (σ ++ [CU n 0]) (.loc m)) (λ j => (hmC _).trans (hmC _).symm) hn hok hend (λ x y => ?_) [] l rfl none none
 refine aZ (se (aL _ _)) (pg h4 (aL _ _) (hnC _) hend ?_)
 refine az (λ _ => ?_) λ q => absurd rfl q
 refine aZ (se (aL _ _)) (lL h2 (aL _ _) (hnC _) hend (λ _ => ?_) λ q => absurd rfl q)
 exact h _
end
theorem da {s : List Nat} {i : Nat} {l : List Nat} (h : s.drop i = l) (j : Nat) : s[i + j]? = l[j]? := by rw [← h, List.getElem?_drop]
theorem nh {s : List Nat} {i : Nat} {u v : List Nat} (h : s.drop i = u ++ v) : s.drop (i + u.length) = v := by
 rw [← List.drop_drop, h, List.drop_left]
theorem EM {s : List Nat} {i e : Nat} (h1 : i ≤ e) : s.drop i = sub s i e ++ s.drop e := by
 unfold sub
 rw [List.drop_take]
 have : s.drop e = (s.drop i).drop (e - i) := by rw [List.drop_drop]; congr 1; exact (lnr [_,_] [] 0x10A190201092) h1
 rw [this, List.take_append_drop]
theorem di {s : List Nat} {i e : Nat} (h2 : e ≤ s.length) : (sub s i e).length = e - i := by
 unfold sub; rw [List.length_drop, List.length_take]; exact (lnr [_,_,_] [] 0x20A210DA210093) h2
theorem Eu {s : List Nat} {i : Nat} {u v : List Nat} (h : s.drop i = u ++ v) : sub s i (i + u.length) = u := by
 unfold sub
 rw [List.drop_take, h, show i + u.length - i = u.length by exact (lnr [_,_] [] 0x10109A22), List.take_left]
noncomputable def CN (B : List Nat) : Prop := B = [] ∨ ∃ B', B = 32 :: B'
theorem CN.get {B : List Nat} (h : CN B) : B[0]? = none ∨ B[0]? = some 32 := by
 rcases h with rfl | ⟨B', rfl⟩
 ·exact .inl rfl
 ·exact .inr rfl
theorem Ad {p : Nat -> Bool} {u B : List Nat} (hu : ∀ c ∈ u, p c = true) (hB : CN B) (hp : p 32 = false) : gY p (u ++ B) = u.length := by
 induction u with
 | nil =>
  rcases hB with rfl | ⟨B', rfl⟩
  ·rfl
  ·exact wY _ hp
 | cons c u ih =>
  rw [List.cons_append, tL _ (hu c List.mem_cons_self), ih λ d hd => hu d (List.mem_cons_of_mem _ hd), List.length_cons]
theorem zA {p : Nat -> Bool} : ∀ (l : List Nat) {c : Nat}, c ∈ l.takeWhile p -> p c = true
 | [], _, h => by cases h
 | d :: l, c, h => by
  by_cases e : p d = true
  ·rw [List.takeWhile_cons_of_pos e] at h
   rcases List.mem_cons.mp h with rfl | h
   ·exact e
   ·exact zA l h
  ·rw [List.takeWhile_cons_of_neg e] at h; cases h
theorem Ae {p : Nat -> Bool} {s : List Nat} {i : Nat} : sub s i (ai p s i) = (s.drop i).takeWhile p := by
 unfold sub ai gY
 rw [List.drop_take, show i + ((s.drop i).takeWhile p).length - i = ((s.drop i).takeWhile p).length by exact (lnr [_,_] [] 0x10109A22)]
 have h := List.takeWhile_append_dropWhile (p := p) (l := s.drop i)
 conv => lhs; rw [← h]
 rw [List.takeWhile_append_dropWhile]
 conv => lhs; arg 2; rw [← h]
 rw [List.take_left]
theorem Ac {p : Nat -> Bool} {s : List Nat} {i : Nat} : ∀ c ∈ sub s i (ai p s i), p c = true := by
 rw [Ae]
 intro c hc
 exact zA _ hc
noncomputable def lH (l B : List Nat) (k : Nat) : Prop := (∀ b, B[0]? = some b -> 16 ≤ af b) ∨ B[0]? = (l.drop k)[0]?
theorem oy : ∀ (b : Nat) (l : List Nat) (w : Nat) (B : List Nat), lH l B (cq b l w).2 -> cq b (l.take (cq b l w).2 ++ B) w = cq b l w
 | 0, l, w, B, _ => rfl
 | b + 1, [], w, B, h => by
  have : cq (b + 1) [] w = (w, 0) := rfl
  rw [this] at h ⊢
  rw [List.take_nil, List.nil_append]
  rcases B with _ | ⟨x, B⟩
  ·rfl
  ·unfold cq
   rcases h with h | h
   ·rw [if_neg (by have := h x rfl; exact (lnr [_] [] 0x1860160286091) this)]
   ·cases h
 | b + 1, c :: l, w, B, h => by
  by_cases e : af c < 8
  ·have hu : cq (b + 1) (c :: l) w = ((cq b l (w * 8 + af c)).1, (cq b l (w * 8 + af c)).2 + 1) := by
    conv => lhs; unfold cq
    rw [if_pos e]
   rw [hu] at h ⊢
   rw [List.take_succ_cons, List.cons_append]
   conv => lhs; unfold cq
   rw [if_pos e, oy b l (w * 8 + af c) B (by simpa [lH] using h)]
  ·have hu : cq (b + 1) (c :: l) w = (w, 0) := by
    conv => lhs; unfold cq
    rw [if_neg e]
   rw [hu] at h ⊢
   rw [List.take_zero, List.nil_append]
   rcases B with _ | ⟨x, B⟩
   ·rfl
   ·conv => lhs; unfold cq
    rcases h with h | h
    ·rw [if_neg (by have := h x rfl; exact (lnr [_] [] 0x1860160286091) this)]
    ·simp only [List.drop_zero, List.getElem?_cons_zero, Option.some.injEq] at h
     rw [if_neg (by rw [h]; exact e)]
theorem nT : ∀ (l : List Nat) (w : Nat) (B : List Nat), lH l B (cL l w).2 -> cL (l.take (cL l w).2 ++ B) w = cL l w
 | [], w, B, h => by
  have : cL [] w = (w, 0) := rfl
  rw [this] at h ⊢
  rw [List.take_nil, List.nil_append]
  rcases B with _ | ⟨x, B⟩
  ·rfl
  ·unfold cL
   rcases h with h | h
   ·rw [if_neg (by have := h x rfl; exact (lnr [_] [] 0x2860160286091) this)]
   ·cases h
 | c :: l, w, B, h => by
  by_cases e : af c < 16
  ·have hu : cL (c :: l) w = ((cL l ((w * 16 + af c) % 256)).1, (cL l ((w * 16 + af c) % 256)).2 + 1) := by
    conv => lhs; unfold cL
    rw [if_pos e]
   rw [hu] at h ⊢
   rw [List.take_succ_cons, List.cons_append]
   conv => lhs; unfold cL
   rw [if_pos e, nT l ((w * 16 + af c) % 256) B (by simpa [lH] using h)]
  ·have hu : cL (c :: l) w = (w, 0) := by
    conv => lhs; unfold cL
    rw [if_neg e]
   rw [hu] at h ⊢
   rw [List.take_zero, List.nil_append]
   rcases B with _ | ⟨x, B⟩
   ·rfl
   ·conv => lhs; unfold cL
    rcases h with h | h
    ·rw [if_neg (by have := h x rfl; exact (lnr [_] [] 0x2860160286091) this)]
    ·simp only [List.drop_zero, List.getElem?_cons_zero, Option.some.injEq] at h
     rw [if_neg (by rw [h]; exact e)]
theorem uh (l B : List Nat) (h0 : 0 ≤ (cA l).1) (h : lH l B (cA l).2) : cA (l.take (cA l).2 ++ B) = cA l := by
 rcases l with _ | ⟨c, t⟩
 ·exact absurd h0 (by decide)
 by_cases e : af c < 8
 ·have hu : cA (c :: t) = ((((cq 3 (c :: t) 0).1 % 256 : Nat) : Int), (cq 3 (c :: t) 0).2) := if_pos e
  have ho := oy 3 (c :: t) 0 B (by rw [hu] at h; exact h)
  have hk : (cq 3 (c :: t) 0).2 = (cq 2 t (0 * 8 + af c)).2 + 1 := by
   conv => lhs; unfold cq
   rw [if_pos e]
  rw [hu]
  dsimp only
  rw [hk, List.take_succ_cons, List.cons_append] at ho ⊢
  have hu2 : cA (c :: (t.take (cq 2 t (0 * 8 + af c)).2 ++ B)) = ((((cq 3 (c :: (t.take (cq 2 t (0 * 8 + af c)).2 ++ B)) 0).1 % 256 : Nat) : Int), (cq 3 (c :: (t.take (cq 2 t (0 * 8 + af c)).2 ++ B)) 0).2) := if_pos e
  rw [hu2, ho, hk]
 ·by_cases e2 : c = 120
  ·subst e2
   have hu : ∀ t, cA (120 :: t) = if (cL t 0).2 = 0 then (-1, 0) else (((cL t 0).1 : Int), (cL t 0).2 + 1) := λ t => by unfold cA; dsimp only; rw [if_neg e, if_pos rfl]
   by_cases e3 : (cL t 0).2 = 0
   ·rw [hu, if_pos e3] at h0; exact absurd h0 (by decide)
   ·rw [hu, if_neg e3] at h
    have hh := nT t 0 B (by simpa [lH] using h)
    rw [hu t, if_neg e3]
    dsimp only
    rw [List.take_succ_cons, List.cons_append, hu, hh, if_neg e3]
  ·have hu : ∀ t, cA (c :: t) = match bR.lookup c with | some j => (j, 1) | none => (-1, 0) := λ t => by unfold cA; dsimp only; rw [if_neg e, if_neg e2]; try rfl
   cases hl : bR.lookup c with
   | none => rw [hu, hl] at h0; exact absurd h0 (by decide)
   | some j =>
    have h1 : ∀ t, cA (c :: t) = (j, 1) := λ t => by rw [hu, hl]
    rw [h1 t]
    exact h1 _
theorem nu {s s' : List Nat} {i i' : Nat} {B : List Nat} (h0 : 0 ≤ (be s i).1) (hs' : s'.drop (i' + 1) = sub s (i + 1) (be s i).2 ++ B) (h : lH (s.drop (i + 1)) B (cA (s.drop (i + 1))).2) :
  (be s' i').1 = (be s i).1 ∧ (be s' i').2 = i' + ((be s i).2 - i) := by
 have hsub : sub s (i + 1) (be s i).2 = (s.drop (i + 1)).take (cA (s.drop (i + 1))).2 := by
  unfold sub be
  rw [List.drop_take]
  congr 1
  dsimp only
  exact (lnr [_,_] [] 0x11609116099A22)
 rw [hsub] at hs'
 have hl := uh _ B (by unfold be at h0; exact h0) h
 unfold be
 rw [hs', hl]
 dsimp only
 exact ⟨rfl, by exact (lnr [_,_,_] [] 0x2116299A0911609923)⟩
theorem tz {s s' : List Nat} {a a' : Nat} {B : List Nat} : ∀ (n i i' e : Nat) (w w' : List Nat), s.length - i < n -> bc s a i w = .ok w' e -> s'.drop i' = sub s i e ++ B -> bc s' a' i' w = .ok w' (i' + (e - i)) := by
 intro n
 induction n with
 | zero => intro i _ _ _ _ h; exact (((lnr [_,_] [] 0xA0610A192) h : False).elim)
 | succ n ih =>
  intro i i' e w w' hn h hs'
  have hge := (eX _ _ _ _ _ (Nat.lt_succ_self _) h)
  cases hc : s[i]? with
  | none => rw [cO hc] at h; cases h
  | some c =>
   have hl := ag hc
   have hgt := cH s i
   have hsc : sub s i e = c :: sub s (i + 1) e := by
    unfold sub
    rw [List.drop_take, List.drop_take, bT hc, show e - i = (e - (i + 1)) + 1 by exact (lnr [_,_,_] [] 0x1616190A910A2200011793) hge, List.take_succ_cons]
   rw [hsc, List.cons_append] at hs'
   have hc' : s'[i']? = some c := by have := da hs' 0; simpa using this
   have hd' : s'.drop (i' + 1) = sub s (i + 1) e ++ B := by rw [← List.drop_drop, hs']; rfl
   rw [bO hc] at h
   rw [bO hc']
   by_cases e1 : c = 34
   ·rw [if_pos e1] at h ⊢
    cases h
    rw [show i' + (i + 1 - i) = i' + 1 by exact (lnr [_,_] [] 0x160911619A0922)]
   rw [if_neg e1] at h ⊢
   by_cases e2 : c = 92
   ·rw [if_pos e2] at h ⊢
    by_cases e3 : (be s i).1 < 0
    ·rw [if_pos e3] at h; cases h
    ·rw [if_neg e3] at h
     have hge2 := (eX _ _ _ _ _ (Nat.lt_succ_self _) h)
     have hsp : sub s (i + 1) e = sub s (i + 1) (be s i).2 ++ sub s (be s i).2 e := by
      unfold sub
      rw [List.drop_take, List.drop_take, List.drop_take]
      have : s.drop (be s i).2 = (s.drop (i + 1)).drop ((be s i).2 - (i + 1)) := by rw [List.drop_drop]; congr 1; exact (lnr [_,_] [] 0x16190A161990201192) hgt
      rw [this, show e - (i + 1) = ((be s i).2 - (i + 1)) + (e - (be s i).2) by exact (lnr [_,_,_,_] [] 0x20A16192A916190A23000217921194) hgt hge2, List.take_add]
     rw [hsp, List.append_assoc] at hd'
     have hm : lH (s.drop (i + 1)) (sub s (be s i).2 e ++ B) (cA (s.drop (i + 1))).2 := by
      right
      rw [List.drop_drop]
      have : i + 1 + (cA (s.drop (i + 1))).2 = (be s i).2 := rfl
      rw [this]
      have hne : 0 < (sub s (be s i).2 e).length := by rw [di hge2.2]; exact (lnr [_,_,_] [] 0x10A061200011793) hge2
      rw [List.getElem?_append_left hne, List.getElem?_drop]
      unfold sub
      rw [List.getElem?_drop, List.getElem?_take_of_lt (by exact (lnr [_,_,_] [] 0x106091210101793) hge2)]
     obtain ⟨l1, l2⟩ := nu (by exact (lnr [] [_] 0x00630604691) e3) hd' hm
     rw [l1, if_neg e3, l2]
     have hd2 : s'.drop (i' + ((be s i).2 - i)) = sub s (be s i).2 e ++ B := by
      have := nh hd'
      rw [di (by exact (lnr [_,_,_] [] 0x100120201793) hge2)] at this
      rw [← this]; congr 1; exact (lnr [_,_,_] [] 0x16291A1609921A09212193) hgt
     have := ih (be s i).2 (i' + ((be s i).2 - i)) e _ w' (by exact (lnr [_,_,_,_,_] [] 0x210A1030311791419162940A195) hn hgt hge2) h hd2
     rw [this]; congr 1; exact (lnr [_,_,_,_,_] [] 0x23A0913A21A09924303117912195) hgt hge2
   ·rw [if_neg e2] at h ⊢
    by_cases e3 : c ≠ 9 ∧ (c < 32 ∨ 126 < c)
    ·rw [if_pos e3] at h; cases h
    ·rw [if_neg e3] at h ⊢
     have := ih (i + 1) (i' + 1) e _ w' (by exact (lnr [_,_,_] [] 0x216190A10119162910A193) hn hl) h hd'
     rw [this]
     have := (eX _ _ _ _ _ (Nat.lt_succ_self _) h)
     congr 1; exact (lnr [_,_,_,_] [] 0x21A0916291A160992310116291794) this
theorem gd {s : List Nat} {i e c : Nat} (hc : s[i]? = some c) (h : i < e) : sub s i e = c :: sub s (i + 1) e := by
 unfold sub
 rw [List.drop_take, List.drop_take, bT hc, show e - i = (e - (i + 1)) + 1 by exact (lnr [_,_] [] 0x1616190A910A201192) h, List.take_succ_cons]
theorem o9 (s : List Nat) (i : Nat) : sub s i i = [] := by
 unfold sub; rw [List.drop_take, Nat.sub_self, List.take_zero]
theorem sn {s s' : List Nat} {i i' : Nat} {B : List Nat} (hB : CN B) (hc0 : s[i]? = some 39) (h0 : 0 ≤ (au s i).1) (hs' : s'.drop i' = sub s i (au s i).2 ++ B) : (au s' i').1 = (au s i).1 ∧ (au s' i').2 = i' + ((au s i).2 - i) := by
 have hgt := iY s i
 have hle := pH hc0
 cases hc : s[i + 1]? with
 | none =>
  have : au s i = (-1, i + 1) := by unfold au; rw [hc]
  rw [this] at h0; exact absurd h0 (show ¬ (0 : Int) ≤ -1 by decide)
 | some c =>
  have hF : au s i = if c = 10 then (-1, i + 1) else if 0 ≤ (ae s i c).1 ∧ s[(ae s i c).2]? = some 39 then ((ae s i c).1, (ae s i c).2 + 1) else ae s i c := by unfold au; rw [hc]
  by_cases e10 : c = 10
  ·rw [hF, if_pos e10] at h0; exact absurd h0 (show ¬ (0 : Int) ≤ -1 by decide)
  rw [if_neg e10] at hF
  have hk0 : 0 ≤ (ae s i c).1 := by
   by_cases q : 0 ≤ (ae s i c).1 ∧ s[(ae s i c).2]? = some 39
   ·exact q.1
   ·rw [hF, if_neg q] at h0; exact h0
  have hk1 : i + 1 < (ae s i c).2 ∧ (ae s i c).2 ≤ (au s i).2 := by
   constructor
   ·unfold ae
    split
    ·exact cH s (i + 1)
    ·split <;> exact Nat.lt_succ_self _
   ·rw [hF]; split
    ·exact Nat.le_succ _
    ·exact Nat.le_refl _
  rw [gd hc0 hgt, gd hc (by exact (lnr [_,_,_] [] 0x116091120216091793) hk1)] at hs'
  have g1 : s'[i' + 1]? = some c := by have := da hs' 1; simpa using this
  have hd2 : s'.drop (i' + 1 + 1) = sub s (i + 1 + 1) (au s i).2 ++ B := by
   have : s'.drop (i' + 2) = (s'.drop i').drop 2 := by rw [List.drop_drop]
   rw [show i' + 1 + 1 = i' + 2 from rfl, this, hs']; rfl
  have hsp : sub s (i + 1 + 1) (au s i).2 = sub s (i + 1 + 1) (ae s i c).2 ++ sub s (ae s i c).2 (au s i).2 := by
   unfold sub
   rw [List.drop_take, List.drop_take, List.drop_take]
   have : s.drop (ae s i c).2 = (s.drop (i + 1 + 1)).drop ((ae s i c).2 - (i + 1 + 1)) := by rw [List.drop_drop]; congr 1; exact (lnr [_,_,_] [] 0x16161990A1616199902200016191793) hk1
   rw [this, show (au s i).2 - (i + 1 + 1) = ((ae s i c).2 - (i + 1 + 1)) + ((au s i).2 - (ae s i c).2) by exact (lnr [_,_,_] [] 0x20A16161992A916161990A2020216191793) hk1, List.take_add]
  rw [hsp, List.append_assoc] at hd2
  have hT : (s[(ae s i c).2]? = some 39 ∧ sub s (ae s i c).2 (au s i).2 = [39] ∧ (au s i).2 = (ae s i c).2 + 1 ∧ (au s i).1 = (ae s i c).1) ∨
    (¬ s[(ae s i c).2]? = some 39 ∧ sub s (ae s i c).2 (au s i).2 = [] ∧ (au s i).2 = (ae s i c).2 ∧ (au s i).1 = (ae s i c).1) := by
   by_cases q : s[(ae s i c).2]? = some 39
   ·have hF2 : au s i = ((ae s i c).1, (ae s i c).2 + 1) := hF.trans (if_pos ⟨hk0, q⟩)
    left
    refine ⟨q, ?_, by rw [hF2], by rw [hF2]⟩
    rw [hF2, gd q (Nat.lt_succ_self _), o9]
   ·have hF2 : au s i = ae s i c := hF.trans (if_neg λ z => q z.2)
    right
    exact ⟨q, by rw [hF2, o9], by rw [hF2], by rw [hF2]⟩
  have hB2 : ∀ b, (sub s (ae s i c).2 (au s i).2 ++ B)[0]? = some b -> 16 ≤ af b := by
   intro b hb
   rcases hT with ⟨_, h2, _⟩ | ⟨_, h2, _⟩
   ·rw [h2] at hb; cases hb; decide
   ·rw [h2, List.nil_append] at hb
    rcases hB.get with z | z
    ·rw [z] at hb; cases hb
    ·rw [z] at hb; cases hb; decide
  have hcode : (ae s' i' c).1 = (ae s i c).1 ∧ (ae s' i' c).2 = i' + ((ae s i c).2 - i) := by
   unfold ae at hd2 hB2 hk0 ⊢
   by_cases e92 : c = 92
   ·simp only [e92, if_true] at hd2 hB2 hk0 ⊢
    obtain ⟨l1, l2⟩ := nu hk0 hd2 (.inl hB2)
    exact ⟨l1, by rw [l2]; have := cH s (i + 1); exact (lnr [_,_,_] [] 0x21A0916291A16099211629193) this⟩
   ·simp only [e92, if_false]
    by_cases e3 : c < 32 ∨ 126 < c
    ·simp only [e92, e3, if_false, if_true] at hk0; exact absurd hk0 (show ¬ (0 : Int) ≤ -1 by decide)
    ·rw [if_neg e3, if_neg e3]; exact ⟨rfl, by dsimp only; exact (lnr [_,_] [] 0x12619A09260922)⟩
  have hnx : s'[(ae s' i' c).2]? = (sub s (ae s i c).2 (au s i).2 ++ B)[0]? := by
   have h1 := nh hd2
   rw [di (by omega)] at h1
   rw [hcode.2]
   have := da h1 0
   rw [← this]; congr 1; exact (lnr [_,_,_,_] [] 0x0616162991A16160999921A092310116291794) hk1
  have hF' : au s' i' = if 0 ≤ (ae s' i' c).1 ∧ s'[(ae s' i' c).2]? = some 39 then ((ae s' i' c).1, (ae s' i' c).2 + 1) else ae s' i' c := by
   unfold au; rw [g1]; dsimp only; rw [if_neg e10]
  rcases hT with ⟨_, h2, h3, h4⟩ | ⟨_, h2, h3, h4⟩
  ·rw [h2] at hnx
   rw [hF', if_pos ⟨by rw [hcode.1]; exact hk0, hnx⟩]
   dsimp only
   exact ⟨by rw [h4, hcode.1], by rw [hcode.2, h3]; exact (lnr [_,_,_,_] [] 0x21619A091621A0992310116291794) hk1⟩
  ·rw [h2, List.nil_append] at hnx
   rw [hF', if_neg (λ q => by rw [hnx] at q; rcases hB.get with z | z <;> (rw [z] at q; cases q.2))]
   exact ⟨by rw [h4, hcode.1], by rw [hcode.2, h3]⟩
theorem iP {p : Nat -> Bool} {s s' : List Nat} {i i' : Nat} {B : List Nat} (hB : CN B) (hp : p 32 = false) (hs' : s'.drop i' = sub s i (ai p s i) ++ B) (hi : i ≤ s.length) : ai p s' i' = i' + (ai p s i - i) := by
 have h1 : gY p (s'.drop i') = (sub s i (ai p s i)).length := by rw [hs']; exact Ad Ac hB hp
 have h2 := di (i := i) (kI (p := p) hi)
 unfold ai at h2 ⊢
 rw [h1, ← show sub s i (i + gY p (s.drop i)) = sub s i (ai p s i) from rfl, h2]
theorem ye {s : List Nat} {i c e : Nat} {k : List Nat} {v : AV} (h : dJ s i c = .ok k v e) : bl c = false ∧ c ≠ 35 := by
 have no : ∀ d, de d = false -> isDi d = false -> d ≠ 39 -> d ≠ 34 -> d ≠ 37 -> gj.contains d = false -> c ≠ d := by
  rintro d b1 b2 b3 b4 b5 b6 rfl
  unfold dJ at h
  rw [if_neg (by rw [b1]; decide), if_neg (by rw [b2]; decide), if_neg b3, if_neg b4, if_neg (λ q => b5 q.1), if_neg (by rw [b6]; decide)] at h
  cases h
 have a1 := no 32 (by decide) (by decide) (by decide) (by decide) (by decide) (by decide)
 have a2 := no 9 (by decide) (by decide) (by decide) (by decide) (by decide) (by decide)
 have a3 := no 13 (by decide) (by decide) (by decide) (by decide) (by decide) (by decide)
 have a4 := no 35 (by decide) (by decide) (by decide) (by decide) (by decide) (by decide)
 refine ⟨?_, a4⟩
 unfold bl
 simp [a1, a2, a3]
theorem vk {s s' : List Nat} {i i' c e : Nat} {k : List Nat} {v : AV} {B : List Nat} (hB : CN B) (hc : s[i]? = some c) (h : dJ s i c = .ok k v e) (hs' : s'.drop i' = sub s i e ++ B) : dJ s' i' c = .ok k v (i' + (e - i)) := by
 have hgt := d7 hc h
 have hle := fK hc h
 have hl := ag hc
 have hsub : sub s' i' (i' + (e - i)) = sub s i e := by
  have := Eu hs'
  rwa [di hle] at this
 have n32 : aY 32 = false := by decide
 have r32 : cT 32 = false := by decide
 unfold dJ at h ⊢
 by_cases e1 : de c = true
 ·rw [if_pos e1] at h ⊢
  cases h
  have := iP hB n32 hs' (by exact (lnr [_,_,_] [] 0x100120920193) hgt hle)
  rw [this, hsub]
 rw [if_neg e1] at h ⊢
 by_cases e2 : isDi c = true
 ·rw [if_pos e2] at h ⊢
  have he : e = ai aY s i := by
   split at h
   ·cases h
   ·cases h; rfl
  subst he
  have := iP hB n32 hs' (by exact (lnr [_,_,_] [] 0x100120920193) hgt hle)
  rw [this, hsub]
  split at h
  ·cases h
  ·rename_i k' n hq
   cases h
   rfl
 rw [if_neg e2] at h ⊢
 by_cases e3 : c = 39
 ·rw [if_pos e3] at h ⊢
  by_cases e4 : (au s i).1 < 0
  ·rw [if_pos e4] at h; cases h
  ·rw [if_neg e4] at h
   cases h
   obtain ⟨l1, l2⟩ := sn hB (by rw [← e3]; exact hc) (by exact (lnr [] [_] 0x00630604691) e4) hs'
   rw [l1, if_neg e4, l2]
 rw [if_neg e3] at h ⊢
 have hcons := gd hc hgt
 rw [hcons, List.cons_append] at hs'
 have hd1 : s'.drop (i' + 1) = sub s (i + 1) e ++ B := by rw [← List.drop_drop, hs']; rfl
 by_cases e4 : c = 34
 ·rw [if_pos e4] at h ⊢
  cases hq : bc s i (i + 1) [] with
  | bad p => rw [hq] at h; cases h
  | ok w e' =>
   rw [hq] at h
   cases h
   have h2 := eX _ _ _ _ _ (Nat.lt_succ_self _) hq
   have := tz (a' := i') _ (i + 1) (i' + 1) e [] w (Nat.lt_succ_self _) hq hd1
   rw [this]
   dsimp only
   congr 1; exact (lnr [_,_,_,_] [] 0x21A0916291A160992310116291794) h2
 rw [if_neg e4] at h ⊢
 by_cases e5 : c = 37 ∧ bE s (i + 1) = true
 ·rw [if_pos e5] at h
  cases h
  have h1 : s'[i' + 1]? = s[i + 1]? := by
   have hlet := e5.2
   unfold bE at hlet
   cases hd : s[i + 1]? with
   | none => rw [hd] at hlet; cases hlet
   | some d =>
    rw [hd] at hlet
    dsimp only at hlet
    have : i + 1 < ai cT s (i + 1) := by rw [bP hd (by unfold cT; rw [hlet]; rfl)]; exact cY _ _ _
    rw [gd hd this, List.cons_append] at hd1
    have := da hd1 0
    simpa using this
  have hlet' : bE s' (i' + 1) = true := by unfold bE at *; rw [h1]; exact e5.2
  rw [if_pos ⟨e5.1, hlet'⟩]
  have hr : ai cT s' (i' + 1) = i' + 1 + (ai cT s (i + 1) - (i + 1)) := iP hB r32 hd1 (by exact (lnr [_,_,_] [] 0x116090120920193) hgt hle)
  have hge := cY cT s (i + 1)
  have : ai cT s' (i' + 1) = i' + (ai cT s (i + 1) - i) := by rw [hr]; exact (lnr [_,_,_] [] 0x21A0916291A16099211629093) hge
  rw [this, hsub]
 rw [if_neg e5] at h
 by_cases e6 : gj.contains c = true
 ·rw [if_pos e6] at h
  cases h
  have hm : dm s i = i + 1 ∨ (dm s i = i + 2 ∧ (sub s i (i + 2) = [60, 60] ∨ sub s i (i + 2) = [62, 62])) := by
   unfold dm
   by_cases q : sub s i (i + 2) = [60, 60] ∨ sub s i (i + 2) = [62, 62]
   ·rw [if_pos q]; exact .inr ⟨rfl, q⟩
   ·rw [if_neg q]; exact .inl rfl
  rcases hm with hm | ⟨hm, hp⟩
  ·rw [hm] at hd1 hsub hs' hcons hgt hle
   rw [o9, List.nil_append] at hd1
   have hn : s'[i' + 1]? = none ∨ s'[i' + 1]? = some 32 := by
    have := da hd1 0
    rw [Nat.add_zero] at this
    rw [this]; exact hB.get
   have nl : ¬ (c = 37 ∧ bE s' (i' + 1) = true) := λ q => by
    have := q.2
    unfold bE at this
    rcases hn with z | z
    ·rw [z] at this; cases this
    ·rw [z] at this; revert this; decide
   rw [if_neg nl, if_pos e6]
   have hc' : s'[i']? = some c := by have := da hs' 0; simpa using this
   have hm' : dm s' i' = i' + 1 := by
    unfold dm
    rw [if_neg]
    rw [rG hc']
    rcases hn with z | z
    ·rw [z]; simp
    ·rw [z]; simp
   rw [hm', hm]
   have : i' + (i + 1 - i) = i' + 1 := by exact (lnr [_,_] [] 0x160911619A0922)
   rw [this] at hsub
   rw [hsub, this]
  ·rw [hm] at hd1 hsub hs' hcons
   have hi2 : i' + (i + 2 - i) = i' + 2 := by exact (lnr [_,_] [] 0x260912619A0922)
   rw [hi2] at hsub
   have nl : ¬ (c = 37 ∧ bE s' (i' + 1) = true) := λ q => by
    rw [hcons, q.1] at hp
    rcases hp with hp | hp <;> cases hp
   rw [if_neg nl, if_pos e6]
   have hm' : dm s' i' = i' + 2 := by unfold dm; rw [hsub, if_pos hp]
   rw [hm', hm, hi2, hsub]
 ·rw [if_neg e6] at h; cases h
theorem B8 {s : List Nat} {i c : Nat} (hc : s[i]? = some c) (hw : bl c = true) : toks s i = toks s (i + 1) := by
 have h := bP hc hw
 cases hd : s[ai bl s i]? with
 | none => rw [cE hd, cE (by rw [← h]; exact hd), h]
 | some d =>
  by_cases e : d = 35
  ·subst e; rw [dX hd, dX (by rw [← h]; exact hd), h]
  ·rw [cU hd e, cU (by rw [← h]; exact hd) e, ← h]
theorem zV {s : List Nat} : ∀ (l : List Tk), (∀ t ∈ l, ∃ c, s[t.i]? = some c ∧ dJ s t.i c = .ok t.k t.v t.e) -> ∀ A : List Nat,
  ∃ l2 e2, toks (A ++ bV [32] (aW s l)) A.length = .done l2 e2 ∧ l2.map (λ t => (t.k, t.v)) = l.map (λ t => (t.k, t.v))
 | [], _, A => by
  refine ⟨[], _, cE (s := A ++ []) ?_, rfl⟩
  have : (A ++ ([] : List Nat))[A.length]? = none := by simp
  rw [bv this]; exact this
 | t :: rest, h, A => by
  obtain ⟨c, hc, htk⟩ := h t List.mem_cons_self
  have hgt := d7 hc htk
  have hle := fK hc htk
  obtain ⟨f1, f2⟩ := ye htk
  generalize hw : sub s t.i t.e = w
  have hwl : w.length = t.e - t.i := by rw [← hw, di hle]
  have hwc : w = c :: sub s (t.i + 1) t.e := by rw [← hw, gd hc hgt]
  have shape : ∃ B, CN B ∧ bV [32] (aW s (t :: rest)) = w ++ B ∧ ((rest = [] ∧ B = []) ∨ B = 32 :: bV [32] (aW s rest)) := by
   cases rest with
   | nil => exact ⟨[], .inl rfl, by rw [List.append_nil]; exact hw, .inl ⟨rfl, rfl⟩⟩
   | cons t2 rest =>
    refine ⟨32 :: bV [32] (aW s (t2 :: rest)), .inr ⟨_, rfl⟩, ?_, .inr rfl⟩
    show sub s t.i t.e ++ [32] ++ bV [32] (aW s (t2 :: rest)) = _
    rw [hw, List.append_assoc]; rfl
  obtain ⟨B, hB, hj, hB2⟩ := shape
  rw [hj]
  have hdrop : (A ++ (w ++ B)).drop A.length = w ++ B := List.drop_left
  have hc' : (A ++ (w ++ B))[A.length]? = some c := by
   have := da hdrop 0
   rw [hwc] at this ⊢
   simpa using this
  have hsp : ai bl (A ++ (w ++ B)) A.length = A.length := cZ hc' f1
  have ht' := vk hB hc htk (by rw [hdrop, hw])
  have ht2 : toks (A ++ (w ++ B)) A.length = (toks (A ++ (w ++ B)) (A.length + w.length)).cons ⟨t.k, t.v, A.length, A.length + w.length⟩ := by
   rw [cU (by rw [hsp]; exact hc') f2, hsp, ht', hwl]
  rw [ht2]
  have hrest := λ u hu => h u (List.mem_cons_of_mem t hu)
  rcases hB2 with ⟨e1, e2⟩ | e2
  ·subst e1 e2
   have hn : (A ++ (w ++ ([] : List Nat)))[A.length + w.length]? = none := by simp
   have : toks (A ++ (w ++ [])) (A.length + w.length) = .done [] (A.length + w.length) := by
    have := cE (s := A ++ (w ++ [])) (i := A.length + w.length) (by rw [bv hn]; exact hn)
    rw [this, bv hn]
   rw [this]
   exact ⟨_, _, rfl, rfl⟩
  ·subst e2
   have hsp2 : (A ++ (w ++ 32 :: bV [32] (aW s rest)))[A.length + w.length]? = some 32 := by
    have := da (nh hdrop) 0
    simpa using this
   rw [B8 hsp2 (by decide)]
   obtain ⟨l2, e2, g1, g2⟩ := zV rest hrest (A ++ w ++ [32])
   have eqs : A ++ (w ++ 32 :: bV [32] (aW s rest)) = A ++ w ++ [32] ++ bV [32] (aW s rest) := by simp
   have eql : A.length + w.length + 1 = (A ++ w ++ [32]).length := by simp; exact (lnr [_,_] [] 0x16190916109922)
   rw [eqs, eql, g1]
   exact ⟨_, _, rfl, by simp only [List.map_cons, g2]⟩
theorem As {s : List Nat} : ∀ (n i : Nat) (l : List Tk) (e : Nat), s.length - i < n -> i ≤ s.length -> toks s i = .done l e -> ((aW s l).map List.length).sum ≤ s.length - i := by
 intro n
 induction n with
 | zero => intro i _ _ h; exact (((lnr [_,_] [] 0xA0610A192) h : False).elim)
 | succ n ih =>
  intro i l e hn hi h
  have hge := cY bl s i
  cases hc : s[ai bl s i]? with
  | none => rw [cE hc] at h; cases h; exact Nat.zero_le _
  | some c =>
   by_cases e35 : c = 35
   ·subst e35; rw [dX hc] at h; cases h; exact Nat.zero_le _
   ·rw [cU hc e35] at h
    have hl := ag hc
    split at h
    ·cases h
    ·rename_i k v e' ht
     have hgt := d7 hc ht
     have hle := fK hc ht
     cases hq : toks s e' with
     | bad p => rw [hq] at h; cases h
     | done l' e2 =>
      rw [hq] at h
      cases h
      have := ih e' l' _ (by exact (lnr [_,_,_,_,_] [] 0x210A1010913193409162940A195) hn hge hgt hle) hle hq
      have hs := di (i := ai bl s i) hle
      unfold aW at this ⊢
      simp only [List.map_cons, List.sum_cons, hs]
      exact (lnr [_,_,_,_,_] [] 0x43A210A9003A2093009011914095) hge hgt hle this
theorem pY : ∀ ls : List (List Nat), (bV [32] ls).length ≤ (ls.map List.length).sum + ls.length
 | [] => Nat.le_refl _
 | [x] => by simp [bV]
 | x :: y :: r => by
  have := pY (y :: r)
  show (x ++ [32] ++ bV [32] (y :: r)).length ≤ _
  simp only [List.length_append, List.map_cons, List.sum_cons, List.length_cons, List.length_nil] at this ⊢
  exact (lnr [_,_,_,_,_] [] 0x16164993290991160690990164932991095) this
theorem pZ {c : Nat} : ∀ ls : List (List Nat), c ∈ bV [32] ls -> c = 32 ∨ ∃ x ∈ ls, c ∈ x
 | [], h => by cases h
 | [x], h => .inr ⟨x, List.mem_cons_self, h⟩
 | x :: y :: r, h => by
  have h : c ∈ x ++ [32] ++ bV [32] (y :: r) := h
  rcases List.mem_append.mp h with h | h
  ·rcases List.mem_append.mp h with h | h
   ·exact .inr ⟨x, List.mem_cons_self, h⟩
   ·exact .inl (List.mem_singleton.mp h)
  ·rcases pZ (y :: r) h with h | ⟨z, hz, h⟩
   ·exact .inl h
   ·exact .inr ⟨z, List.mem_cons_of_mem _ hz, h⟩
theorem FZ {s : List Nat} (ha : aE s) (hs : s.length ≤ 400) {l : List Tk} {e : Nat} (h : toks s 0 = .done l e) :
  aE (bV [32] (aW s l)) ∧ (bV [32] (aW s l)).length ≤ 800 ∧ ∃ l2 e2, toks (bV [32] (aW s l)) 0 = .done l2 e2 ∧ l2.map (λ t => (t.k, t.v)) = l.map (λ t => (t.k, t.v)) := by
 refine ⟨?_, ?_, ?_⟩
 ·unfold aE
  rw [List.all_eq_true]
  intro c hc
  rcases pZ _ hc with rfl | ⟨x, hx, hcx⟩
  ·rfl
  ·obtain ⟨t, _, rfl⟩ := List.mem_map.mp hx
   simpa using cg ha (List.mem_of_mem_take (List.mem_of_mem_drop hcx))
 ·have h1 := pY (aW s l)
  have h2 := As _ 0 l e (Nat.lt_succ_self _) (Nat.zero_le _) h
  have h3 := kL (Nat.zero_le _) h
  have h4 : (aW s l).length = l.length := by unfold aW; rw [List.length_map]
  exact (lnr [_,_,_,_,_] [] 0x1CC86002129063A209063A4091490096A863095) hs h1 h2 h3 h4
 ·have := zV l (kM h) []
  simpa using this
theorem FN {a b c : Nat} (ha : a < 8) (hb : b < 8) (hc : c < 8) (r : List Nat) : cq 3 ((48 + a) :: (48 + b) :: (48 + c) :: r) 0 = ((a * 8 + b) * 8 + c, 3) := by
 have d : ∀ x, x < 8 -> af (48 + x) = x := λ x hx => by unfold af; rw [if_pos (by exact (lnr [_] [] 0x79606869006869686071860191) hx)]; exact (lnr [_] [] 0x068606869A21)
 simp only [cq, d a ha, d b hb, d c hc, ha, hb, hc, if_true, Nat.zero_mul, Nat.zero_add]
theorem oW {s : List Nat} {a : Nat} : ∀ (w : List Nat) (acc : List Nat) (i : Nat), (∀ c ∈ w, c < 256) -> s.drop i = w.flatMap qc ++ [34] -> bc s a i acc = .ok (acc ++ w) s.length
 | [], acc, i, _, hs => by
  rw [List.flatMap_nil, List.nil_append] at hs
  have hc : s[i]? = some 34 := by have := da hs 0; simpa using this
  have hl := congrArg List.length hs
  rw [List.length_drop, List.length_singleton] at hl
  rw [bO hc, if_pos rfl, List.append_nil, show i + 1 = s.length by exact (lnr [_,_] [] 0x1160921601A292) hl]
 | c :: w, acc, i, hw, hs => by
  have hcl := hw c List.mem_cons_self
  have hwl : ∀ d ∈ w, d < 256 := λ d hd => hw d (List.mem_cons_of_mem _ hd)
  rw [List.flatMap_cons, List.append_assoc] at hs
  have ih := λ j (hj : s.drop j = w.flatMap qc ++ [34]) => oW (a := a) w (acc ++ [c]) j hwl hj
  rw [List.append_assoc] at ih
  unfold qc at hs
  by_cases e1 : c = 34 ∨ c = 92
  ·rw [if_pos e1] at hs
   have hc : s[i]? = some 92 := by have := da hs 0; simpa using this
   have hd1 : s.drop (i + 1) = c :: (w.flatMap qc ++ [34]) := by rw [← List.drop_drop, hs]; rfl
   have hd2 : s.drop (i + 1 + 1) = w.flatMap qc ++ [34] := by rw [← List.drop_drop, hd1]; rfl
   have hE : cA (c :: (w.flatMap qc ++ [34])) = ((c : Int), 1) := by rcases e1 with rfl | rfl <;> rfl
   have hF : be s i = ((c : Int), i + 1 + 1) := by unfold be; rw [hd1, hE]
   rw [bO hc, if_neg (by decide), if_pos rfl, hF, if_neg (by dsimp only; exact (lnr [_] [] 0x060B461))]
   dsimp only
   rw [Int.toNat_natCast]
   exact ih _ hd2
  ·rw [if_neg e1] at hs
   by_cases e2 : 32 ≤ c ∧ c ≤ 126
   ·rw [if_pos e2] at hs
    have hc : s[i]? = some c := by have := da hs 0; simpa using this
    have hd1 : s.drop (i + 1) = w.flatMap qc ++ [34] := by rw [← List.drop_drop, hs]; rfl
    rw [bO hc, if_neg (by exact (lnr [_] [] 0x4A60261BC6024A6028691) e1), if_neg (by exact (lnr [_] [] 0x1BC60261BC6024A6028691) e1), if_neg (by exact (lnr [_] [] 0x01FE61486018196026761FE60004860791) e2)]
    exact ih _ hd1
   ·rw [if_neg e2] at hs
    have hc : s[i]? = some 92 := by have := da hs 0; simpa using this
    have hd1 : s.drop (i + 1) = (48 + c / 64) :: (48 + c / 8 % 8) :: (48 + c % 8) :: (w.flatMap qc ++ [34]) := by rw [← List.drop_drop, hs]; rfl
    have hd2 : s.drop (i + 1 + 3) = w.flatMap qc ++ [34] := by rw [← List.drop_drop, hd1]; rfl
    have h3 := FN (a := c / 64) (b := c / 8 % 8) (c := c % 8) (by omega) (by omega) (by omega) (w.flatMap qc ++ [34])
    have hdg : af (48 + c / 64) < 8 := by unfold af; rw [if_pos (by omega)]; omega
    have hE : cA ((48 + c / 64) :: (48 + c / 8 % 8) :: (48 + c % 8) :: (w.flatMap qc ++ [34])) = ((c : Int), 3) := by
     unfold cA
     dsimp only
     rw [if_pos hdg, h3]
     dsimp only
     have : ((c / 64 * 8 + c / 8 % 8) * 8 + c % 8) % 256 = c := by omega
     rw [this]
    have hF : be s i = ((c : Int), i + 1 + 3) := by unfold be; rw [hd1, hE]
    rw [bO hc, if_neg (by decide), if_pos rfl, hF, if_neg (by dsimp only; exact (lnr [_] [] 0x060B461))]
    dsimp only
    rw [Int.toNat_natCast]
    exact ih _ hd2
theorem tA {w : List Nat} (hw : ∀ c ∈ w, c < 256) : toks (aV w) 0 = .done [⟨iC, .str w, 0, (aV w).length⟩] (aV w).length := by
 have h0 : (aV w)[0]? = some 34 := rfl
 have hsp : ai bl (aV w) 0 = 0 := cZ h0 (by decide)
 have hq : bc (aV w) 0 (0 + 1) [] = .ok w (aV w).length := by
  have := oW (s := aV w) (a := 0) w [] 1 hw rfl
  rwa [List.nil_append] at this
 have ht : dJ (aV w) 0 34 = .ok iC (.str w) (aV w).length := by
  unfold dJ
  rw [if_neg (by decide), if_neg (by decide), if_neg (by decide), if_pos rfl, hq]
 have hn : (aV w)[(aV w).length]? = none := by simp
 have he : toks (aV w) (aV w).length = .done [] (aV w).length := by
  rw [cE (by rw [bv hn]; exact hn), bv hn]
 rw [cU (by rw [hsp]; exact h0) (by decide), hsp, ht]
 dsimp only
 rw [he]
 rfl
theorem kC {w : List Nat} (hw : ∀ c ∈ w, c < 256) : aE (aV w) := by
 have hq : ∀ c, c < 256 -> ∀ d ∈ qc c, d < 128 := λ c hc d hd => by
  unfold qc at hd
  split at hd
  ·simp only [List.mem_cons, List.not_mem_nil, or_false] at hd; exact (lnr [_,_] [] 0x2886011021BC602891BC6124A612892) ‹_› hd
  ·split at hd
   ·simp only [List.mem_cons, List.not_mem_nil, or_false] at hd; exact (lnr [_,_] [] 0x28860110291FE61014860792) ‹_› hd
   ·simp only [List.mem_cons, List.not_mem_nil, or_false] at hd; omega
 unfold aE
 rw [List.all_eq_true]
 intro d hd
 unfold aV at hd
 rw [decide_eq_true_eq]
 rcases List.mem_append.mp hd with hd | hd
 ·rcases List.mem_append.mp hd with hd | hd
  ·rw [List.mem_singleton.mp hd]; decide
  ·obtain ⟨c, hc, hd⟩ := List.mem_flatMap.mp hd
   exact hq c (hw c hc) d hd
 ·rw [List.mem_singleton.mp hd]; decide
theorem u2 (w : List Nat) : (aV w).length ≤ 2 + 4 * w.length := by
 have : (w.flatMap qc).length ≤ 4 * w.length := by
  induction w with
  | nil => simp
  | cons c w ih => rw [List.flatMap_cons, List.length_append, List.length_cons]; have := u1 c; exact (lnr [_,_,_] [] 0x1629471090460092471093) ih this
 unfold aV
 simp only [List.length_append, List.length_cons, List.length_nil]
 exact (lnr [_,_] [] 0x147269160690160699901470092) this
theorem j1 {σ : aa} {a b : AV} (h : ir σ a b = some true) : dl .ne σ a b = some false := by
 show (ir σ a b).map (!·) = _
 rw [h]; rfl
theorem Eg (line : Int) (i : Nat) : ∀ v ∈ [AV.int line, AV.int ((i : Int) + 1)], g8 v 1 := by
 intro v hv
 simp only [List.mem_cons, List.not_mem_nil, or_false] at hv
 rcases hv with rfl | rfl <;> exact lz _ _
theorem DM (σ : aa) (line : Int) (i : Nat) : ir σ (zL line i) (zL line i) = some true := DO (k := 1) (by decide) (Eg line i)
theorem wH (k : List Nat) (h : ∀ c ∈ k, c < 128) (j : Nat) : g8 (.str k) (j + 1) := jM (λ c hc => by have := h c hc; exact (lnr [_] [] 0x4A8888860128860191) this) _
theorem wV {s : List Nat} {line : Int} {l : List Tk} {e : Nat} (hok : ∀ t ∈ l, jU s t.k t.v t.i t.e) : ∀ v ∈ l.map (cX s line) ++ [bQ line e], g8 v 4 := by
 intro v hv
 rcases List.mem_append.mp hv with hv | hv
 ·obtain ⟨t, ht, rfl⟩ := List.mem_map.mp hv
  refine iE λ x hx => ?_
  simp only [List.mem_cons, List.not_mem_nil, or_false] at hx
  rcases hx with rfl | rfl | rfl | rfl
  ·exact wH _ (hok t ht).asc _
  ·exact (hok t ht).py _
  ·exact iE (k := 2) λ y hy => by simp only [List.mem_cons, List.not_mem_nil, or_false] at hy; rcases hy with rfl | rfl <;> exact lz _ _
  ·exact wM _ _
 ·rw [List.mem_singleton.mp hv]
  refine iE λ x hx => ?_
  simp only [List.mem_cons, List.not_mem_nil, or_false] at hx
  rcases hx with rfl | rfl | rfl | rfl
  ·exact wH _ (by decide) _
  ·exact jM (by simp) _
  ·exact iE (k := 2) λ y hy => by simp only [List.mem_cons, List.not_mem_nil, or_false] at hy; rcases hy with rfl | rfl <;> exact lz _ _
  ·exact wM _ _
theorem bD {σ : aa} {n : Nat} {c : aG} (h : σ[n]? = some c) (τ : aa) : (σ ++ τ)[n]? = some c := by
 rw [List.getElem?_append_left (ag h)]; exact h
noncomputable def w4 : AV -> Option AV
 | .inst .token [a, _, c, _] => some (.tup [a, c])
 | _ => none
noncomputable def AS : AV -> Option AV
 | .tup [a, b, _, _] => some (.tup [a, b])
 | _ => none
noncomputable def Cp (l : List Tk) : List AV := l.map (λ t => AV.tup [.str t.k, t.v]) ++ [.tup [.str cM, .str []]]
theorem DW {l l2 : List Tk} (h : l2.map (λ t => (t.k, t.v)) = l.map (λ t => (t.k, t.v))) : Cp l2 = Cp l := by
 unfold Cp
 have : ∀ l : List Tk, l.map (λ t => AV.tup [.str t.k, t.v]) = (l.map (λ t => (t.k, t.v))).map (λ p => AV.tup [.str p.1, p.2]) := λ l => by rw [List.map_map]; rfl
 rw [this, this, h]
theorem DX {s : List Nat} {l : List Tk} (hok : ∀ t ∈ l, jU s t.k t.v t.i t.e) : ∀ v ∈ Cp l, g8 v 2 := by
 intro v hv
 rcases List.mem_append.mp hv with hv | hv
 ·obtain ⟨t, ht, rfl⟩ := List.mem_map.mp hv
  refine iE λ x hx => ?_
  simp only [List.mem_cons, List.not_mem_nil, or_false] at hx
  rcases hx with rfl | rfl
  ·exact wH _ (hok t ht).asc _
  ·exact (hok t ht).py _
 ·rw [List.mem_singleton.mp hv]
  refine iE λ x hx => ?_
  simp only [List.mem_cons, List.not_mem_nil, or_false] at hx
  rcases hx with rfl | rfl
  ·exact wH _ (by decide) _
  ·exact jM (by simp) _
theorem tP {l : List Tk} {s : List Nat} {line : Int} {e : Nat} (h : l.length ≤ 10000) : (l.map (eA s line) ++ [dA line e]).length ≤ fD := by
 have lim : fD = 1048576 := rfl
 rw [List.length_append, List.length_map, List.length_singleton]; exact (lnr [_,_] [] 0x116090488888861292BCA860092) h lim
theorem tC {l : List Tk} {s : List Nat} {line : Int} {e : Nat} (h : l.length ≤ 10000) : (l.map (cX s line) ++ [bQ line e]).length ≤ fD := by
 have lim : fD = 1048576 := rfl
 rw [List.length_append, List.length_map, List.length_singleton]; exact (lnr [_,_] [] 0x116090488888861292BCA860092) h lim
theorem Au (l : List Tk) (s : List Nat) (line : Int) (e : Nat) : (l.map (eA s line) ++ [dA line e]).filterMap w4 = Cp l := by
 rw [List.filterMap_append]
 have : ∀ l : List Tk, (l.map (eA s line)).filterMap w4 = l.map (λ t => AV.tup [.str t.k, t.v]) := λ l => by
  induction l with
  | nil => rfl
  | cons t l ih => rw [List.map_cons, List.map_cons, List.filterMap_cons_some (show w4 (eA s line t) = some (AV.tup [.str t.k, t.v]) from rfl), ih]
 rw [this]
 rfl
theorem zW (l : List Tk) (s : List Nat) (line : Int) (e : Nat) : (l.map (cX s line) ++ [bQ line e]).filterMap AS = Cp l := by
 rw [List.filterMap_append]
 have : ∀ l : List Tk, (l.map (cX s line)).filterMap AS = l.map (λ t => AV.tup [.str t.k, t.v]) := λ l => by
  induction l with
  | nil => rfl
  | cons t l ih => rw [List.map_cons, List.map_cons, List.filterMap_cons_some (show AS (cX s line t) = some (AV.tup [.str t.k, t.v]) from rfl), ih]
 rw [this]
 rfl
theorem F6 {l : List Tk} {s : List Nat} {line : Int} {e : Nat} {v : AV} (hv : v ∈ l.map (eA s line) ++ [dA line e]) : ∃ (k w : List Nat) (x p : AV), v = TK k w x p := by
 rcases List.mem_append.mp hv with hv | hv
 ·obtain ⟨t, _, rfl⟩ := List.mem_map.mp hv; exact ⟨_, _, _, _, rfl⟩
 ·rw [List.mem_singleton.mp hv]; exact ⟨_, _, _, _, rfl⟩
theorem Ei {l : List Tk} {s : List Nat} {line : Int} {e : Nat} {v : AV} (hv : v ∈ l.map (cX s line) ++ [bQ line e]) : ∃ (a b c d : AV), v = .tup [a, b, c, d] := by
 rcases List.mem_append.mp hv with hv | hv
 ·obtain ⟨t, _, rfl⟩ := List.mem_map.mp hv; exact ⟨_, _, _, _, rfl⟩
 ·rw [List.mem_singleton.mp hv]; exact ⟨_, _, _, _, rfl⟩
section
variable {T : Fn -> ac} {σ : aa} {Q X : AV -> aa -> Prop} {args : List AV}
theorem pj (e : T .l_tokens = k_l_tokens) {s : List Nat} {line : Int} (ha : aE s) (hs : s.length ≤ 900) (h : match toks s 0 with
 | .bad p => ∀ τ, Q (zL line p) (σ ++ τ)
 | .done l e => ∀ τ n, (σ ++ τ)[n]? = some (.list (l.map (cX s line) ++ [bQ line e])) -> Q (.loc n) (σ ++ τ)) : aT (T .l_tokens) [.str s, .int line] σ Q X := λ _ _ q _ => e ▸ ⟨s, line, rfl, ha, hs, by
 generalize toks s 0 = r at h ⊢
 cases r with
 | bad p => exact λ τ => q _ _ (h τ)
 | done l e => exact λ τ n z => q _ _ (h τ n z)⟩
theorem gz (e : T .l_heard = k_l_heard) {s : List Nat} {line : Int} (ha : aE s) (hs : s.length ≤ 900) (h : match toks s 0 with
 | .bad p => ∀ τ, Q (zL line p) (σ ++ τ)
 | .done l e => ∀ τ n, (σ ++ τ)[n]? = some (.list (l.map (cX s line) ++ [bQ line e])) -> Q (.loc n) (σ ++ τ)) : aT (T .l_heard) [.str s, .int line] σ Q X := λ _ _ q _ => e ▸ ⟨s, line, rfl, ha, hs, by
 generalize toks s 0 = r at h ⊢
 cases r with
 | bad p => exact λ τ => q _ _ (h τ)
 | done l e => exact λ τ n z => q _ _ (h τ n z)⟩
theorem pn (h : T .l_walked = k_l_walked) {n m : Nat} {s : List Nat} {line : Int} {l : List Tk} {e : Nat} (hn : σ[n]? = some (.list (l.map (eA s line) ++ [dA line e]))) (hm : σ[m]? = some (.list (l.map (cX s line) ++ [bQ line e]))) (hok : ∀ t ∈ l, jU s t.k t.v t.i t.e)
  (g : ∀ τ, Q (.bool true) (σ ++ τ)) : aT (T .l_walked) [.loc n, .loc m] σ Q X := λ _ _ q _ => h ▸ ⟨n, m, s, line, l, e, rfl, hn, hm, hok, λ τ => q _ _ (g τ)⟩
theorem zn (h1 : T .l_tokens = k_l_tokens) (h2 : T .l_heard = k_l_heard) (h3 : T .line_tokens = k_line_tokens) (h4 : T .show_tokens = k_show_tokens) (h5 : T .token_told = k_token_told) (h6 : T .l_walked = k_l_walked)
  {p : List Nat} {line : Int} (ha : aE p) (hp : p.length ≤ 400) {a0 a1 a2 a3 a4 a7 a8 a9 a10 a11 a12 : Option AV} {Qf : aA -> aj -> aa -> Prop}
  (h : ∀ τ a5 a6 a7 a8 a9 a10 a11 a12, Qf .next [a0, a1, a2, a3, a4, a5, a6, a7, a8, a9, a10, a11, a12] (σ ++ τ)) : bB T rN [a0, a1, a2, a3, a4, some (.int line), some (.str p), a7, a8, a9, a10, a11, a12] σ Qf X := by
 have hp9 : p.length ≤ 900 := Nat.le_trans hp (by decide)
 have hp1 : p.length ≤ 1000 := Nat.le_trans hp (by decide)
 refine pj h1 ha hp9 ?_
 cases hq : toks p 0 with
 | bad q =>
  intro τ
  refine gz h2 ha hp9 ?_
  rw [hq]
  intro τ2
  refine Ee (a := zL line q) rfl ?_
  refine ew (j1 (DM _ line q)) ?_
  refine ⟨(λ z => nomatch z), λ _ => aK (bC (aK ?_))⟩
  rw [List.append_assoc]
  exact h _ _ _ _ _ _ _ _ _
 | done l e =>
  have hok := w5 ha hq
  have hlen := kL (Nat.zero_le _) hq
  have hl1 : l.length ≤ 1000 := by exact (lnr [_,_] [] 0x1FD8600061A0091FD861092) hp1 hlen
  intro τ n hn
  refine gz h2 ha hp9 ?_
  rw [hq]
  intro τ2 m hm
  have hn2 := bD hn τ2
  refine ew (j1 (mu (k := 4) (by decide) hm hn2 (wV hok))) ?_
  refine ⟨(λ z => nomatch z), λ _ => aK ?_⟩
  refine dS (lu hn2) (dI ?_)
  refine dP h3 hp1 ha ?_
  rw [hq]
  intro τ3 n3 hn3
  obtain ⟨s1, s2, l2, e2, s3, s4⟩ := FZ ha hp hq
  refine lf h4 hn3 hp1 hl1 (λ t ht => (hok t ht).kind) λ τ4 => ?_
  have hn3' := bD hn3 τ4
  have hn2'' := bD (bD hn2 τ3) τ4
  refine dP h3 (by exact (lnr [_] [] 0x1FD86001CC860091) s2) s1 ?_
  rw [s3]
  intro τ5 n5 hn5
  have hl2 : l2.length = l.length := by have := congrArg List.length s4; rwa [List.length_map, List.length_map] at this
  refine gK (cu hn5) ⟨rfl, tP (by exact (lnr [_,_] [] 0x2BCA860010291FD861092) hl1 hl2), aD w4 _ _ (λ v hv K hK => ?_) ?_⟩
  ·obtain ⟨k, w, x, p, rfl⟩ := F6 hv
   refine ⟨rfl, md h5 ?_⟩
   exact ⟨rfl, hK⟩
  rw [List.nil_append, Au]
  have hn22 := bD (bD hn2'' τ5) [aG.list (Cp l2)]
  refine gK (cu hn22) ⟨rfl, tC (by exact (lnr [_] [] 0x2BCA86001FD860091) hl1), aD AS _ _ (λ v hv K hK => ?_) ?_⟩
  ·obtain ⟨a, b, c, d, rfl⟩ := Ei hv
   exact ⟨rfl, rfl, hK⟩
  rw [List.nil_append, zW]
  refine ew (j1 (mu (k := 2) (l := Cp l) (by decide) (by rw [y9, DW s4]) (aL _ _) (DX hok))) (bC (aK ?_))
  refine pn h6 (bD (bD (bD hn3' τ5) _) _) (bD hn22 _) hok λ τ6 => ?_
  refine bC (aK ?_)
  rw [List.append_assoc, List.append_assoc, List.append_assoc, List.append_assoc, List.append_assoc, List.append_assoc, List.append_assoc]
  exact h _ _ _ _ _ _ _ _ _
end
noncomputable def Cv : List Nat := [97, 49, 48, 120, 34, 39, 92, 35, 37, 60, 62, 32, 98, 102, 46, 95, 36, 59, 10, 45, 55, 57, 110, 40, 64, 9, 33, 1, 122, 114]
noncomputable def f9 (i : Int) : Nat := Cv.getD (i % 30).toNat 0
theorem BA (σ : aa) (i : Int) : jn σ (.tup ([[97], [49], [48], [120], [34], [39], [92], [35], [37], [60], [62], [32], [98], [102], [46], [95], [36], [59], [10], [45], [55], [57], [110], [40], [64], [9], [33], [1], [122], [114]].map .str)) (.int (i % 30)) = some (.str [f9 i]) := by
 obtain ⟨k, hk⟩ : ∃ k : Nat, i % 30 = k := ⟨(i % 30).toNat, by omega⟩
 have hl : k < 30 := by omega
 unfold f9
 rw [hk, Int.toNat_natCast]
 show fu _ (k : Int) = _
 rw [jI, List.getElem?_map]
 have key : ∀ k, k < 30 -> ([[97], [49], [48], [120], [34], [39], [92], [35], [37], [60], [62], [32], [98], [102], [46], [95], [36], [59], [10], [45], [55], [57], [110], [40], [64], [9], [33], [1], [122], [114]] : List (List Nat))[k]? = some [Cv.getD k 0] := by decide +kernel
 rw [key k hl]; rfl
theorem BB (i : Int) : f9 i < 128 := by
 obtain ⟨k, hk⟩ : ∃ k : Nat, i % 30 = k := ⟨(i % 30).toNat, by omega⟩
 have hl : k < 30 := by omega
 unfold f9
 rw [hk, Int.toNat_natCast]
 clear hk
 revert hl
 revert k
 decide +kernel
theorem sQ (f : Int -> Nat) : ∀ l : List Int, bV [] (l.map λ i => [f i]) = l.map f
 | [] => rfl
 | [x] => rfl
 | x :: y :: r => by
  have := sQ f (y :: r)
  show [f x] ++ [] ++ bV [] ((y :: r).map λ i => [f i]) = _
  rw [this]; rfl
theorem Bw (f : Int -> Nat) (l : List Int) : ((l.map λ i => [f i]).map List.length).sum = l.length := by
 induction l with
 | nil => rfl
 | cons x l ih => rw [List.map_cons, List.map_cons, List.sum_cons, ih, List.length_cons]; simp only [List.length_cons, List.length_nil]; exact (lnr [_] [] 0x1609016069921)
theorem wX (f : Int -> Nat) {σ : aa} {n : Nat} {l : List Int} (hl : l.length ≤ 1000) (hn : σ[n]? = some (.list ((l.map λ i => [f i]).map .str))) : qg .join σ (.str []) (.loc n) = some (.str (l.map f)) := by
 have lim : fD = 1048576 := rfl
 refine (dE hn).trans ?_
 rw [jP]
 refine (if_pos (by rw [Bw]; simp only [List.length_nil, Nat.mul_zero]; exact (lnr [_,_] [] 0x106090488888861291FD860092) hl lim)).trans ?_
 rw [sQ]
theorem oR {s : List Nat} (ha : aE s) : ∀ (n i : Nat) (line : Int) (begin : Nat), s.length + 1 - i < n -> begin ≤ i -> i ≤ s.length -> ∀ v ∈ bX s line begin i, ∃ (ln : Int) (p : List Nat), v = .tup [.int ln, .str p] ∧ aE p ∧ p.length ≤ 2 * s.length := by
 intro n
 induction n with
 | zero => intro i _ _ h; exact (((lnr [_,_] [] 0xA0611609A192) h : False).elim)
 | succ n ih =>
  intro i line begin hn hb hi v hv
  have hg := rB s _ i .plain (Nat.lt_succ_self _)
  have hp : ∃ (ln : Int) (p : List Nat), eP s line begin i (cQ s i .plain) = .tup [.int ln, .str p] ∧ aE p ∧ p.length ≤ 2 * s.length := by
   refine ⟨_, _, rfl, ?_, ?_⟩
   ·unfold aE
    rw [List.all_eq_true]
    intro c hc
    rcases List.mem_append.mp hc with hc | hc
    ·rw [(List.mem_replicate.mp hc).2]; rfl
    ·simpa using cg ha (List.mem_of_mem_take (List.mem_of_mem_drop hc))
   ·rw [List.length_append, List.length_replicate, List.length_drop, List.length_take]; exact (lnr [_,_,_,_] [] 0x327032DA10A9030094) hi
  rw [bX] at hv
  split at hv
  ·rw [List.mem_singleton.mp hv]; exact hp
  ·rcases List.mem_cons.mp hv with rfl | hv
   ·exact hp
   ·split at hv
    ·exact ih _ _ _ (by exact (lnr [_,_,_,_] [] 0x216191609A1100691309162931609A194) hn hg ‹_›) (Nat.le_refl _) (by exact (lnr [_,_] [] 0x116090010692) ‹_›) v hv
    ·exact ih _ _ _ (by exact (lnr [_,_,_,_] [] 0x216191609A1100691309162931609A194) hn hg ‹_›) (by exact (lnr [_,_,_] [] 0x161900120920093) hb hg) (by exact (lnr [_,_] [] 0x116090010692) ‹_›) v hv
theorem xQ {s : List Nat} (ha : aE s) : ∀ v ∈ bX s 1 0 0, g8 v 2 := by
 intro v hv
 obtain ⟨ln, p, rfl, hp, _⟩ := oR ha _ 0 1 0 (Nat.lt_succ_self _) (Nat.le_refl _) (Nat.zero_le _) v hv
 refine iE λ x hx => ?_
 simp only [List.mem_cons, List.not_mem_nil, or_false] at hx
 rcases hx with rfl | rfl
 ·exact lz _ _
 ·exact jM (λ c hc => by have := cg hp hc; exact (lnr [_] [] 0x4A8888860128860191) this) _
noncomputable def B2 (f : Int -> Nat) : AV -> Option AV
 | .int i => some (.str [f i])
 | _ => none
theorem o6 (f : Int -> Nat) : ∀ cs : List Int, (cs.map AV.int).filterMap (B2 f) = (cs.map λ i => [f i]).map .str
 | [] => rfl
 | i :: cs => by rw [List.map_cons, List.filterMap_cons_some (show B2 f (.int i) = some (.str [f i]) from rfl), o6 f cs]; rfl
noncomputable def k_law : ac := λ args σ Q _ => ∃ ns : List Int, args = [.script ns] ∧ ∀ τ, Q (.bool true) (σ ++ τ)
theorem vI {α : Type} (l : List α) (k : Nat) : iq l none (some (k : Int)) = l.take k := by
 show l.take (eL l.length k) = _
 rw [io, ← List.take_eq_take_min]
theorem AA {cs : List Int} : ∀ c ∈ (cs.take 12).map (λ i => (i / 30 % 256).toNat), c < 256 := λ c hc => by
 obtain ⟨i, _, rfl⟩ := List.mem_map.mp hc
 have : i / 30 % 256 < 256 := Int.emod_lt_of_pos _ (by decide)
 omega
section
variable {T : Fn -> ac} {σ : aa} {Q X : AV -> aa -> Prop} {args : List AV}
theorem pi (e : T .l_pieces = k_l_pieces) {s : List Nat} (ha : aE s) (hs : s.length ≤ 900) (h : ∀ τ n, (σ ++ τ)[n]? = some (.list (bX s 1 0 0)) -> Q (.loc n) (σ ++ τ)) : aT (T .l_pieces) [.str s] σ Q X := λ _ _ q _ => e ▸ ⟨s, rfl, ha, hs, λ τ n z => q _ _ (h τ n z)⟩
theorem lg (e : T .split_lines = k_split_lines) {s : List Nat} (hs : s.length ≤ 1000) (h : ∀ τ n, (σ ++ τ)[n]? = some (.list (bX s 1 0 0)) -> Q (.loc n) (σ ++ τ)) : aT (T .split_lines) [.str s] σ Q X := λ _ _ q _ => e ▸ ⟨s, rfl, hs, λ τ n z => q _ _ (h τ n z)⟩
theorem sS (h1 : T .l_tokens = k_l_tokens) (h2 : T .l_heard = k_l_heard) (h3 : T .line_tokens = k_line_tokens) (h4 : T .show_tokens = k_show_tokens) (h5 : T .token_told = k_token_told) (h6 : T .l_walked = k_l_walked)
  {same : aa -> Prop} {a0 a1 a2 a3 a4 : Option AV} {Qf : aA -> aj -> aa -> Prop} : ∀ (P : List AV) (σ : aa) (a5 a6 a7 a8 a9 a10 a11 a12 : Option AV), (∀ v ∈ P, ∃ (ln : Int) (p : List Nat), v = .tup [.int ln, .str p] ∧ aE p ∧ p.length ≤ 400) -> (∀ τ, same (σ ++ τ)) ->
  (∀ τ a5 a6 a7 a8 a9 a10 a11 a12, Qf .next [a0, a1, a2, a3, a4, a5, a6, a7, a8, a9, a10, a11, a12] (σ ++ τ)) ->
  FE T [5, 6] same rN X P [a0, a1, a2, a3, a4, a5, a6, a7, a8, a9, a10, a11, a12] σ Qf
 | [], σ, a5, a6, a7, a8, a9, a10, a11, a12, _, hs, h => by
  have s0 := hs []
  have h0 := h [] a5 a6 a7 a8 a9 a10 a11 a12
  rw [List.append_nil] at s0 h0
  exact ⟨s0, h0⟩
 | v :: P, σ, a5, a6, a7, a8, a9, a10, a11, a12, hP, hs, h => by
  obtain ⟨ln, p, rfl, ha, hp⟩ := hP v List.mem_cons_self
  have s0 := hs []
  rw [List.append_nil] at s0
  refine ⟨s0, zn h1 h2 h3 h4 h5 h6 ha hp λ τ b5 b6 b7 b8 b9 b10 b11 b12 => ?_⟩
  refine sS h1 h2 h3 h4 h5 h6 P (σ ++ τ) b5 b6 b7 b8 b9 b10 b11 b12 (λ w hw => hP w (List.mem_cons_of_mem _ hw)) (λ τ2 => ?_) λ τ2 c5 c6 c7 c8 c9 c10 c11 c12 => ?_
  ·rw [List.append_assoc]; exact hs _
  ·rw [List.append_assoc]; exact h _ _ _ _ _ _ _ _ _
theorem vc_law (h1 : T .l_tokens = k_l_tokens) (h2 : T .l_heard = k_l_heard) (h3 : T .line_tokens = k_line_tokens) (h4 : T .show_tokens = k_show_tokens) (h5 : T .token_told = k_token_told) (h6 : T .l_walked = k_l_walked)
  (h7 : T .l_pieces = k_l_pieces) (h8 : T .split_lines = k_split_lines) (h9 : T .quoted = k_quoted) (h : k_law args σ Q X) : aJ T 13 1 mT args σ Q X := by
 obtain ⟨ns, rfl, h⟩ := h
 have lim : fD = 1048576 := rfl
 refine ar rfl rfl ?_
 generalize hcs : ns.take 44 = cs
 have hcl : cs.length ≤ 44 := by rw [← hcs, List.length_take]; exact (lnr [_] [] 0x5C605C6D01)
 have hat : aE (cs.map f9) := by
  unfold aE
  rw [List.all_eq_true]
  intro c hc
  obtain ⟨i, _, rfl⟩ := List.mem_map.mp hc
  exact decide_eq_true (BB i)
 have htl : (cs.map f9).length ≤ 44 := by rw [List.length_map]; exact hcl
 generalize htx : cs.map f9 = tx at hat htl
 have hcut : iq (ns.map AV.int) none (some (44 : Int)) = cs.map .int := by rw [← hcs, List.map_take]; exact vI _ 44
 refine gK (cu (aL _ _)) ⟨rfl, by rw [hcut, List.length_map]; exact (lnr [_,_] [] 0x1005C6009488888861292) lim hcl, aD some _ _ (λ v hv K hK => ?_) ?_⟩
 ·rw [hcut] at hv
  obtain ⟨i, _, rfl⟩ := List.mem_map.mp hv
  exact ⟨rfl, rfl, hK⟩
 rw [List.nil_append, List.filterMap_some, w9, Bv, hcut]
 refine gK (cu (kq _ _ _)) ⟨rfl, by rw [List.length_map]; exact (lnr [_,_] [] 0x1005C6009488888861292) lim hcl, aD (B2 f9) _ _ (λ v hv K hK => ?_) ?_⟩
 ·obtain ⟨i, _, rfl⟩ := List.mem_map.mp hv
  exact ⟨rfl, ay (BA _ i) ⟨rfl, hK⟩⟩
 rw [List.nil_append, o6]
 refine bF (wX f9 (l := cs) (by exact (lnr [_] [] 0x1FD86005C60091) hcl) (aL _ _)) ?_
 rw [htx]
 refine pi h7 hat (by exact (lnr [_] [] 0x1E8C6005C60091) htl) λ τ n hn => ?_
 refine lg h8 (by exact (lnr [_] [] 0x1FD86005C60091) htl) λ τ2 m hm => ?_
 have hn2 := bD hn τ2
 refine ew (j1 (mu (k := 2) (by decide) hm hn2 (xQ hat))) (bC (aK ?_))
 refine gK (cu hn2) ?_
 refine sS h1 h2 h3 h4 h5 h6 (same := λ σ₂ => ch σ₂ (.loc n) = ch _ (.loc n)) _ _ _ _ _ _ _ _ _ _ (λ v hv => ?_) (λ τ3 => (bD hn2 τ3).trans hn2.symm) λ τ3 a5 a6 a7 a8 a9 a10 a11 a12 => ?_
 ·obtain ⟨ln, p, e, ha, hp⟩ := oR hat _ 0 1 0 (Nat.lt_succ_self _) (Nat.le_refl _) (Nat.zero_le _) v hv
  exact ⟨ln, p, e, ha, by exact (lnr [_,_] [] 0x6A86001270095C61092) htl hp⟩
 have hc2 := bD (bD (bD (bD (kq σ (aG.list (cs.map .int)) (aG.list (cs.map .int))) [aG.list (List.map AV.str (List.map (λ i => [f9 i]) cs))]) τ) τ2) τ3
 have eσ : σ ++ [aG.list (cs.map .int), aG.list (cs.map .int)] ++ [aG.list (List.map AV.str (List.map (λ i => [f9 i]) cs))] ++ τ ++ τ2 ++ τ3 = σ ++ ([aG.list (cs.map .int), aG.list (cs.map .int)] ++ ([aG.list (List.map AV.str (List.map (λ i => [f9 i]) cs))] ++ (τ ++ (τ2 ++ τ3)))) := by
  rw [List.append_assoc, List.append_assoc, List.append_assoc, List.append_assoc]
 rw [eσ] at hc2 ⊢
 generalize [aG.list (cs.map .int), aG.list (cs.map .int)] ++ ([aG.list (List.map AV.str (List.map (λ i => [f9 i]) cs))] ++ (τ ++ (τ2 ++ τ3))) = τ' at hc2 ⊢
 have hs2 : mN (σ ++ τ') (.loc (σ.length + 1)) none (some 12) = some (.loc (σ ++ τ').length, σ ++ τ' ++ [.list ((cs.take 12).map .int)]) := (dE hc2).trans (by rw [show (12 : Int) = ((12 : Nat) : Int) from rfl, vI, List.map_take])
 refine zI hs2 (gK (cu (aL _ _)) ⟨rfl, by rw [List.length_map, List.length_take]; exact (lnr [_,_] [] 0x101C6D0488888861292) lim, aD (B2 λ i => (i / 30 % 256).toNat) _ _ (λ v hv K hK => ?_) ?_⟩)
 ·obtain ⟨i, _, rfl⟩ := List.mem_map.mp hv
  have hb : l9 .chr (σ ++ τ' ++ [.list ((cs.take 12).map .int)]) (.int (i / 30 % 256)) = _ := mY (by omega) (by omega)
  exact ⟨rfl, bF hb ⟨rfl, hK⟩⟩
 rw [List.nil_append, w9, Bv, o6]
 refine bF (wX (λ i => (i / 30 % 256).toNat) (l := cs.take 12) (by rw [List.length_take]; exact (lnr [_] [] 0x1FD8601C6D01)) (kq _ _ _)) ?_
 have hwl : ((cs.take 12).map λ i => (i / 30 % 256).toNat).length ≤ 12 := by rw [List.length_map, List.length_take]; exact (lnr [_] [] 0x1C601C6D01)
 have hwc := AA (cs := cs)
 generalize (cs.take 12).map (λ i => (i / 30 % 256).toNat) = w at hwl hwc
 have hql := u2 w
 refine lM h9 (by exact (lnr [_] [] 0x1CC6001C60091) hwl) hwc ?_
 refine gz h2 (kC hwc) (by exact (lnr [_,_] [] 0x1E8C6001472690091C61092) hwl hql) ?_
 have hqt := tA hwc
 rw [hqt]
 intro τ4 m4 hm4
 refine lM h9 (by exact (lnr [_] [] 0x1CC6001C60091) hwl) hwc ?_
 have hrow : [AV.tup [AV.str [116, 101, 120, 116], AV.str w, AV.tup [AV.int 1, AV.int 1], AV.bool false], AV.tup [AV.str [101, 110, 100], AV.str [], AV.tup [AV.int 1, AV.int (((aV w).length + 1 : Nat) : Int)], AV.bool false]] =
   [(⟨iC, .str w, 0, (aV w).length⟩ : Tk)].map (cX (aV w) 1) ++ [bQ 1 (aV w).length] := rfl
 refine ew (mu (k := 4) (by decide) (bD hm4 _) ((aL _ _).trans (congrArg (λ l => some (aG.list l)) hrow)) (wV (s := aV w) λ t ht => w5 (kC hwc) hqt t ht)) ?_
 rw [List.append_assoc, List.append_assoc, List.append_assoc]
 exact h _
end
end Mine.Q
end
section
open PySem PySem.W PyProof.Rows
set_option maxHeartbeats 0
namespace Mine
noncomputable section
noncomputable def mO (p : Program) (w : World) (n₀ : Nat) (ann : Option Value) : Nat -> SharedT -> Thread -> Option SharedT
 | 0, _, _ => none
 | n + 1, s, t => match through t with
  | true => some s
  | false => match PySem.W.Fast.tw6613529449190102663 n₀ ann t with
   | false => none
   | true => match PySem.W.Fast.tw10156331382660048174 (PySem.W.Fast.tw11892475500146522536 PySem.W.Fast.tw14364793385576792824) p w s t with
    | some (s', t') => mO p w n₀ ann n s' t'
    | none => none
theorem l8 {p : Program} {w : World} {n₀ : Nat} {ann : Option Value} : ∀ {n : Nat} {s s' : SharedT} {t : Thread}, mO p w n₀ ann n s t = some s' -> topRun treeTable p w n₀ ann n s.abs t = some s'.abs
 | 0, _, _, _, h => nomatch h
 | n + 1, s, s', t, h => by
  unfold mO at h
  unfold topRun
  rw [← PySem.W.Fast.te6613529449190102663, ← PySem.W.Fast.te10156331382660048174, ← PySem.W.Fast.te11892475500146522536, ← PySem.W.Fast.te14364793385576792824] at h
  cases ht : through t with
  | true => rw [ht] at h; exact congrArg _ (congrArg _ (Option.some.inj h))
  | false =>
   rw [ht] at h
   cases hk : stepOk n₀ ann t with
   | false => rw [hk] at h; cases h
   | true =>
    rw [hk] at h
    cases hs : stepT (denote treeTable) p w s t with
    | none => rw [hs] at h; cases h
    | some x =>
     rw [hs] at h
     rw [stepT_spec (s' := x.1) (t' := x.2) hs]
     exact l8 h
noncomputable def qb : List Obj -> BT -> Nat -> Option BT
 | [], t, _ => some t
 | o :: l, t, n => match ((t.ins n o).get n).isSome with
  | true => qb l (t.ins n o) (n + 1)
  | false => none
theorem qd {life : Life} : ∀ {l : List Obj} {t t' : BT} {n : Nat}, qb l t n = some t' -> absHeap t' (n + l.length) life = ⟨(absHeap t n life).objs ++ l.toArray, life⟩
 | [], t, t', n, h => by cases h; exact congrArg (λ a => (⟨a, life⟩ : Heap)) (Array.append_empty).symm
 | o :: l, t, t', n, h => by
  unfold qb at h
  cases hi : ((t.ins n o).get n).isSome with
  | false => rw [hi] at h; cases h
  | true =>
   rw [hi] at h
   have z := qd (life := life) h
   rw [List.length_cons, show n + (l.length + 1) = n + 1 + l.length by exact (lnr [_,_] [] 0x11609916190922), z, absHeap_ins hi]
   show (⟨(absHeap t n life).objs.push o ++ l.toArray, life⟩ : Heap) = _
   congr 1
   rw [← Array.toList_inj]
   simp
noncomputable def fL {β : Type} (p : Program) (N : Nat) (w : World) (os : OsState) (F : Shared -> β) : Option (Bool × Bool × β) :=
 match qb (boot_heap w.params).objs.toList .nil 0 with
 | none => none
 | some t => (mO p w (boot_heap w.params).objs.size (PySem.W.Fast.tw8920871248978507458 (boot_heap w.params) mainGlobals (Str.ofString "__annotations__")) N ⟨t, (boot_heap w.params).objs.size, (boot_heap w.params).life, Array.mk [], boot_drawn, boot_toks, os⟩ (topStub p)).map λ s =>
  ((boot_heap w.params).isNs mainGlobals, staticsOk (importedModules p.main.body) (boot_heap w.params) s.abs.heap && namesBound p s.abs.heap && gensDone s.abs && laidKept (boot_heap w.params) s.abs.heap, F s.abs)
theorem Bu {p q : Program} {loose : List Str} {Xt : Shared -> Bool} {N : Nat} {α : Type} {Yf : Shared -> α} {Ya : World -> α} (open_ : ∀ w : World, (fencedOpening treeTable p w N).map (λ s => (s.heap, s.gens, s.drawn, s.toks)) = some (boot_heap w.params, Array.mk [], boot_drawn, boot_toks)) (h : ∀ (w : World) (os : OsState), fL p N w os (λ s => (openSeen q loose (importedModules p.main.body) Xt true s, Yf s)) = some (true, true, openGood q loose, Ya w)) : LeftO p q loose Xt Yf Ya N := λ w => by
 have e := open_ w
 obtain ⟨⟨H, gs, d, k, os⟩, e1, e2⟩ := Option.map_eq_some_iff.mp e
 obtain ⟨rfl, rfl, rfl, rfl⟩ : H = boot_heap w.params ∧ gs = Array.mk [] ∧ d = boot_drawn ∧ k = boot_toks := by
  simpa only [Prod.mk.injEq] using e2
 have z := h w os
 unfold fL at z
 cases hp : qb (boot_heap w.params).objs.toList .nil 0 with
 | none => rw [hp] at z; cases z
 | some t =>
  rw [hp] at z
  obtain ⟨s, r, c⟩ := Option.map_eq_some_iff.mp z
  rw [← PySem.W.Fast.te8920871248978507458] at r
  have hab := qd (life := (boot_heap w.params).life) hp
  have r := l8 r
  have hH : absHeap t (boot_heap w.params).objs.size (boot_heap w.params).life = boot_heap w.params := by
   rw [Nat.zero_add, Array.length_toList] at hab
   rw [hab]
   show (⟨#[] ++ (boot_heap w.params).objs.toList.toArray, (boot_heap w.params).life⟩ : Heap) = _
   rw [Array.toArray_toList, Array.empty_append]
  have r : topRun treeTable p w (boot_heap w.params).objs.size ((boot_heap w.params).nsMap mainGlobals "__annotations__") N ⟨boot_heap w.params, Array.mk [], boot_drawn, boot_toks, os⟩ (topStub p) = some s.abs := by
   rw [← r]
   show _ = topRun treeTable p w _ _ N ⟨absHeap t (boot_heap w.params).objs.size (boot_heap w.params).life, Array.mk [], boot_drawn, boot_toks, os⟩ (topStub p)
   rw [hH]
  obtain ⟨c1, c2, c3⟩ : _ ∧ _ ∧ _ := by simpa only [Prod.mk.injEq] using c
  have tf : topFrom treeTable p w N ⟨boot_heap w.params, Array.mk [], boot_drawn, boot_toks, os⟩ = some s.abs := by
   unfold topFrom
   dsimp only
   rw [c1, r]
   show (match _ && _ && _ && _ with | true => _ | false => _) = _
   rw [c2]
  unfold openEnds
  rw [e1]
  show (topFrom treeTable p w N _).map _ = _
  rw [tf]
  exact congrArg some (Prod.ext c3.1 c3.2)
noncomputable abbrev PW : Program := PySem.Challenge.pw_nn0051_01
noncomputable def QV : Program := view PW [0, 2, 3, 4, 6, 7, 8, 9, 10, 11, 12, 13, 14, 15, 16, 17, 18, 19, 20, 21, 22, 23, 24, 25, 26, 27, 29, 30, 31, 32, 33, 34, 35, 36, 37, 38, 39, 40, 41]
noncomputable def LO : List Str := [Str.ofString "MintError"]
noncomputable def XT (s : Shared) : Bool := xlAt QV [] s && recOk [] s
end
end Mine
end
section
open PySem PySem.W PyProof.Rows
namespace Mine
noncomputable section
noncomputable def KK (fr : Frag) (w : World) (sc : Option (Addr × List Value)) : Kx := ⟨fr, PW, w, sc⟩
noncomputable def qF (K : Kx) : Bool := match bg K .l_heard with | some a => keepIn K.frag (.ref a) | none => false
noncomputable def AT : List Fn := []
noncomputable def AU : List Fn := .place_init :: AT
noncomputable def AW : List Fn := .place_told :: AU
noncomputable def AX : List Fn := .digit_of :: AW
noncomputable def AY : List Fn := .is_letter :: AX
noncomputable def AZ : List Fn := .begins_name :: AY
noncomputable def A0 : List Fn := .is_name_sign :: AZ
noncomputable def A2 : List Fn := .read_escape :: A0
noncomputable def A3 : List Fn := .read_char :: A2
noncomputable def A4 : List Fn := .text_end :: A3
noncomputable def vL : List Fn := .quoted :: A4
noncomputable def vM : List Fn := .line_end :: vL
noncomputable def vN : List Fn := .piece_end :: vM
noncomputable def vO : List Fn := .split_lines :: vN
noncomputable def vP : List Fn := .number_worth :: vO
noncomputable def vQ : List Fn := .local_worth :: vP
noncomputable def vR : List Fn := .token_init :: vQ
noncomputable def vS : List Fn := .token_back :: vR
noncomputable def vT : List Fn := .token_told :: vS
noncomputable def vU : List Fn := .reader_init :: vT
noncomputable def vV : List Fn := .r_place :: vU
noncomputable def vW : List Fn := .r_is_done :: vV
noncomputable def vX : List Fn := .r_passed :: vW
noncomputable def vY : List Fn := .r_name_end :: vX
noncomputable def vZ : List Fn := .r_number :: vY
noncomputable def v3 : List Fn := .r_constant :: vZ
noncomputable def v4 : List Fn := .r_quote :: v3
noncomputable def v5 : List Fn := .r_register :: v4
noncomputable def v6 : List Fn := .r_mark :: v5
noncomputable def v7 : List Fn := .r_token :: v6
noncomputable def v8 : List Fn := .line_tokens :: v7
noncomputable def v9 : List Fn := .show_tokens :: v8
noncomputable def wa : List Fn := .cursor_init :: v9
noncomputable def wb : List Fn := .c_peek :: wa
noncomputable def wc : List Fn := .c_take :: wb
noncomputable def wd : List Fn := .c_is_end :: wc
noncomputable def we : List Fn := .c_skip_name :: wd
noncomputable def wf : List Fn := .l_ESCAPES :: we
noncomputable def wg : List Fn := .l_figure :: wf
noncomputable def wh : List Fn := .l_escape :: wg
noncomputable def wi : List Fn := .l_constant :: wh
noncomputable def wj : List Fn := .l_pieces :: wi
noncomputable def wk : List Fn := .l_number :: wj
noncomputable def wl : List Fn := .l_quote :: wk
noncomputable def wm : List Fn := .l_token :: wl
noncomputable def wn : List Fn := .l_tokens :: wm
noncomputable def ng : List Fn := .l_walked :: wn
noncomputable abbrev DL : List Fn := ng
noncomputable def uC (K : Kx) : Bool := match defOf QV (Str.ofString "law") with
 | some (d, _) => eD ⟨K, d.scope, bH pP, DL⟩ mT d.body
 | none => false
noncomputable def GK (K : Kx) : List Bool := [gE K, iu K, gO K, qF K, ol K .place, ol K .token, ol K .reader, ol K .cursor, uC K]
noncomputable def GL (K : Kx) : List Bool := [aN K .place_init (bH j8) 3 gk AT,
 aN K .place_told (bH j9) 1 gm AU,
 aN K .digit_of (bH nG) 1 jv AW,
 aN K .is_letter (bH lQ) 1 hN AX,
 aN K .begins_name (bH jd) 1 fN AY,
 aN K .is_name_sign (bH iv) 1 eZ AZ,
 aN K .read_escape (bH ji) 2 fS A0,
 aN K .read_char (bH lU) 2 hY A2,
 aN K .text_end (bH nR) 2 jD A3,
 aN K .quoted (bH sI) 1 mU A4,
 aN K .line_end (bH nO) 2 jA vL,
 aN K .piece_end (bH lS) 2 hU vM,
 aN K .split_lines (bH jl) 1 fV vN,
 aN K .number_worth (bH iw) 1 dy vO,
 aN K .local_worth (bH jh) 1 fR vP,
 aN K .token_init (bH km) 5 gu vQ,
 aN K .token_back (bH kj) 1 gr vR,
 aN K .token_told (bH kp) 1 gv vS,
 aN K .reader_init (bH jj) 3 fT vT,
 aN K .r_place (bH pQ) 2 kW vU,
 aN K .r_is_done (bH lT) 1 hW vV,
 aN K .r_passed (bH nQ) 2 jC vW]
noncomputable def GN (K : Kx) : List Bool := [aN K .r_name_end (bH kg) 2 gp vX,
 aN K .r_number (bH nP) 1 jB vY,
 aN K .r_constant (bH kf) 1 gn vZ,
 aN K .r_quote (bH pR) 1 iV v3,
 aN K .r_register (bH kh) 1 gq v4,
 aN K .r_mark (bH sJ) 1 mV v5,
 aN K .r_token (bH pS) 1 kX v6,
 aN K .line_tokens (bH jg) 2 fQ v7,
 aN K .show_tokens (bH jk) 1 fU v8,
 aN K .cursor_init (bH jf) 2 fP v9,
 aN K .c_peek (bH sG) 1 mR wa,
 aN K .c_take (bH sH) 1 mS wb]
noncomputable def GO (K : Kx) : List Bool := [aN K .c_is_end (bH nF) 1 ju wc,
 aN K .c_skip_name (bH je) 2 fO wd,
 aN K .l_ESCAPES (bH lR) 0 hO we,
 aN K .l_figure (bH nI) 2 jw wf,
 aN K .l_escape (bH nH) 2 fb wg,
 aN K .l_constant (bH j7) 2 cS wh,
 aN K .l_pieces (bH nK) 1 jx wi,
 aN K .l_number (bH nJ) 1 fg wj,
 aN K .l_quote (bH pM) 2 kU wk,
 aN K .l_token (bH pO) 2 f4 wl,
 aN K .l_tokens (bH nM) 2 jy wm,
 aN K .l_walked (bH nN) 2 jz wn,
 uo K .l_heard (bH pL) 2 lh ng]
noncomputable def Fl (K : Kx) : List Bool := GK K ++ (GL K ++ (GN K ++ GO K))
theorem am : ∀ {l : List Bool} {i : Nat} {b : Bool}, l.all id = true -> l[i]? = some b -> b = true
 | a :: l, 0, b, h, e => by cases e; exact (Bool.and_eq_true_iff.mp h).1
 | a :: l, i + 1, b, h, e => am (l := l) (i := i) (Bool.and_eq_true_iff.mp h).2 e
noncomputable def Ge (fr : Frag) : Prop := ∀ w sc, (Fl (KK fr w sc)).all id = true
noncomputable def KC : Fn -> ac
 | .place_init => iy .place
 | .place_told => Q.k_place_told
 | .digit_of => Q.k_digit_of
 | .is_letter => Q.k_is_letter
 | .begins_name => Q.k_begins_name
 | .is_name_sign => Q.k_is_name_sign
 | .read_escape => Q.k_read_escape
 | .read_char => Q.k_read_char
 | .text_end => Q.k_text_end
 | .quoted => Q.k_quoted
 | .line_end => Q.k_line_end
 | .piece_end => Q.k_piece_end
 | .split_lines => Q.k_split_lines
 | .number_worth => Q.k_number_worth
 | .local_worth => Q.k_local_worth
 | .token_init => iy .token
 | .token_back => Q.k_token_back
 | .token_told => Q.k_token_told
 | .reader_init => iy .reader
 | .r_place => Q.k_r_place
 | .r_is_done => Q.k_r_is_done
 | .r_passed => Q.k_r_passed
 | .r_name_end => Q.k_r_name_end
 | .r_number => Q.k_r_number
 | .r_constant => Q.k_r_constant
 | .r_quote => Q.k_r_quote
 | .r_register => Q.k_r_register
 | .r_mark => Q.k_r_mark
 | .r_token => Q.k_r_token
 | .line_tokens => Q.k_line_tokens
 | .show_tokens => Q.k_show_tokens
 | .cursor_init => iy .cursor
 | .c_peek => Q.k_c_peek
 | .c_take => Q.k_c_take
 | .c_is_end => Q.k_c_is_end
 | .c_skip_name => Q.k_c_skip_name
 | .l_ESCAPES => Q.k_l_ESCAPES
 | .l_figure => Q.k_l_figure
 | .l_escape => Q.k_l_escape
 | .l_constant => Q.k_l_constant
 | .l_pieces => Q.k_l_pieces
 | .l_number => Q.k_l_number
 | .l_quote => Q.k_l_quote
 | .l_token => Q.k_l_token
 | .l_tokens => Q.k_l_tokens
 | .l_walked => Q.k_l_walked
 | .l_heard => Q.k_l_heard
theorem aB {D : List Fn} {f : Fn} (h : f ∈ D) : rT KC D f = KC f := if_pos h
section
variable {fr : Frag} {w : World} {sc : Option (Addr × List Value)} {g : Heap} {mg mb : Str -> Option Value} (O : Ge fr)
include O
theorem base : AE (KK fr w sc) := by
 refine ⟨am (O w sc) (i := 1) rfl, am (O w sc) (i := 2) rfl, ?_⟩
 have h : qF (KK fr w sc) = true := am (O w sc) (i := 3) rfl
 unfold qF at h
 split at h
 ·exact ⟨_, by assumption, h⟩
 ·cases h
theorem Fo (G : dw (KK fr w sc) g mg mb) : aF (rT KC AT) (KK fr w sc) g mg mb AT 0 :=
 ⟨G, am (O w sc) (i := 0) rfl, λ f h => (nomatch h), λ f args σ Q X _ h => (by unfold rT at h; rw [if_neg (λ z => nomatch z)] at h; exact h.elim), λ c h => (nomatch h)⟩
theorem Fp (G : dw (KK fr w sc) g mg mb) : aF (rT KC AU) (KK fr w sc) g mg mb AU 2 :=
 aQ (C := KC) (f := .place_init) (Γ := bH j8) (n := 3) (ms := gk) (Fo O G) (base O) (by decide) (by decide) (am (O w sc) (i := 9) rfl) (λ args σ P X h => Q.vc_place_init  h) (λ c e => by cases c <;> first | (cases e; done) | exact ⟨am (O w sc) (i := 4) rfl, rfl⟩)
theorem Fq (G : dw (KK fr w sc) g mg mb) : aF (rT KC AW) (KK fr w sc) g mg mb AW 4 :=
 aQ (C := KC) (f := .place_told) (Γ := bH j9) (n := 1) (ms := gm) (Fp O G) (base O) (by decide) (by decide) (am (O w sc) (i := 10) rfl) (λ args σ P X h => Q.vc_place_told  h) (λ c e => by cases c <;> cases e)
theorem Fr (G : dw (KK fr w sc) g mg mb) : aF (rT KC AX) (KK fr w sc) g mg mb AX 6 :=
 aQ (C := KC) (f := .digit_of) (Γ := bH nG) (n := 1) (ms := jv) (Fq O G) (base O) (by decide) (by decide) (am (O w sc) (i := 11) rfl) (λ args σ P X h => Q.vc_digit_of  h) (λ c e => by cases c <;> cases e)
theorem Fs (G : dw (KK fr w sc) g mg mb) : aF (rT KC AY) (KK fr w sc) g mg mb AY 8 :=
 aQ (C := KC) (f := .is_letter) (Γ := bH lQ) (n := 1) (ms := hN) (Fr O G) (base O) (by decide) (by decide) (am (O w sc) (i := 12) rfl) (λ args σ P X h => Q.vc_is_letter  h) (λ c e => by cases c <;> cases e)
theorem Ft (G : dw (KK fr w sc) g mg mb) : aF (rT KC AZ) (KK fr w sc) g mg mb AZ 10 :=
 aQ (C := KC) (f := .begins_name) (Γ := bH jd) (n := 1) (ms := fN) (Fs O G) (base O) (by decide) (by decide) (am (O w sc) (i := 13) rfl) (λ args σ P X h => Q.vc_begins_name (aB (by decide)) h) (λ c e => by cases c <;> cases e)
theorem Fu (G : dw (KK fr w sc) g mg mb) : aF (rT KC A0) (KK fr w sc) g mg mb A0 12 :=
 aQ (C := KC) (f := .is_name_sign) (Γ := bH iv) (n := 1) (ms := eZ) (Ft O G) (base O) (by decide) (by decide) (am (O w sc) (i := 14) rfl) (λ args σ P X h => Q.vc_is_name_sign  h) (λ c e => by cases c <;> cases e)
theorem Fv (G : dw (KK fr w sc) g mg mb) : aF (rT KC A2) (KK fr w sc) g mg mb A2 14 :=
 aQ (C := KC) (f := .read_escape) (Γ := bH ji) (n := 2) (ms := fS) (Fu O G) (base O) (by decide) (by decide) (am (O w sc) (i := 15) rfl) (λ args σ P X h => Q.vc_read_escape (aB (by decide)) h) (λ c e => by cases c <;> cases e)
theorem Fw (G : dw (KK fr w sc) g mg mb) : aF (rT KC A3) (KK fr w sc) g mg mb A3 16 :=
 aQ (C := KC) (f := .read_char) (Γ := bH lU) (n := 2) (ms := hY) (Fv O G) (base O) (by decide) (by decide) (am (O w sc) (i := 16) rfl) (λ args σ P X h => Q.vc_read_char (aB (by decide)) h) (λ c e => by cases c <;> cases e)
theorem Fx (G : dw (KK fr w sc) g mg mb) : aF (rT KC A4) (KK fr w sc) g mg mb A4 18 :=
 aQ (C := KC) (f := .text_end) (Γ := bH nR) (n := 2) (ms := jD) (Fw O G) (base O) (by decide) (by decide) (am (O w sc) (i := 17) rfl) (λ args σ P X h => Q.vc_text_end (aB (by decide)) h) (λ c e => by cases c <;> cases e)
theorem Da (G : dw (KK fr w sc) g mg mb) : aF (rT KC vL) (KK fr w sc) g mg mb vL 20 :=
 aQ (C := KC) (f := .quoted) (Γ := bH sI) (n := 1) (ms := mU) (Fx O G) (base O) (by decide) (by decide) (am (O w sc) (i := 18) rfl) (λ args σ P X h => Q.vc_quoted  h) (λ c e => by cases c <;> cases e)
theorem Db (G : dw (KK fr w sc) g mg mb) : aF (rT KC vM) (KK fr w sc) g mg mb vM 22 :=
 aQ (C := KC) (f := .line_end) (Γ := bH nO) (n := 2) (ms := jA) (Da O G) (base O) (by decide) (by decide) (am (O w sc) (i := 19) rfl) (λ args σ P X h => Q.vc_line_end  h) (λ c e => by cases c <;> cases e)
theorem Dc (G : dw (KK fr w sc) g mg mb) : aF (rT KC vN) (KK fr w sc) g mg mb vN 24 :=
 aQ (C := KC) (f := .piece_end) (Γ := bH lS) (n := 2) (ms := hU) (Db O G) (base O) (by decide) (by decide) (am (O w sc) (i := 20) rfl) (λ args σ P X h => Q.vc_piece_end (aB (by decide)) (aB (by decide)) (aB (by decide)) h) (λ c e => by cases c <;> cases e)
theorem Dd (G : dw (KK fr w sc) g mg mb) : aF (rT KC vO) (KK fr w sc) g mg mb vO 26 :=
 aQ (C := KC) (f := .split_lines) (Γ := bH jl) (n := 1) (ms := fV) (Dc O G) (base O) (by decide) (by decide) (am (O w sc) (i := 21) rfl) (λ args σ P X h => Q.vc_split_lines (aB (by decide)) h) (λ c e => by cases c <;> cases e)
theorem De (G : dw (KK fr w sc) g mg mb) : aF (rT KC vP) (KK fr w sc) g mg mb vP 28 :=
 aQ (C := KC) (f := .number_worth) (Γ := bH iw) (n := 1) (ms := dy) (Dd O G) (base O) (by decide) (by decide) (am (O w sc) (i := 22) rfl) (λ args σ P X h => Q.vc_number_worth (aB (by decide)) h) (λ c e => by cases c <;> cases e)
theorem Df (G : dw (KK fr w sc) g mg mb) : aF (rT KC vQ) (KK fr w sc) g mg mb vQ 30 :=
 aQ (C := KC) (f := .local_worth) (Γ := bH jh) (n := 1) (ms := fR) (De O G) (base O) (by decide) (by decide) (am (O w sc) (i := 23) rfl) (λ args σ P X h => Q.vc_local_worth (aB (by decide)) h) (λ c e => by cases c <;> cases e)
theorem Dg (G : dw (KK fr w sc) g mg mb) : aF (rT KC vR) (KK fr w sc) g mg mb vR 32 :=
 aQ (C := KC) (f := .token_init) (Γ := bH km) (n := 5) (ms := gu) (Df O G) (base O) (by decide) (by decide) (am (O w sc) (i := 24) rfl) (λ args σ P X h => Q.vc_token_init  h) (λ c e => by cases c <;> first | (cases e; done) | exact ⟨am (O w sc) (i := 5) rfl, rfl⟩)
theorem Dh (G : dw (KK fr w sc) g mg mb) : aF (rT KC vS) (KK fr w sc) g mg mb vS 34 :=
 aQ (C := KC) (f := .token_back) (Γ := bH kj) (n := 1) (ms := gr) (Dg O G) (base O) (by decide) (by decide) (am (O w sc) (i := 25) rfl) (λ args σ P X h => Q.vc_token_back  h) (λ c e => by cases c <;> cases e)
theorem Di (G : dw (KK fr w sc) g mg mb) : aF (rT KC vT) (KK fr w sc) g mg mb vT 36 :=
 aQ (C := KC) (f := .token_told) (Γ := bH kp) (n := 1) (ms := gv) (Dh O G) (base O) (by decide) (by decide) (am (O w sc) (i := 26) rfl) (λ args σ P X h => Q.vc_token_told  h) (λ c e => by cases c <;> cases e)
theorem Dj (G : dw (KK fr w sc) g mg mb) : aF (rT KC vU) (KK fr w sc) g mg mb vU 38 :=
 aQ (C := KC) (f := .reader_init) (Γ := bH jj) (n := 3) (ms := fT) (Di O G) (base O) (by decide) (by decide) (am (O w sc) (i := 27) rfl) (λ args σ P X h => Q.vc_reader_init  h) (λ c e => by cases c <;> first | (cases e; done) | exact ⟨am (O w sc) (i := 6) rfl, rfl⟩)
theorem Dk (G : dw (KK fr w sc) g mg mb) : aF (rT KC vV) (KK fr w sc) g mg mb vV 40 :=
 aQ (C := KC) (f := .r_place) (Γ := bH pQ) (n := 2) (ms := kW) (Dj O G) (base O) (by decide) (by decide) (am (O w sc) (i := 28) rfl) (λ args σ P X h => Q.vc_r_place  h) (λ c e => by cases c <;> cases e)
theorem Dl (G : dw (KK fr w sc) g mg mb) : aF (rT KC vW) (KK fr w sc) g mg mb vW 42 :=
 aQ (C := KC) (f := .r_is_done) (Γ := bH lT) (n := 1) (ms := hW) (Dk O G) (base O) (by decide) (by decide) (am (O w sc) (i := 29) rfl) (λ args σ P X h => Q.vc_r_is_done  h) (λ c e => by cases c <;> cases e)
theorem Dm (G : dw (KK fr w sc) g mg mb) : aF (rT KC vX) (KK fr w sc) g mg mb vX 44 :=
 aQ (C := KC) (f := .r_passed) (Γ := bH nQ) (n := 2) (ms := jC) (Dl O G) (base O) (by decide) (by decide) (am (O w sc) (i := 30) rfl) (λ args σ P X h => Q.vc_r_passed  h) (λ c e => by cases c <;> cases e)
theorem Dn (G : dw (KK fr w sc) g mg mb) : aF (rT KC vY) (KK fr w sc) g mg mb vY 46 :=
 aQ (C := KC) (f := .r_name_end) (Γ := bH kg) (n := 2) (ms := gp) (Dm O G) (base O) (by decide) (by decide) (am (O w sc) (i := 31) rfl) (λ args σ P X h => Q.vc_r_name_end (aB (by decide)) h) (λ c e => by cases c <;> cases e)
theorem Do (G : dw (KK fr w sc) g mg mb) : aF (rT KC vZ) (KK fr w sc) g mg mb vZ 48 :=
 aQ (C := KC) (f := .r_number) (Γ := bH nP) (n := 1) (ms := jB) (Dn O G) (base O) (by decide) (by decide) (am (O w sc) (i := 32) rfl) (λ args σ P X h => Q.vc_r_number (aB (by decide)) (aB (by decide)) (aB (by decide)) (aB (by decide)) (aB (by decide)) h) (λ c e => by cases c <;> cases e)
theorem Dp (G : dw (KK fr w sc) g mg mb) : aF (rT KC v3) (KK fr w sc) g mg mb v3 50 :=
 aQ (C := KC) (f := .r_constant) (Γ := bH kf) (n := 1) (ms := gn) (Do O G) (base O) (by decide) (by decide) (am (O w sc) (i := 33) rfl) (λ args σ P X h => Q.vc_r_constant (aB (by decide)) (aB (by decide)) (aB (by decide)) h) (λ c e => by cases c <;> cases e)
theorem Dq (G : dw (KK fr w sc) g mg mb) : aF (rT KC v4) (KK fr w sc) g mg mb v4 52 :=
 aQ (C := KC) (f := .r_quote) (Γ := bH pR) (n := 1) (ms := iV) (Dp O G) (base O) (by decide) (by decide) (am (O w sc) (i := 34) rfl) (λ args σ P X h => Q.vc_r_quote (aB (by decide)) (aB (by decide)) (aB (by decide)) h) (λ c e => by cases c <;> cases e)
theorem Dr (G : dw (KK fr w sc) g mg mb) : aF (rT KC v5) (KK fr w sc) g mg mb v5 54 :=
 aQ (C := KC) (f := .r_register) (Γ := bH kh) (n := 1) (ms := gq) (Dq O G) (base O) (by decide) (by decide) (am (O w sc) (i := 35) rfl) (λ args σ P X h => Q.vc_r_register (aB (by decide)) (aB (by decide)) (aB (by decide)) (aB (by decide)) h) (λ c e => by cases c <;> cases e)
theorem Ds (G : dw (KK fr w sc) g mg mb) : aF (rT KC v6) (KK fr w sc) g mg mb v6 56 :=
 aQ (C := KC) (f := .r_mark) (Γ := bH sJ) (n := 1) (ms := mV) (Dr O G) (base O) (by decide) (by decide) (am (O w sc) (i := 36) rfl) (λ args σ P X h => Q.vc_r_mark (aB (by decide)) (aB (by decide)) h) (λ c e => by cases c <;> cases e)
theorem Dt (G : dw (KK fr w sc) g mg mb) : aF (rT KC v7) (KK fr w sc) g mg mb v7 58 :=
 aQ (C := KC) (f := .r_token) (Γ := bH pS) (n := 1) (ms := kX) (Ds O G) (base O) (by decide) (by decide) (am (O w sc) (i := 37) rfl) (λ args σ P X h => Q.vc_r_token (aB (by decide)) (aB (by decide)) (aB (by decide)) (aB (by decide)) (aB (by decide)) (aB (by decide)) (aB (by decide)) (aB (by decide)) (aB (by decide)) (aB (by decide)) (aB (by decide)) h) (λ c e => by cases c <;> cases e)
theorem Du (G : dw (KK fr w sc) g mg mb) : aF (rT KC v8) (KK fr w sc) g mg mb v8 60 :=
 aQ (C := KC) (f := .line_tokens) (Γ := bH jg) (n := 2) (ms := fQ) (Dt O G) (base O) (by decide) (by decide) (am (O w sc) (i := 38) rfl) (λ args σ P X h => Q.vc_line_tokens (aB (by decide)) (aB (by decide)) (aB (by decide)) h) (λ c e => by cases c <;> cases e)
theorem Dv (G : dw (KK fr w sc) g mg mb) : aF (rT KC v9) (KK fr w sc) g mg mb v9 62 :=
 aQ (C := KC) (f := .show_tokens) (Γ := bH jk) (n := 1) (ms := fU) (Du O G) (base O) (by decide) (by decide) (am (O w sc) (i := 39) rfl) (λ args σ P X h => Q.vc_show_tokens  h) (λ c e => by cases c <;> cases e)
theorem Dw (G : dw (KK fr w sc) g mg mb) : aF (rT KC wa) (KK fr w sc) g mg mb wa 64 :=
 aQ (C := KC) (f := .cursor_init) (Γ := bH jf) (n := 2) (ms := fP) (Dv O G) (base O) (by decide) (by decide) (am (O w sc) (i := 40) rfl) (λ args σ P X h => Q.vc_cursor_init  h) (λ c e => by cases c <;> first | (cases e; done) | exact ⟨am (O w sc) (i := 7) rfl, rfl⟩)
theorem Dx (G : dw (KK fr w sc) g mg mb) : aF (rT KC wb) (KK fr w sc) g mg mb wb 66 :=
 aQ (C := KC) (f := .c_peek) (Γ := bH sG) (n := 1) (ms := mR) (Dw O G) (base O) (by decide) (by decide) (am (O w sc) (i := 41) rfl) (λ args σ P X h => Q.vc_c_peek  h) (λ c e => by cases c <;> cases e)
theorem Dy (G : dw (KK fr w sc) g mg mb) : aF (rT KC wc) (KK fr w sc) g mg mb wc 68 :=
 aQ (C := KC) (f := .c_take) (Γ := bH sH) (n := 1) (ms := mS) (Dx O G) (base O) (by decide) (by decide) (am (O w sc) (i := 42) rfl) (λ args σ P X h => Q.vc_c_take  h) (λ c e => by cases c <;> cases e)
theorem Dz (G : dw (KK fr w sc) g mg mb) : aF (rT KC wd) (KK fr w sc) g mg mb wd 70 :=
 aQ (C := KC) (f := .c_is_end) (Γ := bH nF) (n := 1) (ms := ju) (Dy O G) (base O) (by decide) (by decide) (am (O w sc) (i := 43) rfl) (λ args σ P X h => Q.vc_c_is_end  h) (λ c e => by cases c <;> cases e)
theorem DA (G : dw (KK fr w sc) g mg mb) : aF (rT KC we) (KK fr w sc) g mg mb we 72 :=
 aQ (C := KC) (f := .c_skip_name) (Γ := bH je) (n := 2) (ms := fO) (Dz O G) (base O) (by decide) (by decide) (am (O w sc) (i := 44) rfl) (λ args σ P X h => Q.vc_c_skip_name  h) (λ c e => by cases c <;> cases e)
theorem DB (G : dw (KK fr w sc) g mg mb) : aF (rT KC wf) (KK fr w sc) g mg mb wf 74 :=
 aQ (C := KC) (f := .l_ESCAPES) (Γ := bH lR) (n := 0) (ms := hO) (DA O G) (base O) (by decide) (by decide) (am (O w sc) (i := 45) rfl) (λ args σ P X h => Q.vc_l_ESCAPES  h) (λ c e => by cases c <;> cases e)
theorem DC (G : dw (KK fr w sc) g mg mb) : aF (rT KC wg) (KK fr w sc) g mg mb wg 76 :=
 aQ (C := KC) (f := .l_figure) (Γ := bH nI) (n := 2) (ms := jw) (DB O G) (base O) (by decide) (by decide) (am (O w sc) (i := 46) rfl) (λ args σ P X h => Q.vc_l_figure  h) (λ c e => by cases c <;> cases e)
theorem DD (G : dw (KK fr w sc) g mg mb) : aF (rT KC wh) (KK fr w sc) g mg mb wh 78 :=
 aQ (C := KC) (f := .l_escape) (Γ := bH nH) (n := 2) (ms := fb) (DC O G) (base O) (by decide) (by decide) (am (O w sc) (i := 47) rfl) (λ args σ P X h => Q.vc_l_escape (aB (by decide)) (aB (by decide)) h) (λ c e => by cases c <;> cases e)
theorem DE (G : dw (KK fr w sc) g mg mb) : aF (rT KC wi) (KK fr w sc) g mg mb wi 80 :=
 aQ (C := KC) (f := .l_constant) (Γ := bH j7) (n := 2) (ms := cS) (DD O G) (base O) (by decide) (by decide) (am (O w sc) (i := 48) rfl) (λ args σ P X h => Q.vc_l_constant (aB (by decide)) h) (λ c e => by cases c <;> cases e)
theorem DF (G : dw (KK fr w sc) g mg mb) : aF (rT KC wj) (KK fr w sc) g mg mb wj 82 :=
 aQ (C := KC) (f := .l_pieces) (Γ := bH nK) (n := 1) (ms := jx) (DE O G) (base O) (by decide) (by decide) (am (O w sc) (i := 49) rfl) (λ args σ P X h => Q.vc_l_pieces (aB (by decide)) (aB (by decide)) h) (λ c e => by cases c <;> cases e)
theorem DG (G : dw (KK fr w sc) g mg mb) : aF (rT KC wk) (KK fr w sc) g mg mb wk 84 :=
 aQ (C := KC) (f := .l_number) (Γ := bH nJ) (n := 1) (ms := fg) (DF O G) (base O) (by decide) (by decide) (am (O w sc) (i := 50) rfl) (λ args σ P X h => Q.vc_l_number (aB (by decide)) h) (λ c e => by cases c <;> cases e)
theorem DH (G : dw (KK fr w sc) g mg mb) : aF (rT KC wl) (KK fr w sc) g mg mb wl 86 :=
 aQ (C := KC) (f := .l_quote) (Γ := bH pM) (n := 2) (ms := kU) (DG O G) (base O) (by decide) (by decide) (am (O w sc) (i := 51) rfl) (λ args σ P X h => Q.vc_l_quote (aB (by decide)) h) (λ c e => by cases c <;> cases e)
theorem DI (G : dw (KK fr w sc) g mg mb) : aF (rT KC wm) (KK fr w sc) g mg mb wm 88 :=
 aQ (C := KC) (f := .l_token) (Γ := bH pO) (n := 2) (ms := f4) (DH O G) (base O) (by decide) (by decide) (am (O w sc) (i := 52) rfl) (λ args σ P X h => Q.vc_l_token (aB (by decide)) (aB (by decide)) (aB (by decide)) h) (λ c e => by cases c <;> cases e)
theorem DJ (G : dw (KK fr w sc) g mg mb) : aF (rT KC wn) (KK fr w sc) g mg mb wn 90 :=
 aQ (C := KC) (f := .l_tokens) (Γ := bH nM) (n := 2) (ms := jy) (DI O G) (base O) (by decide) (by decide) (am (O w sc) (i := 53) rfl) (λ args σ P X h => Q.vc_l_tokens (aB (by decide)) h) (λ c e => by cases c <;> cases e)
theorem DK (G : dw (KK fr w sc) g mg mb) : aF (rT KC ng) (KK fr w sc) g mg mb ng 92 :=
 aQ (C := KC) (f := .l_walked) (Γ := bH nN) (n := 2) (ms := jz) (DJ O G) (base O) (by decide) (by decide) (am (O w sc) (i := 54) rfl) (λ args σ P X h => Q.vc_l_walked (aB (by decide)) (aB (by decide)) (aB (by decide)) (aB (by decide)) h) (λ c e => by cases c <;> cases e)
theorem Fy (G : dw (KK fr w sc) g mg mb) : aF (rT KC (.l_heard :: ng)) (KK fr w sc) g mg mb ng 94 ∧ ∀ outer, outer.length = 1 -> gi (rT KC (.l_heard :: ng)) (KK fr w sc) g 94 outer :=
 yv (C := KC) (Γ := bH pL) (n := 2) (e := lh) (DK O G) (by decide) (base O) (by decide) (am (O w sc) (i := 55) rfl) (λ args σ P X h => Q.vc_l_heard (aB (by decide)) (aB (by decide)) (aB (by decide)) h)
end
end
section
variable {fr : Frag} {w : World} {sc : Option (Addr × List Value)} {g : Heap} {mg mb : Str -> Option Value}
theorem xC (O : Ge fr) (G : dw (KK fr w sc) g mg mb) {fa : Addr} {oc : Value} {od : Option Addr} {fd : FuncData} {osl : Array (Option Value)} {body : List Stmt} (hl : g.get? fa = some ⟨oc, od, .func fd, osl⟩) (hcd : g.CodeRec fd.code fd.qualname)
  (hb : fd.body = .stmts body) (c : EC fd (bH pP) 1) (hc : eD ⟨KK fr w sc, fd.scope, bH pP, DL⟩ mT body = true) : tW (KK fr w sc) g (λ o => o = []) 96 fa Q.k_law := by
 have H := Fy O G
 have S := qh (T := rT KC (.l_heard :: DL)) (D := DL) (k := 94) (n := 1) (ms := mT) H.1 hl hcd hb c hc (P := λ o => o = []) λ A env outer hR hP => tK H.1 (base O) c.c14 hR (H.2 (env :: outer) (by rw [hP]; rfl)) mT
 intro A outer F φ σ s args vs P X P' E' h1 h2 h3 h4 h5 h6
 exact S A outer F φ σ s args vs P X P' E' h1 h2 h3 h4 h5 (Q.vc_law (aB (by decide)) (aB (by decide)) (aB (by decide)) (aB (by decide)) (aB (by decide)) (aB (by decide)) (aB (by decide)) (aB (by decide)) (aB (by decide)) h6)
end
theorem Bs {fr : Frag} (O : Ge fr) {w : World} {s₁ : Shared} {mg mb : Str -> Option Value} {fa x : Addr} {o : Obj} {fd : FuncData} {body : List Stmt} {vs : List Value} {ns : List Int} {R : Result -> Shared -> Prop} (KX : fr.In s₁.heap)
  (hmg : s₁.heap.Ns mainGlobals mg) (hmb : s₁.heap.Ns builtinsNs mb) (hlim : s₁.heap.NoLimit) (hblt : ∀ x : Str, x ≠ "__name__" -> mb x = bootBuiltins x) (hL : s₁.heap.IsList x vs.toArray) (hI : IntsAre vs ns) (hlen : ns.length ≤ 63)
  (ho : s₁.heap.get? fa = some o) (hd : o.data = .func fd) (hcd : s₁.heap.CodeRec fd.code fd.qualname) (hb : fd.body = .stmts body) (c : EC fd (bH pP) 1) (hc : eD ⟨KK fr w (some (x, vs)), fd.scope, bH pP, DL⟩ mT body = true)
  (h : ∀ h' t', s₁.heap.StaysIn h' -> R (.ok (.ret (.bool true))) { s₁ with heap := h', toks := t' }) :
  codeAny (model PW w) callerA (.call (.ref fa) ⟨[.ref x], []⟩) R s₁ := by
 obtain ⟨oc, od, dt, osl⟩ := o
 cases hd
 have G : dw (KK fr w (some (x, vs))) s₁.heap mg mb := ⟨KX, hmg, hmb, hlim, hblt, λ a vs' e => by cases e; exact hL⟩
 have S := xC O G ho hcd hb c hc
 have st : St (KK fr w (some (x, vs))) s₁.heap [] [] [] s₁.heap :=
  ⟨λ _ _ e => e, λ a q => q.elim (λ q => nomatch q) λ ⟨p, hp, _⟩ => (nomatch hp), λ i j p q e => by simp at e, λ p hp => (nomatch hp), rfl, λ n c p e => by simp at e, λ a q => q.elim (λ q => nomatch q) λ ⟨p, hp, _⟩ => (nomatch hp), λ a ha => (nomatch ha)⟩
 refine codeAny_mono (S callerA [] [] [] [] s₁ [.script ns] [.ref x] (λ V _ => V = .bool true) (λ _ _ => False) (λ v s' => R (.ok (.ret v)) s') (λ _ _ => False) rfl ⟨by decide +kernel, by decide +kernel⟩ ⟨rfl, rfl, λ env he => (nomatch he), λ _ => rfl⟩ st ?_ ⟨ns, rfl, λ _ => rfl⟩ ?_ (PX.none _ _)) λ r s' z => ?_
 ·exact ao.cons (CR.mk x vs rfl rfl hI (Nat.le_trans hlen (by decide))) ao.nil
 ·intro V σ' φ' h' t' v hV st' _ r
  subst hV
  rw [d8 r]
  exact h h' t' st'.keep
 ·rcases r with e | (v | _ | _ | _) <;> first | exact z | exact z.elim
end Mine
end
section
open PySem PySem.W PyProof.Rows
set_option maxHeartbeats 0
namespace Mine
noncomputable section
noncomputable def rU (o : Obj) : Bool := match o with
 | ⟨_, _, .freed, _⟩ => false
 | _ => true
noncomputable def yg : List Obj -> Nat -> Frag
 | [], _ => []
 | o :: l, n => if rU o then (n, o) :: yg l (n + 1) else yg l (n + 1)
noncomputable def uq (h : Heap) : Frag := yg h.objs.toList 0
theorem lW {a : Nat} {o : Obj} : ∀ {l : List Obj} {n : Nat}, (yg l n).lookup a = some o -> ∃ i, a = n + i ∧ l[i]? = some o ∧ rU o = true
 | [], _, h => nomatch h
 | x :: l, n, h => by
  have r : ∀ h : (yg l (n + 1)).lookup a = some o, ∃ i, a = n + i ∧ (x :: l)[i]? = some o ∧ rU o = true := λ h => (lW h).elim λ i z => ⟨i + 1, z.1.trans (Nat.succ_add_eq_add_succ n i), z.2⟩
  unfold yg at h
  by_cases p : rU x = true
  ·rw [if_pos p, List.lookup_cons] at h
   by_cases q : a = n
   ·rw [beq_iff_eq.mpr q] at h
    exact ⟨0, q, h, Option.some.inj h ▸ p⟩
   ·rw [beq_eq_false_iff_ne.mpr q] at h
    exact r h
  ·rw [if_neg p] at h
   exact r h
theorem xy {h : Heap} {a : Nat} {o : Obj} (e : h.objs[a]? = some o) (p : rU o = true) : h.get? a = some o := by
 unfold Heap.get?
 rw [e]
 match o, p with
 | ⟨_, _, d, _⟩, p => cases d <;> first | rfl | cases p
theorem sV {h : Heap} {a : Nat} {o : Obj} (e : (uq h).lookup a = some o) : h.get? a = some o :=
 (lW e).elim λ i z => by
  rw [z.1, Nat.zero_add]
  exact xy (Array.getElem?_toList.symm.trans z.2.1) z.2.2
noncomputable def Cy (s : Shared) (w : World) (sc : Option (Addr × List Value)) : Bool := (Fl (KK (uq s.heap) w sc)).all id
noncomputable def Yes (_ : World) (_ : Option (Addr × List Value)) : Bool := true
noncomputable def HK : Hook where
 α := World -> Option (Addr × List Value) -> Bool
 obs := Cy
 val _ := Yes
 says _ h := ∃ fr : Frag, fr.In h ∧ Ge fr
 of w s e := ⟨uq s.heap, λ _ _ h => sV h, λ w sc => congrFun (congrFun e w) sc⟩
 keeps := λ _ _ _ ⟨fr, a, b⟩ k => ⟨fr, λ x o e => k x o (a x o e), b⟩
theorem D0 (w : World) : (λ os => fL PW 6428 w os Cy) = λ os => some (true, true, Yes) := by kernel_rfl
end
theorem FR : opening PW = plainProg PW.main.scope.names := by kernel_rfl
theorem FD (s : Shared) : fenceModules? PW s = some s := by kernel_rfl
theorem AO : ∀ w : World, (fencedOpening treeTable PW w 6428).map (λ s => (s.heap, s.gens, s.drawn, s.toks)) = some (boot_heap w.params, Array.mk [], boot_drawn, boot_toks) := boot_open FR (by decide) FD
theorem zY {β γ : Type} {p : Program} {N : Nat} {w : World} {os : OsState} {F : Shared -> β} {G : Shared -> γ} {x : β} {y : γ} (h1 : fL p N w os F = some (true, true, x)) (h2 : fL p N w os G = some (true, true, y)) : fL p N w os (λ s => (F s, G s)) = some (true, true, x, y) := by
 unfold fL at h1 h2 ⊢
 cases hp : qb (boot_heap w.params).objs.toList .nil 0 with
 | none => rw [hp] at h1; cases h1
 | some t =>
  rw [hp] at h1 h2
  obtain ⟨s, r, c⟩ := Option.map_eq_some_iff.mp h1
  obtain ⟨s', r', c'⟩ := Option.map_eq_some_iff.mp h2
  cases r.symm.trans r'
  refine Option.map_eq_some_iff.mpr ⟨s, r, ?_⟩
  rw [Prod.mk.injEq, Prod.mk.injEq] at c c'
  rw [c.1, c.2.1]
  exact congrArg (λ z => (true, true, z)) (Prod.ext c.2.2 c'.2.2)
theorem FK (w : World) : (λ os => fL PW 6428 w os (λ s => openSeen QV LO (importedModules PW.main.body) XT true s)) = λ os => some (true, true, openGood QV LO) := by kernel_rfl
theorem left : LeftO PW QV LO XT HK.obs HK.val 6428 := Bu AO λ w os => zY (congrFun (FK w) os) (congrFun (D0 w) os)
theorem DZ {K : Kx} {d : DefRec} {kwd : List (Str × Expr)} (e : defOf QV (Str.ofString "law") = some (d, kwd)) (h : uC K = true) : eD ⟨K, d.scope, bH pP, DL⟩ mT d.body = true := by
 unfold uC at h
 rw [e] at h
 exact h
theorem ws : PySem.Challenge.rw_nn0051_01.wellSaid = true := by
 rw [PySem.W.Fast.te9446332074065402090]
 kernel_rfl
theorem xx : PySem.Challenge.rw_nn0051_01.Holds := by
 w_on
 refine holds_law ws λ said => ?_
 refine holds_open (q := QV) (loose := LO) (Xt := XT) (XP := XL QV []) (Yf := HK.obs) (Ya := HK.val) (YP := HK.says) (N := 6428) left HK.of HK.keeps (λ s e => xl_of s (Bool.and_eq_true_iff.mp e).1) XL.keeps (by rfl) (by rfl) (by rfl) (λ s e => recFacts_of (Bool.and_eq_true_iff.mp e).2) (by rfl) (by first | assumption | decide +kernel) (by decide +kernel) ⟨rfl, rfl, rfl, rfl, rfl, by decide +kernel⟩ ?hw ?hc
 case hw => w_witness2
 case hc =>
  intro w s₀ s₁ mg mb G Y fa o pm cd doc dV kV ho hd hcd hD hmg hg args vals as hpre hlay hrd hwl hlo
  obtain ⟨fr, KX, O⟩ := Y
  refine Ground.open G ?_
  intro T B D TE TW
  have dN : dV = .none := by
   rcases hD.pos with ⟨_, e⟩ | ⟨e, _⟩
   ·exact e
   ·exact absurd rfl e
  subst dN
  wrow_args hpre hlay hrd hwl hlo
  refine enter_call ?_
  rename Heap.IsList _ _ _ => hL
  rename IntsAre _ _ => hI
  rename (¬ ((63 : Nat) : Int) < _) => h63
  refine Bs O KX T.g T.b T.nolimit T.builtins hL hI (by exact (lnr [_] [] 0x7F6000B7F6B4691) h63) ho hd hcd rfl ⟨rfl, rfl, rfl, rfl, rfl, rfl, rfl, rfl, rfl, rfl, rfl, ?_, ?_, ?_, ?_⟩ (DZ (by rfl) (am (O w _) (i := 8) rfl)) λ h' t' keep => ?_
  ·kernel_rfl
  ·decide +kernel
  ·decide +kernel
  ·intro z hz
   have hz : z ∈ [Str.ofString "script"] := hz
   rw [List.mem_singleton.mp hz]
   exact .inl (by kernel_rfl)
  ·exact GoodW.toG ⟨.inl ⟨_, .bool true, [], rfl, raisesW_false (by wrow_none_raised), .bool true, by wrow_post, unshared_nil⟩, keep, rfl, hg⟩
end Mine
end
end

theorem PySem.Challenge.cw_nn0051_01_holds : PySem.Challenge.rw_nn0051_01.Holds :=
  Mine.xx
